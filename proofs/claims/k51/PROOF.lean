import PyProof.Rows.All
import Wide.All
import OpenK.AllK
import Wide.FinOn
import HandS.ForMost
import HandS.Wide
import HandS.TupAny
import HandS.RaiseMore
import PyProof.ReprRoads
import HandS.Style
import HandS.IsInst
import HandS.Gcd
import KE.KMathGC
import HandS.Conv
import HandS.TupMul
import HandS.RevTup
import PyProof.ListMulRoad
import PyProof.FactsAll.tuple_2
import HandS.Iter
import KE.GoesEnum
import KE.GoesMore
import HandS.Dict
import HandS.SetKeys
import HandS.DictComp
import KE.KDictSum
import HandS.Small
import HandS.NoneIn
import KE.KDictDisplayH
import HandS.Zip
import HandS.WideBits
import HandS.SortInts
import KE.DataCmp
import HandS.Finally
import HandS.TupSets
import HandS.Deep
import KE.DataMinKey
import HandS.SortKw
import PySem.Challenge.RW_walkclubs_k51_whole_powers_roots_and_tur
set_option Elab.async false
set_option linter.all false
set_option maxRecDepth 100000
set_option maxHeartbeats 1000000
namespace Z
open PySem PySem.Spec PyProof.Rows L2
def kPD : Key → PyData
  | .inl i => .int i
  | .inr x => .str x
mutual
inductive Dq (H : Hp) : V → PyData → Prop
  | non : Dq H .non .none
  | bl (b : Bool) : Dq H (.bl b) (.bool b)
  | int (i : Int) : Dq H (.int i) (.int i)
  | str (x : Str) : Dq H (.str x) (.str x)
  | lst {a : Addr} {xs : List V} {ds : List PyData} : H a = some (.lst xs) → DqAll H xs ds → Dq H (.ref a) (.list ds)
  | tup {a : Addr} {xs : List V} {ds : List PyData} : H a = some (.tup xs) → DqAll H xs ds → Dq H (.ref a) (.tuple ds)
  | dctK {a : Addr} {o : Obj} {kvs : List (Key × V)} {ps : List (PyData × PyData)} : H a = some (.frz o (.dK kvs)) → kvs.map (fun p => kPD p.1) = ps.map (·.1) → DqAll H (kvs.map (·.2)) (ps.map (·.2)) → Dq H (.ref a) (.dict ps)
  | dctT {a : Addr} {o : Obj} {kvs : List (List Key × V)} {ps : List (PyData × PyData)} : H a = some (.frz o (.dT kvs)) → kvs.map (fun p => PyData.tuple (p.1.map kPD)) = ps.map (·.1) → DqAll H (kvs.map (·.2)) (ps.map (·.2)) → Dq H (.ref a) (.dict ((.none, .none) :: ps))
inductive DqAll (H : Hp) : List V → List PyData → Prop
  | nil : DqAll H [] []
  | cons {v : V} {vs : List V} {d : PyData} {ds : List PyData} : Dq H v d → DqAll H vs ds → DqAll H (v :: vs) (d :: ds)
end
mutual
theorem dq_monoH {H H' : Hp} (e : Same H H') : ∀ {v : V} {d : PyData}, Dq H v d → Dq H' v d
  | _, _, .non => .non
  | _, _, .bl _ => .bl _
  | _, _, .int _ => .int _
  | _, _, .str _ => .str _
  | _, _, .lst hs ha => .lst (e _ _ hs) (dqall_monoH e ha)
  | _, _, .tup hs ha => .tup (e _ _ hs) (dqall_monoH e ha)
  | _, _, .dctK hs hk ha => .dctK (e _ _ hs) hk (dqall_monoH e ha)
  | _, _, .dctT hs hk ha => .dctT (e _ _ hs) hk (dqall_monoH e ha)
theorem dqall_monoH {H H' : Hp} (e : Same H H') : ∀ {vs : List V} {ds : List PyData}, DqAll H vs ds → DqAll H' vs ds
  | _, _, .nil => .nil
  | _, _, .cons h1 h2 => .cons (dq_monoH e h1) (dqall_monoH e h2)
end
theorem dq_mono {H H' : Hp} (e : Same H H') (d : PyData) (v : V) (h : Dq H v d) : Dq H' v d := dq_monoH e h
theorem dqall_mono {H H' : Hp} (e : Same H H') (ds : List PyData) (vs : List V) (h : DqAll H vs ds) : DqAll H' vs ds := dqall_monoH e h
mutual
theorem nod_lay : ∀ d : PyData, d.canLay0 = true → d.hasDict = false
  | .none, _ => by simp [PyData.hasDict]
  | .bool _, _ => by simp [PyData.hasDict]
  | .int _, _ => by simp [PyData.hasDict]
  | .str _, _ => by simp [PyData.hasDict]
  | .list ds, c => by
    simp only [PyData.hasDict]
    exact nodall_lay ds (by simpa [PyData.canLay0] using c)
  | .tuple ds, c => by
    simp only [PyData.hasDict]
    exact nodall_lay ds (by simpa [PyData.canLay0] using c)
  | .dict _, c => by simp [PyData.canLay0] at c
theorem nodall_lay : ∀ ds : List PyData, PyData.canLayAll0 ds = true → PyData.hasDictAll ds = false
  | [], _ => by simp [PyData.hasDictAll]
  | d :: ds, c => by
    have c2 : d.canLay0 = true ∧ PyData.canLayAll0 ds = true := by simpa [PyData.canLayAll0] using c
    simp [PyData.hasDictAll, nod_lay d c2.1, nodall_lay ds c2.2]
end
mutual
theorem dq_dp (K : PySem.W.Frag) {H : Hp} : ∀ (d : PyData) (v : V), d.hasDict = false → Dq H v d → Dp K H v d
  | .none, _, _, h => by cases h; exact .non
  | .bool _, _, _, h => by cases h; exact .bl _
  | .int _, _, _, h => by cases h; exact .int _
  | .str _, _, _, h => by cases h; exact .str _
  | .list ds, _, c, h => by
    cases h with
    | lst hs ha => exact .lst (.of hs) (dqall_dp K ds _ (by simpa [PyData.hasDict] using c) ha)
  | .tuple ds, _, c, h => by
    cases h with
    | tup hs ha => exact .tup (.of hs) (dqall_dp K ds _ (by simpa [PyData.hasDict] using c) ha)
  | .dict _, _, c, h => by simp [PyData.hasDict] at c
theorem dqall_dp (K : PySem.W.Frag) {H : Hp} : ∀ (ds : List PyData) (vs : List V), PyData.hasDictAll ds = false → DqAll H vs ds → DpAll K H vs ds
  | [], _, _, h => by cases h; exact .nil
  | d :: ds, _, c, h => by
    have c2 : d.hasDict = false ∧ PyData.hasDictAll ds = false := by simpa [PyData.hasDictAll] using c
    cases h with
    | cons h1 h2 => exact .cons (dq_dp K d _ c2.1 h1) (dqall_dp K ds _ c2.2 h2)
end
theorem same_upd {H : Hp} {p : Addr} {o : HO} (h : H p = none) : Same H (upd H p o) := fun b x e => by
  rw [upd_ne (ne_of_none e h)]
  exact e
theorem dqall_len {H : Hp} : ∀ {ds : List PyData} {vs : List V}, DqAll H vs ds → vs.length = ds.length
  | [], _, h => by cases h; rfl
  | d :: ds, _, h => by
    cases h with
    | cons h1 h2 => rw [List.length_cons, List.length_cons, dqall_len h2]
theorem dqall_get {H : Hp} : ∀ {ds : List PyData} {vs : List V} {i : Nat} {v : V}, DqAll H vs ds → vs[i]? = some v → ∃ d, ds[i]? = some d ∧ Dq H v d
  | [], _, i, v, h, e => by cases h; simp at e
  | d :: ds, _, i, v, h, e => by
    cases h with
    | cons h1 h2 =>
      cases i with
      | zero =>
        simp at e
        subst e
        exact ⟨d, rfl, h1⟩
      | succ i => exact dqall_get (i := i) h2 (by simpa using e)
theorem dqall_get' {H : Hp} : ∀ {ds : List PyData} {vs : List V} {i : Nat} {d : PyData}, DqAll H vs ds → ds[i]? = some d → ∃ v, vs[i]? = some v ∧ Dq H v d
  | [], _, i, v, h, e => by simp at e
  | d :: ds, _, i, v, h, e => by
    cases h with
    | cons h1 h2 =>
      cases i with
      | zero =>
        simp at e
        subst e
        exact ⟨_, rfl, h1⟩
      | succ i => exact dqall_get' (i := i) h2 (by simpa using e)
theorem dqall_app {H : Hp} : ∀ {ds es : List PyData} {vs us : List V}, DqAll H vs ds → DqAll H us es → DqAll H (vs ++ us) (ds ++ es)
  | [], _, _, _, h, g => by cases h; exact g
  | d :: ds, _, _, _, h, g => by
    cases h with
    | cons h1 h2 => exact .cons h1 (dqall_app h2 g)
theorem dqall_take {H : Hp} : ∀ {ds : List PyData} {vs : List V} (n : Nat), DqAll H vs ds → DqAll H (vs.take n) (ds.take n)
  | _, _, 0, _ => .nil
  | [], _, n + 1, h => by cases h; exact .nil
  | d :: ds, _, n + 1, h => by
    cases h with
    | cons h1 h2 => exact .cons h1 (dqall_take n h2)
theorem dqall_drop {H : Hp} : ∀ {ds : List PyData} {vs : List V} (n : Nat), DqAll H vs ds → DqAll H (vs.drop n) (ds.drop n)
  | _, _, 0, h => h
  | [], _, n + 1, h => by cases h; exact .nil
  | d :: ds, _, n + 1, h => by
    cases h with
    | cons h1 h2 => exact dqall_drop n h2
theorem dqall_set {H : Hp} {v : V} {d : PyData} (hd : Dq H v d) : ∀ {ds : List PyData} {vs : List V} (i : Nat), DqAll H vs ds → DqAll H (vs.set i v) (ds.set i d)
  | [], _, _, h => by cases h; exact .nil
  | d :: ds, _, 0, h => by
    cases h with
    | cons h1 h2 => exact .cons hd h2
  | d :: ds, _, i + 1, h => by
    cases h with
    | cons h1 h2 => exact .cons h1 (dqall_set hd i h2)
theorem dqall_ints {H : Hp} : ∀ (ns : List Int), DqAll H (ns.map V.int) (ns.map PyData.int)
  | [] => .nil
  | n :: ns => .cons (.int n) (dqall_ints ns)
theorem dqall_of_ints {H : Hp} : ∀ (ns : List Int) {vs : List V}, DqAll H vs (ns.map PyData.int) → vs = ns.map V.int
  | [], _, h => by cases h; rfl
  | n :: ns, _, h => by
    cases h with
    | cons h1 h2 =>
      cases h1
      rw [dqall_of_ints ns h2, List.map_cons]
theorem dqall_of_bools {H : Hp} : ∀ (ns : List Bool) {vs : List V}, DqAll H vs (ns.map PyData.bool) → vs = ns.map V.bl
  | [], _, h => by cases h; rfl
  | n :: ns, _, h => by
    cases h with
    | cons h1 h2 =>
      cases h1
      rw [dqall_of_bools ns h2, List.map_cons]
/-- an entry: its address, what is frozen, its own piece of the heap -/
abbrev Ent := Addr → Hp → Hp → Prop
abbrev Os := List (Addr × Ent)
abbrev VP := Hp → V → Prop
abbrev Slot := Hp → Option V → Prop
def Cl (φ : VP) (F : Hp) (v : V) : Prop := ∀ F', Same F F' → φ F' v
theorem Cl.mono {φ : VP} {F F' : Hp} {v : V} (h : Cl φ F v) (e : Same F F') : Cl φ F' v := fun G g => h G (e.trans g)
theorem Cl.now {φ : VP} {F : Hp} {v : V} (h : Cl φ F v) : φ F v := h F (Same.refl F)
def dat (d : PyData) : VP := fun F v => Dq F v d
def own (p : Addr) : VP := fun _ v => v = .ref p
theorem cl_dat {d : PyData} {F : Hp} {v : V} (h : Dq F v d) : Cl (dat d) F v := fun _ e => dq_mono e d v h
theorem cl_own {p : Addr} {F : Hp} : Cl (own p) F (.ref p) := fun _ _ => rfl
/-- the heap with one thing alone -/
def one (p : Addr) (o : HO) : Hp := upd (fun _ => none) p o
theorem one_at {p : Addr} {o : HO} : one p o p = some o := upd_same
theorem one_ne {p q : Addr} {o : HO} (h : q ≠ p) : one p o q = none := by unfold one; rw [upd_ne h]
theorem one_of {p q : Addr} {o : HO} (h : one p o q ≠ none) : q = p := Classical.byContradiction fun k => h (one_ne k)
/-- a list of one's own, its items data -/
def ol (ds : List PyData) : Ent := fun p F h => ∃ vs, h = one p (.lst vs) ∧ DqAll F vs ds
def sl (φ : VP) : Slot := fun F o => ∃ v, o = some v ∧ φ F v
def un : Slot := fun _ _ => True
/-- h over H -/
def ov (h H : Hp) : Hp := fun a => match h a with
  | some o => some o
  | none => H a
theorem ov_some {h H : Hp} {a : Addr} {o : HO} (e : h a = some o) : ov h H a = some o := by unfold ov; rw [e]
theorem ov_none {h H : Hp} {a : Addr} (e : h a = none) : ov h H a = H a := by unfold ov; rw [e]
theorem ov_one {p : Addr} {o : HO} {H : Hp} : ov (one p o) H = upd H p o := by
  funext a
  by_cases h : a = p
  · subst h; rw [ov_some one_at, upd_same]
  · rw [ov_none (one_ne h), upd_ne h]
/-- apart -/
def Ap (h k : Hp) : Prop := ∀ a, h a ≠ none → k a = none
theorem Ap.symm {h k : Hp} (x : Ap h k) : Ap k h := fun a e => Classical.byContradiction fun q => e (x a q)
inductive Pcs (F : Hp) : Os → List Hp → Prop
  | nil : Pcs F [] []
  | cons {q : Addr × Ent} {os : Os} {h : Hp} {hs : List Hp} : (∀ F', Same F F' → q.2 q.1 F' h) → Pcs F os hs → Pcs F (q :: os) (h :: hs)
theorem Pcs.mono {F F' : Hp} (e : Same F F') : ∀ {os : Os} {hs : List Hp}, Pcs F os hs → Pcs F' os hs
  | _, _, .nil => .nil
  | _, _, .cons h1 h2 => .cons (fun G g => h1 G (e.trans g)) (h2.mono e)
theorem Pcs.perm {F : Hp} {os os' : Os} (p : os.Perm os') : ∀ {hs : List Hp}, Pcs F os hs → ∃ hs', Pcs F os' hs' ∧ hs.Perm hs' := by
  induction p with
  | nil => intro hs h; exact ⟨hs, h, List.Perm.refl _⟩
  | cons x p ih =>
    intro hs h
    cases h with
    | cons h1 h2 =>
      obtain ⟨hs', a, b⟩ := ih h2
      exact ⟨_, .cons h1 a, b.cons _⟩
  | swap x y l =>
    intro hs h
    cases h with
    | cons h1 h2 =>
      cases h2 with
      | cons h2 h3 => exact ⟨_, .cons h2 (.cons h1 h3), List.Perm.swap _ _ _⟩
  | trans p q ih1 ih2 =>
    intro hs h
    obtain ⟨hs1, a, b⟩ := ih1 h
    obtain ⟨hs2, c, d⟩ := ih2 a
    exact ⟨hs2, c, b.trans d⟩
/-- no tuples -/
def NT (h : Hp) : Prop := ∀ a xs, h a ≠ some (.tup xs)
theorem nt_one {p : Addr} {o : HO} (h : ∀ xs, o ≠ .tup xs) : NT (one p o) := fun a xs e => by
  by_cases q : a = p
  · rw [q, one_at] at e
    exact h xs (Option.some.inj e)
  · rw [one_ne q] at e
    cases e
structure Ow (F : Hp) (os : Os) (H : Hp) : Prop where
  ex : Same F H
  ps : ∃ hs, Pcs F os hs ∧ (∀ h ∈ hs, Same h H ∧ Ap F h ∧ NT h) ∧ hs.Pairwise Ap
section
variable {F F' H H' : Hp} {os os' : Os} {p : Addr} {e e' : Ent} {o : HO}
theorem Ow.perm (h : Ow F os H) (hp : os.Perm os') : Ow F os' H := by
  obtain ⟨hs, a, b, c⟩ := h.ps
  obtain ⟨hs', a', q⟩ := a.perm hp
  exact ⟨h.ex, hs', a', fun k hk => b k (q.mem_iff.mpr hk), q.pairwise c fun x => x.symm⟩
/-- what is new is frozen -/
theorem Ow.frozen (h : Ow F os H) (hp : H p = none) : Ow (upd F p o) os (upd H p o) := by
  have fp : F p = none := h.ex.free hp
  obtain ⟨hs, a, b, c⟩ := h.ps
  refine ⟨fun q x eb => ?_, hs, a.mono (same_upd fp), fun k hk => ?_, c⟩
  · by_cases hb : q = p
    · subst hb
      rw [upd_same] at eb ⊢
      exact eb
    · rw [upd_ne hb] at eb ⊢
      exact h.ex q x eb
  · obtain ⟨s, x, nt⟩ := b k hk
    have kp : k p = none := s.free hp
    refine ⟨s.trans (same_upd hp), fun q eq => ?_, nt⟩
    by_cases hb : q = p
    · rw [hb]; exact kp
    · rw [upd_ne hb] at eq
      exact x q eq
/-- a piece of new things -/
theorem Ow.newP {k : Hp} (h : Ow F os H) (hk : ∀ a, k a ≠ none → H a = none) (nt : NT k) (he : ∀ F', Same F F' → e p F' k) : Ow F ((p, e) :: os) (ov k H) := by
  obtain ⟨hs, a, b, c⟩ := h.ps
  have s : Same H (ov k H) := fun q x eq => by
    cases z : k q with
    | none => rw [ov_none z]; exact eq
    | some u => rw [hk q (by rw [z]; simp)] at eq; cases eq
  refine ⟨h.ex.trans s, k :: hs, .cons he a, fun g hg => ?_, List.pairwise_cons.mpr ⟨fun g hg => ?_, c⟩⟩
  · rcases List.mem_cons.mp hg with rfl | hg
    · exact ⟨fun q x eq => ov_some eq, Ap.symm fun q eq => h.ex.free (hk q eq), nt⟩
    · exact ⟨(b g hg).1.trans s, (b g hg).2⟩
  · exact fun q eq => (b g hg).1.free (hk q eq)
theorem Ow.new (h : Ow F os H) (hp : H p = none) (he : ∀ F', Same F F' → e p F' (one p o)) (nt : ∀ xs, o ≠ .tup xs := by intro _ z; cases z) : Ow F ((p, e) :: os) (upd H p o) := by
  rw [← ov_one]
  exact h.newP (fun a ha => by rw [one_of ha]; exact hp) (nt_one nt) he
/-- the first piece, and what may stand in its place -/
theorem Ow.wr (h : Ow F ((p, e) :: os) H) : ∃ k, (∀ F', Same F F' → e p F' k) ∧ Same k H ∧ Ap F k ∧ NT k ∧
    ∀ q e' k', (∀ a, k' a ≠ none → k a ≠ none ∨ H a = none) → NT k' → (∀ F', Same F F' → e' q F' k') → Ow F ((q, e') :: os) (ov k' H) := by
  obtain ⟨hs, a, b, c⟩ := h.ps
  cases a with
  | @cons _ _ k hs h1 h2 =>
    obtain ⟨c1, c2⟩ := List.pairwise_cons.mp c
    obtain ⟨s, x, nt⟩ := b k List.mem_cons_self
    refine ⟨k, h1, s, x, nt, fun q e' k' hk nt' he => ?_⟩
    have out : ∀ g : Hp, Same g H → Ap k g → Same g (ov k' H) ∧ Ap k' g := fun g sg ag => by
      have z : ∀ a, k' a ≠ none → g a = none := fun a ha => by
        rcases hk a ha with r | r
        · exact ag a r
        · exact sg.free r
      refine ⟨fun a u eu => ?_, z⟩
      cases y : k' a with
      | none => rw [ov_none y]; exact sg a u eu
      | some w =>
        rw [z a (by rw [y]; simp)] at eu
        cases eu
    obtain ⟨f1, f2⟩ := out F h.ex x.symm
    refine ⟨f1, k' :: hs, .cons he h2, fun g hg => ?_, List.pairwise_cons.mpr ⟨fun g hg => ?_, c2⟩⟩
    · rcases List.mem_cons.mp hg with rfl | hg
      · exact ⟨fun a u eu => ov_some eu, f2.symm, nt'⟩
      · exact ⟨(out g (b g (List.mem_cons_of_mem _ hg)).1 (c1 g hg)).1, (b g (List.mem_cons_of_mem _ hg)).2⟩
    · exact (out g (b g (List.mem_cons_of_mem _ hg)).1 (c1 g hg)).2
theorem Ow.drop (h : Ow F ((p, e) :: os) H) : Ow F os H := by
  obtain ⟨hs, a, b, c⟩ := h.ps
  cases a with
  | cons h1 h2 => exact ⟨h.ex, _, h2, fun g hg => b g (List.mem_cons_of_mem _ hg), (List.pairwise_cons.mp c).2⟩
theorem Ow.freeze (h : Ow F ((p, e) :: os) H) : ∃ k, (∀ F', Same F F' → e p F' k) ∧ Same k H ∧ Ap F k ∧ Same F (ov k F) ∧ Ow (ov k F) os H := by
  obtain ⟨hs, a, b, c⟩ := h.ps
  cases a with
  | @cons _ _ k hs h1 h2 =>
    obtain ⟨c1, c2⟩ := List.pairwise_cons.mp c
    obtain ⟨s, x, _⟩ := b k List.mem_cons_self
    have sf : Same F (ov k F) := fun a u eu => by
      rw [ov_none (x a (by rw [eu]; simp))]
      exact eu
    refine ⟨k, h1, s, x, sf, fun a u eu => ?_, hs, h2.mono sf, fun g hg => ⟨(b g (List.mem_cons_of_mem _ hg)).1, fun a ha => ?_, (b g (List.mem_cons_of_mem _ hg)).2.2⟩, c2⟩
    · cases y : k a with
      | none => rw [ov_none y] at eu; exact h.ex a u eu
      | some w => rw [ov_some y] at eu; cases eu; exact s a _ y
    · cases y : k a with
      | none => rw [ov_none y] at ha; exact (b g (List.mem_cons_of_mem _ hg)).2.1 a ha
      | some w => exact c1 g hg a (by rw [y]; simp)
/-- a tuple that stands is frozen -/
theorem Ow.tup {xs : List V} (h : Ow F os H) (hp : H p = some (.tup xs)) : Same F (upd F p (.tup xs)) ∧ Ow (upd F p (.tup xs)) os H := by
  obtain ⟨hs, a, b, c⟩ := h.ps
  have sf : Same F (upd F p (.tup xs)) := fun q u eu => by
    by_cases z : q = p
    · subst z
      rw [upd_same, ← h.ex q u eu, hp]
    · rw [upd_ne z]
      exact eu
  refine ⟨sf, fun q u eu => ?_, hs, a.mono sf, fun g hg => ⟨(b g hg).1, fun q eq => ?_, (b g hg).2.2⟩, c⟩
  · by_cases z : q = p
    · subst z
      rw [upd_same] at eu
      rw [hp, eu]
    · rw [upd_ne z] at eu
      exact h.ex q u eu
  · by_cases z : q = p
    · subst z
      cases y : g q with
      | none => rfl
      | some w =>
        have e1 := (b g hg).1 q w y
        rw [hp] at e1
        cases e1
        exact ((b g hg).2.2 q xs y).elim
    · rw [upd_ne z] at eq
      exact (b g hg).2.1 q eq
/-- an entry known by less -/
theorem Ow.weak (h : Ow F ((p, e) :: os) H) (k : ∀ F' g, e p F' g → e' p F' g) : Ow F ((p, e') :: os) H := by
  obtain ⟨hs, a, b, c⟩ := h.ps
  cases a with
  | cons h1 h2 => exact ⟨h.ex, _, .cons (fun G g => k G _ (h1 G g)) h2, b, c⟩
/-- entries of one thing -/
def Uni (e : Ent) (r : Hp → HO → Prop) : Prop := ∀ p F h, e p F h → ∃ o, h = one p o ∧ r F o
theorem Ow.atU {r : Hp → HO → Prop} (u : Uni e r) (h : Ow F ((p, e) :: os) H) : F p = none ∧ ∃ o, H p = some o ∧ e p F (one p o) ∧ r F o := by
  obtain ⟨k, h1, s, x, _, _⟩ := h.wr
  obtain ⟨o, rfl, hr⟩ := u p F k (h1 F (Same.refl F))
  exact ⟨Classical.byContradiction fun q => (by have := x p q; rw [one_at] at this; cases this), o, s p o one_at, h1 F (Same.refl F), hr⟩
theorem Ow.putU {r : Hp → HO → Prop} (u : Uni e r) (h : Ow F ((p, e) :: os) H) (he : ∀ F', Same F F' → e' p F' (one p o)) (nt : ∀ xs, o ≠ .tup xs := by intro _ z; cases z) : Ow F ((p, e') :: os) (upd H p o) := by
  obtain ⟨k, h1, s, x, _, w⟩ := h.wr
  obtain ⟨o', rfl, hr⟩ := u p F k (h1 F (Same.refl F))
  rw [← ov_one]
  exact w p e' _ (fun a ha => .inl (by rw [one_of ha, one_at]; simp)) (nt_one nt) he
theorem Ow.freezeU {r : Hp → HO → Prop} (u : Uni e r) (h : Ow F ((p, e) :: os) H) : ∃ o, H p = some o ∧ r F o ∧ Same F (upd F p o) ∧ Ow (upd F p o) os H := by
  obtain ⟨k, h1, s, x, sf, w⟩ := h.freeze
  obtain ⟨o, rfl, hr⟩ := u p F k (h1 F (Same.refl F))
  rw [ov_one] at sf w
  exact ⟨o, s p o one_at, hr, sf, w⟩
theorem uni_ol {ds : List PyData} : Uni (ol ds) (fun F o => ∃ vs, o = .lst vs ∧ DqAll F vs ds) := fun p F h ⟨vs, e, d⟩ => ⟨_, e, vs, rfl, d⟩
theorem Ow.atL {ds : List PyData} (h : Ow F ((p, ol ds) :: os) H) : F p = none ∧ ∃ vs, H p = some (.lst vs) ∧ DqAll F vs ds := by
  obtain ⟨a, o, b, _, vs, rfl, d⟩ := h.atU uni_ol
  exact ⟨a, vs, b, d⟩
theorem Ow.putL {ds ds' : List PyData} {vs : List V} (h : Ow F ((p, ol ds) :: os) H) (hd : DqAll F vs ds') : Ow F ((p, ol ds') :: os) (upd H p (.lst vs)) :=
  h.putU uni_ol fun G g => ⟨vs, rfl, dqall_mono g _ _ hd⟩
end
theorem perm_at {α : Type} : ∀ {l : List α} {k : Nat} {q : α}, l[k]? = some q → l.Perm (q :: l.eraseIdx k)
  | [], k, q, h => by simp at h
  | x :: l, 0, q, h => by
    simp at h
    subst h
    exact List.Perm.refl _
  | x :: l, k + 1, q, h => by
    have h1 : l[k]? = some q := by simpa using h
    exact ((perm_at h1).cons x).trans (List.Perm.swap q x _)
theorem perm_set {α : Type} : ∀ {l : List α} {k : Nat} {q q' : α}, l[k]? = some q → (q' :: l.eraseIdx k).Perm (l.set k q')
  | [], k, q, q', h => by simp at h
  | x :: l, 0, q, q', h => List.Perm.refl _
  | x :: l, k + 1, q, q', h => by
    have h1 : l[k]? = some q := by simpa using h
    exact (List.Perm.swap x q' _).trans ((perm_set (q' := q') h1).cons x)
structure Sl (F : Hp) (es : List Slot) (σ : L2.St) : Prop where
  len : σ.length = es.length
  get : ∀ (i : Nat) (s : Slot), es[i]? = some s → ∃ v : Option V, σ[i]? = some v ∧ ∀ F', Same F F' → s F' v
section
variable {F F' H : Hp} {es : List Slot} {σ : L2.St} {i : Nat} {φ : VP} {v : V}
theorem Sl.mono (h : Sl F es σ) (e : Same F F') : Sl F' es σ := ⟨h.len, fun i s q => let ⟨v, a, b⟩ := h.get i s q; ⟨v, a, fun G g => b G (e.trans g)⟩⟩
theorem Sl.val (h : Sl F es σ) (q : es[i]? = some (sl φ)) : ∃ v, σ[i]? = some (some v) ∧ Cl φ F v := by
  obtain ⟨o, a, b⟩ := h.get i _ q
  obtain ⟨v, rfl, _⟩ := b F (Same.refl F)
  refine ⟨v, a, fun G g => ?_⟩
  obtain ⟨u, e, z⟩ := b G g
  cases e
  exact z
theorem Sl.set (h : Sl F es σ) {s : Slot} {o : Option V} (k : ∀ F', Same F F' → s F' o) : Sl F (es.set i s) (σ.set i o) := by
  refine ⟨by rw [List.length_set, List.length_set, h.len], fun j t q => ?_⟩
  by_cases hj : i = j
  · subst hj
    have hi : i < es.length := by
      have := (List.getElem?_eq_some_iff.mp q).1
      rw [List.length_set] at this
      exact this
    rw [List.getElem?_set_self hi] at q
    cases q
    exact ⟨o, List.getElem?_set_self (by rw [h.len]; exact hi), k⟩
  · rw [List.getElem?_set_ne hj] at q ⊢
    exact h.get j t q
theorem Sl.put (h : Sl F es σ) (k : Cl φ F v) : Sl F (es.set i (sl φ)) (σ.set i (some v)) := h.set fun G g => ⟨v, rfl, k G g⟩
/-- slots may be forgotten: each new one is the old one or un -/
def Wk : List Slot → List Slot → Prop
  | [], [] => True
  | s :: ss, t :: ts => (t = s ∨ t = un) ∧ Wk ss ts
  | _, _ => False
theorem wk_get : ∀ {es es' : List Slot} {i : Nat} {t : Slot}, Wk es es' → es'[i]? = some t → ∃ s, es[i]? = some s ∧ (t = s ∨ t = un)
  | [], [], i, t, _, h => by simp at h
  | [], _ :: _, _, _, h, _ => h.elim
  | _ :: _, [], _, _, h, _ => h.elim
  | s :: ss, t :: ts, 0, u, h, e => by
    simp at e
    subst e
    exact ⟨s, rfl, h.1⟩
  | s :: ss, t :: ts, i + 1, u, h, e => wk_get (i := i) h.2 (by simpa using e)
theorem wk_len : ∀ {es es' : List Slot}, Wk es es' → es.length = es'.length
  | [], [], _ => rfl
  | [], _ :: _, h => h.elim
  | _ :: _, [], h => h.elim
  | s :: ss, t :: ts, h => by rw [List.length_cons, List.length_cons, wk_len h.2]
theorem Sl.weak {es' : List Slot} (h : Sl F es σ) (w : Wk es es') : Sl F es' σ := by
  refine ⟨h.len.trans (wk_len w), fun i t q => ?_⟩
  obtain ⟨s, a, b⟩ := wk_get w q
  obtain ⟨v, c, d⟩ := h.get i s a
  refine ⟨v, c, fun G g => ?_⟩
  rcases b with rfl | rfl
  · exact d G g
  · trivial
end
section
variable (X : Cx)
def WE (e : Expr) (σ : L2.St) (H : Hp) (Q : VK) : Prop := ∀ pins s, Inv X pins σ H s → wpAny (model X.prog X.w) X.A (eval e X.env) (EP X pins σ Q) X.xe s
def WT (e : Expr) (σ : L2.St) (H : Hp) (Q : Bool → Hp → Prop) : Prop := ∀ pins s, Inv X pins σ H s → wpAny (model X.prog X.w) X.A (isTrue e X.env (eval e X.env)) (TP X pins σ Q) X.xe s
def WW (e : Expr) (σ : L2.St) (H : Hp) (Q : Bool → Hp → Prop) : Prop := ∀ (whole : Sem Value) pins s, Inv X pins σ H s → wpAny (model X.prog X.w) X.A (isTrue e X.env whole) (TP X pins σ Q) X.xe s
def WA (es : List Expr) (σ : L2.St) (H : Hp) (Q : List V → Hp → Prop) : Prop := ∀ pos pins s, Inv X pins σ H s → wpAny (model X.prog X.w) X.A (spliced (backTo pos (starEach es X.env))) (AP X pins σ Q) X.xe s
def WS (st : Stmt) (D : Ends) (σ : L2.St) (H : Hp) : Prop := ∀ pins s, Inv X pins σ H s → wpAny (model X.prog X.w) X.A (exec st X.env) (SP X pins D) X.xe s
def WPs (sts : List Stmt) (D : Ends) (σ : L2.St) (H : Hp) : Prop := ∀ pins s, Inv X pins σ H s → wpAny (model X.prog X.w) X.A (execs sts X.env) (SP X pins D) X.xe s
end
section
variable {X : Cx} {e : Expr} {es : List Expr} {st : Stmt} {sts : List Stmt} {σ : L2.St} {H : Hp} {Q : VK} {te : TE} {tt : TT} {ta : TA} {ts : TS}
theorem pe_u : PE X e (WE X e) := ⟨fun pins s _ _ _ I h => h pins s I⟩
theorem pt_u : PT X e (WT X e) := ⟨fun pins s _ _ _ I h => h pins s I⟩
theorem pw_u : PW X e (WW X e) := ⟨fun w pins s _ _ _ I h => h w pins s I⟩
theorem pa_u : PA X es (WA X es) := ⟨fun pos pins s _ _ _ I h => h pos pins s I⟩
theorem ps_u : PS X st (WS X st) := ⟨fun pins s _ _ _ I h => h pins s I⟩
theorem pss_u : PSs X sts (WPs X sts) := ⟨fun pins s _ _ _ I h => h pins s I⟩
theorem we_of (h : PE X e te) (q : te σ H Q) : WE X e σ H Q := fun pins s I => h.run pins s σ H Q I q
theorem wt_of {Q : Bool → Hp → Prop} (h : PT X e tt) (q : tt σ H Q) : WT X e σ H Q := fun pins s I => h.run pins s σ H Q I q
theorem ww_of {Q : Bool → Hp → Prop} (h : PW X e tt) (q : tt σ H Q) : WW X e σ H Q := fun w pins s I => h.run w pins s σ H Q I q
theorem wa_of {Q : List V → Hp → Prop} (h : PA X es ta) (q : ta σ H Q) : WA X es σ H Q := fun pos pins s I => h.run pos pins s σ H Q I q
theorem ws_of {D : Ends} (h : PS X st ts) (q : ts D σ H) : WS X st D σ H := fun pins s I => h.run pins s σ H D I q
theorem wps_of {D : Ends} (h : PSs X sts ts) (q : ts D σ H) : WPs X sts D σ H := fun pins s I => h.run pins s σ H D I q
theorem wps_cons {D : Ends} (h : WS X st { D with nx := WPs X sts D } σ H) : WPs X (st :: sts) D σ H := wps_of (pss_cons ps_u pss_u) h
theorem wps_nil {D : Ends} (h : D.nx σ H) : WPs X [] D σ H := wps_of pss_nil h
end
def ClA : List VP → Hp → List V → Prop
  | [], _, vs => vs = []
  | φ :: φs, F, vs => ∃ v r, vs = v :: r ∧ Cl φ F v ∧ ClA φs F r
theorem cla_len {F : Hp} : ∀ {φs : List VP} {vs : List V}, ClA φs F vs → vs.length = φs.length
  | [], _, h => by rw [h]; rfl
  | φ :: φs, _, ⟨v, r, e1, h1, h2⟩ => by rw [e1, List.length_cons, List.length_cons, cla_len h2]
section
variable (X : Cx) (es : List Slot) (os : Os)
/-- e gives a value of which φ holds; what is owned goes from os to os' -/
def EX (e : Expr) (φ : VP) (os' : Os) : Prop := ∀ F σ H Q, Ow F os H → Sl F es σ → (∀ F' H' v, Same F F' → Ow F' os' H' → Cl φ F' v → Q v H') → WE X e σ H Q
/-- e gives a new list, owned from now on -/
def EN (e : Expr) (n : Ent) (os' : Os) : Prop := ∀ F σ H Q, Ow F os H → Sl F es σ → (∀ F' H' p, Same F F' → Ow F' ((p, n) :: os') H' → Q (.ref p) H') → WE X e σ H Q
def TX (e : Expr) (b : Bool) (os' : Os) : Prop := ∀ F σ H Q, Ow F os H → Sl F es σ → (∀ F' H', Same F F' → Ow F' os' H' → Q b H') → WT X e σ H Q
def WX (e : Expr) (b : Bool) (os' : Os) : Prop := ∀ F σ H Q, Ow F os H → Sl F es σ → (∀ F' H', Same F F' → Ow F' os' H' → Q b H') → WW X e σ H Q
def AX (as : List Expr) (φs : List VP) (os' : Os) : Prop := ∀ F σ H Q, Ow F os H → Sl F es σ → (∀ F' H' vs, Same F F' → Ow F' os' H' → ClA φs F' vs → Q vs H') → WA X as σ H Q
def SX (F0 : Hp) (sts : List Stmt) (D : Ends) : Prop := ∀ F σ H, Same F0 F → Ow F os H → Sl F es σ → WPs X sts D σ H
end
end Z
namespace Z
open PySem PySem.Spec PyProof.Rows L2
section
variable {X : Cx} {es : List Slot} {os os1 os2 os3 : Os} {a b c : Expr} {pos : Pos}
theorem EX.perm {φ : VP} {e : Expr} (h : EX X es os e φ os1) (k : os1.Perm os2) : EX X es os e φ os2 := fun F σ H Q ow sl q =>
  h F σ H Q ow sl fun F' H' v e o c => q F' H' v e (o.perm k) c
/-- a new list, given away: it is data from now on -/
theorem EN.ex {e : Expr} {ds : List PyData} (h : EN X es os e (ol ds) os1) : EX X es os e (dat (.list ds)) os1 := fun F σ H Q ow sl q =>
  h F σ H Q ow sl fun F' H' p e o => by
    obtain ⟨u, hu, ⟨vs, rfl, hv⟩, s, o2⟩ := o.freezeU uni_ol
    exact q _ H' (.ref p) (e.trans s) o2 (cl_dat (.lst upd_same (dqall_mono s _ _ hv)))
theorem ex_name {i : Nat} {x : Str} {φ : VP} (hN : X.N[i]? = some x) (hv : Vis X.env.scope x) (hd : (x == ("__debug__" : Str)) = false) (hcd : (x == ("__classdict__" : Str)) = false) (h : es[i]? = some (sl φ)) : EX X es os (.Name x pos) φ os := fun F σ H Q ow sl q => by
  obtain ⟨v, e, k⟩ := sl.val h
  exact we_of (pe_var hN hv hd hcd) ⟨v, e, q F H v (Same.refl F) ow k⟩
theorem ex_int {i : Int} {j} : EX X es os (.Constant (.int i) j pos) (dat (.int i)) os := fun F σ H Q ow sl q => we_of pe_int (q F H _ (Same.refl F) ow (cl_dat (.int i)))
theorem ex_bool {i : Bool} {j} : EX X es os (.Constant (.bool i) j pos) (dat (.bool i)) os := fun F σ H Q ow sl q => we_of pe_bl (q F H _ (Same.refl F) ow (cl_dat (.bl i)))
theorem ex_none {j} : EX X es os (.Constant .none j pos) (dat .none) os := fun F σ H Q ow sl q => we_of pe_non (q F H _ (Same.refl F) ow (cl_dat .non))
/-- a module's constant that holds an int -/
theorem ex_gint {x : Str} {i : Int} {t : Tok} (hg : Gl X x) (hm : X.mg x = some (.int i t)) (hd : (x == ("__debug__" : Str)) = false) : EX X es os (.Name x pos) (dat (.int i)) os := fun F σ H Q ow sl q =>
  we_of (pe_glob (v := .int i) hg hm ⟨t, rfl⟩ hd) (q F H _ (Same.refl F) ow (cl_dat (.int i)))
theorem clv_int {F : Hp} {v : V} {i : Int} (h : Cl (dat (.int i)) F v) : v = .int i := by
  have := h.now
  cases this
  rfl
theorem clv_bool {F : Hp} {v : V} {i : Bool} (h : Cl (dat (.bool i)) F v) : v = .bl i := by
  have := h.now
  cases this
  rfl
/-- by values: r gives a datum where the operands are φ and ψ -/
def R2X (X : Cx) (r : R2) (φ ψ : VP) (os : Os) (d : VP) : Prop := ∀ F H x y Q, Ow F os H → Cl φ F x → Cl ψ F y → (∀ F' H' v, Same F F' → Ow F' os H' → Cl d F' v → Q v H') → r x y H Q
theorem ex_bin {op : Operator} {r : R2} {φ ψ d : VP} (ho : OpR X (binaryOp op) r) (hr : R2X X r φ ψ os2 d) (ha : EX X es os a φ os1) (hb : EX X es os1 b ψ os2) : EX X es os (.BinOp a op b pos) d os2 := fun F σ H Q ow sl q =>
  we_of (pe_op ho pe_u pe_u) (ha F σ H _ ow sl fun F1 H1 x e1 o1 c1 => hb F1 σ H1 _ o1 (sl.mono e1) fun F2 H2 y e2 o2 c2 =>
    hr F2 H2 x y Q o2 (c1.mono e2) c2 fun F3 H3 v e3 o3 c3 => q F3 H3 v ((e1.trans e2).trans e3) o3 c3)
theorem r2_I {C : Int → Int → Prop} {g : Int → Int → Int} {i j : Int} (h : C i j) : R2X X (rI C fun i j => .int (g i j)) (dat (.int i)) (dat (.int j)) os (dat (.int (g i j))) := fun F H x y Q ow cx cy q =>
  ⟨i, j, clv_int cx, clv_int cy, h, q F H _ (Same.refl F) ow (cl_dat (.int _))⟩
theorem r2_I0 {g : Int → Int → Int} {i j : Int} : R2X X (rI0 fun i j => .int (g i j)) (dat (.int i)) (dat (.int j)) os (dat (.int (g i j))) := fun F H x y Q ow cx cy q =>
  ⟨i, j, clv_int cx, clv_int cy, q F H _ (Same.refl F) ow (cl_dat (.int _))⟩
theorem r2_B0 {g : Int → Int → Bool} {i j : Int} : R2X X (rI0 fun i j => .bl (g i j)) (dat (.int i)) (dat (.int j)) os (dat (.bool (g i j))) := fun F H x y Q ow cx cy q =>
  ⟨i, j, clv_int cx, clv_int cy, q F H _ (Same.refl F) ow (cl_dat (.bl _))⟩
theorem ex_add {i j : Int} (ha : EX X es os a (dat (.int i)) os1) (hb : EX X es os1 b (dat (.int j)) os2) : EX X es os (.BinOp a .Add b pos) (dat (.int (i + j))) os2 := ex_bin op_add r2_I0 ha hb
theorem ex_sub {i j : Int} (ha : EX X es os a (dat (.int i)) os1) (hb : EX X es os1 b (dat (.int j)) os2) : EX X es os (.BinOp a .Sub b pos) (dat (.int (i - j))) os2 := ex_bin op_sub r2_I0 ha hb
/-- a product: told by mulO, which is none where both factors are very great -/
def mulO (i j : Int) : Option Int := if i.natAbs.log2 + j.natAbs.log2 < 1000000 then some (i * j) else none
theorem ex_mul {i j m : Int} (hm : mulO i j = some m) (ha : EX X es os a (dat (.int i)) os1) (hb : EX X es os1 b (dat (.int j)) os2) : EX X es os (.BinOp a .Mult b pos) (dat (.int m)) os2 := by
  unfold mulO at hm
  split at hm
  · rename_i h
    cases hm
    exact ex_bin op_mulW (r2_I h) ha hb
  · cases hm
/-- a product with a written factor -/
theorem ex_mulL {i j : Int} (h : -(2 ^ 64) < i ∧ i < 2 ^ 64) (ha : EX X es os a (dat (.int i)) os1) (hb : EX X es os1 b (dat (.int j)) os2) : EX X es os (.BinOp a .Mult b pos) (dat (.int (i * j))) os2 := ex_bin op_mul (r2_I (.inl h)) ha hb
theorem ex_mulR {i j : Int} (h : -(2 ^ 64) < j ∧ j < 2 ^ 64) (ha : EX X es os a (dat (.int i)) os1) (hb : EX X es os1 b (dat (.int j)) os2) : EX X es os (.BinOp a .Mult b pos) (dat (.int (i * j))) os2 := ex_bin op_mul (r2_I (.inr h)) ha hb
/-- i // j, i % j: for a positive j below 2 ^ 9000 -/
def fdivO (i j : Int) : Option Int := if 0 < j ∧ j.natAbs.log2 < 9000 then some (i / j) else none
def modO (i j : Int) : Option Int := if 0 < j then some (i % j) else none
theorem ex_fdiv {i j m : Int} (hm : fdivO i j = some m) (ha : EX X es os a (dat (.int i)) os1) (hb : EX X es os1 b (dat (.int j)) os2) : EX X es os (.BinOp a .FloorDiv b pos) (dat (.int m)) os2 := by
  unfold fdivO at hm
  split at hm
  · rename_i h
    cases hm
    exact ex_bin op_fdivW (r2_I h) ha hb
  · cases hm
theorem ex_mod {i j m : Int} (hm : modO i j = some m) (ha : EX X es os a (dat (.int i)) os1) (hb : EX X es os1 b (dat (.int j)) os2) : EX X es os (.BinOp a .Mod b pos) (dat (.int m)) os2 := by
  unfold modO at hm
  split at hm
  · rename_i h
    cases hm
    exact ex_bin op_mod (r2_I (C := fun _ j => 0 < j) h) ha hb
  · cases hm
/-- i ** j -/
def powO (i j : Int) : Option Int := if 0 ≤ j ∧ (Builtin.Int.intBits i : Int) * j ≤ 2 ^ 27 then some (i ^ j.toNat) else none
theorem op_powW : OpR X (binaryOp .Pow) (rI (fun i j => 0 ≤ j ∧ (Builtin.Int.intBits i : Int) * j ≤ 2 ^ 27) fun i j => .int (i ^ j.toNat)) := opI fun _ _ _ _ _ _ _ hc q => pow_int hc.1 hc.2 q
theorem ex_pow {i j m : Int} (hm : powO i j = some m) (ha : EX X es os a (dat (.int i)) os1) (hb : EX X es os1 b (dat (.int j)) os2) : EX X es os (.BinOp a .Pow b pos) (dat (.int m)) os2 := by
  unfold powO at hm
  split at hm
  · rename_i h
    cases hm
    exact ex_bin op_powW (r2_I h) ha hb
  · cases hm
theorem ex_neg {i : Int} (ha : EX X es os a (dat (.int i)) os1) : EX X es os (.UnaryOp .USub a pos) (dat (.int (-i))) os1 := fun F σ H Q ow sl q =>
  we_of (pe_un un_neg pe_u) (ha F σ H _ ow sl fun F1 H1 x e1 o1 c1 => ⟨i, clv_int c1, q F1 H1 _ e1 o1 (cl_dat (.int _))⟩)
theorem ex_cmp {op : CmpOp} {r : R2} {φ ψ d : VP} (ho : OpR X (compareOp op) r) (hr : R2X X r φ ψ os2 d) (hm : behindInMarks op b = false) (ha : EX X es os a φ os1) (hb : EX X es os1 b ψ os2) : EX X es os (.Compare a [op] [b] pos) d os2 := fun F σ H Q ow sl q =>
  we_of (pe_cmpR ho pe_u pe_u hm) (ha F σ H _ ow sl fun F1 H1 x e1 o1 c1 => hb F1 σ H1 _ o1 (sl.mono e1) fun F2 H2 y e2 o2 c2 =>
    hr F2 H2 x y Q o2 (c1.mono e2) c2 fun F3 H3 v e3 o3 c3 => q F3 H3 v ((e1.trans e2).trans e3) o3 c3)
theorem tx_cmp {op : CmpOp} {r : R2} {φ ψ : VP} {k : Bool} (ho : OpR X (compareOp op) r) (hr : R2X X r φ ψ os2 (dat (.bool k))) (hm : behindInMarks op b = false) (ha : EX X es os a φ os1) (hb : EX X es os1 b ψ os2) : TX X es os (.Compare a [op] [b] pos) k os2 := fun F σ H Q ow sl q =>
  wt_of (pt_cmpR ho pe_u pe_u hm) (ha F σ H _ ow sl fun F1 H1 x e1 o1 c1 => hb F1 σ H1 _ o1 (sl.mono e1) fun F2 H2 y e2 o2 c2 =>
    hr F2 H2 x y _ o2 (c1.mono e2) c2 fun F3 H3 v e3 o3 c3 => ⟨k, clv_bool c3, q F3 H3 ((e1.trans e2).trans e3) o3⟩)
theorem r2_lt {i j : Int} : R2X X (rI0 fun i j => .bl (decide (i < j))) (dat (.int i)) (dat (.int j)) os (dat (.bool (decide (i < j)))) := r2_B0
theorem r2_le {i j : Int} : R2X X (rI0 fun i j => .bl (decide (i ≤ j))) (dat (.int i)) (dat (.int j)) os (dat (.bool (decide (i ≤ j)))) := r2_B0
theorem r2_gt {i j : Int} : R2X X (rI0 fun i j => .bl (decide (j < i))) (dat (.int i)) (dat (.int j)) os (dat (.bool (decide (j < i)))) := r2_B0
theorem shaped_lay {d : PyData} (h : SeqAt.shaped d = true) : d.hasDict = false := by
  unfold SeqAt.shaped at h
  rw [Bool.and_eq_true] at h
  exact nod_lay d h.1
theorem r2_eqI {i j : Int} : R2X X rEq (dat (.int i)) (dat (.int j)) os (dat (.bool (decide (i = j)))) := fun F H x y Q ow cx cy q => by
  rw [clv_int cx, clv_int cy]
  refine ⟨rfl, ?_⟩
  rw [dec_int, Bool.beq_eq_decide_eq]
  exact q F H _ (Same.refl F) ow (cl_dat (.bl _))
theorem r2_neI {i j : Int} : R2X X rNe (dat (.int i)) (dat (.int j)) os (dat (.bool (!decide (i = j)))) := fun F H x y Q ow cx cy q => by
  rw [clv_int cx, clv_int cy]
  refine ⟨rfl, ?_⟩
  rw [dec_int, Bool.beq_eq_decide_eq]
  exact q F H _ (Same.refl F) ow (cl_dat (.bl _))
/-- a < b < c -/
theorem ex_chain {op op' : CmpOp} {r r' : R2} {φ ψ χ : VP} {k k' : Bool} (ho : OpR X (compareOp op) r) (ho' : OpR X (compareOp op') r') (hr : R2X X r φ ψ os2 (dat (.bool k))) (hr' : R2X X r' ψ χ os3 (dat (.bool k'))) (h23 : k = false → os2 = os3)
    (ha : EX X es os a φ os1) (hb : EX X es os1 b ψ os2) (hc : k = true → EX X es os2 c χ os3) (hlm : lastMarks [op, op'] [b, c] = false := by rfl) : EX X es os (.Compare a [op, op'] [b, c] pos) (dat (.bool (k && k'))) os3 := fun F σ H Q ow sl q =>
  we_of (pe_chain ho ho' pe_u pe_u pe_u hlm) (ha F σ H _ ow sl fun F1 H1 x e1 o1 c1 => hb F1 σ H1 _ o1 (sl.mono e1) fun F2 H2 y e2 o2 c2 =>
    hr F2 H2 x y _ o2 (c1.mono e2) c2 fun F3 H3 v e3 o3 c3 => ⟨k, clv_bool c3, by
      have e := (e1.trans e2).trans e3
      cases k with
      | true =>
        rw [if_pos rfl]
        refine hc rfl F3 σ H3 _ o3 (sl.mono e) fun F4 H4 z e4 o4 c4 => ?_
        exact hr' F4 H4 y z Q o4 ((c2.mono e3).mono e4) c4 fun F5 H5 v e5 o5 c5 => q F5 H5 v ((e.trans e4).trans e5) o5 (by simpa using c5)
      | false =>
        rw [if_neg Bool.false_ne_true]
        exact q F3 H3 _ e (h23 rfl ▸ o3) (cl_dat (.bl _))⟩)
theorem tx_val {e : Expr} {k : Bool} (h : EX X es os e (dat (.bool k)) os1) (he : ∀ whole, isTrue e X.env whole = (do let v ← whole; standAt e.pos; holding [v] (truthy v)) := by intro _; rfl) : TX X es os e k os1 := fun F σ H Q ow sl q =>
  wt_of (pt_val pe_u he) (h F σ H _ ow sl fun F1 H1 x e1 o1 c1 => ⟨k, clv_bool c1, q F1 H1 e1 o1⟩)
theorem tx_not {k : Bool} (h : TX X es os a k os1) : TX X es os (.UnaryOp .Not a pos) (!k) os1 := fun F σ H Q ow sl q =>
  wt_of (pt_not pt_u) (h F σ H _ ow sl fun F1 H1 e1 o1 => q F1 H1 e1 o1)
theorem WX.tx {e : Expr} {k : Bool} (h : WX X es os e k os1) : TX X es os e k os1 := fun F σ H Q ow sl q => wt_of (PW.pt pw_u) (h F σ H Q ow sl q)
theorem wx_and1 {k : Bool} (h : TX X es os a k os1) : WX X es os (.BoolOp .And [a] pos) k os1 := fun F σ H Q ow sl q => ww_of (pw_and1 pt_u) (h F σ H Q ow sl q)
theorem wx_or1 {k : Bool} (h : TX X es os a k os1) : WX X es os (.BoolOp .Or [a] pos) k os1 := fun F σ H Q ow sl q => ww_of (pw_or1 pt_u) (h F σ H Q ow sl q)
theorem wx_and {rest : List Expr} {k l m : Bool} (h1 : TX X es os a k os1) (h2 : k = true → WX X es os1 (.BoolOp .And (b :: rest) pos) l os2) (hf : k = false → os1 = os2) (hm : (k && l) = m) : WX X es os (.BoolOp .And (a :: b :: rest) pos) m os2 := fun F σ H Q ow sl q =>
  ww_of (pw_and pt_u pw_u) (h1 F σ H _ ow sl fun F1 H1 e1 o1 => by
    cases k with
    | true =>
      rw [if_pos rfl]
      exact h2 rfl F1 σ H1 Q o1 (sl.mono e1) fun F2 H2 e2 o2 => by rw [← hm] at q; exact q F2 H2 (e1.trans e2) o2
    | false =>
      rw [if_neg Bool.false_ne_true]
      rw [← hm] at q
      exact q F1 H1 e1 (hf rfl ▸ o1))
theorem wx_or {rest : List Expr} {k l m : Bool} (h1 : TX X es os a k os1) (h2 : k = false → WX X es os1 (.BoolOp .Or (b :: rest) pos) l os2) (hf : k = true → os1 = os2) (hm : (k || l) = m) : WX X es os (.BoolOp .Or (a :: b :: rest) pos) m os2 := fun F σ H Q ow sl q =>
  ww_of (pw_or pt_u pw_u) (h1 F σ H _ ow sl fun F1 H1 e1 o1 => by
    cases k with
    | false =>
      rw [if_neg Bool.false_ne_true]
      exact h2 rfl F1 σ H1 Q o1 (sl.mono e1) fun F2 H2 e2 o2 => by rw [← hm] at q; exact q F2 H2 (e1.trans e2) o2
    | true =>
      rw [if_pos rfl]
      rw [← hm] at q
      exact q F1 H1 e1 (hf rfl ▸ o1))
/-- as values -/
theorem ex_one {op} {φ : VP} (h : EX X es os a φ os1) : EX X es os (.BoolOp op [a] pos) φ os1 := fun F σ H Q ow sl q => we_of (pe_one pe_u) (h F σ H Q ow sl q)
theorem ex_and {rest : List Expr} {k l m : Bool} (h1 : EX X es os a (dat (.bool k)) os1) (h2 : k = true → EX X es os1 (.BoolOp .And (b :: rest) pos) (dat (.bool l)) os2) (hf : k = false → os1 = os2) (hm : (k && l) = m) :
    EX X es os (.BoolOp .And (a :: b :: rest) pos) (dat (.bool m)) os2 := fun F σ H Q ow sl q =>
  we_of (pe_and pe_u pe_u) (h1 F σ H _ ow sl fun F1 H1 x e1 o1 c1 => ⟨k, clv_bool c1, by
    subst hm
    cases k with
    | true =>
      rw [if_pos rfl]
      exact h2 rfl F1 σ H1 Q o1 (sl.mono e1) fun F2 H2 v e2 o2 c2 => q F2 H2 v (e1.trans e2) o2 (by simpa using c2)
    | false =>
      rw [if_neg Bool.false_ne_true]
      exact q F1 H1 _ e1 (hf rfl ▸ o1) (cl_dat (.bl _))⟩)
theorem ex_or {rest : List Expr} {k l m : Bool} (h1 : EX X es os a (dat (.bool k)) os1) (h2 : k = false → EX X es os1 (.BoolOp .Or (b :: rest) pos) (dat (.bool l)) os2) (hf : k = true → os1 = os2) (hm : (k || l) = m) :
    EX X es os (.BoolOp .Or (a :: b :: rest) pos) (dat (.bool m)) os2 := fun F σ H Q ow sl q =>
  we_of (pe_or pe_u pe_u) (h1 F σ H _ ow sl fun F1 H1 x e1 o1 c1 => ⟨k, clv_bool c1, by
    subst hm
    cases k with
    | false =>
      rw [if_neg Bool.false_ne_true]
      exact h2 rfl F1 σ H1 Q o1 (sl.mono e1) fun F2 H2 v e2 o2 c2 => q F2 H2 v (e1.trans e2) o2 (by simpa using c2)
    | true =>
      rw [if_pos rfl]
      exact q F1 H1 _ e1 (hf rfl ▸ o1) (cl_dat (.bl _))⟩)
theorem ex_not {k : Bool} (h : EX X es os a (dat (.bool k)) os1) : EX X es os (.UnaryOp .Not a pos) (dat (.bool (!k))) os1 := fun F σ H Q ow sl q =>
  we_of (pe_not pe_u) (h F σ H _ ow sl fun F1 H1 x e1 o1 c1 => ⟨k, clv_bool c1, q F1 H1 _ e1 o1 (cl_dat (.bl _))⟩)
theorem ax_nil : AX X es os [] [] os := fun F σ H Q ow sl q => wa_of pa_nil (q F H [] (Same.refl F) ow rfl)
theorem ax_cons {as : List Expr} {φ : VP} {φs : List VP} (ha : EX X es os a φ os1) (hr : AX X es os1 as φs os2) (hs : starEach (a :: as) X.env = (false, eval a X.env) :: starEach as X.env := by rfl) : AX X es os (a :: as) (φ :: φs) os2 := fun F σ H Q ow sl q =>
  wa_of (pa_cons pe_u pa_u hs) (ha F σ H _ ow sl fun F1 H1 x e1 o1 c1 => hr F1 σ H1 _ o1 (sl.mono e1) fun F2 H2 vs e2 o2 c2 => q F2 H2 _ (e1.trans e2) o2 ⟨x, vs, rfl, c1.mono e2, c2⟩)
theorem cla_dq {F : Hp} : ∀ {ds : List PyData} {vs : List V}, ClA (ds.map dat) F vs → DqAll F vs ds
  | [], _, h => by
    have e : _ = [] := h
    rw [e]
    exact .nil
  | d :: ds, _, ⟨v, r, e, h1, h2⟩ => by
    rw [e]
    exact .cons h1.now (cla_dq h2)
theorem ex_tup {as : List Expr} {x1} {ds : List PyData} (h : AX X es os as (ds.map dat) os1) (hl : ds.length ≤ sizeLine := by decide) : EX X es os (.Tuple as x1 pos) (dat (.tuple ds)) os1 := fun F σ H Q ow sl q =>
  we_of (pe_tup pa_u) (h F σ H _ ow sl fun F1 H1 vs e1 o1 c1 => by
    have hd := cla_dq c1
    refine ⟨by rw [dqall_len hd]; exact hl, fun p hp => ?_⟩
    have fp := o1.ex.free hp
    exact q _ _ _ (e1.trans (same_upd fp)) (o1.frozen hp) (cl_dat (.tup upd_same (dqall_mono (same_upd fp) _ _ hd))))
theorem en_lst {as : List Expr} {ds : List PyData} (h : AX X es os as (ds.map dat) os1) (hl : ds.length ≤ sizeLine := by decide) : EN X es os (.List as pos) (ol ds) os1 := fun F σ H Q ow sl q =>
  we_of (pe_lst pa_u) (h F σ H _ ow sl fun F1 H1 vs e1 o1 c1 => by
    have hd := cla_dq c1
    refine ⟨by rw [dqall_len hd]; exact hl, fun p hp => ?_⟩
    exact q _ _ _ e1 (o1.new hp fun G g => ⟨vs, rfl, dqall_mono g _ _ hd⟩))
/-- of every value of φ (its object owned or not): it is read as a list of ds -/
def RdL (X : Cx) (φ : VP) (os : Os) (ds : List PyData) : Prop := ∀ F H v, Ow F os H → Cl φ F v → ∃ a vs, v = .ref a ∧ SqL X.K H a vs ∧ DqAll F vs ds
def RdT (φ : VP) (ds : List PyData) : Prop := ∀ F v, Cl φ F v → ∃ a vs, v = .ref a ∧ F a = some (.tup vs) ∧ DqAll F vs ds
theorem rdl_dat {ds : List PyData} : RdL X (dat (.list ds)) os ds := fun F H v ow c => by
  have h := c.now
  cases h with
  | lst h1 h2 => exact ⟨_, _, rfl, .of (ow.ex _ _ h1), h2⟩
theorem rdl_own {p : Addr} {ds : List PyData} (k : Nat) (h : os[k]? = some (p, ol ds)) : RdL X (own p) os ds := fun F H v ow c => by
  obtain ⟨_, vs, ho, hv⟩ := (ow.perm (perm_at h)).atL
  exact ⟨p, vs, c.now, .of ho, hv⟩
/-- the script -/
def scr (K : PySem.W.Frag) (ns : List Int) : VP := fun F v => ∃ a, v = .ref a ∧ SqL K F a (ns.map V.int)
theorem rdl_scr {ns : List Int} : RdL X (scr X.K ns) os (ns.map PyData.int) := fun F H v ow c => by
  obtain ⟨a, rfl, h⟩ := c.now
  exact ⟨a, _, rfl, ow.ex.seq h, dqall_ints ns⟩
theorem rdt_dat {ds : List PyData} : RdT (dat (.tuple ds)) ds := fun F v c => by
  have h := c.now
  cases h with
  | tup h1 h2 => exact ⟨_, _, rfl, h1, h2⟩
/-- xs[i], i of any sign -/
def idx {α : Type} (xs : List α) (i : Int) : Option α := atI xs i
theorem atI_map {α β : Type} (f : α → β) {xs : List α} {i : Int} {v : α} (h : atI xs i = some v) : atI (xs.map f) i = some (f v) := by
  unfold atI at h ⊢
  rw [List.length_map]
  cases e : ixN xs.length i with
  | none => rw [e] at h; cases h
  | some j =>
    rw [e] at h
    have h' : xs[j]? = some v := h
    show (xs.map f)[j]? = some (f v)
    rw [List.getElem?_map, h']
    rfl
theorem atI_dq {F : Hp} {vs : List V} {ds : List PyData} {i : Int} {d : PyData} (h : DqAll F vs ds) (k : atI ds i = some d) : ∃ v, atI vs i = some v ∧ Dq F v d := by
  unfold atI at k ⊢
  rw [dqall_len h]
  cases e : ixN ds.length i with
  | none => rw [e] at k; cases k
  | some j =>
    rw [e] at k
    exact dqall_get' h k
theorem ex_ixL {φ : VP} {ds : List PyData} {i : Int} {d : PyData} (hr : RdL X φ os2 ds) (hk : atI ds i = some d) (ha : EX X es os a φ os1) (hb : EX X es os1 b (dat (.int i)) os2) (hp : PlainIx b := by exact fun _ _ => rfl) : EX X es os (.Subscript a b pos) (dat d) os2 := fun F σ H Q ow sl q =>
  we_of (pe_ix ix_list pe_u pe_u hp) (ha F σ H _ ow sl fun F1 H1 x e1 o1 c1 => hb F1 σ H1 _ o1 (sl.mono e1) fun F2 H2 y e2 o2 c2 => by
    obtain ⟨p, vs, rfl, hs, hv⟩ := hr F2 H2 x o2 (c1.mono e2)
    obtain ⟨v, hi, hd⟩ := atI_dq hv hk
    exact ⟨p, vs, i, v, rfl, clv_int c2, hs, hi, q F2 H2 v (e1.trans e2) o2 (cl_dat hd)⟩)
theorem ex_ixT {φ : VP} {ds : List PyData} {i : Int} {d : PyData} (hr : RdT φ ds) (hk : atI ds i = some d) (ha : EX X es os a φ os1) (hb : EX X es os1 b (dat (.int i)) os2) (hp : PlainIx b := by exact fun _ _ => rfl) : EX X es os (.Subscript a b pos) (dat d) os2 := fun F σ H Q ow sl q =>
  we_of (pe_ix ix_tup pe_u pe_u hp) (ha F σ H _ ow sl fun F1 H1 x e1 o1 c1 => hb F1 σ H1 _ o1 (sl.mono e1) fun F2 H2 y e2 o2 c2 => by
    obtain ⟨p, vs, rfl, hs, hv⟩ := hr F2 x (c1.mono e2)
    obtain ⟨v, hi, hd⟩ := atI_dq hv hk
    exact ⟨p, vs, i, v, rfl, clv_int c2, .of (o2.ex _ _ hs), hi, q F2 H2 v (e1.trans e2) o2 (cl_dat hd)⟩)
end
end Z
namespace Z
open PySem PySem.Spec PyProof.Rows L2
structure FnG (P : Program) (w : World) (K : PySem.W.Frag) (mg : Str → Option Value) (base : Heap) (C : CXT) (k : Nat) (f : Addr) (fd : FuncData) (ps : List Str) (sp : Sp) : Prop where
  len : ∀ vs H Q E, sp vs H Q E → vs.length = ps.length
  run : ∀ (A : Around) (outer : List Env) (s : Shared) (H : Hp) (args : Args) (us : List Value) (vs : List V) (Q : VK) (E : XK), A.guards = some [] → Room k A →
    Env0 P w K mg base A outer s H → BindsTo s fd args (ps.zip us) → Vals vs us → sp vs H Q E → codeAny (model P w) A (.call (.ref f) args) (CR C outer P w H s Q E) s
section
variable {P : Program} {w : World} {K : PySem.W.Frag} {mg : Str → Option Value} {base : Heap} {C : CXT}
theorem FnG.mono {j k : Nat} {f : Addr} {fd : FuncData} {ps : List Str} {sp : Sp} (F : FnG P w K mg base C j f fd ps sp) (h : j ≤ k) : FnG P w K mg base C k f fd ps sp :=
  ⟨F.len, fun A outer s H args us vs Q E hg hr => F.run A outer s H args us vs Q E hg (hr.mono h)⟩
/-- the body of a def is looked at once -/
theorem fun_ok {x qual : Str} {st : Stmt} {f : Addr} {fd : FuncData} {N ps : List Str} {k : Nat} {sp : Sp} (G : Fun K x qual st f fd) (S : FnScope N ps (defScope st)) (len : ∀ vs H Q E, sp vs H Q E → vs.length = ps.length)
    (body : ∀ (cdv : Value) (A : Around) (outer : List Env) (s : Shared) (H : Hp) (vs : List V) (Q : VK) (E : XK), A.guards = some [] → Room k (A.deeper (envOfC qual (defScope st) s.heap.objs.size f cdv)) → sp vs H Q E →
      WPs (cxOf C P w K mg base N qual (defScope st) f cdv A outer s H E) (defBody st) { nx := fun _ H' => Q .non H', rt := Q } (start N vs) H) : FnG P w K mg base C (k + 1) f fd ps sp := by
  obtain ⟨oc, od, kV, doc, pm, an, cdv, ct, osl, rfl, lk, hcd⟩ := G.ex
  refine ⟨len, ?_⟩
  intro A outer s H args us vs Q E hg hr e0 hb r hsp
  have inh : K.In s.heap := e0.mod.kin.keeps fun b o q => (e0.bs b o q).1
  have nol : s.heap.NoLimit := e0.mod.nolimit.keeps fun b o q => (e0.bs b o q).1
  refine codeAny_call_function hr.depth (inh _ _ lk) rfl S.co S.gen rfl (PySem.W.codeRec_of inh hcd) (hb _ _ _ _ ?_)
  refine wpAny_newFunctionEnv_cells S.kind ?_ ?_
  · rintro ⟨n, v⟩ hy
    rcases S.par n (List.of_mem_zip hy).1 with q | q
    · exact .inl q
    · exact .inr ⟨q, PySem.W.cellsFrom_some _ _ _ (.inl q)⟩
  · intro env he s1 x
    subst he
    refine ⟨nol.keeps x.toInCall.keep, codeAny_func ?_⟩
    have I := inv_start (CX := C) (P := P) (w := w) (E := E) S hr.hd e0 (len _ _ _ _ hsp) r x
    refine wpAny_mono (body cdv A outer s H vs Q E hg (hr.deeper _) hsp [] s1 I) ?_ fun _ _ z => z
    intro fl s' z
    cases fl with
    | ret u =>
      obtain ⟨v, σ', H', J, rv, q⟩ := z
      exact ⟨v, H', J.os, J.bare, J.base, J.hok, rv, q⟩
    | next =>
      obtain ⟨σ', H', J, q⟩ := z
      exact ⟨.non, H', J.os, J.bare, J.base, J.hok, rfl, q⟩
    | brk =>
      obtain ⟨_, _, _, q⟩ := z
      exact q.elim
    | cont =>
      obtain ⟨_, _, _, q⟩ := z
      exact q.elim
end
def visB (sc : Scope) (x : Str) : Bool := match sc.names.lookup x with
  | some .local => true
  | some .cell => true
  | some .free => true
  | _ => false
def locB (sc : Scope) (x : Str) : Bool := match sc.names.lookup x with
  | some .local => true
  | some .cell => true
  | _ => false
def glB (sc : Scope) (x : Str) : Bool := match sc.names.lookup x with
  | some .globalImplicit => true
  | _ => false
def dunB (x : Str) : Bool := !(x == ("__debug__" : Str)) && !(x == ("__classdict__" : Str)) && !(x == ("__name__" : Str))
theorem vis_of {sc : Scope} {x : Str} (h : visB sc x = true) : Vis sc x := by
  unfold visB at h
  split at h
  · exact .inl (by assumption)
  · exact .inr (.inl (by assumption))
  · exact .inr (.inr (by assumption))
  · cases h
theorem loc_of {sc : Scope} {x : Str} (h : locB sc x = true) : Loc sc x := by
  unfold locB at h
  split at h
  · exact .inl (by assumption)
  · exact .inr (by assumption)
  · cases h
/-- in X: the i-th name stands at its slot and is seen; the j-th global one is one -/
structure Bd (X : Cx) (N : List Str) (V G : List Str) (k : Nat) : Prop where
  hN : X.N = N
  nd : N.Nodup
  calm : X.calm = true
  gd : X.A.guards = some []
  room : Room k X.A
  vis : ∀ x ∈ V, Vis X.env.scope x ∧ dunB x = true
  gl : ∀ x ∈ G, Gl X x ∧ dunB x = true
theorem dun_d {x : Str} (h : dunB x = true) : (x == ("__debug__" : Str)) = false := by
  unfold dunB at h
  simp only [Bool.and_eq_true, Bool.not_eq_true'] at h
  exact h.1.1
theorem dun_c {x : Str} (h : dunB x = true) : (x == ("__classdict__" : Str)) = false := by
  unfold dunB at h
  simp only [Bool.and_eq_true, Bool.not_eq_true'] at h
  exact h.1.2
theorem dun_n {x : Str} (h : dunB x = true) : x ≠ "__name__" := by
  unfold dunB at h
  simp only [Bool.and_eq_true, Bool.not_eq_true', beq_eq_false_iff_ne, ne_eq] at h
  exact h.2
/-- the names of a body, all at once -/
def namB (sc : Scope) (V G : List Str) : Bool := (V.all fun x => visB sc x && dunB x) && (G.all fun x => glB sc x && dunB x)
theorem nam_vis {sc : Scope} {V G : List Str} (h : namB sc V G = true) : ∀ x ∈ V, Vis sc x ∧ dunB x = true := fun x hx => by
  unfold namB at h
  rw [Bool.and_eq_true, List.all_eq_true] at h
  have := h.1 x hx
  rw [Bool.and_eq_true] at this
  exact ⟨vis_of this.1, this.2⟩
theorem nam_gl {sc : Scope} {V G : List Str} (h : namB sc V G = true) : ∀ x ∈ G, sc.names.lookup x = some .globalImplicit ∧ dunB x = true := fun x hx => by
  unfold namB at h
  rw [Bool.and_eq_true, List.all_eq_true, List.all_eq_true] at h
  have := h.2 x hx
  rw [Bool.and_eq_true] at this
  refine ⟨?_, this.2⟩
  have q := this.1
  unfold glB at q
  split at q
  · assumption
  · cases q
section
variable {X : Cx} {es : List Slot} {os os1 os2 os3 : Os} {N V G : List Str} {k : Nat} {x : Str} {p pos : Pos} {e : Expr} {as : List Expr}
theorem ex_v {i j : Nat} {φ : VP} (B : Bd X N V G k) (hi : N[i]? = some x) (hj : V[j]? = some x) (h : es[i]? = some (sl φ)) : EX X es os (.Name x pos) φ os :=
  let ⟨a, b⟩ := B.vis x (List.mem_of_getElem? hj)
  ex_name (B.hN ▸ hi) a (dun_d b) (dun_c b) h
theorem ex_g {j : Nat} {i : Int} {t : Tok} (B : Bd X N V G k) (hj : G[j]? = some x) (hm : X.mg x = some (.int i t)) : EX X es os (.Name x pos) (dat (.int i)) os :=
  let ⟨a, b⟩ := B.gl x (List.mem_of_getElem? hj)
  ex_gint a hm (dun_d b)
def RCX (r : List L2.V → Hp → VK → Prop) (φs : List VP) (os : Os) (d : VP) (os' : Os) : Prop := ∀ F H vs Q, Ow F os H → ClA φs F vs → (∀ F' H' v, Same F F' → Ow F' os' H' → Cl d F' v → Q v H') → r vs H Q
theorem ex_fn {id : String} {r : List L2.V → Hp → VK → Prop} {φs : List VP} {d : VP} {j : Nat} (B : Bd X N V G k) (hj : G[j]? = some x) (hm : X.mg x = none) (hv : bootBuiltins x = some (.builtin id)) (hc : CallR X (.builtin id) r) (hr : RCX r φs os1 d os2)
    (ha : AX X es os (e :: as) φs os1) (he : starEach (e :: as) X.env = (false, eval e X.env) :: starEach as X.env := by rfl) (hpl : (backTo pos (starEach as X.env)).any (·.1) = false := by rfl) : EX X es os (.Call (.Name x p) (e :: as) [] pos) d os2 := fun F σ H Q ow sl q =>
  let ⟨a, b⟩ := B.gl x (List.mem_of_getElem? hj)
  we_of (pe_callB hc a hm hv pa_u (dun_n b) (dun_d b) he hpl) (ha F σ H _ ow sl fun F1 H1 vs e1 o1 c1 => hr F1 H1 vs Q o1 c1 fun F2 H2 v e2 => q F2 H2 v (e1.trans e2))
theorem ex_ty {T : String} {r : List L2.V → Hp → VK → Prop} {φs : List VP} {d : VP} {j : Nat} (B : Bd X N V G k) (hj : G[j]? = some x) (hm : X.mg x = none) (hv : bootBuiltins x = some (.type T)) (hc : CallR X (.type T) r) (hr : RCX r φs os1 d os2)
    (ha : AX X es os (e :: as) φs os1) (he : starEach (e :: as) X.env = (false, eval e X.env) :: starEach as X.env := by rfl) (hpl : (backTo pos (starEach as X.env)).any (·.1) = false := by rfl) : EX X es os (.Call (.Name x p) (e :: as) [] pos) d os2 := fun F σ H Q ow sl q =>
  let ⟨a, b⟩ := B.gl x (List.mem_of_getElem? hj)
  we_of (pe_callTy hc a hm hv pa_u (dun_n b) (dun_d b) he hpl) (ha F σ H _ ow sl fun F1 H1 vs e1 o1 c1 => hr F1 H1 vs Q o1 c1 fun F2 H2 v e2 => q F2 H2 v (e1.trans e2))
theorem cla1 {φ : VP} {F : Hp} {vs : List L2.V} (h : ClA [φ] F vs) : ∃ v, vs = [v] ∧ Cl φ F v := by
  obtain ⟨v, r, e, h1, h2⟩ := h
  have e2 : r = [] := h2
  subst e2
  exact ⟨v, e, h1⟩
theorem cla2 {φ ψ : VP} {F : Hp} {vs : List L2.V} (h : ClA [φ, ψ] F vs) : ∃ v u, vs = [v, u] ∧ Cl φ F v ∧ Cl ψ F u := by
  obtain ⟨v, r, e, h1, h2⟩ := h
  obtain ⟨u, e2, h3⟩ := cla1 h2
  subst e2
  exact ⟨v, u, e, h1, h3⟩
theorem rc_abs {i : Int} : RCX (fun xs H Q => ∃ i, xs = [L2.V.int i] ∧ Q (.int (if i < 0 then -i else i)) H) [dat (.int i)] os (dat (.int (if i < 0 then -i else i))) os := fun F H vs Q ow c q => by
  obtain ⟨v, rfl, h⟩ := cla1 c
  exact ⟨i, by rw [clv_int h], q F H _ (Same.refl F) ow (cl_dat (.int _))⟩
theorem rc_max {i j : Int} : RCX (fun xs H Q => ∃ i j, xs = [L2.V.int i, .int j] ∧ Q (.int (if j > i then j else i)) H) [dat (.int i), dat (.int j)] os (dat (.int (if j > i then j else i))) os := fun F H vs Q ow c q => by
  obtain ⟨v, u, rfl, h, h2⟩ := cla2 c
  exact ⟨i, j, by rw [clv_int h, clv_int h2], q F H _ (Same.refl F) ow (cl_dat (.int _))⟩
theorem rc_min {i j : Int} : RCX (fun xs H Q => ∃ i j, xs = [L2.V.int i, .int j] ∧ Q (.int (if j < i then j else i)) H) [dat (.int i), dat (.int j)] os (dat (.int (if j < i then j else i))) os := fun F H vs Q ow c q => by
  obtain ⟨v, u, rfl, h, h2⟩ := cla2 c
  exact ⟨i, j, by rw [clv_int h, clv_int h2], q F H _ (Same.refl F) ow (cl_dat (.int _))⟩
theorem rc_intI {i : Int} : RCX (fun xs H Q => (∃ i, xs = [L2.V.int i] ∧ Q (.int i) H) ∨ ∃ k, xs = [.bl k] ∧ Q (.int (if k then 1 else 0)) H) [dat (.int i)] os (dat (.int i)) os := fun F H vs Q ow c q => by
  obtain ⟨v, rfl, h⟩ := cla1 c
  exact .inl ⟨i, by rw [clv_int h], q F H _ (Same.refl F) ow (cl_dat (.int _))⟩
theorem rc_intB {i : Bool} : RCX (fun xs H Q => (∃ i, xs = [L2.V.int i] ∧ Q (.int i) H) ∨ ∃ k, xs = [.bl k] ∧ Q (.int (if k then 1 else 0)) H) [dat (.bool i)] os (dat (.int (if i then 1 else 0))) os := fun F H vs Q ow c q => by
  obtain ⟨v, rfl, h⟩ := cla1 c
  exact .inr ⟨i, by rw [clv_bool h], q F H _ (Same.refl F) ow (cl_dat (.int _))⟩
theorem rc_lenL {φ : VP} {ds : List PyData} (hr : RdL X φ os ds) : RCX (fun xs H Q => ∃ p ys, xs = [L2.V.ref p] ∧ (SqL X.K H p ys ∨ SqT X.K H p ys) ∧ Q (.int ys.length) H) [φ] os (dat (.int (ds.length : Int))) os := fun F H vs Q ow c q => by
  obtain ⟨v, rfl, h⟩ := cla1 c
  obtain ⟨a, us, rfl, h1, h2⟩ := hr F H v ow h
  exact ⟨a, us, rfl, .inl h1, by rw [dqall_len h2]; exact q F H _ (Same.refl F) ow (cl_dat (.int _))⟩
theorem rc_lenT {φ : VP} {ds : List PyData} (hr : RdT φ ds) : RCX (fun xs H Q => ∃ p ys, xs = [L2.V.ref p] ∧ (SqL X.K H p ys ∨ SqT X.K H p ys) ∧ Q (.int ys.length) H) [φ] os (dat (.int (ds.length : Int))) os := fun F H vs Q ow c q => by
  obtain ⟨v, rfl, h⟩ := cla1 c
  obtain ⟨a, us, rfl, h1, h2⟩ := hr F v h
  exact ⟨a, us, rfl, .inr (.of (ow.ex _ _ h1)), by rw [dqall_len h2]; exact q F H _ (Same.refl F) ow (cl_dat (.int _))⟩
theorem rc_sum {φ : VP} {ns : List Int} (hr : RdL X φ os (ns.map PyData.int)) : RCX (rSum X.K) [φ] os (dat (.int ns.sum)) os := fun F H vs Q ow c q => by
  obtain ⟨v, rfl, h⟩ := cla1 c
  obtain ⟨a, us, rfl, h1, h2⟩ := hr F H v ow h
  have e := dqall_of_ints ns h2
  subst e
  exact ⟨a, ns, rfl, h1, q F H _ (Same.refl F) ow (cl_dat (.int _))⟩
theorem rc_all {φ : VP} {bs : List Bool} (hr : RdL X φ os (bs.map PyData.bool)) : RCX (rAll X.K) [φ] os (dat (.bool (bs.all id))) os := fun F H vs Q ow c q => by
  obtain ⟨v, rfl, h⟩ := cla1 c
  obtain ⟨a, us, rfl, h1, h2⟩ := hr F H v ow h
  have e := dqall_of_bools bs h2
  subst e
  exact ⟨a, bs, rfl, h1, q F H _ (Same.refl F) ow (cl_dat (.bl _))⟩
theorem rc_tupL {φ : VP} {ds : List PyData} (hr : RdL X φ os ds) : RCX (fun xs H Q => ∃ p ys, xs = [L2.V.ref p] ∧ ((SqL X.K H p ys ∧ ∀ l, H l = none → Q (.ref l) (upd H l (.tup ys))) ∨ (SqT X.K H p ys ∧ Q (.ref p) H))) [φ] os (dat (.tuple ds)) os := fun F H vs Q ow c q => by
  obtain ⟨v, rfl, h⟩ := cla1 c
  obtain ⟨a, us, rfl, h1, h2⟩ := hr F H v ow h
  refine ⟨a, us, rfl, .inl ⟨h1, fun l hl => ?_⟩⟩
  have fp := ow.ex.free hl
  exact q _ _ _ (same_upd fp) (ow.frozen hl) (cl_dat (.tup upd_same (dqall_mono (same_upd fp) _ _ h2)))
end
end Z
namespace Z
open PySem PySem.Spec PyProof.Rows L2
/-- a def of the text that keeps a promise, as callers see it -/
structure Cal (P : Program) (w : World) (K : PySem.W.Frag) (mg : Str → Option Value) (base : Heap) (k : Nat) (x : Str) (st : Stmt) (ps : List Str) (sp : Sp) : Prop where
  ex : ∃ (f : Addr) (fd : FuncData), Fun K x x st f fd ∧ FnG P w K mg base CX0 k f fd ps sp ∧ mg x = some (.ref f) ∧ Binds K fd ps []
theorem Cal.mono {P : Program} {w : World} {K : PySem.W.Frag} {mg : Str → Option Value} {base : Heap} {j k : Nat} {x : Str} {st : Stmt} {ps : List Str} {sp : Sp} (c : Cal P w K mg base j x st ps sp) (h : j ≤ k) : Cal P w K mg base k x st ps sp :=
  let ⟨f, fd, a, b, d⟩ := c.ex
  ⟨f, fd, a, b.mono h, d⟩
section
variable {X : Cx} {k : Nat} {f : Addr} {fd : FuncData} {ps : List Str} {sp : Sp} {x : Str} {p pos : Pos} {e : Expr} {as : List Expr} {t tk : TA} {kws : List Keyword}
theorem run_g {pins : List (Addr × Obj)} {σ : L2.St} {H : Hp} {s : Shared} {Q : VK} {us zs : List Value} {kv : List (Str × Value)} {vs : List L2.V} (c : FnG X.prog X.w X.K X.mg X.base CX0 k f fd ps sp) (gd : X.A.guards = some []) (hr : Room k X.A)
    (I : Inv X pins σ H s) (b : BindsTo s fd ⟨us, kv⟩ (ps.zip zs)) (r : Vals vs zs) (h : sp vs H Q E0) : wpAny (model X.prog X.w) X.A (call (.ref f) us kv) (EP X pins σ Q) X.xe s := by
  refine wpAny_call (codeAny_mono (c.run X.A X.stack s H ⟨us, kv⟩ zs vs Q E0 gd hr I.env0 b r h) ?_)
  intro res s' hq
  cases res with
  | error e => exact hq.elim
  | ok fl =>
    cases fl with
    | ret u => exact I.after hq
    | next => exact hq.elim
    | brk => exact hq.elim
    | cont => exact hq.elim
theorem pe_g {st : Stmt} (c : Cal X.prog X.w X.K X.mg X.base k x st ps sp) (gd : X.A.guards = some []) (hr : Room k X.A) (hg : Gl X x) (ha : PA X (e :: as) t) (hdb : (x == ("__debug__" : Str)) = false)
    (he : starEach (e :: as) X.env = (false, eval e X.env) :: starEach as X.env := by rfl) (hpl : (backTo pos (starEach as X.env)).any (·.1) = false := by rfl) : PE X (.Call (.Name x p) (e :: as) [] pos) (fun σ H Q => t σ H fun vs H1 => sp vs H1 Q E0) := by
  obtain ⟨f, fd, Fn, G, hm, hb⟩ := c.ex
  refine ⟨fun pins s σ H Q I h => wpAny_Call_Name_kw (ld_glob I hg hm ?_ hdb)⟩
  refine PySem.W.callWith_K (h₀ := X.base) I.ok.mod.kin Fn.kp (thn (ha.run pos pins s σ H _ I h) ?_) he hpl
  rintro us s1 ⟨vs, H1, I1, r, q⟩
  refine ⟨I1.kIn, run_g G gd hr I1 ?_ r q⟩
  have := hb s1 us I1.kIn (by rw [List.append_nil, ← r.length]; exact G.len _ _ _ _ q)
  rw [List.append_nil] at this
  exact this
end
/-- it hands back the value of which res tells -/
def spZ {α β : Type} (ps : α → List VP) (pre : α → Os) (m : α → Option β) (res : α → β → VP) (post : α → β → Os) : Sp := fun vs H Q _ =>
  ∃ (a : α) (b : β) (F : Hp) (os : Os), ClA (ps a) F vs ∧ Ow F (pre a ++ os) H ∧ m a = some b ∧ ∀ F' H' v, Same F F' → Ow F' (post a b ++ os) H' → Cl (res a b) F' v → Q v H'
/-- it hands back a new list -/
def spN {α β : Type} (ps : α → List VP) (pre : α → Os) (m : α → Option β) (n : α → β → Ent) (post : α → β → Os) : Sp := fun vs H Q _ =>
  ∃ (a : α) (b : β) (F : Hp) (os : Os), ClA (ps a) F vs ∧ Ow F (pre a ++ os) H ∧ m a = some b ∧ ∀ F' H' p, Same F F' → Ow F' ((p, n a b) :: (post a b ++ os)) H' → Q (.ref p) H'
theorem spZ_len {α β : Type} {ps : α → List VP} {pre : α → Os} {m : α → Option β} {res : α → β → VP} {post : α → β → Os} {n : Nat} (h : ∀ a, (ps a).length = n) : ∀ vs H Q E, spZ ps pre m res post vs H Q E → vs.length = n :=
  fun vs H Q E ⟨a, b, F, os, c, _⟩ => (cla_len c).trans (h a)
theorem spN_len {α β : Type} {ps : α → List VP} {pre : α → Os} {m : α → Option β} {n : α → β → Ent} {post : α → β → Os} {k : Nat} (h : ∀ a, (ps a).length = k) : ∀ vs H Q E, spN ps pre m n post vs H Q E → vs.length = k :=
  fun vs H Q E ⟨a, b, F, os, c, _⟩ => (cla_len c).trans (h a)
section
variable {X : Cx} {es : List Slot} {os os1 os2 rest : Os} {N V G : List Str} {k j : Nat} {x : Str} {p pos : Pos} {e : Expr} {as : List Expr} {kws : List Keyword} {ks : List Str} {st : Stmt} {pn : List Str} {α β : Type} {ps : α → List VP} {pre : α → Os} {m : α → Option β} {res : α → β → VP} {post : α → β → Os} {n : α → β → Ent} {gi : Nat}
theorem ex_call (B : Bd X N V G k) (hj : G[gi]? = some x) (c : Cal X.prog X.w X.K X.mg X.base j x st pn (spZ ps pre m res post)) (hl : j ≤ k) {a : α} {b : β} (hm : m a = some b) (ha : AX X es os (e :: as) (ps a) (pre a ++ rest))
    (he : starEach (e :: as) X.env = (false, eval e X.env) :: starEach as X.env := by rfl) (hpl : (backTo pos (starEach as X.env)).any (·.1) = false := by rfl) : EX X es os (.Call (.Name x p) (e :: as) [] pos) (res a b) (post a b ++ rest) := fun F σ H Q ow sl q =>
  let ⟨u, v⟩ := B.gl x (List.mem_of_getElem? hj)
  we_of (pe_g (c.mono hl) B.gd B.room u pa_u (dun_d v) he hpl) (ha F σ H _ ow sl fun F1 H1 vs e1 o1 c1 => ⟨a, b, F1, rest, c1, o1, hm, fun F2 H2 v e2 o2 c2 => q F2 H2 v (e1.trans e2) o2 c2⟩)
theorem en_call (B : Bd X N V G k) (hj : G[gi]? = some x) (c : Cal X.prog X.w X.K X.mg X.base j x st pn (spN ps pre m n post)) (hl : j ≤ k) {a : α} {b : β} (hm : m a = some b) (ha : AX X es os (e :: as) (ps a) (pre a ++ rest))
    (he : starEach (e :: as) X.env = (false, eval e X.env) :: starEach as X.env := by rfl) (hpl : (backTo pos (starEach as X.env)).any (·.1) = false := by rfl) : EN X es os (.Call (.Name x p) (e :: as) [] pos) (n a b) (post a b ++ rest) := fun F σ H Q ow sl q =>
  let ⟨u, v⟩ := B.gl x (List.mem_of_getElem? hj)
  we_of (pe_g (c.mono hl) B.gd B.room u pa_u (dun_d v) he hpl) (ha F σ H _ ow sl fun F1 H1 vs e1 o1 c1 => ⟨a, b, F1, rest, c1, o1, hm, fun F2 H2 v e2 o2 => q F2 H2 v (e1.trans e2) o2⟩)
/-- the values of keywords -/
def KX (X : Cx) (es : List Slot) (os : Os) (kws : List Keyword) (φs : List VP) (os' : Os) : Prop := ∀ F σ H, Ow F os H → Sl F es σ → ∀ Q : List L2.V → Hp → Prop, (∀ F' H' vs, Same F F' → Ow F' os' H' → ClA φs F' vs → Q vs H') →
  ∀ pos pins s, Inv X pins σ H s → wpAny (model X.prog X.w) X.A (evalAll ((backToKw pos (keywordEach kws X.env)).map (·.2))) (AP X pins σ Q) X.xe s
end
end Z
namespace Z
open PySem PySem.Spec PyProof.Rows L2
/-- what a body's statements need beside Bd -/
structure Bt (X : Cx) (V : List Str) : Prop where
  fn : ∀ x, X.fn x = true
  loc : ∀ x ∈ V, Loc X.env.scope x
  po : PassesOwn (model X.prog X.w) X.A X.env X.xe
/-- the state fits -/
def At (F0 : Hp) (es : List Slot) (os : Os) (σ : L2.St) (H : Hp) : Prop := ∃ F, Same F0 F ∧ Ow F os H ∧ Sl F es σ
section
variable {X : Cx} {es es' : List Slot} {os os1 os2 : Os} {F0 : Hp} {rest : List Stmt} {D : Ends} {N V G W : List Str} {k i vi : Nat} {x : Str} {pos pos' : Pos} {e : Expr} {φ : VP} {n : Ent}
theorem SX.at (h : SX X es os F0 rest D) {σ : L2.St} {H : Hp} (a : At F0 es os σ H) : WPs X rest D σ H := let ⟨F, s, ow, sl⟩ := a; h F σ H s ow sl
theorem SX.perm (h : SX X es os F0 rest D) (p : os1.Perm os) : SX X es os1 F0 rest D := fun F σ H s ow sl => h F σ H s (ow.perm p) sl
theorem SX.weak (h : SX X es' os F0 rest D) (w : Wk es es') : SX X es os F0 rest D := fun F σ H s ow sl => h F σ H s ow (sl.weak w)
theorem SX.drop {q : Addr × Ent} (h : SX X es os F0 rest D) : SX X es (q :: os) F0 rest D := fun F σ H s ow sl => h F σ H s ow.drop sl
theorem sx_nil (h : ∀ σ H, At F0 es os σ H → D.nx σ H) : SX X es os F0 [] D := fun F σ H s ow sl => wps_nil (h σ H ⟨F, s, ow, sl⟩)
/-- behind a branch the rest goes on -/
theorem sx_fall {D' : Ends} (h : SX X es os F0 rest D') (e : D.nx = WPs X rest D') : SX X es os F0 [] D := sx_nil fun σ H a => by
  rw [e]
  exact h.at a
theorem sx_asg (B : Bd X N W G k) (T : Bt X V) (hi : N[i]? = some x) (hv : V[vi]? = some x) (he : EX X es os e φ os1) (h : SX X (es.set i (sl φ)) os1 F0 rest D) (hs : swapsWith e (some (.Name x pos')) pos.line X.env = pure false := by rfl) :
    SX X es os F0 (.Assign [.Name x pos'] e pos :: rest) D := fun F σ H s ow sl =>
  wps_cons (ws_of (ps_set (B.hN ▸ B.nd) (B.hN ▸ hi) (T.loc x (List.mem_of_getElem? hv)) pe_u hs (.inl (T.fn x))) (he F σ H _ ow sl fun F1 H1 v e1 o1 c1 => h F1 _ H1 (s.trans e1) o1 ((sl.mono e1).put c1)))
theorem sx_asgN (B : Bd X N W G k) (T : Bt X V) (hi : N[i]? = some x) (hv : V[vi]? = some x) (he : EN X es os e n os1) (h : ∀ p, SX X (es.set i (sl (own p))) ((p, n) :: os1) F0 rest D) (hs : swapsWith e (some (.Name x pos')) pos.line X.env = pure false := by rfl) :
    SX X es os F0 (.Assign [.Name x pos'] e pos :: rest) D := fun F σ H s ow sl =>
  wps_cons (ws_of (ps_set (B.hN ▸ B.nd) (B.hN ▸ hi) (T.loc x (List.mem_of_getElem? hv)) pe_u hs (.inl (T.fn x))) (he F σ H _ ow sl fun F1 H1 p e1 o1 => h p F1 _ H1 (s.trans e1) o1 ((sl.mono e1).put cl_own)))
theorem sx_expr (he : EX X es os e φ os1) (h : SX X es os1 F0 rest D) (hs : swapsWith e none pos.line X.env = pure false := by rfl) : SX X es os F0 (.Expr e pos :: rest) D := fun F σ H s ow sl =>
  wps_cons (ws_of (ps_expr pe_u hs) (he F σ H _ ow sl fun F1 H1 v e1 o1 c1 => h F1 σ H1 (s.trans e1) o1 (sl.mono e1)))
theorem sx_ret (he : EX X es os e φ os1) (h : ∀ F H v, Same F0 F → Ow F os1 H → Cl φ F v → D.rt v H) : SX X es os F0 (.Return (some e) pos :: rest) D := fun F σ H s ow sl =>
  wps_cons (ws_of (ps_ret pe_u) (he F σ H _ ow sl fun F1 H1 v e1 o1 c1 => h F1 H1 v (s.trans e1) o1 c1))
theorem sx_retN (he : EN X es os e n os1) (h : ∀ F H p, Same F0 F → Ow F ((p, n) :: os1) H → D.rt (.ref p) H) : SX X es os F0 (.Return (some e) pos :: rest) D := fun F σ H s ow sl =>
  wps_cons (ws_of (ps_ret pe_u) (he F σ H _ ow sl fun F1 H1 v e1 o1 => h F1 H1 v (s.trans e1) o1))
theorem sx_if {c : Expr} {a b : List Stmt} {t : Bool} (hc : TX X es os c t os1) (ha : t = true → SX X es os1 F0 a { D with nx := WPs X rest D }) (hb : t = false → SX X es os1 F0 b { D with nx := WPs X rest D }) : SX X es os F0 (.If c a b pos :: rest) D := fun F σ H s ow sl =>
  wps_cons (ws_of (ps_if pt_u pss_u pss_u) (hc F σ H _ ow sl fun F1 H1 e1 o1 => by
    cases t with
    | true =>
      rw [if_pos rfl]
      exact ha rfl F1 σ H1 (s.trans e1) o1 (sl.mono e1)
    | false =>
      rw [if_neg Bool.false_ne_true]
      exact hb rfl F1 σ H1 (s.trans e1) o1 (sl.mono e1)))
def WG (X : Cx) (tg : Expr) : TG := fun v σ H Q => ∀ pins s u, Inv X pins σ H s → RelV v u → wpAny (model X.prog X.w) X.A (assign tg X.env u) (fun _ s' => ∃ σ' H', Inv X pins σ' H' s' ∧ Q σ' H') X.xe s
theorem pg_u {tg : Expr} : PG X tg (WG X tg) := ⟨fun pins s _ _ _ u _ I r h => h pins s u I r⟩
theorem wg_of {tg : Expr} {g : TG} {v : L2.V} {σ : L2.St} {H : Hp} {Q : L2.St → Hp → Prop} (h : PG X tg g) (q : g v σ H Q) : WG X tg v σ H Q := fun pins s u I r => h.run pins s σ H v u Q I r q
/-- to assign a value of φ to tg changes the slots as f tells -/
def GX (X : Cx) (tg : Expr) (φ : VP) (f : List Slot → List Slot) : Prop := ∀ es os F σ H v Q, Ow F os H → Sl F es σ → Cl φ F v → (∀ σ', Sl F (f es) σ' → Q σ' H) → WG X tg v σ H Q
theorem gx_name (B : Bd X N W G k) (T : Bt X V) (hi : N[i]? = some x) (hv : V[vi]? = some x) : GX X (.Name x pos) φ (fun es => es.set i (sl φ)) := fun es os F σ H v Q ow sl c q =>
  wg_of (pg_name (B.hN ▸ B.nd) (B.hN ▸ hi) (T.loc x (List.mem_of_getElem? hv)) (.inl (T.fn x))) (q _ (sl.put c))
theorem gx_pair {a b : Expr} {kk : Nat} {d1 d2 : PyData} {f g : List Slot → List Slot} (B : Bd X N W G k) (h1 : GX X a (dat d1) f) (h2 : GX X b (dat d2) g) (hn : (assignEach [a, b] X.env).length = 2 := by rfl) (hst : (assignEach [a, b] X.env).findIdx? (·.1) = none := by rfl)
    (hs : (assignEach [a, b] X.env).map (·.2) = assign a X.env :: (assignEach [b] X.env).map (·.2) := by rfl) (hs2 : (assignEach [b] X.env).map (·.2) = assign b X.env :: (assignEach [] X.env).map (·.2) := by rfl) :
    GX X (.Tuple [a, b] kk pos) (dat (.tuple [d1, d2])) (fun es => g (f es)) := fun es os F σ H v Q ow sl c q => by
  obtain ⟨p, vs, rfl, hp, hv⟩ := rdt_dat F v c
  cases hv with
  | cons k1 r =>
    cases r with
    | cons k2 r =>
      cases r
      refine wg_of (pg_tup (n := 2) B.calm (pgs_cons pg_u (pgs_cons pg_u pgs_nil hs2) hs) hn hst) ⟨p, _, rfl, .of (ow.ex _ _ hp), rfl, _, _, rfl, ?_⟩
      refine h1 es os F σ H _ _ ow sl (cl_dat k1) fun σ1 s1 => ⟨_, _, rfl, ?_⟩
      exact h2 _ os F σ1 H _ _ ow s1 (cl_dat k2) fun σ2 s2 => ⟨rfl, q σ2 s2⟩
/-- a, b = e: e a tuple -/
theorem sx_unp {tg : Expr} {f : List Slot → List Slot} (hg : GX X tg φ f) (he : EX X es os e φ os1) (h : SX X (f es) os1 F0 rest D) (hs : swapsWithSole [tg] e pos.line X.env = pure false := by rfl) (hw : swappedStores [tg] e X.env = pure none := by rfl)
    (h1 : (assignEach [tg] X.env).map (·.2) = [assign tg X.env] := by rfl) : SX X es os F0 (.Assign [tg] e pos :: rest) D := fun F σ H s ow sl =>
  wps_cons (ws_of (ps_asg pe_u pg_u hs hw h1) (he F σ H _ ow sl fun F1 H1 v e1 o1 c1 => hg es os1 F1 σ H1 v _ o1 (sl.mono e1) c1 fun σ1 s1 => h F1 σ1 H1 (s.trans e1) o1 s1))
theorem ty_own {F H : Hp} {K : PySem.W.Frag} {p : Addr} {ds : List PyData} {j : Nat} (ow : Ow F os H) (hj : os[j]? = some (p, ol ds)) : ∃ vs, H p = some (.lst vs) ∧ DqAll F vs ds ∧ tyV K "list" (.ref p) H := by
  obtain ⟨_, vs, ho, hv⟩ := (ow.perm (perm_at hj)).atL
  exact ⟨vs, ho, hv, .inl ⟨rfl, vs, .of ho⟩⟩
/-- a list that is one's own is rewritten -/
theorem ow_set {F H : Hp} {p : Addr} {ds ds' : List PyData} {vs' : List L2.V} {j : Nat} (ow : Ow F os H) (hj : os[j]? = some (p, ol ds)) (h : DqAll F vs' ds') : Ow F (os.set j (p, ol ds')) (upd H p (.lst vs')) :=
  ((ow.perm (perm_at hj)).putL h).perm (perm_set hj)
theorem ex_append {a : Expr} {apos cpos : Pos} {p : Addr} {ds : List PyData} {d : PyData} {j : Nat} (ho : EX X es os a (own p) os) (he : EX X es os e (dat d) os1) (h0 : os[j]? = some (p, ol ds0)) (hj : os1[j]? = some (p, ol ds)) (hz : ds.length < sizeLine)
    (hbase : attributeBase a "append" X.env (eval a X.env) = eval a X.env := by rfl) (hline : (apos.endLine == cpos.line) = true := by rfl) (hs : starEach [e] X.env = (false, eval e X.env) :: starEach [] X.env := by rfl)
    (hfew : ((backTo cpos (starEach [e] X.env)).all (fun x => !x.1) && (backToKw cpos (keywordEach [] X.env)).all (fun x => x.1.isSome) && decide ([e].length + ([] : List Keyword).length + (if ([] : List Keyword).isEmpty then 0 else 1) < 30)) = true := by rfl)
    (hplain : (backTo cpos (starEach [] X.env)).any (·.1) = false := by rfl) : EX X es os (.Call (.Attribute a "append" apos) [e] [] cpos) (dat .none) (os1.set j (p, ol (ds ++ [d]))) := fun F σ H Q ow sl q =>
  we_of (pe_bm PySem.F.plainAttrs_list PySem.F.slot_list_append PySem.F.type_list_append mt_append pe_u pa_u hbase hfew hline hs hplain) (ho F σ H _ ow sl fun F1 H1 v e1 o1 c1 => by
    obtain rfl : v = .ref p := c1.now
    obtain ⟨_, _, _, ty⟩ := ty_own (K := X.K) o1 h0
    refine ⟨ty, wa_of (pa_cons pe_u pa_nil hs) (he F1 σ H1 _ o1 (sl.mono e1) fun F2 H2 u e2 o2 c2 => ?_)⟩
    obtain ⟨vs, hp, hv, _⟩ := ty_own (K := X.K) o2 hj
    exact ⟨p, vs, u, rfl, rfl, hp, by rw [dqall_len hv]; exact hz, q F2 _ .non (e1.trans e2) (ow_set o2 hj (dqall_app hv (.cons c2.now .nil))) (cl_dat .non)⟩)
theorem dqall_last {F : Hp} : ∀ {ds : List PyData} {vs : List L2.V} {d : PyData}, DqAll F vs ds → ds.getLast? = some d → ∃ v, vs[vs.length - 1]? = some v ∧ Dq F v d ∧ DqAll F vs.dropLast ds.dropLast := fun {ds vs d} h e => by
  rw [List.getLast?_eq_getElem?] at e
  obtain ⟨v, e2, hd⟩ := dqall_get' h e
  refine ⟨v, by rw [dqall_len h]; exact e2, hd, ?_⟩
  rw [List.dropLast_eq_take, List.dropLast_eq_take, dqall_len h]
  exact dqall_take _ h
theorem ex_pop {a : Expr} {apos cpos : Pos} {p : Addr} {ds : List PyData} {d : PyData} {j : Nat} (ho : EX X es os a (own p) os) (hj : os[j]? = some (p, ol ds)) (hd : ds.getLast? = some d)
    (hbase : attributeBase a "pop" X.env (eval a X.env) = eval a X.env := by rfl) (hline : (apos.endLine == cpos.line) = true := by rfl) : EX X es os (.Call (.Attribute a "pop" apos) [] [] cpos) (dat d) (os.set j (p, ol ds.dropLast)) := fun F σ H Q ow sl q =>
  we_of (pe_bm0 PySem.F.plainAttrs_list PySem.F.slot_list_pop PySem.F.type_list_pop mt_pop pe_u hbase hline) (ho F σ H _ ow sl fun F1 H1 v e1 o1 c1 => by
    obtain rfl : v = .ref p := c1.now
    obtain ⟨vs, hp, hv, ty⟩ := ty_own (K := X.K) o1 hj
    obtain ⟨u, eu, hu, hr⟩ := dqall_last hv hd
    exact ⟨ty, p, vs, u, rfl, rfl, hp, eu, q F1 _ u e1 (ow_set o1 hj hr) (cl_dat hu)⟩)
/-- xs[i] = e -/
theorem sx_setL {a b : Expr} {tpos : Pos} {p : Addr} {ds : List PyData} {d : PyData} {j m : Nat} {z : Int} (he : EX X es os e (dat d) os1) (ho : EX X es os1 a (own p) os1) (hb : EX X es os1 b (dat (.int z)) os2) (hj : os2[j]? = some (p, ol ds)) (hz : ixN ds.length z = some m) (h : SX X es (os2.set j (p, ol (ds.set m d))) F0 rest D)
    (hs : swapsWithSole [.Subscript a b tpos] e pos.line X.env = pure false := by rfl) (hw : swappedStores [.Subscript a b tpos] e X.env = pure none := by rfl) (h1 : (assignEach [.Subscript a b tpos] X.env).map (·.2) = [assign (.Subscript a b tpos) X.env] := by rfl)
    (hsub : ∀ v, assign (.Subscript a b tpos) X.env v = (do
      let ov ← holding [v] (eval a X.env)
      let iv ← holding [v, ov] (eval b X.env)
      standAt tpos
      holding [v, ov, iv] (setItem ov iv v)
      release [v, ov, iv] []) := by intro _; rfl) : SX X es os F0 (.Assign [.Subscript a b tpos] e pos :: rest) D := fun F σ H s ow sl =>
  wps_cons (ws_of (ps_asg pe_u (pg_sub pe_u pe_u set_list hsub) hs hw h1) (he F σ H _ ow sl fun F1 H1 v e1 o1 c1 => ho F1 σ H1 _ o1 (sl.mono e1) fun F2 H2 w e2 o2 c2 => hb F2 σ H2 _ o2 (sl.mono (e1.trans e2)) fun F3 H3 u e3 o3 c3 => by
    obtain rfl : w = .ref p := c2.now
    obtain ⟨vs, hp, hv, _⟩ := ty_own (K := X.K) o3 hj
    refine ⟨p, vs, z, m, rfl, clv_int c3, hp, by rw [dqall_len hv]; exact hz, ?_⟩
    have e := (e1.trans e2).trans e3
    exact h F3 σ _ (s.trans e) (ow_set o3 hj (dqall_set ((c1.mono e2).mono e3).now m hv)) (sl.mono e)))
end
end Z
namespace Z
open PySem PySem.Spec PyProof.Rows L2
/-- one turn after another; none: it raises -/
def lp {α S : Type} (f : S → α → Option S) : List α → S → Option S
  | [], s => some s
  | x :: xs, s => (f s x).bind (lp f xs)
inductive Step (R S : Type) where
  | go (s : S) | brk (s : S) | ret (r : R)
/-- what follows a turn -/
def Step.aft {R S : Type} (k : S → Option (Sum R S)) : Step R S → Option (Sum R S)
  | .go s => k s
  | .brk s => some (.inr s)
  | .ret r => some (.inl r)
/-- .. that may be left: inl, what is handed back; inr, the state behind -/
def lpR {α R S : Type} (f : S → α → Option (Step R S)) : List α → S → Option (Sum R S)
  | [], s => some (.inr s)
  | x :: xs, s => (f s x).bind (Step.aft (lpR f xs))
/-- while, at most so many turns -/
def wh {R S : Type} (c : S → Option Bool) (f : S → Option (Step R S)) : Nat → S → Option (Sum R S)
  | 0, _ => none
  | n + 1, s => (c s).bind fun b => if b = true then (f s).bind (Step.aft (wh c f n)) else some (.inr s)
/-- a comprehension whose element may change the state -/
def lcS {α β S : Type} (f : S → α → Option (Option β × S)) : List α → S → Option (List β × S)
  | [], s => some ([], s)
  | x :: xs, s => (f s x).bind fun t => (lcS f xs t.2).bind fun u => some (t.1.toList ++ u.1, u.2)
def range' (a b : Int) : List Int := (List.range (b - a).toNat).map fun (i : Nat) => a + (i : Int)
section
variable {X : Cx} {es : List Slot} {os os1 os2 : Os} {F0 : Hp} {rest : List Stmt} {D : Ends} {N V G W : List Str} {k i vi gi : Nat} {x : Str} {p pos : Pos} {e e2 : Expr} {α : Type}
def WI (X : Cx) (tg iter : Expr) (σ : L2.St) (H : Hp) (R : It → Hp → Prop) : Prop := ∀ pins s, Inv X pins σ H s →
    wpAny (model X.prog X.w) X.A (eval iter X.env) (fun v s1 => wpAny (model X.prog X.w) X.A (pyIter v) (PIE X pins σ tg R) X.xe s1) X.xe s
theorem pi_u {tg iter : Expr} : PI X tg iter (WI X tg iter) := ⟨fun pins s _ _ _ I h => h pins s I⟩
theorem wi_of {tg iter : Expr} {w : TI} {σ : L2.St} {H : Hp} {R : It → Hp → Prop} (h : PI X tg iter w) (q : w σ H R) : WI X tg iter σ H R := fun pins s I => h.run pins s σ H R I q
/-- J yields the xs, as vp tells of each, from F on, while c holds of what is owned -/
def Good (J : It) (F : Hp) (xs : List α) (vp : α → VP) (c : Os → Prop) : Prop := ∀ F2 H2 os2 i, Same F F2 → Ow F2 os2 H2 → c os2 →
  (xs.length ≤ i → J.stop i H2) ∧ ∀ x, xs[i]? = some x → J.go i H2 ∧ ∀ v H3, J.yld i H2 v H3 → ∃ F3, Same F2 F3 ∧ Ow F3 os2 H3 ∧ Cl (vp x) F3 v
def IX (X : Cx) (tg : Expr) (es : List Slot) (os : Os) (iter : Expr) (xs : List α) (vp : α → VP) (c : Os → Prop) (os' : Os) : Prop := ∀ F σ H R, Ow F os H → Sl F es σ → (∀ F' H' J, Same F F' → Ow F' os' H' → Good J F' xs vp c → R J H') → WI X tg iter σ H R
def anyOs : Os → Prop := fun _ => True
theorem range_get {n i : Nat} {lo x : Int} (h : ((List.range n).map fun (i : Nat) => lo + (i : Int))[i]? = some x) : i < n ∧ x = lo + (i : Int) := by
  rw [List.getElem?_map] at h
  by_cases hi : i < n
  · rw [List.getElem?_range hi] at h
    exact ⟨hi, (Option.some.inj h).symm⟩
  · rw [List.getElem?_eq_none (by rw [List.length_range]; omega)] at h
    cases h
theorem good_range {F : Hp} {lo : Int} {n : Nat} : Good (Itr lo n) F ((List.range n).map fun (i : Nat) => lo + (i : Int)) (fun x => dat (.int x)) anyOs := fun F2 H2 os2 i s ow _ => by
  refine ⟨fun h => show n ≤ i by simpa using h, fun x hx => ?_⟩
  obtain ⟨h1, rfl⟩ := range_get hx
  refine ⟨h1, fun v H3 y => ?_⟩
  obtain ⟨rfl, rfl⟩ := y
  exact ⟨F2, Same.refl F2, ow, cl_dat (.int _)⟩
theorem ix_range1 {tg : Expr} {b : Int} (B : Bd X N W G k) (hj : G[gi]? = some "range") (hm : X.mg "range" = none) (hb : -(2 ^ 62) ≤ b ∧ b < 2 ^ 62) (ha : EX X es os e (dat (.int b)) os1) (hs : starEach [e] X.env = [(false, eval e X.env)] := by rfl) :
    IX X tg es os (.Call (.Name "range" p) [e] [] pos) (range' 0 b) (fun x => dat (.int x)) anyOs os1 := fun F σ H R ow sl q =>
  wi_of (pi_range1 (B.gl _ (List.mem_of_getElem? hj)).1 hm pa_u hs) (wa_of (pa_cons pe_u pa_nil hs) (ha F σ H _ ow sl fun F1 H1 v e1 o1 c1 => ⟨b, by rw [clv_int c1], hb.1, hb.2, q F1 H1 _ e1 o1 (by
    have := good_range (F := F1) (lo := 0) (n := b.toNat)
    unfold range'
    rw [Int.sub_zero]
    exact this)⟩))
theorem ix_range2 {tg : Expr} {a b : Int} (B : Bd X N W G k) (hj : G[gi]? = some "range") (hm : X.mg "range" = none) (hab : -(2 ^ 62) ≤ a ∧ a < 2 ^ 62 ∧ -(2 ^ 62) ≤ b ∧ b < 2 ^ 62) (ha : EX X es os e (dat (.int a)) os1) (hb : EX X es os1 e2 (dat (.int b)) os2)
    (hs : starEach [e, e2] X.env = [(false, eval e X.env), (false, eval e2 X.env)] := by rfl) (hs2 : starEach [e2] X.env = [(false, eval e2 X.env)] := by rfl) :
    IX X tg es os (.Call (.Name "range" p) [e, e2] [] pos) (range' a b) (fun x => dat (.int x)) anyOs os2 := fun F σ H R ow sl q =>
  wi_of (pi_range2 (B.gl _ (List.mem_of_getElem? hj)).1 hm pa_u hs hs2) (wa_of (pa_cons pe_u (pa_cons pe_u pa_nil hs2) (by rw [hs, hs2])) (ha F σ H _ ow sl fun F1 H1 v e1 o1 c1 => hb F1 σ H1 _ o1 (sl.mono e1) fun F2 H2 u e2 o2 c2 =>
    ⟨a, b, by rw [clv_int c1, clv_int c2], hab, q F2 H2 _ (e1.trans e2) o2 good_range⟩))
theorem dqall_map {F : Hp} {xs : List α} {enc : α → PyData} {vs : List L2.V} {i : Nat} {x : α} (h : DqAll F vs (xs.map enc)) (e : xs[i]? = some x) : ∃ v, vs[i]? = some v ∧ Dq F v (enc x) := dqall_get' h (by rw [List.getElem?_map, e]; rfl)
/-- a list (read as rl tells) -/
theorem ix_list {tg : Expr} {φ : VP} {xs : List α} {enc : α → PyData} {c : Os → Prop} (he : EX X es os e φ os1) (hc : ∀ o, c o → RdL X φ o (xs.map enc)) (h0 : c os1) : IX X tg es os e xs (fun x => dat (enc x)) c os1 := fun F σ H R ow sl q =>
  wi_of (pi_list pe_u) (he F σ H _ ow sl fun F1 H1 v e1 o1 c1 => by
    obtain ⟨a, vs, rfl, h1, h2⟩ := hc os1 h0 F1 H1 v o1 c1
    refine ⟨a, rfl, ⟨vs, h1⟩, q F1 H1 _ e1 o1 fun F2 H2 os2 i s ow2 k2 => ?_⟩
    obtain ⟨a', us, ea, g1, g2⟩ := hc os2 k2 F2 H2 _ ow2 (c1.mono s)
    cases ea
    have hl := dqall_len g2
    rw [List.length_map] at hl
    refine ⟨fun h => ⟨us, g1, by omega⟩, fun x hx => ?_⟩
    obtain ⟨u, hu, hd⟩ := dqall_map g2 hx
    refine ⟨⟨us, u, g1, hu⟩, fun w H3 y => ?_⟩
    obtain ⟨rfl, hy⟩ := y
    have ew : us[i]? = some w := hy us g1
    rw [hu] at ew
    cases ew
    exact ⟨F2, Same.refl F2, ow2, cl_dat hd⟩)
theorem ix_tup {tg : Expr} {φ : VP} {xs : List α} {enc : α → PyData} (he : EX X es os e φ os1) (hr : RdT φ (xs.map enc)) : IX X tg es os e xs (fun x => dat (enc x)) anyOs os1 := fun F σ H R ow sl q =>
  wi_of (pi_tup pe_u) (he F σ H _ ow sl fun F1 H1 v e1 o1 c1 => by
    obtain ⟨a, vs, rfl, h1, h2⟩ := hr F1 v c1
    refine ⟨a, rfl, ⟨vs, .of (o1.ex _ _ h1)⟩, q F1 H1 _ e1 o1 fun F2 H2 os2 i s ow2 k2 => ?_⟩
    have g1 := ow2.ex _ _ (s _ _ h1)
    have g2 := dqall_mono s _ _ h2
    have hl := dqall_len g2
    rw [List.length_map] at hl
    refine ⟨fun h => ⟨vs, .of g1, by omega⟩, fun x hx => ?_⟩
    obtain ⟨u, hu, hd⟩ := dqall_map g2 hx
    refine ⟨⟨vs, u, .of g1, hu⟩, fun w H3 y => ?_⟩
    obtain ⟨rfl, hy⟩ := y
    have ew : vs[i]? = some w := hy vs (.of g1)
    rw [hu] at ew
    cases ew
    exact ⟨F2, Same.refl F2, ow2, cl_dat hd⟩)
theorem drop_cons' {xs : List α} {i : Nat} {x : α} (h : xs[i]? = some x) : xs.drop i = x :: xs.drop (i + 1) := by
  obtain ⟨h1, h2⟩ := List.getElem?_eq_some_iff.mp h
  rw [List.drop_eq_getElem_cons h1, h2]
/-- what a turn is to reach -/
def LpD {R S γ : Type} (F0 : Hp) (ES : S → γ → List Slot) (OS : S → γ → Os) (RT : R → L2.V → Hp → Prop) (t : Step R S) : Ends where
  nx := fun σ H => ∃ s g, t = .go s ∧ At F0 (ES s g) (OS s g) σ H
  ct := fun σ H => ∃ s g, t = .go s ∧ At F0 (ES s g) (OS s g) σ H
  bk := fun σ H => ∃ s g, t = .brk s ∧ At F0 (ES s g) (OS s g) σ H
  rt := fun v H => ∃ r, t = .ret r ∧ RT r v H
/-- a loop that may be left. γ: what changes beside the mirror's state (addresses) -/
theorem sx_forR {R S γ : Type} {tg iter : Expr} {body : List Stmt} {xs : List α} {vp : α → VP} {c : Os → Prop} {up : α → List Slot → List Slot} {fpos : Pos} (f : S → α → Option (Step R S)) (ES : S → γ → List Slot) (OS : S → γ → Os) (RT : R → L2.V → Hp → Prop)
    (B : Bd X N W G k) (T : Bt X V) (hg : ∀ x, GX X tg (vp x) (up x)) (s0 : S) (g0 : γ) (o : Sum R S) (hl : lpR f xs s0 = some o) (hi : IX X tg es os iter xs vp c (OS s0 g0)) (h0 : Wk es (ES s0 g0)) (hc : ∀ s g, c (OS s g))
    (hb : ∀ F1, Same F0 F1 → ∀ s g x t, x ∈ xs → f s x = some t → SX X (up x (ES s g)) (OS s g) F1 body (LpD F1 ES OS RT t))
    (hn : ∀ s g, o = .inr s → SX X (ES s g) (OS s g) F0 rest D) (hr : ∀ r v H, o = .inl r → RT r v H → D.rt v H) (hs : ∀ x, foldedSetIterable iter X.env x = pure x := by intro _; rfl) : SX X es os F0 (.For tg iter body [] fpos :: rest) D := fun F σ H s ow sl => by
  refine wps_cons (ws_of (ps_for T.po B.calm pi_u pg_u pss_u hs) (hi F σ H _ ow sl fun F1 H1 J e1 o1 good => ?_))
  refine ⟨fun i m σ' H' => m = xs.length - i ∧ i ≤ xs.length ∧ ∃ s' g', lpR f (xs.drop i) s' = some o ∧ ∃ F', Same F1 F' ∧ Ow F' (OS s' g') H' ∧ Sl F' (ES s' g') σ', ⟨_, rfl, Nat.zero_le _, s0, g0, hl, F1, Same.refl F1, o1, (sl.mono e1).weak h0⟩, ?_⟩
  rintro i m σ' H' ⟨rfl, hi, s', g', hl', F', e', o', sl'⟩
  obtain ⟨stop, go⟩ := good F' H' (OS s' g') i e' o' (hc s' g')
  cases hx : xs[i]? with
  | none =>
    have hi2 : xs.length ≤ i := List.getElem?_eq_none_iff.mp hx
    refine .inl ⟨stop hi2, ?_⟩
    rw [List.drop_eq_nil_of_le hi2] at hl'
    cases hl'
    exact hn s' g' rfl F' σ' H' ((s.trans e1).trans e') o' sl'
  | some x =>
    obtain ⟨hgo, hy⟩ := go x hx
    have hlt : i < xs.length := (List.getElem?_eq_some_iff.mp hx).1
    rw [drop_cons' hx] at hl'
    cases hf : f s' x with
    | none =>
      unfold lpR at hl'
      rw [hf] at hl'
      cases hl'
    | some t =>
      unfold lpR at hl'
      rw [hf] at hl'
      have hl2 : Step.aft (lpR f (xs.drop (i + 1))) t = some o := hl'
      refine .inr ⟨hgo, fun σ2 H2 => ∃ s2 g2, t = .go s2 ∧ ∃ F2, Same F1 F2 ∧ Ow F2 (OS s2 g2) H2 ∧ Sl F2 (ES s2 g2) σ2, ?_, ?_⟩
      · rintro σ2 H2 ⟨s2, g2, rfl, F2, e2, o2, sl2⟩
        exact ⟨_, by omega, rfl, by omega, s2, g2, hl2, F2, e2, o2, sl2⟩
      · intro v H3 yv
        obtain ⟨F3, e3, o3, c3⟩ := hy v H3 yv
        refine hg x _ _ F3 σ' H3 v _ o3 (sl'.mono e3) c3 fun σ4 sl4 => ?_
        have key := hb F1 (s.trans e1) s' g' x t (List.mem_of_getElem? hx) hf
        have q3 : Same F1 F3 := e'.trans e3
        -- the body, from F3; its ends are at least as strong as is wanted
        intro pins sh I
        refine wpAny_mono (key F3 σ4 H3 q3 o3 sl4 pins sh I) (fun fl s5 z => ?_) fun _ _ z => z
        cases fl with
        | next =>
          obtain ⟨σ5, H5, J5, s5', g5, et, F5, e5, o5, sl5⟩ := z
          exact ⟨σ5, H5, J5, s5', g5, et, F5, e5, o5, sl5⟩
        | cont =>
          obtain ⟨σ5, H5, J5, s5', g5, et, F5, e5, o5, sl5⟩ := z
          exact ⟨σ5, H5, J5, s5', g5, et, F5, e5, o5, sl5⟩
        | brk =>
          obtain ⟨σ5, H5, J5, s5', g5, et, F5, e5, o5, sl5⟩ := z
          subst et
          cases hl2
          exact ⟨σ5, H5, J5, hn s5' g5 rfl F5 σ5 H5 ((s.trans e1).trans e5) o5 sl5⟩
        | ret u =>
          obtain ⟨w, σ5, H5, J5, rv, r, et, rr⟩ := z
          subst et
          cases hl2
          exact ⟨w, σ5, H5, J5, rv, hr r w H5 rfl rr⟩
end
end Z
namespace Z
open PySem PySem.Spec PyProof.Rows L2
theorem lp_lpR {α S : Type} (f : S → α → Option S) : ∀ (xs : List α) (s fin : S), lp f xs s = some fin → lpR (R := Empty) (fun s x => (f s x).map Step.go) xs s = some (.inr fin)
  | [], s, fin, h => by
    cases h
    rfl
  | x :: xs, s, fin, h => by
    unfold lp at h
    unfold lpR
    cases e : f s x with
    | none =>
      rw [e] at h
      cases h
    | some s' =>
      rw [e] at h
      exact lp_lpR f xs s' fin h
section
variable {X : Cx} {es : List Slot} {os os1 os2 : Os} {F0 : Hp} {rest : List Stmt} {D : Ends} {N V G W : List Str} {k i vi gi : Nat} {x : Str} {p pos : Pos} {e e2 : Expr} {α : Type}
/-- what a turn of a plain loop is to reach -/
def LgD {S γ : Type} (F0 : Hp) (ES : S → γ → List Slot) (OS : S → γ → Os) (s : S) : Ends where
  nx := fun σ H => ∃ g, At F0 (ES s g) (OS s g) σ H
  ct := fun σ H => ∃ g, At F0 (ES s g) (OS s g) σ H
  bk := fun _ _ => False
  rt := fun _ _ => False
theorem sx_for {S γ : Type} {tg iter : Expr} {body : List Stmt} {xs : List α} {vp : α → VP} {c : Os → Prop} {up : α → List Slot → List Slot} {fpos : Pos} (f : S → α → Option S) (ES : S → γ → List Slot) (OS : S → γ → Os)
    (B : Bd X N W G k) (T : Bt X V) (hg : ∀ x, GX X tg (vp x) (up x)) (s0 : S) (g0 : γ) (fin : S) (hl : lp f xs s0 = some fin) (hi : IX X tg es os iter xs vp c (OS s0 g0)) (h0 : Wk es (ES s0 g0)) (hc : ∀ s g, c (OS s g))
    (hb : ∀ F1, Same F0 F1 → ∀ s g x s', x ∈ xs → f s x = some s' → SX X (up x (ES s g)) (OS s g) F1 body (LgD F1 ES OS s'))
    (hn : ∀ g, SX X (ES fin g) (OS fin g) F0 rest D) (hs : ∀ x, foldedSetIterable iter X.env x = pure x := by intro _; rfl) : SX X es os F0 (.For tg iter body [] fpos :: rest) D := by
  refine sx_forR (R := Empty) (fun s x => (f s x).map Step.go) ES OS (fun _ _ _ => False) B T hg s0 g0 (.inr fin) (lp_lpR f xs s0 fin hl) hi h0 hc (fun F1 h1 s g x t hx ht => ?_) (fun s g e => ?_) (fun r _ _ _ z => z.elim) hs
  · cases e : f s x with
    | none =>
      rw [e] at ht
      cases ht
    | some s' =>
      rw [e] at ht
      cases ht
      intro F σ H a b c pins sh I
      refine wpAny_mono (hb F1 h1 s g x s' hx e F σ H a b c pins sh I) (fun fl s5 z => ?_) fun _ _ z => z
      cases fl with
      | next =>
        obtain ⟨σ5, H5, J5, g5, a5⟩ := z
        exact ⟨σ5, H5, J5, s', g5, rfl, a5⟩
      | cont =>
        obtain ⟨σ5, H5, J5, g5, a5⟩ := z
        exact ⟨σ5, H5, J5, s', g5, rfl, a5⟩
      | brk =>
        obtain ⟨σ5, H5, J5, z⟩ := z
        exact z.elim
      | ret u =>
        obtain ⟨w, σ5, H5, J5, rv, z⟩ := z
        exact z.elim
  · cases e
    exact hn g
theorem sx_while {R S γ : Type} {cd : Expr} {body : List Stmt} {fpos : Pos} (c : S → Option Bool) (f : S → Option (Step R S)) (ES : S → γ → List Slot) (OS : S → γ → Os) (RT : R → L2.V → Hp → Prop)
    (T : Bt X V) (n : Nat) (s0 : S) (g0 : γ) (o : Sum R S) (hl : wh c f n s0 = some o) (h0 : Wk es (ES s0 g0)) (ho : os = OS s0 g0)
    (hc : ∀ s g b, c s = some b → TX X (ES s g) (OS s g) cd b (OS s g))
    (hb : ∀ F1, Same F0 F1 → ∀ s g t, c s = some true → f s = some t → SX X (ES s g) (OS s g) F1 body (LpD F1 ES OS RT t))
    (hn : ∀ s g, o = .inr s → SX X (ES s g) (OS s g) F0 rest D) (hr : ∀ r v H, o = .inl r → RT r v H → D.rt v H) : SX X es os F0 (.While cd body [] fpos :: rest) D := fun F σ H s ow sl => by
  subst ho
  refine wps_cons (ws_of (ps_while T.po pt_u pss_u) ⟨fun m σ' H' => ∃ s' g', wh c f m s' = some o ∧ At F (ES s' g') (OS s' g') σ' H', ⟨n, s0, g0, hl, F, Same.refl F, ow, sl.weak h0⟩, ?_⟩)
  rintro m σ' H' ⟨s', g', hl', F', e', o', sl'⟩
  cases m with
  | zero => cases hl'
  | succ m =>
    unfold wh at hl'
    cases hcs : c s' with
    | none =>
      rw [hcs] at hl'
      cases hl'
    | some b =>
      rw [hcs] at hl'
      refine hc s' g' b hcs F' σ' H' _ o' sl' fun F1 H1 e1 o1 => ?_
      cases b with
      | false =>
        have hl2 : some (.inr s') = some o := hl'
        cases hl2
        rw [if_neg Bool.false_ne_true]
        exact hn s' g' rfl F1 σ' H1 ((s.trans e').trans e1) o1 (sl'.mono e1)
      | true =>
        have hl2 : (f s').bind (Step.aft (wh c f m)) = some o := hl'
        rw [if_pos rfl]
        cases hf : f s' with
        | none =>
          rw [hf] at hl2
          cases hl2
        | some t =>
          rw [hf] at hl2
          have hl3 : Step.aft (wh c f m) t = some o := hl2
          refine ⟨fun σ2 H2 => ∃ s2 g2, t = .go s2 ∧ At F (ES s2 g2) (OS s2 g2) σ2 H2, ?_, ?_⟩
          · rintro σ2 H2 ⟨s2, g2, rfl, a2⟩
            exact ⟨m, Nat.lt_succ_self m, s2, g2, hl3, a2⟩
          · intro pins sh I
            refine wpAny_mono (hb F s s' g' t hcs hf F1 σ' H1 (e'.trans e1) o1 (sl'.mono e1) pins sh I) (fun fl s5 z => ?_) fun _ _ z => z
            cases fl with
            | next => exact z
            | cont => exact z
            | brk =>
              obtain ⟨σ5, H5, J5, s5', g5, et, F5, e5, o5, sl5⟩ := z
              subst et
              cases hl3
              exact ⟨σ5, H5, J5, hn s5' g5 rfl F5 σ5 H5 (s.trans e5) o5 sl5⟩
            | ret u =>
              obtain ⟨w, σ5, H5, J5, rv, r, et, rr⟩ := z
              subst et
              cases hl3
              exact ⟨w, σ5, H5, J5, rv, hr r w H5 rfl rr⟩
theorem sl_wipe {F : Hp} {σ : L2.St} (h : Sl F es σ) : ∀ vs : List Nat, (∀ j ∈ vs, ∃ s, es[j]? = some s ∧ s = un) → Sl F es (wipe σ vs)
  | [], _ => h
  | v :: vs, hv => by
    have ih := sl_wipe h vs fun j hj => hv j (List.mem_cons_of_mem _ hj)
    obtain ⟨s, e, eu⟩ := hv v List.mem_cons_self
    subst eu
    have := ih.set (i := v) (s := un) (o := none) fun _ _ => trivial
    have e2 : es.set v un = es := by
      refine List.ext_getElem? fun j => ?_
      by_cases hj : v = j
      · subst hj
        rw [List.getElem?_set_self (List.getElem?_eq_some_iff.mp e).1, e]
      · rw [List.getElem?_set_ne hj]
    rw [e2] at this
    exact this
/-- the contexts in which the block of a comprehension runs -/
def Fam (X : Cx) (scope : Scope) (X' : Cx) : Prop := ∃ s H C cl fp, X' = X.blk s H scope (compEnvC scope cl C X.env) fp
/-- the tests of a comprehension: none, or one -/
inductive PTX (X : Cx) (es : List Slot) (os : Os) : List Expr → Bool → Os → Prop
  | nil : PTX X es os [] true os
  | one {c : Expr} {b : Bool} {os' : Os} : TX X es os c b os' → PTX X es os [c] b os'
def tIfs (X : Cx) (scope : Scope) (ifs : List Expr) : TT := fun σ H Q => match ifs with
  | [] => Q true H
  | [c] => ∀ X', Fam X scope X' → WT X' c σ H Q
  | _ => False
theorem pts_u {scope : Scope} {X' : Cx} (hf : Fam X scope X') : ∀ ifs : List Expr, PTs X' ifs (tIfs X scope ifs)
  | [] => pts_nil
  | [c] => pts_one ⟨fun pins s _ _ _ I h => h X' hf pins s I⟩
  | _ :: _ :: _ => ⟨fun _ _ _ _ _ _ h => h.elim⟩
def tElt (X : Cx) (scope : Scope) (e : Expr) : TE := fun σ H Q => ∀ X', Fam X scope X' → WE X' e σ H Q
theorem pe_elt {scope : Scope} {X' : Cx} (hf : Fam X scope X') : PE X' e (tElt X scope e) := ⟨fun pins s _ _ _ I h => h X' hf pins s I⟩
/-- the own names of a comprehension may be stored -/
def ownB (scope sc : Scope) (x : Str) : Bool := match (relS scope sc).names.lookup x with
  | some .local => true
  | some .cell => scope.names.lookup x == some .cell
  | _ => false
theorem pg_own {scope : Scope} {X' : Cx} {j : Nat} {y : Str} {tpos : Pos} (hf : Fam X scope X') (B : Bd X N W G k) (hj : N[j]? = some y) (ho : ownB scope X.env.scope y = true) : PG X' (.Name y tpos) (gName j) := by
  obtain ⟨s, H, C, cl, fp, rfl⟩ := hf
  unfold ownB at ho
  have e : (X.blk s H scope (compEnvC scope cl C X.env) fp).env.scope = relS scope X.env.scope := rfl
  split at ho
  · rename_i hl
    exact pg_name (B.hN ▸ B.nd) (B.hN ▸ hj) (.inl (by rw [e]; exact hl)) (.inr (by rw [e]; exact hl))
  · rename_i hl
    exact pg_name (B.hN ▸ B.nd) (B.hN ▸ hj) (.inr (by rw [e]; exact hl)) (.inl ho)
  · cases ho
/-- the state of a comprehension: the list so far, what is still to come -/
def LcS {S β : Type} (f : S → α → Option (Option β × S)) (OS : S → Os → Os) (enc : β → PyData) (xs : List α) (ys : List β) (sf : S) (os0 : Os) (Dl : Addr) (F1 : Hp) (i : Nat) (H : Hp) : Prop :=
  ∃ s d r F, lcS f (xs.drop i) s = some (r, sf) ∧ ys = d ++ r ∧ d.length ≤ i ∧ Same F1 F ∧ Ow F (OS s ((Dl, ol (d.map enc)) :: os0)) H
theorem lc_elt {S β : Type} {elt : Expr} {scope : Scope} {xs : List α} {enc : β → PyData} {f : S → α → Option (Option β × S)} {OS : S → Os → Os} {ys : List β} {sf : S} {os0 : Os} {Dl : Addr} {F1 F4 : Hp} {i : Nat} {up : List Slot} {t : Option β × S} {d r : List β} {σ : L2.St} {H4 : Hp} {os1 : Os}
    (hperm : ∀ s q tl, (OS s (q :: tl)).Perm (q :: OS s tl)) (hi : i < xs.length) (hz : xs.length < sizeLine) (hd : d.length ≤ i) (hr : ((lcS f (xs.drop (i + 1)) t.2).bind fun u => some (t.1.toList ++ u.1, u.2)) = some (r, sf)) (hy : ys = d ++ r)
    (e4 : Same F1 F4) (o4 : Ow F4 os1 H4) (sl : Sl F4 up σ) (key : ∀ X', Fam X scope X' → ∃ y, t.1 = some y ∧ EX X' up os1 elt (dat (enc y)) (OS t.2 ((Dl, ol (d.map enc)) :: os0))) :
    tElt X scope elt σ H4 fun y H5 => ∃ acc, H5 Dl = some (.lst acc) ∧ acc.length < sizeLine ∧ LcS f OS enc xs ys sf os0 Dl F1 (i + 1) (upd H5 Dl (.lst (acc ++ [y]))) := by
  intro X' hX'
  obtain ⟨y, hy1, he⟩ := key X' hX'
  refine he F4 σ H4 _ o4 sl fun F5 H5 v e5 o5 c5 => ?_
  have o6 := o5.perm (hperm t.2 _ os0)
  obtain ⟨_, vs, hu, hv⟩ := o6.atL
  have hl := dqall_len hv
  rw [List.length_map] at hl
  refine ⟨vs, hu, by omega, ?_⟩
  cases hu2 : lcS f (xs.drop (i + 1)) t.2 with
  | none =>
    rw [hu2] at hr
    cases hr
  | some w =>
    rw [hu2, hy1] at hr
    have hr2 : (y :: w.1, w.2) = (r, sf) := Option.some.inj hr
    obtain ⟨rfl, rfl⟩ := Prod.mk.inj hr2
    refine ⟨t.2, d ++ [y], w.1, F5, by rw [hu2], by rw [hy, List.append_assoc]; rfl, by rw [List.length_append, List.length_singleton]; omega, e4.trans e5, ?_⟩
    refine (o6.putL (ds' := (d ++ [y]).map enc) ?_).perm (hperm t.2 _ os0).symm
    rw [List.map_append]
    exact dqall_app hv (.cons c5.now .nil)
theorem lc_read {S β : Type} {elt iter tg : Expr} {ifs : List Expr} {scope : Scope} {vs : List Nat} {xs : List α} {vp : α → VP} {c : Os → Prop} {g : TG} {up : α → List Slot → List Slot} {enc : β → PyData} {f : S → α → Option (Option β × S)} {OS : S → Os → Os}
    {s0 : S} {os0 : Os} {ys : List β} {sf : S} (hv : ∀ j ∈ vs, es[j]? = some un) (hid : ∀ σ : L2.St, wipe (wipe σ vs) vs = wipe σ vs)
    (hg : ∀ x F σ H v Q os2, Sl F es σ → wipe σ vs = σ → Ow F os2 H → Cl (vp x) F v → (∀ σ', Sl F (up x es) σ' → wipe σ' vs = σ → Q σ' H) → g v σ H Q)
    (hif : ifs.length ≤ 1) (hl : lcS f xs s0 = some (ys, sf)) (hz : xs.length < sizeLine) (hi : IX X tg es os iter xs vp c (OS s0 os0)) (hc : ∀ s tl, c (OS s tl)) (hperm : ∀ s q tl, (OS s (q :: tl)).Perm (q :: OS s tl))
    (hb : ∀ s x t tl, x ∈ xs → f s x = some t → ∃ b os1, ∀ X', Fam X scope X' → PTX X' (up x es) (OS s tl) ifs b os1 ∧ (b = true → ∃ y, t.1 = some y ∧ EX X' (up x es) os1 elt (dat (enc y)) (OS t.2 tl)) ∧ (b = false → t.1 = none ∧ os1 = OS t.2 tl))
    {F σ H Q} (ow : Ow F os H) (sl : Sl F es σ) (q : ∀ F' H' p, Same F F' → Ow F' ((p, ol (ys.map enc)) :: OS sf os0) H' → Q (.ref p) H') : tLc (WI X tg iter) g (tIfs X scope ifs) (tElt X scope elt) vs σ H Q := by
  refine hi F σ H _ ow sl fun F1 H1 J e1 o1 good Dl hD => ?_
  refine ⟨fun i m H => m = xs.length - i ∧ i ≤ xs.length ∧ LcS f OS enc xs ys sf os0 Dl F1 i H, ⟨_, rfl, Nat.zero_le _, s0, [], ys, F1, hl, rfl, Nat.le_refl _, Same.refl F1, ?_⟩, ?_⟩
  · exact (o1.new hD fun G g => ⟨[], rfl, .nil⟩).perm (hperm s0 _ os0).symm
  · rintro i m H' ⟨rfl, hi, s, d, r, F', hr, hy, hdl, e', o'⟩
    obtain ⟨stop, go⟩ := good F' H' _ i e' o' (hc s _)
    cases hx : xs[i]? with
    | none =>
      have hi2 : xs.length ≤ i := List.getElem?_eq_none_iff.mp hx
      rw [List.drop_eq_nil_of_le hi2] at hr
      cases hr
      refine .inl ⟨stop hi2, q F' H' Dl (e1.trans e') ?_⟩
      rw [hy, List.append_nil]
      exact o'.perm (hperm _ _ os0)
    | some x =>
      obtain ⟨hgo, hyl⟩ := go x hx
      have hlt : i < xs.length := (List.getElem?_eq_some_iff.mp hx).1
      rw [drop_cons' hx] at hr
      unfold lcS at hr
      cases hf : f s x with
      | none =>
        rw [hf] at hr
        cases hr
      | some t =>
        rw [hf] at hr
        have hr : ((lcS f (xs.drop (i + 1)) t.2).bind fun u => some (t.1.toList ++ u.1, u.2)) = some (r, sf) := hr
        refine .inr ⟨hgo, LcS f OS enc xs ys sf os0 Dl F1 (i + 1), fun H2 hH2 => ⟨_, by omega, rfl, by omega, hH2⟩, fun v H3 yv => ?_⟩
        obtain ⟨F3, e3, o3, c3⟩ := hyl v H3 yv
        have slw : Sl F3 es (wipe σ vs) := sl_wipe (sl.mono ((e1.trans e').trans e3)) vs fun j hj => ⟨un, hv j hj, rfl⟩
        refine hg x F3 (wipe σ vs) H3 v _ _ slw (hid σ) o3 c3 fun σ' sl' hw => ⟨hw, ?_⟩
        obtain ⟨b, os1, key⟩ := hb s x t ((Dl, ol (d.map enc)) :: os0) (List.mem_of_getElem? hx) hf
        have e4 := e'.trans e3
        match ifs, hif, key with
        | [], _, key =>
          refine lc_elt hperm hlt hz hdl hr hy e4 o3 sl' fun X' hX' => ?_
          obtain ⟨k1, k2, _⟩ := key X' hX'
          cases k1
          exact k2 rfl
        | [cd], _, key =>
          intro X' hX'
          obtain ⟨k1, k2, k3⟩ := key X' hX'
          cases k1 with
          | one ht =>
            refine ht F3 σ' H3 _ o3 sl' fun F4 H4 e5 o4 => ?_
            cases b with
            | true =>
              rw [if_pos rfl]
              exact lc_elt hperm hlt hz hdl hr hy (e4.trans e5) o4 (sl'.mono e5) fun X'' hX'' => (key X'' hX'').2.1 rfl
            | false =>
              rw [if_neg Bool.false_ne_true]
              obtain ⟨k4, rfl⟩ := k3 rfl
              cases hu2 : lcS f (xs.drop (i + 1)) t.2 with
              | none =>
                rw [hu2] at hr
                cases hr
              | some w =>
                rw [hu2, k4] at hr
                have hr2 : (w.1, w.2) = (r, sf) := Option.some.inj hr
                obtain ⟨rfl, rfl⟩ := Prod.mk.inj hr2
                exact ⟨t.2, d, w.1, F4, by rw [hu2], hy, by omega, e4.trans e5, o4⟩
        | _ :: _ :: _, hif, key =>
          rw [List.length_cons, List.length_cons] at hif
          omega
/-- all that a comprehension asks -/
structure LcOk (X : Cx) (es : List Slot) (os : Os) {α S β : Type} (tg iter elt : Expr) (ifs : List Expr) (scope : Scope) (own : List (Str × Nat)) (xs : List α) (vp : α → VP) (c : Os → Prop) (g : TG) (up : α → List Slot → List Slot) (enc : β → PyData)
    (f : S → α → Option (Option β × S)) (OS : S → Os → Os) (s0 : S) (os0 : Os) (ys : List β) (sf : S) : Prop where
  calm : X.calm = true
  nd : X.N.Nodup
  ok : BlkOk X.N X.env.scope scope own
  pg : ∀ X', Fam X scope X' → PG X' tg g
  hv : ∀ j ∈ own.map (·.2), es[j]? = some un
  hid : ∀ σ : L2.St, wipe (wipe σ (own.map (·.2))) (own.map (·.2)) = wipe σ (own.map (·.2))
  hg : ∀ x F σ H v Q os2, Sl F es σ → wipe σ (own.map (·.2)) = σ → Ow F os2 H → Cl (vp x) F v → (∀ σ', Sl F (up x es) σ' → wipe σ' (own.map (·.2)) = σ → Q σ' H) → g v σ H Q
  hif : ifs.length ≤ 1
  hl : lcS f xs s0 = some (ys, sf)
  hz : xs.length < sizeLine
  hi : IX X tg es os iter xs vp c (OS s0 os0)
  hc : ∀ s tl, c (OS s tl)
  hperm : ∀ s q tl, (OS s (q :: tl)).Perm (q :: OS s tl)
  hb : ∀ s x t tl, x ∈ xs → f s x = some t → ∃ b os1, ∀ X', Fam X scope X' → PTX X' (up x es) (OS s tl) ifs b os1 ∧ (b = true → ∃ y, t.1 = some y ∧ EX X' (up x es) os1 elt (dat (enc y)) (OS t.2 tl)) ∧ (b = false → t.1 = none ∧ os1 = OS t.2 tl)
section
variable {α S β : Type} {tg iter elt : Expr} {ifs : List Expr} {scope : Scope} {own : List (Str × Nat)} {xs : List α} {vp : α → VP} {c : Os → Prop} {g : TG} {up : α → List Slot → List Slot} {enc : β → PyData}
    {f : S → α → Option (Option β × S)} {OS : S → Os → Os} {s0 : S} {os0 : Os} {ys : List β} {sf : S}
theorem en_lc (h : LcOk X es os tg iter elt ifs scope own xs vp c g up enc f OS s0 os0 ys sf) (hs : ∀ x, foldedSetIterable iter X.env x = pure x := by intro _; rfl) : EN X es os (.ListComp elt [⟨tg, iter, ifs, 0⟩] scope pos) (ol (ys.map enc)) (OS sf os0) := fun F σ H Q ow sl q =>
  we_of (pe_lc h.calm h.nd pi_u h.ok (fun s H C cl fp => h.pg _ ⟨s, H, C, cl, fp, rfl⟩) (fun s H C cl fp => pts_u ⟨s, H, C, cl, fp, rfl⟩ ifs) (fun s H C cl fp => pe_elt ⟨s, H, C, cl, fp, rfl⟩) hs)
    (lc_read h.hv h.hid h.hg h.hif h.hl h.hz h.hi h.hc h.hperm h.hb ow sl q)
theorem sx_asgLc {y : Str} {py spos : Pos} (B : Bd X N W G k) (T : Bt X V) (hi : N[i]? = some y) (hyl : X.env.scope.names.lookup y = some .local) (h : LcOk X es os tg iter elt ifs scope own xs vp c g up enc f OS s0 os0 ys sf)
    (hsw : swapsWith (.ListComp elt [⟨tg, iter, ifs, 0⟩] scope pos) (some (.Name y py)) spos.line X.env = pure true)
    (hn : ∀ p, SX X (es.set i (sl (Z.own p))) ((p, ol (ys.map enc)) :: OS sf os0) F0 rest D) (hs : ∀ x, foldedSetIterable iter X.env x = pure x := by intro _; rfl) : SX X es os F0 (.Assign [.Name y py] (.ListComp elt [⟨tg, iter, ifs, 0⟩] scope pos) spos :: rest) D := fun F σ H s ow sl =>
  wps_cons (ws_of (ps_setLc h.calm h.nd (B.hN ▸ hi) hyl hsw pi_u h.ok (fun s H C cl fp => h.pg _ ⟨s, H, C, cl, fp, rfl⟩) (fun s H C cl fp => pts_u ⟨s, H, C, cl, fp, rfl⟩ ifs) (fun s H C cl fp => pe_elt ⟨s, H, C, cl, fp, rfl⟩) hs)
    (lc_read (Q := fun v H1 => gName i v σ H1 (WPs X rest D)) h.hv h.hid h.hg h.hif h.hl h.hz h.hi h.hc h.hperm h.hb ow sl fun F1 H1 p e1 o1 => hn p F1 _ H1 (s.trans e1) o1 ((sl.mono e1).put cl_own)))
end
/-- the target is one name -/
theorem lc_gname {α : Type} {vp : α → VP} {j : Nat} (x : α) (F : Hp) (σ : L2.St) (H : Hp) (v : L2.V) (Q : L2.St → Hp → Prop) (os2 : Os) (sl : Sl F es σ) (hw : wipe σ [j] = σ) (ow : Ow F os2 H) (c : Cl (vp x) F v) (q : ∀ σ', Sl F (es.set j (Z.sl (vp x))) σ' → wipe σ' [j] = σ → Q σ' H) : gName j v σ H Q := by
  refine q _ (sl.put c) ?_
  show (σ.set j (some v)).set j none = σ
  rw [List.set_set]
  exact hw
theorem lc_id1 {j : Nat} (σ : L2.St) : wipe (wipe σ [j]) [j] = wipe σ [j] := by
  show (σ.set j none).set j none = σ.set j none
  rw [List.set_set]
/-- a body's facts hold in a comprehension's block -/
theorem Bd.fam {scope : Scope} {X' : Cx} {W' G' : List Str} (B : Bd X N W G k) (hf : Fam X scope X') (h : namB (relS scope X.env.scope) W' G' = true) : Bd X' N W' G' k := by
  obtain ⟨s, H, C, cl, fp, rfl⟩ := hf
  exact ⟨B.hN, B.nd, B.calm, B.gd, B.room, nam_vis h, nam_gl h⟩
end
end Z
namespace Z
open PySem PySem.Spec PyProof.Rows L2
section
variable {P : Program} {w : World} {K : PySem.W.Frag} {mg : Str → Option Value} {base : Heap}
theorem pass_nox {N : List Str} {qual : Str} {sc : Scope} {f : Addr} {cdv : Value} {A : Around} {outer : List Env} {s : Shared} {H : Hp} {E : XK} {sts : List Stmt} {D : Ends} {σ : L2.St} {H' : Hp}
    (h : WPs (cxOf CX0 P w K mg base N qual sc f cdv A outer s H E).nox sts D σ H') : WPs (cxOf CX0 P w K mg base N qual sc f cdv A outer s H E) sts D σ H' :=
  wps_of (PSs.nox (pss_u (X := (cxOf CX0 P w K mg base N qual sc f cdv A outer s H E).nox))) h
theorem cla_start {F : Hp} : ∀ {φs : List VP} {vs : List L2.V} (n : Nat), ClA φs F vs → Sl F (φs.map sl ++ List.replicate n un) (vs.map some ++ List.replicate n none)
  | [], _, n, h => by
    have e : _ = [] := h
    subst e
    refine ⟨by simp, fun i t q => ?_⟩
    have q' : (List.replicate n un)[i]? = some t := q
    rw [List.getElem?_replicate] at q'
    split at q'
    · rename_i hi
      cases q'
      refine ⟨none, ?_, fun _ _ => trivial⟩
      show (List.replicate n none)[i]? = some none
      rw [List.getElem?_replicate, if_pos hi]
    · cases q'
  | φ :: φs, _, n, ⟨v, r, e, h1, h2⟩ => by
    subst e
    have ih := cla_start n h2
    refine ⟨by simpa using ih.len, fun i t q => ?_⟩
    cases i with
    | zero =>
      have q' : some (sl φ) = some t := q
      cases q'
      exact ⟨some v, rfl, fun G g => ⟨v, rfl, h1 G g⟩⟩
    | succ i => exact ih.get i t q
/-- how a body hands back what a promise tells -/
structure RetZ (F0 : Hp) (os : Os) (φ : VP) (D : Ends) : Prop where
  rt : ∀ F H v, Same F0 F → Ow F os H → Cl φ F v → D.rt v H
  nx : ∀ σ H, D.rt .non H → D.nx σ H
structure RetN (F0 : Hp) (os : Os) (n : Ent) (D : Ends) : Prop where
  rt : ∀ F H p, Same F0 F → Ow F ((p, n) :: os) H → D.rt (.ref p) H
variable {α β : Type} {ps : α → List VP} {pre : α → Os} {m : α → Option β} {res : α → β → VP} {post : α → β → Os} {n : α → β → Ent} {x : Str} {st : Stmt} {f : Addr} {fd : FuncData} {N V Gs pn : List Str} {k nl : Nat}
theorem cal_Z (Fn : Fun K x x st f fd) (S : FnScope N pn (defScope st)) (nam : namB (defScope st) V Gs = true) (loc : V.all (locB (defScope st)) = true) (hmg : mg x = some (.ref f)) (hb : Binds K fd pn []) (hps : ∀ a, (ps a).length = pn.length) (hN : N.length = pn.length + nl)
    (body : ∀ (f : Addr) (cdv : Value) (A : Around) (outer : List Env) (s : Shared) (H : Hp) (E : XK) (a : α) (b : β) (F0 : Hp) (os : Os) (D : Ends), Bd (cxOf CX0 P w K mg base N x (defScope st) f cdv A outer s H E).nox N V Gs k → Bt (cxOf CX0 P w K mg base N x (defScope st) f cdv A outer s H E).nox V →
      m a = some b → RetZ F0 (post a b ++ os) (res a b) D → SX (cxOf CX0 P w K mg base N x (defScope st) f cdv A outer s H E).nox ((ps a).map sl ++ List.replicate nl un) (pre a ++ os) F0 (defBody st) D) : Cal P w K mg base (k + 1) x st pn (spZ ps pre m res post) := by
  refine ⟨f, fd, Fn, fun_ok Fn S (spZ_len hps) ?_, hmg, hb⟩
  rintro cdv A outer s H vs Q E hg hr ⟨a, b, F, os, c, ow, hm, q⟩
  refine pass_nox ?_
  have hl := (cla_len c).trans (hps a)
  have hst : L2.start N vs = vs.map some ++ List.replicate nl none := by
    unfold L2.start
    rw [hl, hN, Nat.add_sub_cancel_left]
  rw [hst]
  refine body f cdv A outer s H E a b F os _ ⟨rfl, S.nd, rfl, hg, hr, nam_vis nam, nam_gl nam⟩ ⟨fun _ => rfl, fun y hy => loc_of (List.all_eq_true.mp loc y hy), PassesOwn.never⟩ hm ⟨fun F' H' v e o c => q F' H' v e o c, fun _ _ z => z⟩ F _ H (Same.refl F) ow (cla_start nl c)
theorem cal_N (Fn : Fun K x x st f fd) (S : FnScope N pn (defScope st)) (nam : namB (defScope st) V Gs = true) (loc : V.all (locB (defScope st)) = true) (hmg : mg x = some (.ref f)) (hb : Binds K fd pn []) (hps : ∀ a, (ps a).length = pn.length) (hN : N.length = pn.length + nl)
    (body : ∀ (f : Addr) (cdv : Value) (A : Around) (outer : List Env) (s : Shared) (H : Hp) (E : XK) (a : α) (b : β) (F0 : Hp) (os : Os) (D : Ends), Bd (cxOf CX0 P w K mg base N x (defScope st) f cdv A outer s H E).nox N V Gs k → Bt (cxOf CX0 P w K mg base N x (defScope st) f cdv A outer s H E).nox V →
      m a = some b → RetN F0 (post a b ++ os) (n a b) D → SX (cxOf CX0 P w K mg base N x (defScope st) f cdv A outer s H E).nox ((ps a).map sl ++ List.replicate nl un) (pre a ++ os) F0 (defBody st) D) : Cal P w K mg base (k + 1) x st pn (spN ps pre m n post) := by
  refine ⟨f, fd, Fn, fun_ok Fn S (spN_len hps) ?_, hmg, hb⟩
  rintro cdv A outer s H vs Q E hg hr ⟨a, b, F, os, c, ow, hm, q⟩
  refine pass_nox ?_
  have hl := (cla_len c).trans (hps a)
  have hst : L2.start N vs = vs.map some ++ List.replicate nl none := by
    unfold L2.start
    rw [hl, hN, Nat.add_sub_cancel_left]
  rw [hst]
  refine body f cdv A outer s H E a b F os _ ⟨rfl, S.nd, rfl, hg, hr, nam_vis nam, nam_gl nam⟩ ⟨fun _ => rfl, fun y hy => loc_of (List.all_eq_true.mp loc y hy), PassesOwn.never⟩ hm ⟨fun F' H' p e o => q F' H' p e o⟩ F _ H (Same.refl F) ow (cla_start nl c)
end
/-- the law's call keeps a promise -/
def LawSp (K : PySem.W.Frag) (m : List Int → Option Bool) : Sp := spZ (fun ns => [scr K ns]) (fun _ => []) m (fun _ b => dat (.bool b)) (fun _ _ => [])
theorem law_run {P : Program} {w : World} {K : PySem.W.Frag} {mg mb : Str → Option Value} {k : Nat} {fa a : Addr} {fd : FuncData} {x : Str} {sp : Sp} {s1 : Shared} {vs : List Value} {ns : List Int}
    (KX : K.In s1.heap) (hns : s1.heap.Ns mainGlobals mg) (hb : s1.heap.Ns builtinsNs mb) (hbb : ∀ x : Str, x ≠ "__name__" → mb x = bootBuiltins x) (hlim : s1.heap.NoLimit) (hg : s1.gens = #[])
    (ha : s1.heap.get? a = some { cls := .type "list", data := .seq vs.toArray }) (hi : IntsAre vs ns) (hl : ns.length ≤ sizeLine) (hr : Room k callerA)
    (F : ∀ base : Heap, K.In base → base.Ns mainGlobals mg → FnG P w K mg base CX0 k fa fd [x] sp) (hbind : ∀ (s : Shared) (u : Value), BindsTo s fd ⟨[u], []⟩ [(x, u)])
    (hsp : ∀ H : Hp, Only H → SqL K H a (ns.map V.int) → sp [.ref a] H (fun v _ => v = .bl true) E0) :
    codeAny (model P w) callerA (.call (.ref fa) ⟨[.ref a], []⟩) (fun r s' => r = .ok (.ret (.bool true)) ∧ OldK s1.heap s'.heap ∧ s'.os = s1.os ∧ AllBare s'.gens) s1 := by
  have rv := vals_ints hi
  have step : ∀ H : Hp, Only H → SqL K H a (ns.map V.int) → HOk P w H s1.heap → (∀ b, H b ≠ none → b = a) → (H a ≠ none → K.lookup a = none) →
      codeAny (model P w) callerA (.call (.ref fa) ⟨[.ref a], []⟩) (fun r s' => r = .ok (.ret (.bool true)) ∧ OldK s1.heap s'.heap ∧ s'.os = s1.os ∧ AllBare s'.gens) s1 := by
    intro H only seq hok single lone
    have nsH : ∀ {b : Addr} {m : Str → Option Value}, s1.heap.Ns b m → (hidT s1.heap H).Ns b m := by
      rintro b m ⟨o, es, ep, e, d, r⟩
      refine ⟨o, es, ep, hidT_get e ?_, d, r⟩
      cases q : H b with
      | none => rfl
      | some u =>
        obtain rfl : b = a := single b (by rw [q]; simp)
        rw [ha] at e
        cases e
        have d' : Data.seq vs.toArray _ = Data.dict es ep := d
        cases d'
    have kin : K.In (hidT s1.heap H) := by
      intro b o e
      refine hidT_get (KX b o e) ?_
      cases q : H b with
      | none => rfl
      | some u =>
        obtain rfl : b = a := single b (by rw [q]; simp)
        have := lone (by rw [q]; simp)
        rw [this] at e
        cases e
    obtain ⟨mc, lim1, lim2⟩ := hlim
    have e0 : Env0 P w K mg (hidT s1.heap H) callerA [] s1 H :=
      { frames := rfl
        mod := ⟨kin, nsH hns, ⟨mb, nsH hb, hbb⟩, ⟨mc, nsH lim1, lim2⟩⟩
        bs := fun b o e => of_hidT e
        bsz := Nat.le_of_eq (hidT_size _ _)
        funs := trivial
        frf := fun b hb => nomatch (show b ∈ ([] : List Addr) from hb)
        hok := hok
        bare := .of_eq hg }
    refine codeAny_mono ((F _ kin (nsH hns)).run callerA [] s1 H ⟨[.ref a], []⟩ [.ref a] [.ref a] _ _ rfl hr e0 (hbind s1 (.ref a)) (.cons rfl .nil) (hsp H only seq)) ?_
    intro r s' h
    cases r with
    | error e => exact h.elim
    | ok fl =>
      cases fl with
      | next => exact h.elim
      | brk => exact h.elim
      | cont => exact h.elim
      | ret u =>
        obtain ⟨v, H', os, bare, un, hok', r', q⟩ := h
        obtain rfl : v = .bl true := q
        obtain rfl : u = Value.bool true := r'
        refine ⟨rfl, OldK.of_keep ?_, os, bare⟩
        intro b o e
        cases q : H b with
        | none => exact un.keep b o e q (fun z => nomatch (show b ∈ ([] : List Addr) from z)) (fun z => nomatch z)
        | some u =>
          rcases only b with z | ⟨ob, xs, z⟩
          · rw [q] at z
            cases z
          · obtain ⟨e1, _⟩ := hok b _ z
            obtain ⟨e2, _⟩ := hok' b _ (un.frzs b ob _ z)
            rw [e] at e1
            cases e1
            exact e2
  cases hk : K.lookup a with
  | some o =>
    have e := KX a o hk
    rw [ha] at e
    cases e
    exact step (fun _ => none) (fun _ => .inl rfl) (.inr ⟨_, vs.toArray, _, hk, rfl, rfl, rfl, by rw [List.size_toArray, hi.length]; exact hl, by simpa using rv⟩) (fun b u z => nomatch z) (fun b z => absurd rfl z) fun z => absurd rfl z
  | none =>
    let Hs : Hp := fun b => if b = a then some (.frz { cls := .type "list", data := .seq vs.toArray } (.lst (ns.map V.int))) else none
    have at_ : Hs a = some (.frz { cls := .type "list", data := .seq vs.toArray } (.lst (ns.map V.int))) := if_pos rfl
    have off : ∀ b, b ≠ a → Hs b = none := fun b h => if_neg h
    refine step Hs (fun b => ?_) (.inl (.inr ⟨_, at_⟩)) (fun b u z => ?_) (fun b z => Classical.byContradiction fun h => z (off b h)) fun _ => hk
    · by_cases h : b = a
      · exact .inr ⟨_, _, h ▸ at_⟩
      · exact .inl (off b h)
    · by_cases h : b = a
      · subst h
        rw [at_] at z
        cases z
        exact ⟨ha, by rw [List.length_map]; exact hl, vs, _, rv, ha⟩
      · rw [off b h] at z
        cases z
theorem law_sp {K : PySem.W.Frag} {m : List Int → Option Bool} {H : Hp} {a : Addr} {ns : List Int} (hm : m ns = some true) (hS : SqL K H a (ns.map V.int)) : LawSp K m [.ref a] H (fun v _ => v = .bl true) E0 :=
  ⟨ns, true, H, [], ⟨_, [], rfl, fun G g => ⟨a, rfl, g.seq hS⟩, rfl⟩, ⟨Same.refl H, [], .nil, (fun _ z => nomatch z), .nil⟩, hm, fun F' H' v _ _ c => clv_bool c⟩
/-- the goal that k_head leaves -/
theorem walk_ofG {l : PySem.W.OpenLaw} {n k : Nat} {q : Program} {loose : List Str} {XP : (Str → Option Value) → Heap → Prop} {YP : World → Heap → Prop} {d : DefRec} {K : Params → PySem.W.Frag} {m : List Int → Option Bool} {x : Str}
    (hn : l.most = some n) (hn2 : n ≤ sizeLine) (hdf : d.params.defaults = []) (hr : Room k callerA) (hY : ∀ (w : World) (h : Heap), YP w h → (K w.params).In h)
    (F : ∀ (w : World) (mg : Str → Option Value) (fa : Addr) (h : Heap), (K w.params).In h → h.Ns mainGlobals mg → mg d.name = some (.ref fa) →
      ∃ fd : FuncData, (∀ (s : Shared) (u : Value), BindsTo s fd ⟨[u], []⟩ [(x, u)]) ∧ ∀ base : Heap, (K w.params).In base → base.Ns mainGlobals mg → FnG l.prog w (K w.params) mg base CX0 k fa fd [x] (LawSp (K w.params) m))
    (hm : ∀ ns : List Int, ns.length ≤ n → m ns = some true) : PySem.W.WalkO q loose XP YP l.row.toRowW d [] (fun f vs => PySem.call f vs) := by
  refine Att.attach_call hn hdf ?_
  intro w s0 s1 mg mb fa o pm cd doc a vs ns G Y ho hd hcd hmg hobj hints hlen hg
  have KX := hY w _ Y
  obtain ⟨fd, hb, hF⟩ := F w mg fa _ KX G.T.g hmg
  exact law_run KX G.T.g G.T.b G.T.builtins G.T.nolimit hg hobj hints (Nat.le_trans hlen hn2) hr hF hb fun H _ hS => law_sp (hm ns hlen) hS
end Z
namespace Z
open PySem PySem.Spec PyProof.Rows L2
theorem bnd {α β : Type} {m : Option α} {k : α → Option β} {b : β} (h : m.bind k = some b) : ∃ a, m = some a ∧ k a = some b := by
  cases m with
  | none => cases h
  | some a => exact ⟨a, rfl, h⟩
theorem ifT {α : Type} {c : Bool} {a b : Option α} {r : α} (h : (if c = true then a else b) = some r) (hc : c = true) : a = some r := by
  rw [if_pos hc] at h
  exact h
theorem ifF {α : Type} {c : Bool} {a b : Option α} {r : α} (h : (if c = true then a else b) = some r) (hc : c = false) : b = some r := by
  rw [if_neg (by rw [hc]; exact Bool.false_ne_true)] at h
  exact h
theorem som {α : Type} {a b : α} (h : some a = some b) : a = b := Option.some.inj h
/-- the ends of range(..) in bounds -/
def rngO (a b : Int) : Option (List Int) := if -(2 ^ 62) ≤ a ∧ a < 2 ^ 62 ∧ -(2 ^ 62) ≤ b ∧ b < 2 ^ 62 then some (range' a b) else none
/-- a list may grow by so many -/
def appO {α : Type} (xs : List α) (x : α) : Option (List α) := if xs.length < sizeLine then some (xs ++ [x]) else none
def popO {α : Type} (xs : List α) : Option (α × List α) := match xs.getLast? with
  | some x => some (x, xs.dropLast)
  | none => none
def setO {α : Type} (xs : List α) (i : Int) (x : α) : Option (List α) := (ixN xs.length i).bind fun m => some (xs.set m x)
abbrev eT {α : Type} (e : α → PyData) : List α → PyData := fun xs => .tuple (xs.map e)
abbrev eP {α β : Type} (e : α → PyData) (f : β → PyData) : α × β → PyData := fun x => .tuple [e x.1, f x.2]
structure Tri (α β γ : Type) where
  a : α
  b : β
  c : γ
  deriving DecidableEq
abbrev eP3 {α β γ : Type} (e : α → PyData) (f : β → PyData) (g : γ → PyData) : Tri α β γ → PyData := fun x => .tuple [e x.a, f x.b, g x.c]
abbrev eO {α : Type} (e : α → PyData) : Option α → PyData := fun
  | none => .none
  | some a => e a
section
variable {X : Cx} {es es' : List Slot} {os os1 os2 : Os} {F0 : Hp} {rest : List Stmt} {D : Ends} {N V G W : List Str} {k i vi gi : Nat} {x : Str} {p pos : Pos} {e e2 a b : Expr} {φ : VP} {n : Ent} {α : Type}
theorem At.weak {σ : L2.St} {H : Hp} (h : At F0 es os σ H) (w : Wk es es') : At F0 es' os σ H := let ⟨F, s, o, l⟩ := h; ⟨F, s, o, l.weak w⟩
theorem At.perm {σ : L2.St} {H : Hp} (h : At F0 es os σ H) (w : os.Perm os1) : At F0 es os1 σ H := let ⟨F, s, o, l⟩ := h; ⟨F, s, o.perm w, l⟩
theorem At.drop {σ : L2.St} {H : Hp} {q : Addr × Ent} (h : At F0 es (q :: os) σ H) : At F0 es os σ H := let ⟨F, s, o, l⟩ := h; ⟨F, s, o.drop, l⟩
theorem EX.weak (h : EX X es' os e φ os1) (w : Wk es es') : EX X es os e φ os1 := fun F σ H Q ow sl q => h F σ H Q ow (sl.weak w) q
theorem EN.weak (h : EN X es' os e n os1) (w : Wk es es') : EN X es os e n os1 := fun F σ H Q ow sl q => h F σ H Q ow (sl.weak w) q
theorem EN.perm (h : EN X es os e n os1) (k : os1.Perm os2) : EN X es os e n os2 := fun F σ H Q ow sl q => h F σ H Q ow sl fun F' H' v e o => q F' H' v e (o.perm (k.cons _))
/-- an own list at the slot i is data from now on -/
theorem sx_frz {j : Nat} {q : Addr} {ds : List PyData} (hj : os[j]? = some (q, ol ds)) (hi : es[i]? = some (sl (own q))) (h : SX X (es.set i (sl (dat (.list ds)))) (os.eraseIdx j) F0 rest D) : SX X es os F0 rest D := fun F σ H s ow sl => by
  obtain ⟨u, hu, ⟨vs, rfl, hv⟩, e1, o1⟩ := (ow.perm (perm_at hj)).freezeU uni_ol
  have hv := dqall_mono e1 _ _ hv
  obtain ⟨v, ev, cv⟩ := sl.val hi
  obtain rfl : v = .ref q := cv.now
  have sl2 := (sl.mono e1).put (i := i) (v := .ref q) (φ := dat (.list ds)) (cl_dat (.lst upd_same hv))
  have e2 : σ.set i (some (.ref q)) = σ := by
    refine List.ext_getElem? fun m => ?_
    by_cases hm : i = m
    · subst hm
      rw [List.getElem?_set_self (List.getElem?_eq_some_iff.mp ev).1, ev]
    · rw [List.getElem?_set_ne hm]
  rw [e2] at sl2
  exact h _ σ H (s.trans e1) o1 sl2
theorem ix_rng1 {tg : Expr} {b : Int} {xs : List Int} (B : Bd X N W G k) (hj : G[gi]? = some "range") (hm : X.mg "range" = none) (hr : rngO 0 b = some xs) (ha : EX X es os e (dat (.int b)) os1) (hs : starEach [e] X.env = [(false, eval e X.env)] := by rfl) :
    IX X tg es os (.Call (.Name "range" p) [e] [] pos) xs (fun x => dat (.int x)) anyOs os1 := by
  unfold rngO at hr
  split at hr
  · rename_i h
    cases hr
    exact ix_range1 B hj hm h.2.2 ha hs
  · cases hr
theorem ix_rng2 {tg : Expr} {a b : Int} {xs : List Int} (B : Bd X N W G k) (hj : G[gi]? = some "range") (hm : X.mg "range" = none) (hr : rngO a b = some xs) (ha : EX X es os e (dat (.int a)) os1) (hb : EX X es os1 e2 (dat (.int b)) os2)
    (hs : starEach [e, e2] X.env = [(false, eval e X.env), (false, eval e2 X.env)] := by rfl) (hs2 : starEach [e2] X.env = [(false, eval e2 X.env)] := by rfl) :
    IX X tg es os (.Call (.Name "range" p) [e, e2] [] pos) xs (fun x => dat (.int x)) anyOs os2 := by
  unfold rngO at hr
  split at hr
  · rename_i h
    cases hr
    exact ix_range2 B hj hm h ha hb hs hs2
  · cases hr
/-- xs.append(e) of an own list -/
theorem ex_app {β : Type} {apos cpos : Pos} {q : Addr} {enc : β → PyData} {xs xs0 ys : List β} {y : β} {j : Nat} (ha : appO xs y = some ys) (ho : EX X es os a (own q) os) (h0 : os[j]? = some (q, ol (xs0.map enc))) (he : EX X es os e (dat (enc y)) os1) (hj : os1[j]? = some (q, ol (xs.map enc)))
    (hbase : attributeBase a "append" X.env (eval a X.env) = eval a X.env := by rfl) (hline : (apos.endLine == cpos.line) = true := by rfl) (hs : starEach [e] X.env = (false, eval e X.env) :: starEach [] X.env := by rfl)
    (hfew : ((backTo cpos (starEach [e] X.env)).all (fun x => !x.1) && (backToKw cpos (keywordEach [] X.env)).all (fun x => x.1.isSome) && decide ([e].length + ([] : List Keyword).length + (if ([] : List Keyword).isEmpty then 0 else 1) < 30)) = true := by rfl)
    (hplain : (backTo cpos (starEach [] X.env)).any (·.1) = false := by rfl) : EX X es os (.Call (.Attribute a "append" apos) [e] [] cpos) (dat .none) (os1.set j (q, ol (ys.map enc))) := by
  unfold appO at ha
  split at ha
  · rename_i h
    cases ha
    rw [List.map_append]
    exact ex_append ho he h0 hj (by rw [List.length_map]; exact h) hbase hline hs hfew hplain
  · cases ha
theorem ex_popO {β : Type} {apos cpos : Pos} {q : Addr} {enc : β → PyData} {xs : List β} {r : β × List β} {j : Nat} (hr : popO xs = some r) (ho : EX X es os a (own q) os) (hj : os[j]? = some (q, ol (xs.map enc)))
    (hbase : attributeBase a "pop" X.env (eval a X.env) = eval a X.env := by rfl) (hline : (apos.endLine == cpos.line) = true := by rfl) : EX X es os (.Call (.Attribute a "pop" apos) [] [] cpos) (dat (enc r.1)) (os.set j (q, ol (r.2.map enc))) := by
  unfold popO at hr
  split at hr
  · rename_i z hz
    cases hr
    have e : (xs.map enc).getLast? = some (enc z) := by rw [List.getLast?_map, hz]; rfl
    have h := ex_pop ho hj e hbase hline
    rw [← List.map_dropLast] at h
    exact h
  · cases hr
theorem sx_setO {β : Type} {tpos : Pos} {q : Addr} {enc : β → PyData} {xs ys : List β} {y : β} {j : Nat} {z : Int} (hy : setO xs z y = some ys) (he : EX X es os e (dat (enc y)) os1) (ho : EX X es os1 a (own q) os1) (hb : EX X es os1 b (dat (.int z)) os2) (hj : os2[j]? = some (q, ol (xs.map enc))) (h : SX X es (os2.set j (q, ol (ys.map enc))) F0 rest D)
    (hs : swapsWithSole [.Subscript a b tpos] e pos.line X.env = pure false := by rfl) (hw : swappedStores [.Subscript a b tpos] e X.env = pure none := by rfl) (h1 : (assignEach [.Subscript a b tpos] X.env).map (·.2) = [assign (.Subscript a b tpos) X.env] := by rfl)
    (hsub : ∀ v, assign (.Subscript a b tpos) X.env v = (do
      let ov ← holding [v] (eval a X.env)
      let iv ← holding [v, ov] (eval b X.env)
      standAt tpos
      holding [v, ov, iv] (setItem ov iv v)
      release [v, ov, iv] []) := by intro _; rfl) : SX X es os F0 (.Assign [.Subscript a b tpos] e pos :: rest) D := by
  obtain ⟨m, hm, h2⟩ := bnd hy
  cases h2
  rw [List.map_set] at h
  exact sx_setL he ho hb hj (by rw [List.length_map]; exact hm) h hs hw h1 hsub
theorem ex_idxL {β : Type} {enc : β → PyData} {xs : List β} {y : β} {z : Int} (hk : idx xs z = some y) (hr : RdL X φ os2 (xs.map enc)) (ha : EX X es os a φ os1) (hb : EX X es os1 b (dat (.int z)) os2) (hp : PlainIx b := by exact fun _ _ => rfl) : EX X es os (.Subscript a b pos) (dat (enc y)) os2 := ex_ixL hr (atI_map enc hk) ha hb hp
theorem ex_idxT {β : Type} {enc : β → PyData} {xs : List β} {y : β} {z : Int} (hk : idx xs z = some y) (hr : RdT φ (xs.map enc)) (ha : EX X es os a φ os1) (hb : EX X es os1 b (dat (.int z)) os2) (hp : PlainIx b := by exact fun _ _ => rfl) : EX X es os (.Subscript a b pos) (dat (enc y)) os2 := ex_ixT hr (atI_map enc hk) ha hb hp
/-- a literal list or tuple of one kind is a map -/
theorem EN.list {ds ds' : List PyData} (h : EN X es os e (ol ds) os1) (k : ds = ds') : EN X es os e (ol ds') os1 := k ▸ h
theorem EX.to {d d' : PyData} (h : EX X es os e (dat d) os1) (k : d = d') : EX X es os e (dat d') os1 := k ▸ h
end
/-- two lists of data are equal exactly if they are alike -/
def EqvOk {α : Type} [DecidableEq α] (e : α → PyData) : Prop := ∀ a b, PyData.eqv (e a) (e b) = decide (a = b)
theorem eqv_int : EqvOk PyData.int := fun a b => by
  simp only [PyData.eqv]
  exact Bool.beq_eq_decide_eq a b
theorem eqv_bool : EqvOk PyData.bool := fun a b => by
  simp only [PyData.eqv]
  exact Bool.beq_eq_decide_eq a b
theorem eqvAll_map {α : Type} [DecidableEq α] {e : α → PyData} (h : EqvOk e) : ∀ xs ys : List α, PyData.eqvAll (xs.map e) (ys.map e) = decide (xs = ys)
  | [], [] => by simp [PyData.eqvAll]
  | [], y :: ys => by simp [PyData.eqvAll]
  | x :: xs, [] => by simp [PyData.eqvAll]
  | x :: xs, y :: ys => by
    simp only [List.map_cons, PyData.eqvAll, h x y, eqvAll_map h xs ys, List.cons.injEq, Bool.decide_and]
theorem eqv_tup {α : Type} [DecidableEq α] {e : α → PyData} (h : EqvOk e) : EqvOk (eT e) := fun a b => by
  simp only [PyData.eqv]
  exact eqvAll_map h a b
theorem eqv_pair {α β : Type} [DecidableEq α] [DecidableEq β] {e : α → PyData} {f : β → PyData} (h : EqvOk e) (g : EqvOk f) : EqvOk (eP e f) := fun a b => by
  simp only [PyData.eqv, PyData.eqvAll, Bool.and_true]
  rw [h, g, ← Bool.decide_and]
  exact decide_eq_decide.mpr ⟨fun ⟨p, q⟩ => Prod.ext p q, fun p => by rw [p]; exact ⟨rfl, rfl⟩⟩
/-- data of bounded depth without dicts -/
structure ShOk {α : Type} (e : α → PyData) (n : Nat) : Prop where
  lay : ∀ a, (e a).canLay0 = true
  dep : ∀ a, (e a).depth ≤ n
theorem ShOk.shaped {α : Type} {e : α → PyData} {n : Nat} (h : ShOk e n) (hn : n ≤ 64) (a : α) : SeqAt.shaped (e a) = true := by
  unfold SeqAt.shaped
  rw [h.lay a, Bool.true_and]
  exact decide_eq_true (Nat.le_trans (h.dep a) hn)
theorem sh_int : ShOk PyData.int 0 := ⟨fun _ => by simp only [PyData.canLay0], fun _ => by simp only [PyData.depth]; exact Nat.le_refl 0⟩
theorem sh_bool : ShOk PyData.bool 0 := ⟨fun _ => by simp only [PyData.canLay0], fun _ => by simp only [PyData.depth]; exact Nat.le_refl 0⟩
theorem layAll_map {α : Type} {e : α → PyData} {n : Nat} (h : ShOk e n) : ∀ xs : List α, PyData.canLayAll0 (xs.map e) = true ∧ PyData.depthAll (xs.map e) ≤ n
  | [] => by
    simp only [List.map_nil, PyData.canLayAll0, PyData.depthAll]
    exact ⟨trivial, Nat.zero_le _⟩
  | x :: xs => by
    obtain ⟨a, b⟩ := layAll_map h xs
    simp only [List.map_cons, PyData.canLayAll0, PyData.depthAll, h.lay x, a]
    exact ⟨rfl, Nat.max_le.mpr ⟨h.dep x, b⟩⟩
theorem sh_tup {α : Type} {e : α → PyData} {n : Nat} (h : ShOk e n) : ShOk (eT e) (n + 1) :=
  ⟨fun xs => by simp only [PyData.canLay0]; exact (layAll_map h xs).1, fun xs => by simp only [PyData.depth]; exact Nat.succ_le_succ (layAll_map h xs).2⟩
theorem sh_pair {α β : Type} {e : α → PyData} {f : β → PyData} {n m : Nat} (h : ShOk e n) (g : ShOk f m) : ShOk (eP e f) (max n m + 1) :=
  ⟨fun x => by simp only [PyData.canLay0, PyData.canLayAll0, h.lay, g.lay]; rfl, fun x => by
    simp only [PyData.depth, PyData.depthAll]
    have h1 := h.dep x.1
    have h2 := g.dep x.2
    omega⟩
end Z
namespace Z
open PySem PySem.Spec PyProof.Rows L2
section
variable {X : Cx} {es es' : List Slot} {os os1 os2 : Os} {F0 : Hp} {rest : List Stmt} {D : Ends} {N V G W : List Str} {k i j l vi gi : Nat} {x y z : Str} {p pos : Pos} {e e2 a b c : Expr} {φ : VP} {n : Ent} {α : Type}
def AQ (X : Cx) (es : List Slot) (as : List Expr) (os : Os) (Rel : List VP → Os → Prop) : Prop := ∀ F σ H Q, Ow F os H → Sl F es σ → (∀ F' H' vs φs os', Same F F' → Rel φs os' → Ow F' os' H' → ClA φs F' vs → Q vs H') → WA X as σ H Q
theorem aq_nil : AQ X es [] os (fun φs os' => φs = [] ∧ os' = os) := fun F σ H Q ow sl q => wa_of pa_nil (q F H [] [] os (Same.refl F) ⟨rfl, rfl⟩ ow rfl)
theorem aq_x {as : List Expr} {Rel : List VP → Os → Prop} (ha : EX X es os a φ os1) (hr : AQ X es as os1 Rel) (hs : starEach (a :: as) X.env = (false, eval a X.env) :: starEach as X.env := by rfl) : AQ X es (a :: as) os (fun φs os' => ∃ r, φs = φ :: r ∧ Rel r os') := fun F σ H Q ow sl q =>
  wa_of (pa_cons pe_u pa_u hs) (ha F σ H _ ow sl fun F1 H1 v e1 o1 c1 => hr F1 σ H1 _ o1 (sl.mono e1) fun F2 H2 vs φs os' e2 rel o2 c2 => q F2 H2 _ _ os' (e1.trans e2) ⟨φs, rfl, rel⟩ o2 ⟨v, vs, rfl, c1.mono e2, c2⟩)
theorem aq_n {as : List Expr} {Rel : Addr → List VP → Os → Prop} (ha : EN X es os a n os1) (hr : ∀ p, AQ X es as ((p, n) :: os1) (Rel p)) (hs : starEach (a :: as) X.env = (false, eval a X.env) :: starEach as X.env := by rfl) : AQ X es (a :: as) os (fun φs os' => ∃ p r, φs = own p :: r ∧ Rel p r os') := fun F σ H Q ow sl q =>
  wa_of (pa_cons pe_u pa_u hs) (ha F σ H _ ow sl fun F1 H1 p e1 o1 => hr p F1 σ H1 _ o1 (sl.mono e1) fun F2 H2 vs φs os' e2 rel o2 c2 => q F2 H2 _ _ os' (e1.trans e2) ⟨p, φs, rfl, rel⟩ o2 ⟨_, vs, rfl, cl_own, c2⟩)
/-- the names are stored from the right -/
def swpB (sc : Scope) (ts : List Expr) (v : Expr) (xs : List Str) : Prop := ∀ env : Env, env.scope = sc → swappedStores ts v env = pure (some xs)
def lclB (sc : Scope) (x : Str) : Bool := match sc.names.lookup x with
  | some .local => true
  | _ => false
theorem lcl_of {sc : Scope} {x : Str} (h : lclB sc x = true) : sc.names.lookup x = some .local := by
  unfold lclB at h
  split at h
  · assumption
  · cases h
theorem sx_par2 {px py pt p2 : Pos} {kt k2 : Nat} {Rel : List VP → Os → Prop} (sc : Scope) (hsc : X.env.scope = sc) (B : Bd X N W G k) (hi : N[i]? = some x) (hj : N[j]? = some y) (hij : i ≠ j) (hx : lclB sc x = true) (hy : lclB sc y = true) (hw : swpB sc [.Tuple [.Name x px, .Name y py] kt pt] (.Tuple [a, b] k2 p2) [x, y])
    (ha : AQ X es [a, b] os Rel) (h : ∀ φ ψ os', Rel [φ, ψ] os' → SX X ((es.set i (sl φ)).set j (sl ψ)) os' F0 rest D) (hR : ∀ φs os', Rel φs os' → ∃ φ ψ, φs = [φ, ψ])
    (hs : swapsWithSole [.Tuple [.Name x px, .Name y py] kt pt] (.Tuple [a, b] k2 p2) pos.line X.env = pure false := by rfl) : SX X es os F0 (.Assign [.Tuple [.Name x px, .Name y py] kt pt] (.Tuple [a, b] k2 p2) pos :: rest) D := fun F σ H s ow sl =>
  wps_cons (ws_of (ps_par B.calm (B.hN ▸ B.nd) (B.hN ▸ hi) (B.hN ▸ hj) hij (by rw [hsc]; exact lcl_of hx) (by rw [hsc]; exact lcl_of hy) pa_u (hw _ hsc) hs) (ha F σ H _ ow sl fun F1 H1 vs φs os' e1 rel o1 c1 => by
    obtain ⟨φ, ψ, rfl⟩ := hR φs os' rel
    obtain ⟨v, u, rfl, h1, h2⟩ := cla2 c1
    exact ⟨v, u, rfl, h φ ψ os' rel F1 _ H1 (s.trans e1) o1 (((sl.mono e1).put h1).put h2)⟩))
theorem ex_tyname {T : String} (B : Bd X N W G k) (hj : G[gi]? = some x) (hm : X.mg x = none) (hv : bootBuiltins x = some (.type T)) : EX X es os (.Name x pos) (fun _ v => v = .ty T) os := fun F σ H Q ow sl q =>
  let ⟨u, v⟩ := B.gl x (List.mem_of_getElem? hj)
  we_of (pe_bltn (v := .ty T) u hm hv rfl (dun_n v) (dun_d v)) (q F H _ (Same.refl F) ow fun _ _ => rfl)
def tyName : PyData → String
  | .none => "NoneType"
  | .bool _ => "bool"
  | .int _ => "int"
  | .str _ => "str"
  | .list _ => "list"
  | .tuple _ => "tuple"
  | .dict _ => "dict"
theorem rc_isi {d : PyData} {T : String} {r : Bool} (h : kitB (tyName d) T = some r) (hT : ∀ ps, d ≠ .dict ((.none, .none) :: ps) := by intro _ z; first | cases z | assumption) : RCX (rIsi X.K) [dat d, fun _ v => v = .ty T] os (dat (.bool r)) os := fun F H vs Q ow c q => by
  obtain ⟨v, u, rfl, h1, h2⟩ := cla2 c
  obtain rfl : u = .ty T := h2.now
  have fin := q F H _ (Same.refl F) ow (cl_dat (.bl r))
  have hd := h1.now
  have key : ∀ t : String, tyName d = t → TyX X.K H v (.type t) → rIsi X.K [v, .ty T] H Q := fun t e k => ⟨v, _, _, _, r, rfl, .ty T, k, kit_ty (e ▸ h), fin⟩
  cases hd with
  | non => exact key _ rfl (.base .non)
  | bl b => exact key _ rfl (.base (.bl b))
  | int i => exact key _ rfl (.base (.int i))
  | str x => exact key _ rfl (.base (.str x))
  | lst k1 k2 => exact key _ rfl (.base (.lst (ow.ex _ _ k1)))
  | tup k1 k2 => exact key _ rfl (.base (.tup (ow.ex _ _ k1)))
  | dctK k1 k2 k3 => exact key _ rfl (.fDict (ow.ex _ _ k1))
  | dctT k1 k2 k3 => exact (hT _ rfl).elim
def catO {α : Type} (xs ys : List α) : Option (List α) := if xs.length + ys.length ≤ sizeLine then some (xs ++ ys) else none
theorem dqall_rev {F : Hp} : ∀ {ds : List PyData} {vs : List L2.V}, DqAll F vs ds → DqAll F vs.reverse ds.reverse
  | [], _, h => by
    cases h
    exact .nil
  | d :: ds, _, h => by
    cases h with
    | cons h1 h2 =>
      rw [List.reverse_cons, List.reverse_cons]
      exact dqall_app (dqall_rev h2) (.cons h1 .nil)
theorem dat_list {F H : Hp} {v : L2.V} {ds : List PyData} (ow : Ow F os H) (c : Cl (dat (.list ds)) F v) : ∃ p vs, v = .ref p ∧ H p = some (.lst vs) ∧ DqAll F vs ds := by
  have h := c.now
  cases h with
  | lst h1 h2 => exact ⟨_, _, rfl, ow.ex _ _ h1, h2⟩
theorem en_cat {α : Type} {enc : α → PyData} {xs ys zs : List α} (h : catO xs ys = some zs) (ha : EX X es os a (dat (.list (xs.map enc))) os1) (hb : EX X es os1 b (dat (.list (ys.map enc))) os2) : EN X es os (.BinOp a .Add b pos) (ol (zs.map enc)) os2 := fun F σ H Q ow sl q => by
  unfold catO at h
  split at h
  · rename_i hl
    cases h
    refine we_of (pe_op op_cat pe_u pe_u) (ha F σ H _ ow sl fun F1 H1 v e1 o1 c1 => hb F1 σ H1 _ o1 (sl.mono e1) fun F2 H2 u e2 o2 c2 => ?_)
    obtain ⟨p, vs, rfl, h1, h2⟩ := dat_list o2 (c1.mono e2)
    obtain ⟨r, us, rfl, h3, h4⟩ := dat_list o2 c2
    refine ⟨p, r, vs, us, rfl, rfl, h1, h3, by rw [dqall_len h2, dqall_len h4, List.length_map, List.length_map]; exact hl, fun m hm => ?_⟩
    refine q F2 _ m (e1.trans e2) (o2.new hm fun G g => ⟨_, rfl, ?_⟩)
    rw [List.map_append]
    exact dqall_mono g _ _ (dqall_app h2 h4)
  · cases h
theorem ex_catT {α : Type} {enc : α → PyData} {xs ys zs : List α} (h : catO xs ys = some zs) (ha : EX X es os a (dat (.tuple (xs.map enc))) os1) (hb : EX X es os1 b (dat (.tuple (ys.map enc))) os2) : EX X es os (.BinOp a .Add b pos) (dat (.tuple (zs.map enc))) os2 := fun F σ H Q ow sl q => by
  unfold catO at h
  split at h
  · rename_i hl
    cases h
    refine we_of (pe_op op_catA pe_u pe_u) (ha F σ H _ ow sl fun F1 H1 v e1 o1 c1 => hb F1 σ H1 _ o1 (sl.mono e1) fun F2 H2 u e2 o2 c2 => ?_)
    obtain ⟨p, vs, rfl, h1, h2⟩ := rdt_dat F2 v (c1.mono e2)
    obtain ⟨r, us, rfl, h3, h4⟩ := rdt_dat F2 u c2
    have e := e1.trans e2
    have hd := dqall_app h2 h4
    rw [← List.map_append] at hd
    refine ⟨p, r, vs, us, rfl, rfl, .of (o2.ex _ _ h1), .of (o2.ex _ _ h3), by rw [dqall_len h2, dqall_len h4, List.length_map, List.length_map]; exact hl, fun h0 => ?_, fun h0 h5 => ?_, fun h0 h5 m hm => ?_⟩
    · refine q F2 H2 _ e o2 (cl_dat (.tup h3 ?_))
      rw [h0, List.nil_append] at hd
      exact hd
    · refine q F2 H2 _ e o2 (cl_dat (.tup h1 ?_))
      rw [h5, List.append_nil] at hd
      exact hd
    · have fp := o2.ex.free hm
      exact q _ _ _ (e.trans (same_upd fp)) (o2.frozen hm) (cl_dat (.tup upd_same (dqall_mono (same_upd fp) _ _ hd)))
  · cases h
/-- xs[lo:hi] -/
def cut {α : Type} (xs : List α) (lo hi : Option Int) : List α := (xs.drop (HT.sIx xs.length 0 lo)).take (HT.sIx xs.length xs.length hi - HT.sIx xs.length 0 lo)
theorem dqall_cut {F : Hp} {ds : List PyData} {vs : List L2.V} (h : DqAll F vs ds) (lo hi : Option Int) : DqAll F (cutV vs lo hi) (cut ds lo hi) := by
  unfold cutV cut
  rw [dqall_len h]
  exact dqall_take _ (dqall_drop _ h)
theorem cut_map {α β : Type} (f : α → β) (xs : List α) (lo hi : Option Int) : cut (xs.map f) lo hi = (cut xs lo hi).map f := by
  unfold cut
  rw [List.length_map, List.map_take, List.map_drop]
def WO (X : Cx) : Option Expr → TO
  | none => tNoPart
  | some e => tPart (WE X e)
theorem po_u : ∀ e : Option Expr, PO X e (WO X e)
  | none => po_none
  | some e => po_some pe_u
/-- an end of a slice -/
def PX (X : Cx) (es : List Slot) (os : Os) (e : Option Expr) (o : Option Int) (os' : Os) : Prop := ∀ F σ H Q, Ow F os H → Sl F es σ → (∀ F' H', Same F F' → Ow F' os' H' → Q o H') → WO X e σ H Q
theorem px_none : PX X es os none none os := fun F σ H Q ow sl q => q F H (Same.refl F) ow
theorem px_some {i : Int} (h : EX X es os e (dat (.int i)) os1) : PX X es os (some e) (some i) os1 := fun F σ H Q ow sl q => h F σ H _ ow sl fun F1 H1 v e1 o1 c1 => ⟨i, clv_int c1, q F1 H1 e1 o1⟩
theorem en_cut {α : Type} {enc : α → PyData} {xs : List α} {lo hi : Option Expr} {l u : Option Int} {os3 : Os} {p2 : Pos} (hr : RdL X φ os3 (xs.map enc)) (ha : EX X es os a φ os1) (hl : PX X es os1 lo l os2) (hu : PX X es os2 hi u os3) : EN X es os (.Subscript a (.Slice lo hi none p2) pos) (ol ((cut xs l u).map enc)) os3 := fun F σ H Q ow sl q =>
  we_of (pe_slice sl_list pe_u (po_u lo) (po_u hi)) (ha F σ H _ ow sl fun F1 H1 v e1 o1 c1 => hl F1 σ H1 _ o1 (sl.mono e1) fun F2 H2 e2 o2 => hu F2 σ H2 _ o2 (sl.mono (e1.trans e2)) fun F3 H3 e3 o3 => by
    obtain ⟨p, vs, rfl, h1, h2⟩ := hr F3 H3 v o3 ((c1.mono e2).mono e3)
    refine ⟨p, vs, rfl, h1, fun m hm => q F3 _ m ((e1.trans e2).trans e3) (o3.new hm fun G g => ⟨_, rfl, ?_⟩)⟩
    rw [← cut_map]
    exact dqall_mono g _ _ (dqall_cut h2 l u))
theorem ex_cutT {α : Type} {enc : α → PyData} {xs : List α} {lo hi : Option Expr} {l u : Option Int} {os3 : Os} {p2 : Pos} (hr : RdT φ (xs.map enc)) (ha : EX X es os a φ os1) (hl : PX X es os1 lo l os2) (hu : PX X es os2 hi u os3) : EX X es os (.Subscript a (.Slice lo hi none p2) pos) (dat (.tuple ((cut xs l u).map enc))) os3 := fun F σ H Q ow sl q =>
  we_of (pe_slice sl_tupA pe_u (po_u lo) (po_u hi)) (ha F σ H _ ow sl fun F1 H1 v e1 o1 c1 => hl F1 σ H1 _ o1 (sl.mono e1) fun F2 H2 e2 o2 => hu F2 σ H2 _ o2 (sl.mono (e1.trans e2)) fun F3 H3 e3 o3 => by
    obtain ⟨p, vs, rfl, h1, h2⟩ := hr F3 v ((c1.mono e2).mono e3)
    have e := (e1.trans e2).trans e3
    have hd := dqall_cut h2 l u
    rw [cut_map] at hd
    refine ⟨p, vs, rfl, .of (o3.ex _ _ h1), fun hw => ?_, fun hw m hm => ?_⟩
    · refine q F3 H3 _ e o3 (cl_dat (.tup h1 ?_))
      have e4 : cutV vs l u = vs := by
        unfold cutV
        rw [hw.1, hw.2, List.drop_zero, Nat.sub_zero, List.take_length]
      rw [e4] at hd
      exact hd
    · have fp := o3.ex.free hm
      exact q _ _ _ (e.trans (same_upd fp)) (o3.frozen hm) (cl_dat (.tup upd_same (dqall_mono (same_upd fp) _ _ hd))))
/-- xs[::-1] of a list -/
theorem en_rev {α : Type} {enc : α → PyData} {xs : List α} {kk : Nat} {p1 p2 p3 : Pos} (hr : RdL X φ os1 (xs.map enc)) (ha : EX X es os a φ os1) : EN X es os (.Subscript a (.Slice none none (some (.UnaryOp .USub (.Constant (.int 1) kk p1) p2)) p3) pos) (ol (xs.reverse.map enc)) os1 := fun F σ H Q ow sl q =>
  we_of (pe_revL pe_u) (ha F σ H _ ow sl fun F1 H1 v e1 o1 c1 => by
    obtain ⟨p, vs, rfl, h1, h2⟩ := hr F1 H1 v o1 c1
    refine ⟨p, vs, rfl, h1, fun m hm => q F1 _ m e1 (o1.new hm fun G g => ⟨_, rfl, ?_⟩)⟩
    rw [List.map_reverse]
    exact dqall_mono g _ _ (dqall_rev h2))
def lcT {α β : Type} (f : α → β) (xs : List α) : Option (List β) := if xs.length < sizeLine then some (xs.map f) else none
def lcF {α β : Type} (c : α → Bool) (f : α → β) (xs : List α) : Option (List β) := if xs.length < sizeLine then some ((xs.filter c).map f) else none
def mapO {α β : Type} (f : α → Option β) : List α → Option (List β)
  | [] => some []
  | x :: xs => (f x).bind fun y => (mapO f xs).bind fun ys => some (y :: ys)
def lcO {α β : Type} (f : α → Option β) (xs : List α) : Option (List β) := if xs.length < sizeLine then mapO f xs else none
def lcE {α β S : Type} (f : S → α → Option (Option β × S)) (xs : List α) (s : S) : Option (List β × S) := if xs.length < sizeLine then lcS f xs s else none
theorem lcS_map {α β : Type} (f : α → β) : ∀ xs : List α, lcS (fun (_ : Unit) x => some (some (f x), ())) xs () = some (xs.map f, ())
  | [] => rfl
  | x :: xs => by
    unfold lcS
    show ((lcS _ xs ()).bind fun u => some ([f x] ++ u.1, u.2)) = _
    rw [lcS_map f xs]
    rfl
theorem lcS_filter {α β : Type} (c : α → Bool) (f : α → β) : ∀ xs : List α, lcS (fun (_ : Unit) x => some (if c x = true then some (f x) else none, ())) xs () = some ((xs.filter c).map f, ())
  | [] => rfl
  | x :: xs => by
    unfold lcS
    show ((lcS _ xs ()).bind fun u => some ((if c x = true then some (f x) else none).toList ++ u.1, u.2)) = _
    rw [lcS_filter c f xs]
    cases h : c x with
    | true =>
      rw [if_pos rfl, List.filter_cons, if_pos h]
      rfl
    | false =>
      rw [if_neg Bool.false_ne_true, List.filter_cons, if_neg (by rw [h]; exact Bool.false_ne_true)]
      rfl
theorem lcS_mapO {α β : Type} (f : α → Option β) : ∀ (xs : List α) (ys : List β), mapO f xs = some ys → lcS (fun (_ : Unit) x => (f x).map fun y => (some y, ())) xs () = some (ys, ())
  | [], ys, h => by
    cases h
    rfl
  | x :: xs, ys, h => by
    unfold mapO at h
    obtain ⟨y, hy, h⟩ := bnd h
    obtain ⟨zs, hz, h⟩ := bnd h
    cases h
    unfold lcS
    rw [hy]
    show ((lcS _ xs ()).bind fun u => some ([y] ++ u.1, u.2)) = _
    rw [lcS_mapO f xs zs hz]
    rfl
theorem lcT_ok {α β : Type} {f : α → β} {xs : List α} {ys : List β} (h : lcT f xs = some ys) : xs.length < sizeLine ∧ lcS (fun (_ : Unit) x => some (some (f x), ())) xs () = some (ys, ()) := by
  unfold lcT at h
  split at h
  · rename_i hl
    cases h
    exact ⟨hl, lcS_map f xs⟩
  · cases h
theorem lcF_ok {α β : Type} {c : α → Bool} {f : α → β} {xs : List α} {ys : List β} (h : lcF c f xs = some ys) : xs.length < sizeLine ∧ lcS (fun (_ : Unit) x => some (if c x = true then some (f x) else none, ())) xs () = some (ys, ()) := by
  unfold lcF at h
  split at h
  · rename_i hl
    cases h
    exact ⟨hl, lcS_filter c f xs⟩
  · cases h
theorem lcO_ok {α β : Type} {f : α → Option β} {xs : List α} {ys : List β} (h : lcO f xs = some ys) : xs.length < sizeLine ∧ lcS (fun (_ : Unit) x => (f x).map fun y => (some y, ())) xs () = some (ys, ()) := by
  unfold lcO at h
  split at h
  · rename_i hl
    exact ⟨hl, lcS_mapO f xs ys h⟩
  · cases h
theorem lcE_ok {α β S : Type} {f : S → α → Option (Option β × S)} {xs : List α} {s : S} {r : List β × S} (h : lcE f xs s = some r) : xs.length < sizeLine ∧ lcS f xs s = some (r.1, r.2) := by
  unfold lcE at h
  split at h
  · rename_i hl
    exact ⟨hl, h⟩
  · cases h
end
end Z
namespace Z
open PySem PySem.Spec PyProof.Rows L2
abbrev absI (i : Int) : Int := if i < 0 then -i else i
abbrev maxI (i j : Int) : Int := if j > i then j else i
abbrev minI (i j : Int) : Int := if j < i then j else i
theorem fdivO_lit {i j : Int} (h : 0 < j) (h2 : j.natAbs.log2 < 9000) : fdivO i j = some (i / j) := if_pos ⟨h, h2⟩
theorem modO_lit {i j : Int} (h : 0 < j) : modO i j = some (i % j) := if_pos h
theorem and_fix {k l : Bool} (h : k = false → l = false) : (k && l) = l := by
  cases k with
  | true => rfl
  | false => rw [h rfl]; rfl
theorem or_fix {k l : Bool} (h : k = true → l = true) : (k || l) = l := by
  cases k with
  | false => rfl
  | true => rw [h rfl]; rfl
section
variable {X X' : Cx} {es es' : List Slot} {os os1 os2 : Os} {F0 : Hp} {rest : List Stmt} {st : Stmt} {D : Ends} {N V G W : List Str} {k i j l vi gi gj : Nat} {x y z : Str} {p pos : Pos} {e e2 a b c : Expr} {φ ψ : VP} {n : Ent} {α β : Type} {scope : Scope}
theorem sx_join (es' : List Slot) (os' : Os) (h : SX X es' os' F0 rest D) (kk : SX X es' os' F0 rest D → SX X es os F0 (st :: rest) D) : SX X es os F0 (st :: rest) D := kk h
theorem sx_end (h : ∀ F σ H, Same F0 F → Ow F os H → D.nx σ H) : SX X es os F0 [] D := sx_nil fun σ H a => let ⟨F, s, o, _⟩ := a; h F σ H s o
theorem fam_mg {f : Str} {v : Option Value} (h : Fam X scope X') (e : X.mg f = v) : X'.mg f = v := by
  obtain ⟨_, _, _, _, _, rfl⟩ := h
  exact e
theorem fam_cal {f : Str} {s : Stmt} {ps : List Str} {sp : PySem.W.Frag → Sp} {m : Nat} (h : Fam X scope X') (c : Cal X.prog X.w X.K X.mg X.base m f s ps (sp X.K)) : Cal X'.prog X'.w X'.K X'.mg X'.base m f s ps (sp X'.K) := by
  obtain ⟨_, _, _, _, _, rfl⟩ := h
  exact c
/-- a stored comprehension -/
theorem sw_ok {elt : Expr} {gs : List Comprehension} {l : Nat} {py : Pos} {env : Env} (hk : (match env.scope.kind with | .function => true | _ => false) = true) (hy : env.scope.names.lookup y = some .local) (hl : (py.line == pos.line) = true)
    (ha : (scope.names.any fun q => q.1 == y && (q.2 == .local || q.2 == .cell)) = false) : swapsWith (.ListComp elt gs scope pos) (some (.Name y py)) l env = pure true := by
  refine sw_true ?_ hy hl ha
  split at hk
  · assumption
  · cases hk
def RdX (X : Cx) (φ : VP) (os : Os) (d : PyData) : Prop := d.hasDict = false → ∀ F H v, Ow F os H → Cl φ F v → Dp X.K H v d
theorem rdx_dat {d : PyData} : RdX X (dat d) os d := fun z F H v ow c => dq_dp _ _ _ z (dq_mono ow.ex _ _ c.now)
theorem r2_eqR {d d' : PyData} {t : Bool} (r1 : RdX X φ os d) (r2 : RdX X ψ os d') (h1 : SeqAt.shaped d = true) (h2 : SeqAt.shaped d' = true) (hk : PyData.eqv d d' = t) : R2X X (rEqD X.K) φ ψ os (dat (.bool t)) := fun F H x y Q ow cx cy q =>
  ⟨d, d', r1 (shaped_lay h1) F H x ow cx, r2 (shaped_lay h2) F H y ow cy, h1, h2, by rw [hk]; exact q F H _ (Same.refl F) ow (cl_dat (.bl _))⟩
theorem r2_neR {d d' : PyData} {t : Bool} (r1 : RdX X φ os d) (r2 : RdX X ψ os d') (h1 : SeqAt.shaped d = true) (h2 : SeqAt.shaped d' = true) (hk : (!PyData.eqv d d') = t) : R2X X (rNeD X.K) φ ψ os (dat (.bool t)) := fun F H x y Q ow cx cy q =>
  ⟨d, d', r1 (shaped_lay h1) F H x ow cx, r2 (shaped_lay h2) F H y ow cy, h1, h2, by rw [hk]; exact q F H _ (Same.refl F) ow (cl_dat (.bl _))⟩
section
variable [DecidableEq α] {e : α → PyData} {m : Nat} {x y : α}
theorem ex_eqR (B : Bd X N W G k) (h : EqvOk e) (s : ShOk e m) (hn : m ≤ 64) (r1 : RdX X φ os2 (e x)) (r2 : RdX X ψ os2 (e y)) (ha : EX X es os a φ os1) (hb : EX X es os1 b ψ os2) : EX X es os (.Compare a [.Eq] [b] pos) (dat (.bool (decide (x = y)))) os2 :=
  ex_cmp (op_eqD B.room.units) (r2_eqR r1 r2 (s.shaped hn x) (s.shaped hn y) (h x y)) (nomark _) ha hb
theorem ex_neR (B : Bd X N W G k) (h : EqvOk e) (s : ShOk e m) (hn : m ≤ 64) (r1 : RdX X φ os2 (e x)) (r2 : RdX X ψ os2 (e y)) (ha : EX X es os a φ os1) (hb : EX X es os1 b ψ os2) : EX X es os (.Compare a [.NotEq] [b] pos) (dat (.bool (!decide (x = y)))) os2 :=
  ex_cmp (op_neD B.room.units) (r2_neR r1 r2 (s.shaped hn x) (s.shaped hn y) (by rw [h x y])) (nomark _) ha hb
theorem tx_eqR (B : Bd X N W G k) (h : EqvOk e) (s : ShOk e m) (hn : m ≤ 64) (r1 : RdX X φ os2 (e x)) (r2 : RdX X ψ os2 (e y)) (ha : EX X es os a φ os1) (hb : EX X es os1 b ψ os2) : TX X es os (.Compare a [.Eq] [b] pos) (decide (x = y)) os2 :=
  tx_cmp (op_eqD B.room.units) (r2_eqR r1 r2 (s.shaped hn x) (s.shaped hn y) (h x y)) (nomark _) ha hb
theorem tx_neR (B : Bd X N W G k) (h : EqvOk e) (s : ShOk e m) (hn : m ≤ 64) (r1 : RdX X φ os2 (e x)) (r2 : RdX X ψ os2 (e y)) (ha : EX X es os a φ os1) (hb : EX X es os1 b ψ os2) : TX X es os (.Compare a [.NotEq] [b] pos) (!decide (x = y)) os2 :=
  tx_cmp (op_neD B.room.units) (r2_neR r1 r2 (s.shaped hn x) (s.shaped hn y) (by rw [h x y])) (nomark _) ha hb
end
def repO {α : Type} (xs : List α) (m : Int) : Option (List α) := if -(2 ^ 63) ≤ m ∧ m < 2 ^ 63 ∧ xs.length * m.toNat ≤ sizeLine then some (List.replicate m.toNat xs).flatten else none
theorem dqall_rep {F : Hp} {ds : List PyData} {vs : List L2.V} (h : DqAll F vs ds) : ∀ m : Nat, DqAll F (List.replicate m vs).flatten (List.replicate m ds).flatten
  | 0 => .nil
  | m + 1 => by
    rw [List.replicate_succ, List.replicate_succ, List.flatten_cons, List.flatten_cons]
    exact dqall_app h (dqall_rep h m)
theorem map_rep {α β : Type} (f : α → β) (xs : List α) : ∀ m : Nat, (List.replicate m (xs.map f)).flatten = ((List.replicate m xs).flatten).map f
  | 0 => rfl
  | m + 1 => by rw [List.replicate_succ, List.replicate_succ, List.flatten_cons, List.flatten_cons, map_rep f xs m, List.map_append]
theorem en_rep {enc : α → PyData} {xs ys : List α} {m : Int} (h : repO xs m = some ys) (ha : EX X es os a (dat (.list (xs.map enc))) os1) (hb : EX X es os1 b (dat (.int m)) os2) : EN X es os (.BinOp a .Mult b pos) (ol (ys.map enc)) os2 := fun F σ H Q ow sl q => by
  unfold repO at h
  split at h
  · rename_i hl
    cases h
    refine we_of (pe_op op_rep pe_u pe_u) (ha F σ H _ ow sl fun F1 H1 v e1 o1 c1 => hb F1 σ H1 _ o1 (sl.mono e1) fun F2 H2 u e2 o2 c2 => ?_)
    obtain ⟨p, vs, rfl, h1, h2⟩ := dat_list o2 (c1.mono e2)
    refine ⟨p, m, vs, rfl, clv_int c2, h1, hl.1, hl.2.1, by rw [dqall_len h2, List.length_map]; exact hl.2.2, fun r hr => ?_⟩
    refine q F2 _ r (e1.trans e2) (o2.new hr fun G g => ⟨_, rfl, ?_⟩)
    rw [← map_rep]
    exact dqall_mono g _ _ (dqall_rep h2 _)
  · cases h
section
variable {S : Type} {elt iter : Expr} {ifs : List Expr} {xs : List α} {vp : α → VP} {enc : β → PyData} {s0 : S} {os0 : Os} {ys : List β} {sf : S} {tpos : Pos} {cc : Os → Prop}
theorem lc_mk1 {c : Os → Prop} (f : S → α → Option (Option β × S)) (OS : S → Os → Os) (s0 : S) (ys : List β) (sf : S) (B : Bd X N W G k) (hj : N[j]? = some x) (hun : (es[j]? = some un)) (hblk : blkC X.N X.env.scope scope [(x, j)] = true) (hown : ownB scope X.env.scope x = true) (hif : ifs.length ≤ 1)
    (hl : xs.length < sizeLine ∧ lcS f xs s0 = some (ys, sf)) (hi : IX X (.Name x tpos) es os iter xs vp c (OS s0 os0)) (hc : ∀ s tl, c (OS s tl)) (hperm : ∀ s q tl, (OS s (q :: tl)).Perm (q :: OS s tl))
    (hb : ∀ s x t tl, x ∈ xs → f s x = some t → ∃ b os1, ∀ X', Fam X scope X' → PTX X' (es.set j (sl (vp x))) (OS s tl) ifs b os1 ∧ (b = true → ∃ y, t.1 = some y ∧ EX X' (es.set j (sl (vp x))) os1 elt (dat (enc y)) (OS t.2 tl)) ∧ (b = false → t.1 = none ∧ os1 = OS t.2 tl)) :
    LcOk X es os (.Name x tpos) iter elt ifs scope [(x, j)] xs vp c (gName j) (fun x es => es.set j (sl (vp x))) enc f OS s0 os0 ys sf where
  calm := B.calm
  nd := B.hN ▸ B.nd
  ok := blkOk_by hblk
  pg := fun X' hX => pg_own hX B hj hown
  hv := fun m hm => by
    have e : m = j := by simpa using hm
    rw [e]
    exact hun
  hid := lc_id1
  hg := fun x F σ H v Q os2 sl hw ow c q => lc_gname x F σ H v Q os2 sl hw ow c q
  hif := hif
  hl := hl.2
  hz := hl.1
  hi := hi
  hc := hc
  hperm := hperm
  hb := hb
end
end
end Z
namespace Z
open PySem PySem.Spec PyProof.Rows L2
theorem elimL {α β γ : Type} {f : α → Option γ} {g : β → Option γ} {x : α} {c : Option γ} (h : Sum.elim f g (.inl x) = c) : f x = c := h
theorem elimR {α β γ : Type} {f : α → Option γ} {g : β → Option γ} {x : β} {c : Option γ} (h : Sum.elim f g (.inr x) = c) : g x = c := h
theorem len_ok {ds : List PyData} {n : Nat} (h : ds.length = n) (h2 : n ≤ sizeLine := by decide +kernel) : ds.length ≤ sizeLine := h ▸ h2
section
variable {X : Cx} {os : Os}
def noneB : PyData → Bool
  | .none => true
  | _ => false
theorem dq_none {F : Hp} : ∀ {v : L2.V} {d : PyData}, Dq F v d → decide (v = .non) = noneB d
  | _, _, .non => rfl
  | _, _, .bl _ => by simp [noneB]
  | _, _, .int _ => by simp [noneB]
  | _, _, .str _ => by simp [noneB]
  | _, _, .lst _ _ => by simp [noneB]
  | _, _, .tup _ _ => by simp [noneB]
  | _, _, .dctK _ _ _ => by simp [noneB]
  | _, _, .dctT _ _ _ => by simp [noneB]
theorem r2_isN {d : PyData} {t : Bool} (h : noneB d = t) : R2X X (fun x y H Q => y = .non ∧ Q (.bl (decide (x = .non))) H) (dat d) (dat .none) os (dat (.bool t)) := fun F H x y Q ow cx cy q =>
  ⟨by have := cy.now; cases this; rfl, by rw [dq_none cx.now, h]; exact q F H _ (Same.refl F) ow (cl_dat (.bl _))⟩
theorem r2_notN {d : PyData} {t : Bool} (h : (!noneB d) = t) : R2X X (fun x y H Q => y = .non ∧ Q (.bl (!decide (x = .non))) H) (dat d) (dat .none) os (dat (.bool t)) := fun F H x y Q ow cx cy q =>
  ⟨by have := cy.now; cases this; rfl, by rw [dq_none cx.now, h]; exact q F H _ (Same.refl F) ow (cl_dat (.bl _))⟩
end
theorem Ow.suf {F H : Hp} {rest : Os} : ∀ {l : Os}, Ow F (l ++ rest) H → Ow F rest H
  | [], h => h
  | _ :: l, h => Ow.suf (l := l) h.drop
section
variable {X : Cx} {es : List Slot} {os os1 rest : Os} {N V G : List Str} {k j : Nat} {x : Str} {p pos : Pos} {e : Expr} {st : Stmt} {pn : List Str} {α β : Type} {ps : α → List VP} {pre : α → Os} {m : α → Option β} {res : α → β → VP} {post : α → β → Os} {n : Ent} {gi : Nat} {φ : VP}
/-- a call whose one argument is a list made for it -/
theorem ex_calln {a : Addr → α} {b : β} (B : Bd X N V G k) (hj : G[gi]? = some x) (c : Cal X.prog X.w X.K X.mg X.base j x st pn (spZ ps pre m res post)) (hl : j ≤ k) (hm : ∀ q, m (a q) = some b) (ha : EN X es os e n rest)
    (hps : ∀ q, ps (a q) = [own q]) (hpre : ∀ q, pre (a q) = [(q, n)]) (hres : ∀ q, res (a q) b = φ)
    (he : starEach [e] X.env = (false, eval e X.env) :: starEach [] X.env := by rfl) (hpl : (backTo pos (starEach [] X.env)).any (·.1) = false := by rfl) : EX X es os (.Call (.Name x p) [e] [] pos) φ rest := fun F σ H Q ow sl q =>
  let ⟨u, v⟩ := B.gl x (List.mem_of_getElem? hj)
  we_of (pe_g (c.mono hl) B.gd B.room u (pa_cons (hs := he) pe_u pa_nil) (dun_d v) he hpl) (ha F σ H _ ow sl fun F1 H1 r e1 o1 => ⟨a r, b, F1, rest, by rw [hps]; exact ⟨_, [], rfl, cl_own, rfl⟩, by rw [hpre]; exact o1, hm r, fun F2 H2 v e2 o2 c2 => q F2 H2 v (e1.trans e2) o2.suf (hres r ▸ c2)⟩)
end
end Z
namespace Z
open PySem PySem.Spec PyProof.Rows L2 HT
section
variable {prog : Program} {w : World} {A : Around} {E : Value → Shared → Prop} {s : Shared}
theorem places_rev (n : Nat) : Builtin.Slice.slicePlaces ((n : Int) - 1) (-1) (-1) = n := by
  unfold Builtin.Slice.slicePlaces
  have z1 : ¬ ((-1 : Int) > 0) := by omega
  have z2 : (-(-1) : Int) = 1 := by omega
  simp only [z1, if_false, z2, Int.ediv_one]
  split <;> omega
theorem applied_rev {q : Addr} {vs : Value} {n : Nat} {Q : Int × Int × Nat → Shared → Prop} (hs : s.heap.IsSliceOf q .none .none vs) (ps : IsPart vs (some (-1)))
    (h : Q ((n : Int) - 1, -1, n) s) : wpAny (model prog w) A (Builtin.Slice.sliceApplied (.ref q) (pure (n : Int))) Q E s := by
  obtain ⟨o, h1, h2, h3⟩ := id hs
  unfold Builtin.Slice.sliceApplied Builtin.Slice.sliceFields
  refine wpAny_bind (wpAny_bind (wpAny_field h1 h3 (x := Value.none) rfl (wpAny_bind (wpAny_field h1 h3 (x := Value.none) rfl (wpAny_bind (wpAny_field h1 h3 (x := vs) rfl (wpAny_pure ?_)))))))
  refine wpAny_bind (slicePart_ ps ?_)
  show wpAny _ _ (if ((-1 : Int) == 0) = true then _ else _) _ _ s
  rw [if_neg (show ¬ ((-1 : Int) == 0) = true by decide)]
  refine wpAny_bind (slicePart_none (wpAny_bind (slicePart_none (wpAny_bind (wpAny_pure ?_)))))
  show wpAny _ _ (pure ((n : Int) - 1, (-1 : Int), Builtin.Slice.slicePlaces ((n : Int) - 1) (-1) (-1))) _ _ s
  rw [places_rev]
  exact wpAny_pure h
theorem fm_all (l : List Value) : ∀ m : Nat, m ≤ l.length → ((List.range m).filterMap fun k : Nat => l[m - 1 - k]?) = (l.take m).reverse
  | 0, _ => rfl
  | m + 1, hm => by
    have ih := fm_all l m (by omega)
    rw [List.range_succ_eq_map, List.filterMap_cons, List.filterMap_map]
    have e0 : l[m + 1 - 1 - 0]? = some l[m] := by
      rw [show m + 1 - 1 - 0 = m by omega]
      exact List.getElem?_eq_getElem (by omega)
    rw [e0]
    have e1 : ((fun k : Nat => l[m + 1 - 1 - k]?) ∘ Nat.succ) = fun k : Nat => l[m - 1 - k]? := by
      funext k
      show l[m + 1 - 1 - (k + 1)]? = _
      rw [show m + 1 - 1 - (k + 1) = m - 1 - k by omega]
    rw [e1, ih]
    rw [List.take_succ_eq_append_getElem (by omega), List.reverse_append]
    rfl
theorem fm_congr {α β : Type} {f g : α → Option β} : ∀ {l : List α}, (∀ x ∈ l, f x = g x) → l.filterMap f = l.filterMap g
  | [], _ => rfl
  | x :: l, h => by rw [List.filterMap_cons, List.filterMap_cons, h x List.mem_cons_self, fm_congr fun y hy => h y (List.mem_cons_of_mem _ hy)]
theorem pick_rev (xs : Array Value) : ((List.range xs.size).filterMap fun (k : Nat) => xs[(((xs.size : Int) - 1) + (k : Int) * (-1)).toNat]?).toArray = xs.toList.reverse.toArray := by
  have key : ((List.range xs.size).filterMap fun (k : Nat) => xs[(((xs.size : Int) - 1) + (k : Int) * (-1)).toNat]?) = ((List.range xs.size).filterMap fun k : Nat => xs.toList[xs.size - 1 - k]?) := by
    refine fm_congr fun k hk => ?_
    have := List.mem_range.mp hk
    rw [show (((xs.size : Int) - 1) + (k : Int) * (-1)).toNat = xs.size - 1 - k by omega, Array.getElem?_toList]
  rw [key, fm_all xs.toList xs.size (by simp), List.take_of_length_le (by simp)]
theorem item_rev {t q : Addr} {its : Array Value} {vs : Value} {Q : Value → Shared → Prop} (ht : IsTup s.heap t its) (hs : s.heap.IsSliceOf q .none .none vs) (ps : IsPart vs (some (-1)))
    (h : Q (.ref s.heap.objs.size) { s with heap := s.heap.push { cls := .type "tuple", data := .seq its.toList.reverse.toArray } }) (hz : its.size ≤ sizeLine) : wpAny (model prog w) A (getItem (.ref t) (.ref q)) Q E s := by
  have fits : sizeOk (.seq its.toList.reverse.toArray) := by
    show its.toList.reverse.toArray.size ≤ sizeLine
    rw [List.size_toArray, List.length_reverse, Array.length_toList]
    exact hz
  obtain ⟨o, h1, h2, h3⟩ := id hs
  have tq : s.TypeIs (.ref q) "slice" := ⟨o, h1, h2⟩
  unfold getItem
  try with_reducible refine wpAny_holding ?_
  first | refine wpAny_bind (wpAny_pure ?_) | skip
  refine wpAny_bind (wpAny_sequenceKey (IsTup.typeIs ht) (by decide) ?_)
  refine wpAny_bind (wpAny_callSpecial?_slot (name := Str.ofString "__getitem__") (IsTup.typeIs ht) PyProof.Rows.slot_tuple_getitem (wpAny_call_entry PyProof.Rows.slot_tuple_getitem (IsTup.typeIs ht) entry_tuple_getitem ?_ (args_tuple_getitem _ _)))
  show wpAny _ _ (Builtin.Tuple.tupleItemsOf (.ref t) >>= _) _ _ s
  refine wpAny_bind (tupleItemsOf_ ht (wpAny_bind (wpAny_typeOf tq ?_)))
  rw [if_pos (by decide)]
  refine wpAny_bind (applied_rev hs ps ?_)
  have hno : ¬ ((((its.size : Int) - 1) == 0 && (-1 : Int) == 1 && its.size == its.size) = true) := by
    intro z
    rw [Bool.and_eq_true, Bool.and_eq_true] at z
    exact absurd (eq_of_beq z.1.2) (by decide)
  show wpAny _ _ (if (((its.size : Int) - 1) == 0 && (-1 : Int) == 1 && its.size == its.size) = true then _ else _) _ _ s
  rw [if_neg hno, pick_rev]
  exact wpAny_bind (m := Builtin.Tuple.tupleExact _) (wpAny_newObj_type (wpAny_pure ⟨_, rfl, wpAny_pure h⟩) fits)
end
def tRevT (K : PySem.W.Frag) (te : TE) : TE := fun σ H Q => te σ H fun x H1 => ∃ a xs, x = .ref a ∧ SqT K H1 a xs ∧ ∀ p, H1 p = none → Q (.ref p) (upd H1 p (.tup xs.reverse))
section
variable {X : Cx}
theorem pe_revT {e : Expr} {te : TE} {k : Nat} {p1 p2 p3 pos : Pos} (he : PE X e te) : PE X (.Subscript e (.Slice none none (some (.UnaryOp .USub (.Constant (.int 1) k p1) p2)) p3) pos) (tRevT X.K te) := by
  refine ⟨fun pins s σ H Q I h => Subscript_ (thn (he.run pins s σ H _ I h) fun v s1 ⟨x, H1, I1, r1, q1⟩ => ?_)⟩
  obtain ⟨a, xs, rfl, hx, q⟩ := q1
  cases r1
  have hst : PO X (some (.UnaryOp .USub (.Constant (.int 1) k p1) p2)) (tPart (tUn (rU fun i => .int (-i)) (tC (.int 1)))) := po_some (pe_un un_neg pe_int)
  refine wpAny_Slice (thn (po_none.run pins s1 σ H1 (fun o Hx => o = none ∧ Hx = H1) I1 ⟨rfl, rfl⟩) fun vl s2 ⟨l, H2, I2, pl, u1, u2⟩ => ?_)
  subst u1 u2
  refine thn (po_none.run pins s2 σ H2 (fun o Hx => o = none ∧ Hx = H2) I2 ⟨rfl, rfl⟩) fun vu s3 ⟨u, H3, I3, pu, u1, u2⟩ => ?_
  subst u1 u2
  refine thn (hst.run pins s3 σ H3 (fun o Hx => o = some (-1) ∧ Hx = H3) I3 ⟨1, rfl, -1, rfl, rfl, rfl⟩) fun vs s4 ⟨o, H4, I4, ps, u1, u2⟩ => ?_
  subst u1 u2
  cases pl
  cases pu
  have J : Inv X pins σ H4 { s4 with heap := s4.heap.push { cls := .type "slice", data := .fields #[.none, .none, vs] } } := I4.kept (t' := s4.toks) fun b ob z => Heap.get?_push_of_some _ z
  obtain ⟨its, r, ht, hz⟩ := J.tuple hx
  have hlen := r.length
  show wpAny (model X.prog X.w) X.A (subscriptTail e (.Slice none none (some (.UnaryOp .USub (.Constant (.int 1) k p1) p2)) p3) (.ref a) (.ref s4.heap.objs.size)) (EP X pins σ Q) X.xe { s4 with heap := s4.heap.push { cls := .type "slice", data := .fields #[.none, .none, vs] } }
  refine tail_any (ops := [.ref a, .ref s4.heap.objs.size]) (IsTup.typeIs ht) PyProof.Rows.slot_tuple_getitem.lookup ?_ (by with_unfolding_all rfl)
  refine item_rev ht (Heap.IsSliceOf.new _ Value.none Value.none vs) ps ?_ (by rw [List.size_toArray]; omega)
  refine ⟨.ref _, _, J.laid (t' := s4.toks) (o := .tup xs.reverse) (fun b ob z => Heap.get?_push_of_some _ z) (Nat.le_refl _) ?_, rfl, q _ (J.hok.fresh (Nat.le_refl _))⟩
  exact ⟨by rw [List.length_reverse]; exact hz, _, r.reverse, IsTup.new _ _⟩
end
section
variable {X : Cx} {es : List Slot} {os os1 os2 : Os} {pos : Pos} {a b : Expr} {φ : VP}
theorem ex_revT {α : Type} {enc : α → PyData} {xs : List α} {kk : Nat} {p1 p2 p3 : Pos} (hr : RdT φ (xs.map enc)) (ha : EX X es os a φ os1) : EX X es os (.Subscript a (.Slice none none (some (.UnaryOp .USub (.Constant (.int 1) kk p1) p2)) p3) pos) (dat (.tuple (xs.reverse.map enc))) os1 := fun F σ H Q ow sl q =>
  we_of (pe_revT pe_u) (ha F σ H _ ow sl fun F1 H1 v e1 o1 c1 => by
    obtain ⟨p, vs, rfl, h1, h2⟩ := hr F1 v c1
    refine ⟨p, vs, rfl, .of (o1.ex _ _ h1), fun m hm => ?_⟩
    have fp := o1.ex.free hm
    have hd := dqall_rev h2
    rw [← List.map_reverse] at hd
    exact q _ _ _ (e1.trans (same_upd fp)) (o1.frozen hm) (cl_dat (.tup upd_same (dqall_mono (same_upd fp) _ _ hd))))
end
end Z
set_option maxHeartbeats 4000000
namespace Z
open PySem PySem.Spec PyProof.Rows L2
theorem mul_same (l : Addr) (items : Array Value) (n : Nat) (dd : Option Addr) (sl : Array (Option Value)) (x : Int) (u : Tok) (c0 : (decide (x < -(2 ^ 63)) || decide (x ≥ 2 ^ 63)) = false) (c1 : (items.isEmpty || x == 1) = true) :
    Meets (Builtin.«tuple.__mul__» ⟨[.ref l, .int x u], []⟩) (fun _ R s => s.heap.get? l = some { cls := .type "tuple", dict := dd, data := .seq items n, slots := sl } ∧ R (.ok (.ret (.ref l))) s) :=
  .of_wp fun prog w A R s h => by
    obtain ⟨hp, g, d, tk, os⟩ := s
    obtain ⟨hl, h⟩ := h
    have f1 := AutoSeq1.idx_int
    wp_walk using wpAny_loadPart' hl
    repeat (first
      | (refine wpAny_ite_false (decide_eq_false (by rw [c0]; exact Bool.false_ne_true)) ?_; wp_walk using wpAny_loadPart' hl)
      | (refine wpAny_ite_true (decide_eq_true (by rw [c1])) ?_; wp_walk using wpAny_loadPart' hl))
    exact ⟨_, rfl, h⟩
theorem mul_none (l : Addr) (items : Array Value) (n : Nat) (dd : Option Addr) (sl : Array (Option Value)) (x : Int) (u : Tok) (c0 : (decide (x < -(2 ^ 63)) || decide (x ≥ 2 ^ 63)) = false) (c1 : (items.isEmpty || x == 1) = false) (c2 : (decide (x ≤ 0) || items.isEmpty) = true) :
    Meets (Builtin.«tuple.__mul__» ⟨[.ref l, .int x u], []⟩) (fun _ R s => s.heap.get? l = some { cls := .type "tuple", dict := dd, data := .seq items n, slots := sl } ∧
      R (.ok (.ret (Value.ref s.heap.objs.size))) { s with heap := s.heap.push { cls := Value.type "tuple", data := Data.seq #[] }, toks := s.toks }) :=
  .of_wp fun prog w A R s h => by
    obtain ⟨hp, g, d, tk, os⟩ := s
    obtain ⟨hl, h⟩ := h
    have f1 := AutoSeq1.idx_int
    wp_walk using wpAny_loadPart' hl
    repeat (first
      | (refine wpAny_ite_false (decide_eq_false (by rw [c0]; exact Bool.false_ne_true)) ?_; wp_walk using wpAny_loadPart' hl)
      | (refine wpAny_ite_false (decide_eq_false (by rw [c1]; exact Bool.false_ne_true)) ?_; wp_walk using wpAny_loadPart' hl)
      | (refine wpAny_ite_true (decide_eq_true (by rw [c2])) ?_; wp_walk using wpAny_loadPart' hl))
    exact ⟨_, rfl, h⟩
/-- a tuple, so many times behind one another -/
def rRepA (K : PySem.W.Frag) : R2 := fun x y H Q => ∃ l k xs, x = .ref l ∧ y = .int k ∧ SqT K H l xs ∧ -(2 ^ 63) ≤ k ∧ k < 2 ^ 63 ∧ ((xs = [] ∨ k = 1) → Q (.ref l) H) ∧ (xs ≠ [] → k ≤ 0 → ∀ p, H p = none → Q (.ref p) (upd H p (.tup []))) ∧
  (xs ≠ [] → 2 ≤ k → k ≤ 1000 ∧ xs.length ≤ 1000 ∧ ∀ p, H p = none → Q (.ref p) (upd H p (.tup (List.replicate k.toNat xs).flatten)))
section
variable {X : Cx}
theorem op_repA : OpR X (binaryOp .Mult) (rRepA X.K) := by
  intro pins s σ H x y v u Q I rx ry h
  obtain ⟨l, k, xs, rfl, rfl, hT, k0, k1, qa, qb, qc⟩ := h
  by_cases hbig : xs ≠ [] ∧ 2 ≤ k
  · obtain ⟨g1, g2, g3⟩ := qc hbig.1 hbig.2
    exact op_repT pins s σ H _ _ v u Q I rx ry ⟨l, k, xs, rfl, rfl, hT, hbig.1, hbig.2, g1, g2, g3⟩
  cases rx
  obtain ⟨t, rfl⟩ := ry
  obtain ⟨its, r, ⟨⟨cls, dd, data, sl⟩, ho, hc, n, hd⟩, hs⟩ := I.tuple hT
  simp only at hc hd
  subst hc hd
  have c0 : (decide (k < -(2 ^ 63)) || decide (k ≥ 2 ^ 63)) = false := by
    rw [Bool.or_eq_false_iff]
    exact ⟨decide_eq_false (by omega), decide_eq_false (by omega)⟩
  have emp : its.toArray.isEmpty = decide (xs = []) := by
    cases r with
    | nil => rfl
    | cons _ _ => rfl
  by_cases h1 : xs = [] ∨ k = 1
  · have c1 : (its.toArray.isEmpty || k == 1) = true := by
      rw [emp, Bool.or_eq_true, decide_eq_true_eq, beq_iff_eq]
      exact h1
    refine wpAny_binaryOp_repeat_ref (T := "tuple") (U := "int") (by decide) ⟨_, ho, rfl⟩ (fun s2 => typeIs_int s2 k t) noFill_tuple_mul F.fills_int_mul F.slot_int_rmul repeat_tuple F.slot_int_index.lookup
      (call_meets F.slot_int_rmul (typeIs_int s k t) F.entry_int_rmul (F.args_int_rmul_2 _ _) (int_rmul_tuple k t l its.toArray n dd sl) ⟨ho, rfl, ⟨_, ho, rfl⟩, call_meets F.slot_tuple_mul ⟨_, ho, rfl⟩ F.entry_tuple_mul (F.args_tuple_mul_2 _ _) (mul_same l its.toArray n dd sl k t c0 c1) ⟨ho, ?_⟩⟩)
    exact ⟨.ref l, H, I, rfl, qa h1⟩
  · have hne : xs ≠ [] := fun z => h1 (.inl z)
    have hk : k ≤ 0 := by
      have z1 : ¬ 2 ≤ k := fun z => hbig ⟨hne, z⟩
      have z2 : ¬ k = 1 := fun z => h1 (.inr z)
      omega
    have c1 : (its.toArray.isEmpty || k == 1) = false := by
      rw [emp, Bool.or_eq_false_iff]
      exact ⟨decide_eq_false hne, beq_eq_false_iff_ne.mpr (by omega)⟩
    have c2 : (decide (k ≤ 0) || its.toArray.isEmpty) = true := by
      rw [decide_eq_true hk, Bool.true_or]
    refine wpAny_binaryOp_repeat_ref (T := "tuple") (U := "int") (by decide) ⟨_, ho, rfl⟩ (fun s2 => typeIs_int s2 k t) noFill_tuple_mul F.fills_int_mul F.slot_int_rmul repeat_tuple F.slot_int_index.lookup
      (call_meets F.slot_int_rmul (typeIs_int s k t) F.entry_int_rmul (F.args_int_rmul_2 _ _) (int_rmul_tuple k t l its.toArray n dd sl) ⟨ho, rfl, ⟨_, ho, rfl⟩, call_meets F.slot_tuple_mul ⟨_, ho, rfl⟩ F.entry_tuple_mul (F.args_tuple_mul_2 _ _) (mul_none l its.toArray n dd sl k t c0 c1 c2) ⟨ho, ?_⟩⟩)
    refine ⟨.ref s.heap.objs.size, _, I.laid (t' := s.toks) (o := .tup []) (fun b ob z => Heap.get?_push_of_some _ z) (Nat.le_refl _) ?_, rfl, qb hne hk _ (I.hok.fresh (Nat.le_refl _))⟩
    exact ⟨Nat.zero_le _, [], .nil, IsTup.new _ _⟩
end
section
variable {X : Cx} {es : List Slot} {os os1 os2 : Os} {pos : Pos} {a b : Expr}
/-- the result of t * m -/
def repT {α : Type} (xs : List α) (m : Int) : Option (List α) := if -(2 ^ 63) ≤ m ∧ m ≤ 1000 ∧ xs.length ≤ 1000 then some (List.replicate m.toNat xs).flatten else none
theorem rep_nil {α : Type} : ∀ m : Nat, (List.replicate m ([] : List α)).flatten = []
  | 0 => rfl
  | m + 1 => by rw [List.replicate_succ, List.flatten_cons, rep_nil m]; rfl
theorem ex_repT {α : Type} {enc : α → PyData} {xs ys : List α} {m : Int} (h : repT xs m = some ys) (ha : EX X es os a (dat (.tuple (xs.map enc))) os1) (hb : EX X es os1 b (dat (.int m)) os2) : EX X es os (.BinOp a .Mult b pos) (dat (.tuple (ys.map enc))) os2 := fun F σ H Q ow sl q => by
  unfold repT at h
  split at h
  · rename_i hl
    cases h
    refine we_of (pe_op op_repA pe_u pe_u) (ha F σ H _ ow sl fun F1 H1 v e1 o1 c1 => hb F1 σ H1 _ o1 (sl.mono e1) fun F2 H2 u e2 o2 c2 => ?_)
    obtain ⟨p, vs, rfl, h1, h2⟩ := rdt_dat F2 v (c1.mono e2)
    have e := e1.trans e2
    have hd := dqall_rep h2 m.toNat
    rw [map_rep] at hd
    have hlen := dqall_len h2
    rw [List.length_map] at hlen
    refine ⟨p, m, vs, rfl, clv_int c2, .of (o2.ex _ _ h1), hl.1, by omega, fun h0 => ?_, fun hne hk r hr => ?_, fun hne hk => ⟨hl.2.1, by omega, fun r hr => ?_⟩⟩
    · refine q F2 H2 _ e o2 (cl_dat (.tup h1 ?_))
      rcases h0 with h0 | h0
      · subst h0
        have hx : xs = [] := List.eq_nil_of_length_eq_zero hlen.symm
        subst hx
        rw [rep_nil]
        exact h2
      · subst h0
        have e9 : (List.replicate (1 : Int).toNat xs).flatten = xs := by
          show (List.replicate 1 xs).flatten = xs
          rw [List.replicate_one, List.flatten_cons, List.flatten_nil, List.append_nil]
        rw [e9]
        exact h2
    · have fp := o2.ex.free hr
      have e9 : m.toNat = 0 := by omega
      rw [e9] at q
      exact q _ _ _ (e.trans (same_upd fp)) (o2.frozen hr) (cl_dat (.tup upd_same .nil))
    · have fp := o2.ex.free hr
      exact q _ _ _ (e.trans (same_upd fp)) (o2.frozen hr) (cl_dat (.tup upd_same (dqall_mono (same_upd fp) _ _ hd)))
  · cases h
end
end Z
namespace Z
open PySem PySem.Spec PyProof.Rows L2
end Z
namespace Z
open PySem PySem.Spec PyProof.Rows L2
end Z
namespace Z
open PySem PySem.Spec PyProof.Rows L2
/-- an encoding that is never None -/
def NoN {α : Type} (e : α → PyData) : Prop := ∀ a, noneB (e a) = false
theorem non_tup {α : Type} {e : α → PyData} : NoN (eT e) := fun _ => rfl
theorem none_opt {α : Type} {e : α → PyData} (h : NoN e) : ∀ x : Option α, noneB (eO e x) = x.isNone
  | none => rfl
  | some a => h a
theorem eqv_noneL : ∀ d : PyData, PyData.eqv .none d = noneB d
  | .none => by simp only [PyData.eqv, noneB]
  | .bool _ => by simp only [PyData.eqv, noneB]
  | .int _ => by simp only [PyData.eqv, noneB]
  | .str _ => by simp only [PyData.eqv, noneB]
  | .list _ => by simp only [PyData.eqv, noneB]
  | .tuple _ => by simp only [PyData.eqv, noneB]
  | .dict _ => by simp only [PyData.eqv, noneB]
theorem eqv_noneR : ∀ d : PyData, PyData.eqv d .none = noneB d
  | .none => by simp only [PyData.eqv, noneB]
  | .bool _ => by simp only [PyData.eqv, noneB]
  | .int _ => by simp only [PyData.eqv, noneB]
  | .str _ => by simp only [PyData.eqv, noneB]
  | .list _ => by simp only [PyData.eqv, noneB]
  | .tuple _ => by simp only [PyData.eqv, noneB]
  | .dict _ => by simp only [PyData.eqv, noneB]
theorem eqv_opt {α : Type} [DecidableEq α] {e : α → PyData} (h : EqvOk e) (k : NoN e) : EqvOk (eO e) := fun a b => by
  cases a with
  | none =>
    rw [show eO e none = PyData.none from rfl, eqv_noneL, none_opt k]
    cases b <;> simp
  | some a =>
    cases b with
    | none =>
      rw [show eO e none = PyData.none from rfl, eqv_noneR, none_opt k]
      simp
    | some b =>
      show PyData.eqv (e a) (e b) = _
      rw [h a b]
      simp
theorem sh_opt {α : Type} {e : α → PyData} {n : Nat} (h : ShOk e n) : ShOk (eO e) n := by
  refine ⟨fun a => ?_, fun a => ?_⟩
  · cases a with
    | none =>
      show PyData.canLay0 .none = true
      simp only [PyData.canLay0]
    | some a => exact h.lay a
  · cases a with
    | none =>
      show PyData.depth .none ≤ n
      simp only [PyData.depth]
      exact Nat.zero_le _
    | some a => exact h.dep a
end Z
namespace Z
open PySem PySem.Spec PyProof.Rows L2
inductive Lk (Q : Hp → Prop) : Hp → Prop
  | now {H : Hp} : Q H → Lk Q H
  | lock {H : Hp} (d : Addr) (u : HO) : H d = some u → Mut (some u) → (∀ od, Lk Q (upd H d (.frz od u))) → Lk Q H
theorem Lk.bind {Q R : Hp → Prop} {H : Hp} (h : Lk Q H) (k : ∀ H, Q H → Lk R H) : Lk R H := by
  induction h with
  | now q => exact k _ q
  | lock d u a b _ ih => exact .lock d u a b ih
section
variable {κ β : Type} [DecidableEq κ]
def dGet (d : List (κ × β)) (k : κ) : Option β := (d.find? fun kv => decide (kv.1 = k)).map (·.2)
def dPut (d : List (κ × β)) (k : κ) (v : β) : List (κ × β) :=
  if (d.any fun kv => decide (kv.1 = k)) = true then d.map (fun kv => if kv.1 = k then (kv.1, v) else kv) else d ++ [(k, v)]
end
inductive Kd (κ : Type) where
  | fl (f : κ → Key)
  | tu (f : κ → List Key)
section
variable {κ : Type}
def Kd.ho : Kd κ → List (κ × L2.V) → HO
  | .fl f, kvs => .dK (kvs.map fun p => (f p.1, p.2))
  | .tu f, kvs => .dT (kvs.map fun p => (f p.1, p.2))
end
section
variable {κ : Type}
inductive DV (F : Hp) : List (κ × L2.V) → List (κ × PyData) → Prop
  | nil : DV F [] []
  | cons {k : κ} {v : L2.V} {d : PyData} {kvs : List (κ × L2.V)} {ds : List (κ × PyData)} : Dq F v d → DV F kvs ds → DV F ((k, v) :: kvs) ((k, d) :: ds)
variable [DecidableEq κ]
end
section
variable {κ : Type}
def od (kd : Kd κ) (d : List (κ × PyData)) : Ent := fun p F h => ∃ kvs, h = one p (kd.ho kvs) ∧ DV F kvs d
end
end Z
namespace Z
open PySem PySem.Spec PyProof.Rows L2
abbrev eM {κ β : Type} (e : β → PyData) (w : List (κ × β)) : List (κ × PyData) := w.map fun p => (p.1, e p.2)
end Z
namespace Z
open PySem PySem.Spec PyProof.Rows L2
def ixD (n : Nat) (z : Int) : Nat := (ixN n z).getD 0
/-- the address at the place z -/
def qa (qs : List Addr) (z : Int) : Addr := qs.getD (ixD qs.length z) 0
def setI {α : Type} (xs : List α) (z : Int) (x : α) : List α := xs.set (ixD xs.length z) x
theorem setI_len {α : Type} (xs : List α) (z : Int) (x : α) : (setI xs z x).length = xs.length := by
  unfold setI
  rw [List.length_set]
end Z
namespace Z
open PySem PySem.Spec PyProof.Rows L2
end Z
namespace Z
open PySem PySem.Spec PyProof.Rows L2
end Z
namespace Z
open PySem PySem.Spec PyProof.Rows L2
/-- to assign a value of ψ to tg: slots and what is owned change -/
def GY (X : Cx) (tg : Expr) (ψ : VP) (es : List Slot) (os : Os) (es' : List Slot) (os' : Os) : Prop := ∀ F σ H v (Q : L2.St → Hp → Prop), Ow F os H → Sl F es σ → Cl ψ F v → (∀ F' σ' H', Same F F' → Ow F' os' H' → Sl F' es' σ' → Q σ' H') → WG X tg v σ H Q
end Z
namespace Z
open PySem PySem.Spec PyProof.Rows L2
end Z
namespace Z
open PySem PySem.Spec PyProof.Rows L2
end Z
namespace Z
open PySem PySem.Spec PyProof.Rows L2
end Z
namespace Z
open PySem PySem.Spec PyProof.Rows L2
end Z
namespace Z
open PySem PySem.Spec PyProof.Rows L2
end Z
namespace Z
open PySem PySem.Spec PyProof.Rows L2
section
variable {P : Program} {w : World} {K : PySem.W.Frag} {mg : Str → Option Value} {base : Heap}
variable {α β : Type} {ps : α → List VP} {pre : α → Os} {m : α → Option β} {res : α → β → VP} {post : α → β → Os} {n : α → β → Ent} {x : Str} {st : Stmt} {f : Addr} {fd : FuncData} {N V Gs pn : List Str} {k nl : Nat}
theorem cal_ZQ {sts : List Stmt} (hst : defBody st = sts) (Fn : Fun K x x st f fd) (S : FnScope N pn (defScope st)) (nam : namB (defScope st) V Gs = true) (loc : V.all (locB (defScope st)) = true) (hmg : mg x = some (.ref f)) (hb : Binds K fd pn []) (hps : ∀ a, (ps a).length = pn.length) (hN : N.length = pn.length + nl)
    (body : ∀ (f : Addr) (cdv : Value) (A : Around) (outer : List Env) (s : Shared) (H : Hp) (E : XK) (a : α) (b : β) (F0 : Hp) (os : Os) (D : Ends), Bd (cxOf CX0 P w K mg base N x (defScope st) f cdv A outer s H E).nox N V Gs k → Bt (cxOf CX0 P w K mg base N x (defScope st) f cdv A outer s H E).nox V →
      m a = some b → RetZ F0 (post a b ++ os) (res a b) D → SX (cxOf CX0 P w K mg base N x (defScope st) f cdv A outer s H E).nox ((ps a).map sl ++ List.replicate nl un) (pre a ++ os) F0 sts D) : Cal P w K mg base (k + 1) x st pn (spZ ps pre m res post) := by
  subst hst
  exact cal_Z Fn S nam loc hmg hb hps hN body
theorem cal_NQ {sts : List Stmt} (hst : defBody st = sts) (Fn : Fun K x x st f fd) (S : FnScope N pn (defScope st)) (nam : namB (defScope st) V Gs = true) (loc : V.all (locB (defScope st)) = true) (hmg : mg x = some (.ref f)) (hb : Binds K fd pn []) (hps : ∀ a, (ps a).length = pn.length) (hN : N.length = pn.length + nl)
    (body : ∀ (f : Addr) (cdv : Value) (A : Around) (outer : List Env) (s : Shared) (H : Hp) (E : XK) (a : α) (b : β) (F0 : Hp) (os : Os) (D : Ends), Bd (cxOf CX0 P w K mg base N x (defScope st) f cdv A outer s H E).nox N V Gs k → Bt (cxOf CX0 P w K mg base N x (defScope st) f cdv A outer s H E).nox V →
      m a = some b → RetN F0 (post a b ++ os) (n a b) D → SX (cxOf CX0 P w K mg base N x (defScope st) f cdv A outer s H E).nox ((ps a).map sl ++ List.replicate nl un) (pre a ++ os) F0 sts D) : Cal P w K mg base (k + 1) x st pn (spN ps pre m n post) := by
  subst hst
  exact cal_N Fn S nam loc hmg hb hps hN body
end
end Z
namespace Z
open PySem PySem.Spec PyProof.Rows L2
structure LtOk {α : Type} (e : α → PyData) (lt : α → α → Bool) : Prop where
  al : ∀ a b, W.alike (e a) (e b) = true
  lt : ∀ a b, W.dataLt (e a) (e b) = lt a b
  nn : ∀ a, e a ≠ .none
def ltI : Int → Int → Bool := fun a b => decide (a < b)
def ltL {α : Type} [DecidableEq α] (lt : α → α → Bool) : List α → List α → Bool
  | x :: xs, y :: ys => if x = y then ltL lt xs ys else lt x y
  | [], _ :: _ => true
  | _, [] => false
def ltP2 {α β : Type} [DecidableEq α] (l1 : α → α → Bool) (l2 : β → β → Bool) : α × β → α × β → Bool := fun a b => if a.1 = b.1 then l2 a.2 b.2 else l1 a.1 b.1
theorem lt_int : LtOk PyData.int ltI := ⟨fun a b => by simp only [W.alike], fun a b => W.dataLt_int a b, fun a => by simp⟩
theorem alike_map {α : Type} {e : α → PyData} (h : ∀ a b, W.alike (e a) (e b) = true) : ∀ xs ys : List α, W.alikeAll (xs.map e) (ys.map e) = true
  | [], ys => by rw [List.map_nil, W.alikeAll]
  | _ :: _, [] => by rw [List.map_cons, List.map_nil, W.alikeAll]
  | x :: xs, y :: ys => by rw [List.map_cons, List.map_cons, W.alikeAll, h x y, alike_map h xs ys]; rfl
theorem toks_nil0 : lexLt itemOrd (W.keyToksAll []) (W.keyToksAll []) = false := PyProof.Rows.lex_irrefl _
theorem toks0 : W.keyToksAll [] = [.inl 0] := by simp only [W.keyToksAll]
theorem toks_map {α : Type} [DecidableEq α] {e : α → PyData} {lt : α → α → Bool} (q : EqvOk e) (h : LtOk e lt) : ∀ xs ys : List α, lexLt itemOrd (W.keyToksAll (xs.map e)) (W.keyToksAll (ys.map e)) = ltL lt xs ys
  | [], [] => toks_nil0
  | [], y :: ys => by
    rw [List.map_nil, List.map_cons, toks0, W.toks_all_cons, W.lex_atom (by simp), W.lex_one]
    rfl
  | x :: xs, [] => by
    rw [List.map_nil, List.map_cons, toks0, W.toks_all_cons, W.lex_atom (by simp), W.lex_one]
    rfl
  | x :: xs, y :: ys => by
    rw [List.map_cons, List.map_cons]
    unfold ltL
    by_cases e1 : x = y
    · rw [W.dataLt_all_yes (h.al x y) (by rw [q, e1]; simp), if_pos e1, toks_map q h xs ys]
    · rw [W.dataLt_all_no (h.al x y) (by rw [q]; simp [e1]), if_neg e1, h.lt]
theorem lt_tup {α : Type} [DecidableEq α] {e : α → PyData} {lt : α → α → Bool} (q : EqvOk e) (h : LtOk e lt) : LtOk (eT e) (ltL lt) :=
  ⟨fun a b => by show W.alike (.tuple _) (.tuple _) = true; rw [W.alike]; exact alike_map h.al a b, fun a b => (W.dataLt_tuple _ _).trans (toks_map q h a b), fun a => by simp⟩
theorem toks_nil : lexLt itemOrd (W.keyToksAll []) (W.keyToksAll []) = false := PyProof.Rows.lex_irrefl _
theorem lt_one {α : Type} [DecidableEq α] {e : α → PyData} {lt : α → α → Bool} (q : EqvOk e) (h : LtOk e lt) (irr : ∀ a, lt a a = false) (a b : α) : lexLt itemOrd (W.keyToksAll [e a]) (W.keyToksAll [e b]) = lt a b := by
  by_cases e1 : a = b
  · rw [W.dataLt_all_yes (h.al a b) (by rw [q, e1]; simp), toks_nil, e1, irr]
  · rw [W.dataLt_all_no (h.al a b) (by rw [q]; simp [e1]), h.lt]
theorem lt_irr {α : Type} {e : α → PyData} {lt : α → α → Bool} (h : LtOk e lt) (a : α) : lt a a = false := by
  rw [← h.lt]
  unfold W.dataLt
  exact PyProof.Rows.lex_irrefl _
theorem lt_pair {α β : Type} [DecidableEq α] [DecidableEq β] {e : α → PyData} {f : β → PyData} {l1 : α → α → Bool} {l2 : β → β → Bool} (q1 : EqvOk e) (h1 : LtOk e l1) (q2 : EqvOk f) (h2 : LtOk f l2) : LtOk (eP e f) (ltP2 l1 l2) := by
  refine ⟨fun a b => ?_, fun a b => ?_, fun a => by simp⟩
  · show W.alike (.tuple [_, _]) (.tuple [_, _]) = true
    rw [W.alike, W.alikeAll, W.alikeAll, W.alikeAll, h1.al, h2.al]
    rfl
  · show W.dataLt (.tuple [_, _]) (.tuple [_, _]) = _
    rw [W.dataLt_tuple]
    unfold ltP2
    by_cases e1 : a.1 = b.1
    · rw [W.dataLt_all_yes (h1.al _ _) (by rw [q1, e1]; simp), if_pos e1]
      exact lt_one q2 h2 (lt_irr h2) _ _
    · rw [W.dataLt_all_no (h1.al _ _) (by rw [q1]; simp [e1]), if_neg e1, h1.lt]
def rOrD (K : PySem.W.Frag) (k : PyData → PyData → Bool) : R2 := fun x y H Q => ∃ d e, Dp K H x d ∧ Dp K H y e ∧ W.alike d e = true ∧ d ≠ .none ∧ min d.depth e.depth ≤ 63 ∧ Q (.bl (k d e)) H
section
variable {X : Cx}
theorem op_gtD (hu : X.A.units + 64 < cLine) : OpR X (compareOp .Gt) (rOrD X.K fun d e => W.dataLt e d) := by
  intro pins s σ H x y v u Q I rx ry h
  obtain ⟨d, e, hd, he, al, nn, dp, q⟩ := h
  obtain ⟨as, r1⟩ := Dp.reads I d x v hd rx
  obtain ⟨bs, r2⟩ := Dp.reads I e y u he ry
  exact W.gt_data r1 r2 al nn (by omega) ⟨.bl _, H, I, rfl, q⟩
variable {es : List Slot} {os os1 os2 : Os} {N V G W' : List Str} {k : Nat} {a b : Expr} {φ ψ : VP} {α : Type} {e : α → PyData} {lt : α → α → Bool} {m : Nat} {x y : α} {pos : Pos}
theorem r2_or {f : PyData → PyData → Bool} {t : Bool} (h : LtOk e lt) (s : ShOk e m) (hn : m ≤ 60) (r1 : RdX X φ os (e x)) (r2 : RdX X ψ os (e y)) (ht : f (e x) (e y) = t) : R2X X (rOrD X.K f) φ ψ os (dat (.bool t)) := fun F H u v Q ow cx cy q =>
  ⟨e x, e y, r1 (shaped_lay (s.shaped (by omega) x)) F H u ow cx, r2 (shaped_lay (s.shaped (by omega) y)) F H v ow cy, h.al x y, h.nn x, by have := s.dep x; omega, by rw [ht]; exact q F H _ (Same.refl F) ow (cl_dat (.bl _))⟩
theorem tx_gtD (B : Bd X N W' G k) (h : LtOk e lt) (s : ShOk e m) (hn : m ≤ 60) (r1 : RdX X φ os2 (e x)) (r2 : RdX X ψ os2 (e y)) (ha : EX X es os a φ os1) (hb : EX X es os1 b ψ os2) : TX X es os (.Compare a [.Gt] [b] pos) (lt y x) os2 :=
  tx_cmp (op_gtD B.room.units) (r2_or h s hn r1 r2 (h.lt y x)) (nomark _) ha hb
end
end Z
namespace Z
open PySem PySem.Spec PyProof.Rows L2
end Z
namespace Z
open PySem PySem.Spec PyProof.Rows L2
end Z
namespace Z
open PySem PySem.Spec PyProof.Rows L2
section
variable {X : Cx} {es es1 : List Slot} {os os1 os2 : Os} {F0 : Hp} {rest : List Stmt} {D : Ends} {N V G W : List Str} {n k i j vi gi : Nat} {x : Str} {p q pos apos cpos tpos : Pos} {e a b tg : Expr} {φ ψ : VP} {γ : Type} {f : γ → Ent} {g : γ → PyData} {m : Ent}
theorem GY.drop {es' : List Slot} {u : Addr × Ent} (k : GY X tg ψ es os es' (u :: os1)) : GY X tg ψ es os es' os1 := fun F σ H v Q ow s c qq => k F σ H v Q ow s c fun F' σ' H' e o l => qq F' σ' H' e o.drop l
end
end Z
namespace Z
open PySem PySem.Spec PyProof.Rows L2
end Z
namespace Z
open PySem PySem.Spec PyProof.Rows L2
abbrev T3 : Type := Tri Int Int Int
abbrev e3 : T3 → PyData := eP3 PyData.int PyData.int PyData.int
/-- the place of a triple in the order, if its parts lie in [0, 10^6) -/
def cd3 (t : T3) : Int := (t.a * 1000000 + t.b) * 1000000 + t.c
end Z
namespace Z
open PySem PySem.Spec PyProof.Rows L2
end Z
namespace Z
open PySem PySem.Spec PyProof.Rows L2
end Z
namespace Z
open PySem PySem.Spec PyProof.Rows L2
end Z
namespace Z
open PySem PySem.Spec L2
end Z
namespace Z
open PySem PySem.Spec PyProof.Rows L2
end Z
namespace Z
open PySem PySem.Spec PyProof.Rows L2
open PySem.Sem (wp)
/-- one step deeper -/
def a1 (X : Cx) : Cx := { X with A := X.A.in1 }
section
variable {X : Cx} {pins : List (Addr × Obj)} {σ : L2.St} {H : Hp} {s : Shared}
theorem ok_a1 (o : X.Ok) : (a1 X).Ok := ⟨o.mod, o.kind, o.glob, o.blt, o.above, o.inj, o.has, o.cab, o.hd, o.frames, o.stk, o.exf, o.bs, o.bsz, o.noex, o.exfs, o.funs, o.frf⟩
theorem inv_a1 (I : Inv X pins σ H s) : Inv (a1 X) pins σ H s := ⟨ok_a1 I.ok, I.os, I.bare, I.base, I.loc, I.cell, I.free, I.freeC, I.pin, I.hok, I.len⟩
theorem inv_of_a1 (o : X.Ok) (I : Inv (a1 X) pins σ H s) : Inv X pins σ H s := ⟨o, I.os, I.bare, I.base, I.loc, I.cell, I.free, I.freeC, I.pin, I.hok, I.len⟩
theorem run_gE {k : Nat} {f : Addr} {fd : FuncData} {ps : List Str} {sp : Sp} {Q : VK} {us zs : List Value} {kv : List (Str × Value)} {vs : List L2.V} {E : Value → Shared → Prop} (c : FnG X.prog X.w X.K X.mg X.base CX0 k f fd ps sp) (gd : X.A.guards = some []) (hr : Room k X.A)
    (I : Inv X pins σ H s) (b : BindsTo s fd ⟨us, kv⟩ (ps.zip zs)) (r : Vals vs zs) (h : sp vs H Q E0) : wpAny (model X.prog X.w) X.A (call (.ref f) us kv) (EP X pins σ Q) E s := by
  refine wpAny_call (codeAny_mono (c.run X.A X.stack s H ⟨us, kv⟩ zs vs Q E0 gd hr I.env0 b r h) ?_)
  intro res s' hq
  cases res with
  | error e => exact hq.elim
  | ok fl =>
    cases fl with
    | ret u => exact I.after hq
    | next => exact hq.elim
    | brk => exact hq.elim
    | cont => exact hq.elim
/-- a new place -/
structure Fsh (X : Cx) (pins : List (Addr × Obj)) (a : Addr) : Prop where
  sz : X.s_0.heap.objs.size ≤ a
  loc : a ≠ X.env.locals
  cell : ∀ x c, X.env.cells.lookup x = some c → c ≠ a
  pin : ∀ p ∈ X.pn ++ pins, p.1 ≠ a
  fs : a ∉ X.fs
theorem fsh_of (I : Inv X pins σ H s) {a : Addr} (h : s.heap.objs.size ≤ a) : Fsh X pins a where
  sz := Nat.le_trans I.sz h
  loc := fun e => Nat.lt_irrefl _ (Nat.lt_of_lt_of_le I.lt (e ▸ h))
  cell := fun x c e z => by
    obtain ⟨v, o, ho, hd⟩ := I.cell x c e
    exact Nat.lt_irrefl _ (Nat.lt_of_lt_of_le (Heap.lt_size ho) (z ▸ h))
  pin := fun p hp z => Nat.lt_irrefl _ (Nat.lt_of_lt_of_le (Heap.lt_size (I.pin p hp).1) (z ▸ h))
  fs := I.nofs h
theorem list_raw {l : Addr} {xs : List V} (I : Inv X pins σ H s) (h : H l = some (.lst xs)) : ∃ its : List Value, Vals xs its ∧ s.heap.IsList l its.toArray := by
  obtain ⟨_, its, n, r, e⟩ := I.hok l _ h
  exact ⟨its, r, _, e, rfl, n, rfl⟩
theorem inv_turned {it : Addr} {h' : Heap} {t' : Nat} (I : Inv X pins σ H s) (f : Fsh X pins it) (hn : H it = none) (k : ∀ b o, b ≠ it → s.heap.get? b = some o → h'.get? b = some o) : Inv X pins σ H { s with heap := h', toks := t' } :=
  I.turned k hn f.loc (.inr f.sz) f.cell f.pin
end
section
variable {X : Cx} {pins : List (Addr × Obj)} {σ : L2.St} {os : Os} {F0 : Hp} {l S I f : Addr} {xs : List V} {kd : Nat → PyData} {k : Nat} {fd : FuncData} {ps : List Str} {sp : Sp}
/-- what f keeps: of the i-th item it makes the i-th key -/
def KeyOf (sp : Sp) (xs : List V) (F0 : Hp) (os : Os) (kd : Nat → PyData) : Prop := ∀ (i : Nat) (u : V) (F H : Hp) (Q : VK), xs[i]? = some u → Same F0 F → Ow F os H → (∀ F' H' v, Same F F' → Ow F' os H' → Dq F' v (kd i) → Q v H') → sp [u] H Q E0
structure KOk (kd : Nat → PyData) : Prop where
  al : ∀ i j, PySem.W.alike (kd i) (kd j) = true
  nn : ∀ i, kd i ≠ .none
  dp : ∀ i, (kd i).depth ≤ 60
  nd : ∀ i, (kd i).hasDict = false
/-- the state between two keys -/
def Btw (X : Cx) (pins : List (Addr × Obj)) (σ : L2.St) (os : Os) (F0 : Hp) (S I : Addr) (s : Shared) (P : Hp → Prop) : Prop := ∃ H F, Inv X pins σ H s ∧ Ow F os H ∧ Same F0 F ∧ H S = none ∧ H I = none ∧ P F
/-- f is asked of one item -/
theorem key_run {s : Shared} {oS oI : Obj} {i : Nat} {u : V} {v : Value} {P : Hp → Prop} {E : Value → Shared → Prop} {Q : Value → Shared → Prop} (gd : X.A.guards = some []) (hr : Room k X.A) (G : FnG X.prog X.w X.K X.mg X.base CX0 k f fd ps sp) (hb : Binds X.K fd ps [])
    (hk : KeyOf sp xs F0 os kd) (fS : Fsh X pins S) (fI : Fsh X pins I) (hm : ∀ F F', Same F F' → P F → P F') (hu : xs[i]? = some u) (rv : RelV u v) (b : Btw X pins σ os F0 S I s P) (eS : s.heap.get? S = some oS) (eI : s.heap.get? I = some oI)
    (cS : ∀ v, oS.data ≠ .cell v) (cI : ∀ v, oI.data ≠ .cell v)
    (h : ∀ kx s' uk, RelV uk kx → Btw X pins σ os F0 S I s' (fun F => P F ∧ Dq F uk (kd i)) → s'.heap.get? S = some oS → s'.heap.get? I = some oI → Q kx s') : wpAny (model X.prog X.w) X.A (call (.ref f) [v]) Q E s := by
  obtain ⟨H, F, inv, ow, sf, nS, nI, hP⟩ := b
  have inv2 : Inv X ((S, oS) :: (I, oI) :: pins) σ H s := inv.pins_of fun p hp => by
    rcases List.mem_cons.mp hp with rfl | hp
    · exact ⟨eS, nS, fS.loc, fS.fs, cS⟩
    rcases List.mem_cons.mp hp with rfl | hp
    · exact ⟨eI, nI, fI.loc, fI.fs, cI⟩
    exact inv.pin p (List.mem_append_right _ hp)
  have hsp := hk i u F H (fun v H' => ∃ F', Same F F' ∧ Ow F' os H' ∧ Dq F' v (kd i)) hu sf ow fun F' H' v a b c => ⟨F', a, b, c⟩
  have bd := hb s [v] inv.kIn (by rw [List.append_nil]; exact G.len _ _ _ _ hsp)
  rw [List.append_nil] at bd
  refine wpAny_mono (run_gE (us := [v]) (zs := [v]) (kv := []) G gd hr inv2 bd (.cons rv .nil) hsp) ?_ fun _ _ z => z
  rintro kx s' ⟨uk, H', inv3, rk, F', a, b, c⟩
  have p1 := inv3.pin (S, oS) (List.mem_append_right _ List.mem_cons_self)
  have p2 := inv3.pin (I, oI) (List.mem_append_right _ (List.mem_cons_of_mem _ List.mem_cons_self))
  have inv4 : Inv X pins σ H' s' := inv3.pins_of fun p hp => inv3.pin p (List.mem_append_right _ (List.mem_cons_of_mem _ (List.mem_cons_of_mem _ hp)))
  exact h kx s' uk rk ⟨H', F', inv4, b, sf.trans a, p1.2.1, p2.2.1, hm _ _ a hP, c⟩ p1.1 p2.1
theorem Btw.turned {s : Shared} {it : Addr} {h' : Heap} {t' : Nat} {P : Hp → Prop} (b : Btw X pins σ os F0 S I s P) (f : Fsh X pins it) (hi : it = S ∨ it = I) (k : ∀ b o, b ≠ it → s.heap.get? b = some o → h'.get? b = some o) : Btw X pins σ os F0 S I { s with heap := h', toks := t' } P := by
  obtain ⟨H, F, inv, ow, sf, nS, nI, hP⟩ := b
  exact ⟨H, F, inv_turned inv f (hi.elim (fun e => e ▸ nS) fun e => e ▸ nI) k, ow, sf, nS, nI, hP⟩
theorem Btw.list {s : Shared} {P : Hp → Prop} (b : Btw X pins σ os F0 S I s P) (hl : F0 l = some (.lst xs)) : ∃ its : List Value, Vals xs its ∧ s.heap.IsList l its.toArray := by
  obtain ⟨H, F, inv, ow, sf, nS, nI, hP⟩ := b
  exact list_raw inv (ow.ex l _ (sf l _ hl))
theorem Btw.cmp {s : Shared} {P : Hp → Prop} {i j : Nat} {u u' : V} {v v' : Value} {E : Value → Shared → Prop} {Q : Value → Shared → Prop} (b : Btw X pins σ os F0 S I s (fun F => (P F ∧ Dq F u (kd i)) ∧ Dq F u' (kd j))) (K : KOk kd) (hu : X.A.units + 64 < cLine) (r : RelV u v) (r' : RelV u' v')
    (h : Q (.bool (PySem.W.dataLt (kd j) (kd i))) s) : wpAny (model X.prog X.w) X.A (richCompare .Lt v' v) Q E s := by
  obtain ⟨H, F, inv, ow, sf, nS, nI, ⟨_, d1⟩, d2⟩ := b
  obtain ⟨as, r1⟩ := Dp.reads inv (kd i) u v (dq_dp X.K _ _ (K.nd i) (dq_mono ow.ex _ _ d1)) r
  obtain ⟨bs, r2⟩ := Dp.reads inv (kd j) u' v' (dq_dp X.K _ _ (K.nd j) (dq_mono ow.ex _ _ d2)) r'
  exact PySem.W.rcLt_alike (kd j) (kd i) X.A s v' v bs as r2 r1 (K.al j i) (K.nn j) (by have := K.dp j; omega) _ _ _ _ h
end
section
variable {X : Cx} {pins : List (Addr × Obj)} {σ : L2.St} {os : Os} {F0 : Hp} {l S I f : Addr} {xs : List V} {kd : Nat → PyData} {k : Nat} {fd : FuncData} {ps : List Str} {sp : Sp}
abbrev btK (kd : Nat → PyData) : Nat → Nat → Bool := fun i j => PySem.W.dataLt (kd i) (kd j)
/-- the best so far, and its key -/
def Bst (F : Hp) (xs : List V) (kd : Nat → PyData) (m : Nat) (vb kb : Value) : Prop := (∃ ub, xs[m]? = some ub ∧ RelV ub vb) ∧ ∃ uk, RelV uk kb ∧ Dq F uk (kd m)
theorem iter_turn {s : Shared} {its : List Value} {i : Nat} {u : V} {Q : Option Value → Shared → Prop} {E : Value → Shared → Prop} {A : Around} {P : Hp → Prop} (b : Btw X pins σ os F0 S I s P) (fI : Fsh X pins I) (hl : F0 l = some (.lst xs)) (hi : s.heap.IsListIter I l i) (hu : xs[i]? = some u)
    (h : ∀ v s', RelV u v → Btw X pins σ os F0 S I s' P → s'.heap.IsListIter I l (i + 1) → (∀ b o, b ≠ I → s.heap.get? b = some o → s'.heap.get? b = some o) → Q (some v) s') : wpAny (model X.prog X.w) A (pyNext (.ref I)) Q E s := by
  obtain ⟨its, rv, isl⟩ := b.list hl
  obtain ⟨v, e, r⟩ := rv.get hu
  refine wpAny_pyNext_list_item hi isl (x := v) (by simpa using e) fun h' hit' hs' => ?_
  exact h v { s with heap := h' } r (b.turned (t' := s.toks) fI (.inr rfl) fun c o hc e => hs'.extBut c o hc e) hit' fun c o hc e => hs'.extBut c o hc e
theorem iter_end {s : Shared} {Q : Option Value → Shared → Prop} {E : Value → Shared → Prop} {A : Around} {P : Hp → Prop} (hh : A.handled = none) (b : Btw X pins σ os F0 S I s P) (fI : Fsh X pins I) (hl : F0 l = some (.lst xs)) (hi : s.heap.IsListIter I l xs.length)
    (h : ∀ s', Btw X pins σ os F0 S I s' P → (∀ b o, b ≠ I → s.heap.get? b = some o → s'.heap.get? b = some o) → Q none s') : wpAny (model X.prog X.w) A (pyNext (.ref I)) Q E s := by
  obtain ⟨its, rv, isl⟩ := b.list hl
  refine wpAny_pyNext_list_end hh hi isl (by rw [rv.length]; simp) fun h' he' => ?_
  exact h { s with heap := h' } (b.turned (t' := s.toks) fI (.inr rfl) fun c o hc e => he' c o hc e) fun c o hc e => he' c o hc e
theorem min_loopZ (gd : (a1 X).A.guards = some []) (hr : Room k (a1 X).A) (G : FnG X.prog X.w X.K X.mg X.base CX0 k f fd ps sp) (hb : Binds X.K fd ps []) (hk : KeyOf sp xs F0 os kd) (K : KOk kd) (fS : Fsh X pins S) (fI : Fsh X pins I) (hSI : S ≠ I) (hl : F0 l = some (.lst xs)) (kw : List (Str × Value)) {R : Result → Shared → Prop} :
    ∀ (n j : Nat) (s : Shared) (vb kb : Value) (c : Nat), xs.length - (j + 1) = n → j + 1 ≤ xs.length → Btw (a1 X) pins σ os F0 S I s (fun F => Bst F xs kd (argBest (btK kd) j) vb kb) → s.heap.IsListIter I l (j + 1) →
      s.heap.get? S = some { cls := .type "list", dict := none, data := .seq #[vb, kb] c, slots := #[] } →
      (∀ v s' P, Btw (a1 X) pins σ os F0 S I s' P → (∃ ub, xs[argBest (btK kd) (xs.length - 1)]? = some ub ∧ RelV ub v) → R (.ok (.ret v)) s') → codeAny (model X.prog X.w) X.A (.builtin "min.loop" ⟨[.ref I, .ref f, .ref S], kw⟩) R s := by
  have hname : (toString "min" ++ toString ".loop" : String) = "min.loop" := by decide
  have fS' : Fsh (a1 X) pins S := ⟨fS.sz, fS.loc, fS.cell, fS.pin, fS.fs⟩
  have fI' : Fsh (a1 X) pins I := ⟨fI.sz, fI.loc, fI.cell, fI.pin, fI.fs⟩
  intro n
  induction n with
  | zero =>
    intro j s vb kb c hn hj hB hI hS hR
    have hin : j + 1 = xs.length := by omega
    refine codeAny_builtin PySem.F.entry_min_loop ?_
    rw [Around.under_plainId PySem.F.plain_min_loop _]
    show wpAny _ X.A.in1 (seqItems? (.ref S) >>= _) _ _ s
    refine wpAny_bind (wpAny_seqItems hS rfl ?_)
    show wpAny _ X.A.in1 (tryCatch (pyNext (.ref I)) _ >>= _) _ _ s
    refine wpAny_bind (wpAny_tryCatch (iter_end (X := a1 X) hr.hd hB fI' hl (hin ▸ hI) fun s' hB' hkp => ?_))
    have hS' := hkp S _ hSI hS
    show wpAny _ X.A.in1 (updateSeq S (fun _ => #[]) >>= _) _ _ _
    refine wpAny_bind ?_
    refine wpAny_updateSeq hS' rfl (wpAny_bind (wpAny_letGo (wpAny_pure ?_)))
    refine hR vb _ _ (hB'.turned (t' := s'.toks) fS' (.inl rfl) fun b o hb e => (Heap.get?_update_other _ _ (Ne.symm hb)).trans e) ?_
    obtain ⟨_, _, _, _, _, _, _, hub, _⟩ := hB
    have : xs.length - 1 = j := by omega
    rw [this]
    exact hub
  | succ n ih =>
    intro j s vb kb c hn hj hB hI hS hR
    have hlt : j + 1 < xs.length := by omega
    refine codeAny_builtin PySem.F.entry_min_loop ?_
    rw [Around.under_plainId PySem.F.plain_min_loop _]
    show wpAny _ X.A.in1 (seqItems? (.ref S) >>= _) _ _ s
    refine wpAny_bind (wpAny_seqItems hS rfl ?_)
    show wpAny _ X.A.in1 (tryCatch (pyNext (.ref I)) _ >>= _) _ _ s
    have hu : xs[j + 1]? = some xs[j + 1] := List.getElem?_eq_getElem hlt
    refine wpAny_bind (wpAny_tryCatch (iter_turn (its := []) (X := a1 X) hB fI' hl hI hu fun v s' rv hB' hI' hkp => ?_))
    have hS' := hkp S _ hSI hS
    show wpAny _ X.A.in1 (tryCatch (holding [v] (call (.ref f) [v])) _ >>= _) _ _ _
    obtain ⟨oI, eI, cI, dI⟩ := id hI'
    refine wpAny_bind (wpAny_tryCatch (wpAny_holding (key_run (X := a1 X) gd hr G hb hk fS' fI' (fun F F' e h => ⟨h.1, let ⟨uk, r, d⟩ := h.2; ⟨uk, r, dq_mono e _ _ d⟩⟩) hu rv hB' hS' eI (fun v h => nomatch h) (fun v h => by rw [dI] at h; cases h) fun kx s2 uk rk hB2 hS2 eI2 => ?_)))
    have hI2 : s2.heap.IsListIter I l (j + 1 + 1) := ⟨oI, eI2, cI, dI⟩
    show wpAny _ X.A.in1 (tryCatch (holding [v, kx] (richCompare .Lt kx kb >>= _)) _ >>= _) _ _ _
    obtain ⟨H2, F2, inv2, ow2, sf2, nS2, nI2, ⟨hub, ukb, rkb, dkb⟩, dk⟩ := id hB2
    refine wpAny_bind (wpAny_tryCatch (wpAny_holding (wpAny_bind (Btw.cmp (X := a1 X) (P := fun _ => True) (i := argBest (btK kd) j) (j := j + 1) (u := ukb) (u' := uk) ⟨H2, F2, inv2, ow2, sf2, nS2, nI2, ⟨trivial, dkb⟩, dk⟩ K hr.units rkb rk ?_))))
    refine wpAny_bind (wpAny_holding (wpAny_truthy_bool ?_))
    refine wpAny_bind (wpAny_letGo (wpAny_pure ?_))
    cases hbt : PySem.W.dataLt (kd (j + 1)) (kd (argBest (btK kd) j)) with
    | true =>
      have ha : argBest (btK kd) (j + 1) = j + 1 := by
        show (if btK kd (j + 1) (argBest (btK kd) j) = true then j + 1 else argBest (btK kd) j) = j + 1
        rw [if_pos hbt]
      simp only [if_true]
      refine wpAny_bind ?_
      refine wpAny_updateSeq hS2 rfl (wpAny_bind (wpAny_letGo ?_))
      rw [hname]
      refine wpAny_pure ⟨plainId_quiet PySem.F.plain_min_loop _, ih (j + 1) _ v kx _ (by omega) hlt ?_ ?_ (Heap.get?_update_self _ hS2 rfl) hR⟩
      · rw [ha]
        exact Btw.turned (X := a1 X) (t' := s2.toks) ⟨H2, F2, inv2, ow2, sf2, nS2, nI2, ⟨_, hu, rv⟩, uk, rk, dk⟩ fS' (.inl rfl) fun b o hb e => (Heap.get?_update_other _ _ (Ne.symm hb)).trans e
      · exact ⟨oI, (Heap.get?_update_other _ _ hSI).trans eI2, cI, dI⟩
    | false =>
      have ha : argBest (btK kd) (j + 1) = argBest (btK kd) j := by
        show (if btK kd (j + 1) (argBest (btK kd) j) = true then j + 1 else argBest (btK kd) j) = _
        rw [if_neg (by rw [show btK kd (j + 1) (argBest (btK kd) j) = false from hbt]; simp)]
      simp only [Bool.false_eq_true, if_false]
      refine wpAny_bind (wpAny_letGo ?_)
      rw [hname]
      refine wpAny_pure ⟨plainId_quiet PySem.F.plain_min_loop _, ih (j + 1) _ vb kb c (by omega) hlt ?_ hI2 hS2 hR⟩
      rw [ha]
      exact ⟨H2, F2, inv2, ow2, sf2, nS2, nI2, hub, ukb, rkb, dkb⟩
end
section
variable {X : Cx} {pins : List (Addr × Obj)} {σ : L2.St} {os : Os} {F0 : Hp} {l S I f : Addr} {xs : List V} {kd : Nat → PyData} {k : Nat} {fd : FuncData} {ps : List Str} {sp : Sp}
theorem min_firstZ (gd : (a1 X).A.guards = some []) (hr : Room k (a1 X).A) (G : FnG X.prog X.w X.K X.mg X.base CX0 k f fd ps sp) (hb : Binds X.K fd ps []) (hk : KeyOf sp xs F0 os kd) (K : KOk kd) (fS : Fsh X pins S) (fI : Fsh X pins I) (hSI : S ≠ I) (hl : F0 l = some (.lst xs)) (kw : List (Str × Value)) {R : Result → Shared → Prop}
    {s : Shared} {c : Nat} (hn : 0 < xs.length) (hB : Btw (a1 X) pins σ os F0 S I s (fun _ => True)) (hI : s.heap.IsListIter I l 0) (hS : s.heap.get? S = some { cls := .type "list", dict := none, data := .seq #[] c, slots := #[] })
    (hR : ∀ v s' P, Btw (a1 X) pins σ os F0 S I s' P → (∃ ub, xs[argBest (btK kd) (xs.length - 1)]? = some ub ∧ RelV ub v) → R (.ok (.ret v)) s') : codeAny (model X.prog X.w) X.A (.builtin "min.loop" ⟨[.ref I, .ref f, .ref S], kw⟩) R s := by
  have hname : (toString "min" ++ toString ".loop" : String) = "min.loop" := by decide
  have fS' : Fsh (a1 X) pins S := ⟨fS.sz, fS.loc, fS.cell, fS.pin, fS.fs⟩
  have fI' : Fsh (a1 X) pins I := ⟨fI.sz, fI.loc, fI.cell, fI.pin, fI.fs⟩
  refine codeAny_builtin PySem.F.entry_min_loop ?_
  rw [Around.under_plainId PySem.F.plain_min_loop _]
  show wpAny _ X.A.in1 (seqItems? (.ref S) >>= _) _ _ s
  refine wpAny_bind (wpAny_seqItems hS rfl ?_)
  show wpAny _ X.A.in1 (tryCatch (pyNext (.ref I)) _ >>= _) _ _ s
  have hu : xs[0]? = some xs[0] := List.getElem?_eq_getElem hn
  refine wpAny_bind (wpAny_tryCatch (iter_turn (its := []) (X := a1 X) hB fI' hl hI hu fun v s' rv hB' hI' hkp => ?_))
  have hS' := hkp S _ hSI hS
  show wpAny _ X.A.in1 (tryCatch (holding [v] (call (.ref f) [v])) _ >>= _) _ _ _
  obtain ⟨oI, eI, cI, dI⟩ := id hI'
  refine wpAny_bind (wpAny_tryCatch (wpAny_holding (key_run (X := a1 X) gd hr G hb hk fS' fI' (fun _ _ _ h => h) hu rv hB' hS' eI (fun v h => nomatch h) (fun v h => by rw [dI] at h; cases h) fun kx s2 uk rk hB2 hS2 eI2 => ?_)))
  have hI2 : s2.heap.IsListIter I l (0 + 1) := ⟨oI, eI2, cI, dI⟩
  show wpAny _ X.A.in1 (updateSeq S (fun _ => #[v, kx]) >>= _) _ _ _
  refine wpAny_bind ?_
  refine wpAny_updateSeq hS2 rfl ?_
  rw [hname]
  obtain ⟨H2, F2, inv2, ow2, sf2, nS2, nI2, _, dk⟩ := id hB2
  refine wpAny_pure ⟨plainId_quiet PySem.F.plain_min_loop _, min_loopZ gd hr G hb hk K fS fI hSI hl kw _ 0 _ v kx _ rfl hn ?_ ?_ (Heap.get?_update_self _ hS2 rfl) hR⟩
  · exact Btw.turned (X := a1 X) (t' := s2.toks) ⟨H2, F2, inv2, ow2, sf2, nS2, nI2, ⟨_, hu, rv⟩, uk, rk, dk⟩ fS' (.inl rfl) fun b o hb e => (Heap.get?_update_other _ _ (Ne.symm hb)).trans e
  · exact ⟨oI, (Heap.get?_update_other _ _ hSI).trans eI2, cI, dI⟩
/-- what min asks of its list and of its key -/
structure MinK (X : Cx) (F0 : Hp) (os : Os) (l f : Addr) (xs : List V) (kd : Nat → PyData) (k : Nat) (fd : FuncData) (ps : List Str) (sp : Sp) : Prop where
  gd : X.A.guards = some []
  hr : Room (k + 1) X.A
  G : FnG X.prog X.w X.K X.mg X.base CX0 k f fd ps sp
  hb : Binds X.K fd ps []
  hk : KeyOf sp xs F0 os kd
  K : KOk kd
  hl : F0 l = some (.lst xs)
/-- the iterator, and min's own list, are laid -/
theorem min_begin {s : Shared} {H : Hp} {its : List Value} (M : MinK X F0 os l f xs kd k fd ps sp) (inv : Inv X pins σ H s) (ow : Ow F0 os H) :
    ∀ s2 s3 : Shared, s2 = { s with heap := s.heap.push { cls := .type "list_iterator", data := .fields #[.ref l, .int 0 0] } } → s3 = { s2 with heap := s2.heap.push { cls := .type "list", data := .seq #[] 0 } } →
      Fsh X pins s.heap.objs.size ∧ Fsh X pins s2.heap.objs.size ∧ s2.heap.objs.size ≠ s.heap.objs.size ∧ Btw (a1 X) pins σ os F0 s2.heap.objs.size s.heap.objs.size s3 (fun _ => True) ∧ s3.heap.IsListIter s.heap.objs.size l 0 ∧ s3.heap.get? s2.heap.objs.size = some { cls := .type "list", dict := none, data := .seq #[] 0, slots := #[] } := by
  rintro s2 s3 rfl rfl
  have z : (s.heap.push { cls := .type "list_iterator", data := .fields #[.ref l, .int 0 0] }).objs.size = s.heap.objs.size + 1 := Heap.size_push ..
  have f1 := fsh_of inv (Nat.le_refl s.heap.objs.size)
  have f2 : Fsh X pins (s.heap.push { cls := .type "list_iterator", data := .fields #[.ref l, .int 0 0] }).objs.size := fsh_of inv (by rw [z]; omega)
  have n1 := inv.hok.fresh (Nat.le_refl s.heap.objs.size)
  have n2 : H (s.heap.push { cls := .type "list_iterator", data := .fields #[.ref l, .int 0 0] }).objs.size = none := inv.hok.fresh (by rw [z]; omega)
  refine ⟨f1, f2, by show (s.heap.push _).objs.size ≠ _; rw [z]; omega, ⟨H, F0, ?_, ow, Same.refl F0, n2, n1, trivial⟩, ⟨_, Heap.get?_push_of_some _ (Heap.get?_push_size _ rfl), rfl, rfl⟩, Heap.get?_push_size _ rfl⟩
  exact inv_a1 (inv.kept (t' := s.toks) fun b u e => Heap.get?_push_of_some _ (Heap.get?_push_of_some _ e))
theorem min_callZ {s : Shared} {H : Hp} {Q : VK} {E : Value → Shared → Prop} (M : MinK X F0 os l f xs kd k fd ps sp) (inv : Inv X pins σ H s) (ow : Ow F0 os H) (hn : 0 < xs.length)
    (q : ∀ F' H' u, Same F0 F' → Ow F' os H' → xs[argBest (btK kd) (xs.length - 1)]? = some u → Q u H') : wpAny (model X.prog X.w) X.A (call (.builtin "min") [.ref l] [(Str.ofString "key", .ref f)]) (EP X pins σ Q) E s := by
  have hname : (toString "min" ++ toString ".loop" : String) = "min.loop" := by decide
  refine PyProof.Rows.kmk_tree PySem.F.kind_min PySem.F.plain_min PySem.F.entry_min (PyProof.Rows.kmk_min_key _ _) ?_
  show wpAny _ X.A.in1 (Builtin.Builtins.bindParams "min" ["key", "default"] 0 ⟨[], [(Str.ofString "key", .ref f)]⟩ >>= _) _ _ s
  refine wpAny_bind (wpAny_of_eq (show Builtin.Builtins.bindParams "min" ["key", "default"] 0 ⟨[], [(Str.ofString "key", .ref f)]⟩ = pure [some (.ref f), none] from rfl) ?_)
  refine wpAny_bind (wpAny_pure ?_)
  obtain ⟨its, rv, isl⟩ := list_raw inv (ow.ex l _ M.hl)
  refine wpAny_bind (wpAny_pyIter_list isl ?_)
  refine wpAny_bind (wpAny_newObj_type ?_)
  rw [hname]
  obtain ⟨f1, f2, ne, b, hI, hS⟩ := min_begin (its := its) M inv ow _ _ rfl rfl
  refine wpAny_pure ⟨plainId_quiet PySem.F.plain_min_loop _, min_firstZ M.gd M.hr.in1 M.G M.hb M.hk M.K f2 f1 ne M.hl _ hn b hI hS fun v s' P b' hu => ?_⟩
  obtain ⟨H', F', inv', ow', sf, _, _, _⟩ := b'
  obtain ⟨ub, hu, r⟩ := hu
  exact ⟨ub, H', inv_of_a1 inv.ok inv', r, q F' H' ub sf ow' hu⟩
theorem min_callZD {s : Shared} {H : Hp} {Q : VK} {E : Value → Shared → Prop} {d : V} {dv : Value} (M : MinK X F0 os l f xs kd k fd ps sp) (inv : Inv X pins σ H s) (ow : Ow F0 os H) (rd : RelV d dv)
    (q0 : xs.length = 0 → ∀ F' H', Same F0 F' → Ow F' os H' → Q d H') (q : ∀ F' H' u, Same F0 F' → Ow F' os H' → xs[argBest (btK kd) (xs.length - 1)]? = some u → Q u H') : wpAny (model X.prog X.w) X.A (call (.builtin "min") [.ref l] [(Str.ofString "key", .ref f), (Str.ofString "default", dv)]) (EP X pins σ Q) E s := by
  have hname : (toString "min" ++ toString ".loop" : String) = "min.loop" := by decide
  refine PyProof.Rows.kmk_tree PySem.F.kind_min PySem.F.plain_min PySem.F.entry_min (args_min_key_default _ _ _) ?_
  show wpAny _ X.A.in1 (Builtin.Builtins.bindParams "min" ["key", "default"] 0 ⟨[], [(Str.ofString "key", .ref f), (Str.ofString "default", dv)]⟩ >>= _) _ _ s
  refine wpAny_bind (wpAny_of_eq (show Builtin.Builtins.bindParams "min" ["key", "default"] 0 ⟨[], [(Str.ofString "key", .ref f), (Str.ofString "default", dv)]⟩ = pure [some (.ref f), some dv] from rfl) ?_)
  refine wpAny_bind (wpAny_pure ?_)
  obtain ⟨its, rv, isl⟩ := list_raw inv (ow.ex l _ M.hl)
  refine wpAny_bind (wpAny_pyIter_list isl ?_)
  refine wpAny_bind (wpAny_newObj_type ?_)
  rw [hname]
  obtain ⟨f1, f2, ne, b, hI, hS⟩ := min_begin (its := its) M inv ow _ _ rfl rfl
  refine wpAny_pure ⟨plainId_quiet PySem.F.plain_min_loop _, ?_⟩
  rcases Nat.eq_zero_or_pos xs.length with hn | hn
  · refine codeAny_builtin PySem.F.entry_min_loop ?_
    rw [Around.under_plainId PySem.F.plain_min_loop _]
    show wpAny _ X.A.in1 (seqItems? (.ref _) >>= _) _ _ _
    refine wpAny_bind (wpAny_seqItems hS rfl ?_)
    show wpAny _ X.A.in1 (tryCatch (pyNext (.ref _)) _ >>= _) _ _ _
    refine wpAny_bind (wpAny_tryCatch (iter_end (X := a1 X) M.hr.in1.hd b ⟨f1.sz, f1.loc, f1.cell, f1.pin, f1.fs⟩ M.hl (by rw [hn]; exact hI) fun s' b' _ => ?_))
    show wpAny _ X.A.in1 (rule _ >>= _) _ _ _
    obtain ⟨H', F', inv', ow', sf, _, _, _⟩ := b'
    exact wpAny_bind (wpAny_rule (wpAny_pure ⟨d, H', inv_of_a1 inv.ok inv', rd, q0 hn F' H' sf ow'⟩))
  · refine min_firstZ M.gd M.hr.in1 M.G M.hb M.hk M.K f2 f1 ne M.hl _ hn b hI hS fun v s' P b' hu => ?_
    obtain ⟨H', F', inv', ow', sf, _, _, _⟩ := b'
    obtain ⟨ub, hu, r⟩ := hu
    exact ⟨ub, H', inv_of_a1 inv.ok inv', r, q F' H' ub sf ow' hu⟩
end
def keysO {α β : Type} (f : α → Option β) : List α → Option (List β)
  | [] => some []
  | x :: t => (f x).bind fun k => (keysO f t).bind fun ks => some (k :: ks)
def minKO {α β : Type} (f : α → Option β) (lt : β → β → Bool) (xs : List α) : Option α :=
  (keysO f xs).bind fun ks => match ks with
    | [] => none
    | k0 :: _ => xs[argBest (fun i j => lt (ks.getD i k0) (ks.getD j k0)) (xs.length - 1)]?
def minKDO {α β : Type} (f : α → Option β) (lt : β → β → Bool) (xs : List α) (d : α) : Option α := match xs with
  | [] => some d
  | _ :: _ => minKO f lt xs
theorem keysO_get {α β : Type} {f : α → Option β} : ∀ {xs : List α} {ks : List β}, keysO f xs = some ks → ks.length = xs.length ∧ ∀ (i : Nat) (x : α), xs[i]? = some x → ∃ k, ks[i]? = some k ∧ f x = some k
  | [], ks, h => by
    cases h
    exact ⟨rfl, fun i x e => by simp at e⟩
  | x :: t, ks, h => by
    unfold keysO at h
    obtain ⟨k, h1, h⟩ := Option.bind_eq_some_iff.mp h
    obtain ⟨ks', h2, h⟩ := Option.bind_eq_some_iff.mp h
    cases h
    obtain ⟨a, b⟩ := keysO_get h2
    refine ⟨by simp [a], fun i y e => ?_⟩
    cases i with
    | zero =>
      simp at e
      subst e
      exact ⟨k, rfl, h1⟩
    | succ i => simpa using b i y (by simpa using e)
theorem minKO_best {α β : Type} {f : α → Option β} {lt : β → β → Bool} {xs : List α} {r : α} (h : minKO f lt xs = some r) :
    ∃ K : Nat → β, (∀ (i : Nat) (x : α), xs[i]? = some x → f x = some (K i)) ∧ xs[argBest (fun i j => lt (K i) (K j)) (xs.length - 1)]? = some r := by
  unfold minKO at h
  obtain ⟨ks, h1, h⟩ := Option.bind_eq_some_iff.mp h
  obtain ⟨a, b⟩ := keysO_get h1
  cases ks with
  | nil => cases h
  | cons k0 t =>
    refine ⟨fun i => (k0 :: t).getD i k0, fun i x e => ?_, h⟩
    obtain ⟨k, e1, e2⟩ := b i x e
    rw [e2]
    simp [List.getD, e1]
theorem kok_int : KOk (fun _ => PyData.int 0) := ⟨fun i j => by first | rfl | decide, fun i z => (nomatch z), fun i => by simp [PyData.depth], fun i => by simp [PyData.hasDict]⟩
def rMinK (X : Cx) : List V → List V → Hp → VK → Prop := fun vs zs H Q => ∃ (l f : Addr) (xs : List V) (kd : Nat → PyData) (k : Nat) (fd : FuncData) (ps : List Str) (sp : Sp) (F0 : Hp) (os : Os),
  vs = [.ref l] ∧ zs = [.ref f] ∧ MinK X F0 os l f xs kd k fd ps sp ∧ Ow F0 os H ∧ 0 < xs.length ∧ ∀ F' H' u, Same F0 F' → Ow F' os H' → xs[argBest (btK kd) (xs.length - 1)]? = some u → Q u H'
def rMinKD (X : Cx) : List V → List V → Hp → VK → Prop := fun vs zs H Q => ∃ (l f : Addr) (d : V) (xs : List V) (kd : Nat → PyData) (k : Nat) (fd : FuncData) (ps : List Str) (sp : Sp) (F0 : Hp) (os : Os),
  vs = [.ref l] ∧ zs = [.ref f, d] ∧ MinK X F0 os l f xs kd k fd ps sp ∧ Ow F0 os H ∧ (xs.length = 0 → ∀ F' H', Same F0 F' → Ow F' os H' → Q d H') ∧ ∀ F' H' u, Same F0 F' → Ow F' os H' → xs[argBest (btK kd) (xs.length - 1)]? = some u → Q u H'
theorem cr_minK {X : Cx} : CallRK X (.builtin "min") [Str.ofString "key"] (rMinK X) := by
  intro pins s σ H vs zs us ws Q I r rz h
  obtain ⟨l, f, xs, kd, k, fd, ps, sp, F0, os, rfl, rfl, M, ow, hn, q⟩ := h
  obtain rfl := Vals.ref1 r
  obtain rfl := Vals.ref1 rz
  exact min_callZ M I ow hn q
theorem cr_minKD {X : Cx} : CallRK X (.builtin "min") [Str.ofString "key", Str.ofString "default"] (rMinKD X) := by
  intro pins s σ H vs zs us ws Q I r rz h
  obtain ⟨l, f, d, xs, kd, k, fd, ps, sp, F0, os, rfl, rfl, M, ow, q0, q⟩ := h
  obtain rfl := Vals.ref1 r
  obtain ⟨w1, w2, rfl, e1, e2⟩ := vals2 rz
  obtain rfl : w1 = Value.ref f := e1
  exact min_callZD M I ow e2 q0 q
section
variable {X : Cx} {es : List Slot} {os os1 os2 : Os} {N W G : List Str} {k j : Nat} {fn : Str} {p pos kp kpos dpos : Pos} {e e2 : Expr} {st : Stmt} {pn : List Str} {α β γ : Type}
  {ps : α → List VP} {pre : α → Os} {f : α → Option β} {res : α → β → VP} {post : α → β → Os} {enc : α → PyData} {encb : β → PyData} {ltb : β → β → Bool} {m : Nat} {xs : List α} {r : α}
theorem mink_ok {F0 : Hp} {l : Addr} {us : List V} {rest : Os} {fa : Addr} {fd : FuncData} (B : Bd X N W G k) (Gf : FnG X.prog X.w X.K X.mg X.base CX0 j fa fd pn (spZ ps pre f res post)) (hb : Binds X.K fd pn []) (hl : j + 1 ≤ k) (hps : ∀ a, ps a = [dat (enc a)]) (hpre : ∀ a, pre a = []) (hres : ∀ a b, res a b = dat (encb b)) (hpost : ∀ a b, post a b = [])
    (lt : LtOk encb ltb) (sh : ShOk encb m) (hm60 : m ≤ 60) {K : Nat → β} (hK : ∀ i x, xs[i]? = some x → f x = some (K i)) (hF : F0 l = some (.lst us)) (hd : DqAll F0 us (xs.map enc)) :
    MinK X F0 rest l fa us (fun i => encb (K i)) j fd pn (spZ ps pre f res post) where
  gd := B.gd
  hr := B.room.mono hl
  G := Gf
  hb := hb
  hk := fun i u F H Q hu sf ow q => by
    obtain ⟨d, e1, e2⟩ := dqall_get hd hu
    rw [List.getElem?_map] at e1
    obtain ⟨x, e3, rfl⟩ := Option.map_eq_some_iff.mp e1
    refine ⟨x, K i, F, rest, ?_, by rw [hpre]; exact ow, hK i x e3, fun F' H' v a b c => ?_⟩
    · rw [hps]
      exact ⟨u, [], rfl, cl_dat (dq_mono sf _ _ e2), rfl⟩
    · rw [hpost] at b
      rw [hres] at c
      exact q F' H' v a b c.now
  K := ⟨fun a b => lt.al _ _, fun a => lt.nn _, fun a => Nat.le_trans (sh.dep _) hm60, fun a => shaped_lay (sh.shaped (by omega) _)⟩
  hl := hF
theorem bt_eq (lt : LtOk encb ltb) (K : Nat → β) : btK (fun i => encb (K i)) = fun i j => ltb (K i) (K j) := by
  funext i j
  exact lt.lt _ _
theorem ex_minK {gi gf : Nat} (B : Bd X N W G k) (hj : G[gi]? = some ("min" : Str)) (hm : X.mg "min" = none) (hjf : G[gf]? = some fn) (c : Cal X.prog X.w X.K X.mg X.base j fn st pn (spZ ps pre f res post)) (hl : j + 1 ≤ k) (hps : ∀ a, ps a = [dat (enc a)]) (hpre : ∀ a, pre a = []) (hres : ∀ a b, res a b = dat (encb b)) (hpost : ∀ a b, post a b = [])
    (lt : LtOk encb ltb) (sh : ShOk encb m) (hm60 : m ≤ 60) (hr : minKO f ltb xs = some r) (ha : AX X es os [e] [dat (.list (xs.map enc))] os1)
    (he : backTo pos (starEach [e] X.env) = (false, eval e X.env) :: backTo pos (starEach [] X.env) := by rfl) (hpl : (backTo pos (starEach [e] X.env)).any (·.1) = false := by rfl)
    (hall : (backToKw pos (keywordEach [⟨some (Str.ofString "key"), .Name fn kp, kpos⟩] X.env)).all (·.1.isSome) = true := by rfl) (hnone : (backToKw pos (keywordEach [⟨some (Str.ofString "key"), .Name fn kp, kpos⟩] X.env)).any (·.1.isNone) = false := by rfl) (hks : (backToKw pos (keywordEach [⟨some (Str.ofString "key"), .Name fn kp, kpos⟩] X.env)).filterMap (·.1) = [Str.ofString "key"] := by rfl) :
    EX X es os (.Call (.Name "min" p) [e] [⟨some (Str.ofString "key"), .Name fn kp, kpos⟩] pos) (dat (enc r)) os1 := fun F σ H Q ow sl q => by
  obtain ⟨fa, fd, Fn, Gf, hmf, hb⟩ := c.ex
  obtain ⟨g1, g2⟩ := B.gl _ (List.mem_of_getElem? hj)
  obtain ⟨g3, g4⟩ := B.gl _ (List.mem_of_getElem? hjf)
  refine we_of (pe_callBK cr_minK g1 hm (by decide +kernel) pa_u (pk_cons (pe_glob g3 hmf (show RelV (.ref fa) (.ref fa) from rfl) (dun_d g4)) pk_nil) (dun_n g2) (dun_d g2) he hpl hall hnone hks) ?_
  refine ha F σ H _ ow sl fun F1 H1 vs e1 o1 c1 => ?_
  obtain ⟨v, rfl, hv⟩ := cla1 c1
  have hv := hv.now
  cases hv with
  | @lst l us _ hF hd =>
    obtain ⟨K, hK, hbest⟩ := minKO_best hr
    have hlen := dqall_len hd
    rw [List.length_map] at hlen
    refine ⟨l, fa, us, fun i => encb (K i), j, fd, pn, _, F1, os1, rfl, rfl, mink_ok B Gf hb hl hps hpre hres hpost lt sh hm60 hK hF hd, o1, ?_, fun F2 H2 u s2 o2 hu => ?_⟩
    · rw [hlen]
      have := (List.getElem?_eq_some_iff.mp hbest).1
      omega
    · rw [bt_eq lt, hlen] at hu
      obtain ⟨d, e3, e4⟩ := dqall_get hd hu
      rw [List.getElem?_map, hbest] at e3
      cases e3
      exact q F2 H2 u (e1.trans s2) o2 (cl_dat (dq_mono s2 _ _ e4))
theorem ex_minKD {gi gf : Nat} {d : α} (B : Bd X N W G k) (hj : G[gi]? = some ("min" : Str)) (hm : X.mg "min" = none) (hjf : G[gf]? = some fn) (c : Cal X.prog X.w X.K X.mg X.base j fn st pn (spZ ps pre f res post)) (hl : j + 1 ≤ k) (hps : ∀ a, ps a = [dat (enc a)]) (hpre : ∀ a, pre a = []) (hres : ∀ a b, res a b = dat (encb b)) (hpost : ∀ a b, post a b = [])
    (lt : LtOk encb ltb) (sh : ShOk encb m) (hm60 : m ≤ 60) (hr : minKDO f ltb xs d = some r) (ha : AX X es os [e] [dat (.list (xs.map enc))] os1) (hd2 : EX X es os1 e2 (dat (enc d)) os2)
    (he : backTo pos (starEach [e] X.env) = (false, eval e X.env) :: backTo pos (starEach [] X.env) := by rfl) (hpl : (backTo pos (starEach [e] X.env)).any (·.1) = false := by rfl)
    (hall : (backToKw pos (keywordEach [⟨some (Str.ofString "key"), .Name fn kp, kpos⟩, ⟨some (Str.ofString "default"), e2, dpos⟩] X.env)).all (·.1.isSome) = true := by rfl) (hnone : (backToKw pos (keywordEach [⟨some (Str.ofString "key"), .Name fn kp, kpos⟩, ⟨some (Str.ofString "default"), e2, dpos⟩] X.env)).any (·.1.isNone) = false := by rfl) (hks : (backToKw pos (keywordEach [⟨some (Str.ofString "key"), .Name fn kp, kpos⟩, ⟨some (Str.ofString "default"), e2, dpos⟩] X.env)).filterMap (·.1) = [Str.ofString "key", Str.ofString "default"] := by rfl) :
    EX X es os (.Call (.Name "min" p) [e] [⟨some (Str.ofString "key"), .Name fn kp, kpos⟩, ⟨some (Str.ofString "default"), e2, dpos⟩] pos) (dat (enc r)) os2 := fun F σ H Q ow sl q => by
  obtain ⟨fa, fd, Fn, Gf, hmf, hb⟩ := c.ex
  obtain ⟨g1, g2⟩ := B.gl _ (List.mem_of_getElem? hj)
  obtain ⟨g3, g4⟩ := B.gl _ (List.mem_of_getElem? hjf)
  refine we_of (pe_callBK cr_minKD g1 hm (by decide +kernel) pa_u (pk_cons (pe_glob g3 hmf (show RelV (.ref fa) (.ref fa) from rfl) (dun_d g4)) (pk_cons pe_u pk_nil)) (dun_n g2) (dun_d g2) he hpl hall hnone hks) ?_
  refine ha F σ H _ ow sl fun F1 H1 vs e1 o1 c1 => ?_
  obtain ⟨v, rfl, hv⟩ := cla1 c1
  have hv := hv.now
  show WE X e2 σ H1 _
  refine hd2 F1 σ H1 _ o1 (sl.mono e1) fun F2 H2 dv e2' o2 cd => ?_
  cases hv with
  | @lst l us _ hF hd =>
    have hF2 := e2' _ _ hF
    have hd' := dqall_mono e2' _ _ hd
    have hlen := dqall_len hd
    rw [List.length_map] at hlen
    cases xs with
    | nil =>
      cases hr
      obtain ⟨k0⟩ : Nonempty (Nat → PyData) := ⟨fun _ => .int 0⟩
      have hnil : us = [] := List.length_eq_zero_iff.mp hlen
      refine ⟨l, fa, dv, us, fun _ => .int 0, j, fd, pn, _, F2, os2, rfl, rfl, ⟨B.gd, B.room.mono hl, Gf, hb, fun i u F H Q hu => ?_, kok_int, hF2⟩, o2, fun _ F3 H3 s3 o3 => ?_, fun F3 H3 u s3 o3 hu => ?_⟩
      · rw [hnil] at hu
        simp at hu
      · exact q F3 H3 dv ((e1.trans e2').trans s3) o3 (cd.mono s3)
      · rw [hnil] at hu
        simp at hu
    | cons x t =>
      have hr' : minKO f ltb (x :: t) = some r := hr
      obtain ⟨K, hK, hbest⟩ := minKO_best hr'
      refine ⟨l, fa, dv, us, fun i => encb (K i), j, fd, pn, _, F2, os2, rfl, rfl, mink_ok B Gf hb hl hps hpre hres hpost lt sh hm60 hK hF2 hd', o2, fun hn => ?_, fun F3 H3 u s3 o3 hu => ?_⟩
      · rw [hlen] at hn
        cases hn
      · rw [bt_eq lt, hlen] at hu
        obtain ⟨d', e3, e4⟩ := dqall_get hd' hu
        rw [List.getElem?_map, hbest] at e3
        cases e3
        exact q F3 H3 u ((e1.trans e2').trans s3) o3 (cl_dat (dq_mono s3 _ _ e4))
end
end Z
namespace L51
open PySem PySem.Spec L2 Z
/-- step_order -/
def m_p_step_order (step : Int) : Option Int :=
  (if (decide (0 < step)) = true then some ((2 * step) - 2) else some (((-2) * step) - 1))
/-- walk_key -/
def m_p_walk_key (walk : (List Int)) : Option (Int × (List Int)) :=
  ((lcO (β := Int) (fun (step1 : Int) => ((m_p_step_order step1).bind fun t3 => some t3)) walk).bind fun t4 => some ((walk.length : Int), t4))
/-- straightened -/
def m_p_straightened (walk : (List Int)) : Option (List Int) :=
  ((lp (fun (s1 : (List Int)) (step2 : Int) => ((if (decide (0 < (s1.length : Int))) = true then ((idx s1 (-1)).bind fun t6 => some (decide (t6 = (-step2)))) else some false).bind fun t7 => ((if t7 = true then ((popO s1).bind fun t8 => some t8.2) else ((appO s1 step2).bind fun t9 => some t9) : Option (List Int)).bind fun s10 => some s10))) walk ([] : (List Int))).bind fun f3 => some f3)
/-- turned_back -/
def m_p_turned_back (walk : (List Int)) : Option (List Int) :=
  ((lcT (fun (step1 : Int) => (-step1)) walk.reverse).bind fun t3 => some t3)
/-- is_integer -/
def m_p_is_integer (value : Int) : Option Bool :=
  some (true && true)
/-- is_step -/
def m_p_is_step (value : Int) (letters : Int) : Option Bool :=
  ((m_p_is_integer value).bind fun t1 => some (t1 && (decide (1 ≤ (absI value)) && decide ((absI value) ≤ letters))))
/-- is_a_walk -/
def m_p_is_a_walk (value : (List Int)) (letters : Int) : Option Bool :=
  ((if true = true then ((lcO (β := Bool) (fun (step1 : Int) => ((m_p_is_step step1 letters).bind fun t3 => some t3)) value).bind fun t4 => some (t4.all id)) else some false).bind fun t5 => some t5)
/-- need_walk -/
def m_p_need_walk (walk : (List Int)) (letters : Int) : Option Unit :=
  ((m_p_is_a_walk walk letters).bind fun t1 => (if (!t1) = true then none else some ()))
/-- need_number -/
def m_p_need_number (number : Int) (low : Int) (high : Int) : Option Unit :=
  (if ((decide (number < low)) || (true && (decide (high < number)))) = true then none else some ())
/-- parted -/
def m_p_parted (walk : (List Int)) : Option ((List Int) × (List Int)) :=
  ((wh (fun (s1 : (Int × Int)) => ((if (decide (1 < (s1.2 - s1.1))) = true then ((idx walk s1.1).bind fun t3 => (idx walk (s1.2 - 1)).bind fun t4 => some (decide (t3 = (-t4)))) else some false).bind fun t5 => some t5)) (fun (s1 : (Int × Int)) => (some (Step.go ((s1.1 + 1), (s1.2 - 1))) : Option (Step ((List Int) × (List Int)) (Int × Int)))) 1000 (0, (walk.length : Int))).bind fun f2o => Sum.elim (fun r8 => none) (fun f2 => some ((cut walk none (some f2.1)), (cut walk (some f2.1) (some f2.2)))) f2o)
/-- least_part -/
def m_p_least_part (around : (List Int)) : Option (List Int) :=
  ((rngO 1 ((around.length : Int) + 1)).bind fun t1 => ((lpR (fun (s2 : Unit) (part_3 : Int) => (((modO (around.length : Int) part_3).bind fun t7 => (if (decide (t7 = 0)) = true then ((fdivO (around.length : Int) part_3).bind fun t8 => (repT (cut around none (some part_3)) t8).bind fun t9 => some (decide (t9 = around))) else some false).bind fun t10 => (if t10 = true then some (Step.ret (cut around none (some part_3))) else some (Step.go ()))) : Option (Step (List Int) Unit))) t1 ()).bind fun f4o => Sum.elim (fun r12 => some r12) (fun f4 => some ([] : (List Int))) f4o))
/-- shift_onto -/
def m_p_shift_onto (around : (List Int)) (wanted : (List Int)) : Option (Option Int) :=
  (if (!decide ((around.length : Int) = (wanted.length : Int))) = true then some none else ((rngO 0 (around.length : Int)).bind fun t1 => ((lpR (fun (s2 : Unit) (at_3 : Int) => (((catO (α := Int) (cut around (some at_3) none) (cut around none (some at_3))).bind fun t7 => (if (decide (t7 = wanted)) = true then some (Step.ret (some at_3)) else some (Step.go ()))) : Option (Step (Option Int) Unit))) t1 ()).bind fun f4o => Sum.elim (fun r9 => some r9) (fun f4 => some none) f4o)))
/-- straight -/
def m_p_straight (walk : (List Int)) : Option (List Int) :=
  ((m_p_need_walk walk 4).bind fun t1 => ((m_p_straightened walk).bind fun t2 => some t2))
/-- behind -/
def m_p_behind (one : (List Int)) (other : (List Int)) : Option (List Int) :=
  ((m_p_need_walk one 4).bind fun t1 => ((m_p_need_walk other 4).bind fun t2 => ((catO (α := Int) one other).bind fun t3 => (m_p_straightened t3).bind fun t4 => some t4)))
/-- back -/
def m_p_back (walk : (List Int)) : Option (List Int) :=
  ((m_p_need_walk walk 4).bind fun t1 => ((m_p_straightened walk).bind fun t2 => (m_p_turned_back t2).bind fun t3 => some t3))
/-- power -/
def m_p_power (walk : (List Int)) (times : Int) : Option (List Int) :=
  ((m_p_need_walk walk 4).bind fun t1 => ((m_p_need_number times (-20) 20).bind fun t2 => ((m_p_straightened walk).bind fun t3 => ((if (decide (times < 0)) = true then ((m_p_turned_back t3).bind fun t4 => some t4) else some t3 : Option (List Int)).bind fun s5 => ((repT s5 (absI times)).bind fun t6 => (m_p_straightened t6).bind fun t7 => some t7)))))
/-- core -/
def m_p_core (walk : (List Int)) : Option ((List Int) × (List Int)) :=
  ((m_p_need_walk walk 4).bind fun t1 => ((m_p_straightened walk).bind fun t2 => (m_p_parted t2).bind fun t3 => some t3))
/-- root -/
def m_p_root (walk : (List Int)) : Option ((List Int) × Int) :=
  ((m_p_need_walk walk 4).bind fun t1 => ((m_p_straightened walk).bind fun t2 => (m_p_parted t2).bind fun t3 => (if (decide (t3.2 = ([] : (List Int)))) = true then some (([] : (List Int)), 0) else ((m_p_least_part t3.2).bind fun t4 => ((catO (α := Int) t3.1 t4).bind fun t5 => (m_p_turned_back t3.1).bind fun t6 => (catO (α := Int) t5 t6).bind fun t7 => (fdivO (t3.2.length : Int) (t4.length : Int)).bind fun t8 => some (t7, t8))))))
/-- commute -/
def m_p_commute (one : (List Int)) (other : (List Int)) : Option Bool :=
  ((m_p_need_walk one 4).bind fun t1 => ((m_p_need_walk other 4).bind fun t2 => ((catO (α := Int) one other).bind fun t3 => (m_p_straightened t3).bind fun t4 => (catO (α := Int) other one).bind fun t5 => (m_p_straightened t5).bind fun t6 => some (decide (t4 = t6)))))
/-- turned -/
def m_p_turned (walk : (List Int)) (other : (List Int)) : Option (List Int) :=
  ((m_p_need_walk walk 4).bind fun t1 => ((m_p_need_walk other 4).bind fun t2 => ((m_p_turned_back other).bind fun t3 => (catO (α := Int) t3 walk).bind fun t4 => (catO (α := Int) t4 other).bind fun t5 => (m_p_straightened t5).bind fun t6 => some t6)))
/-- turned_onto -/
def m_p_turned_onto (one : (List Int)) (other : (List Int)) : Option (Option (List Int)) :=
  ((m_p_need_walk one 4).bind fun t1 => ((m_p_need_walk other 4).bind fun t2 => ((m_p_straightened one).bind fun t3 => (m_p_parted t3).bind fun t4 => ((m_p_straightened other).bind fun t5 => (m_p_parted t5).bind fun t6 => (if ((decide (t4.2 = ([] : (List Int)))) && (decide (t6.2 = ([] : (List Int))))) = true then some (some ([] : (List Int))) else ((m_p_shift_onto t4.2 t6.2).bind fun t7 => (match t7 with | none => (some none) | some shift8 => (((m_p_least_part t4.2).bind fun t9 => ((rngO 0 3).bind fun t11 => ((lp (fun (s12 : (List (List Int))) (times13 : Int) => ((repT t9 times13).bind fun t17 => (catO (α := Int) t4.1 t17).bind fun t18 => (catO (α := Int) t18 (cut t4.2 none (some shift8))).bind fun t19 => (m_p_turned_back t6.1).bind fun t20 => (catO (α := Int) t19 t20).bind fun t21 => (m_p_straightened t21).bind fun t22 => (appO s12 t22).bind fun t23 => ((m_p_turned_back t9).bind fun t24 => (repT t24 times13).bind fun t25 => (catO (α := Int) t4.1 t25).bind fun t26 => (catO (α := Int) t26 (cut t4.2 none (some shift8))).bind fun t27 => (m_p_turned_back t6.1).bind fun t28 => (catO (α := Int) t27 t28).bind fun t29 => (m_p_straightened t29).bind fun t30 => (appO t23 t30).bind fun t31 => some t31))) t11 ([] : (List (List Int)))).bind fun f14 => ((minKO m_p_walk_key (ltP2 ltI (ltL ltI)) f14).bind fun t33 => some (some t33)))))))))))))
/-- least_turned -/
def m_p_least_turned (walk : (List Int)) : Option (List Int) :=
  ((m_p_need_walk walk 4).bind fun t1 => ((m_p_straightened walk).bind fun t2 => (m_p_parted t2).bind fun t3 => ((rngO 0 (t3.2.length : Int)).bind fun t4 => (lcO (β := (List Int)) (fun (at_5 : Int) => ((catO (α := Int) (cut t3.2 (some at_5) none) (cut t3.2 none (some at_5))).bind fun t7 => some t7)) t4).bind fun t8 => (minKDO m_p_walk_key (ltP2 ltI (ltL ltI)) t8 ([] : (List Int))).bind fun t9 => some t9)))
/-- _law_well -/
def m_l_well (script : (List Int)) (k_ : Int) : Option (List Int) :=
  ((if (decide (k_ < (script.length : Int))) = true then ((idx script k_).bind fun t1 => some t1) else some ((11 * k_) + 6) : Option Int).bind fun s2 => ((lcT (fun (one3 : Int) => (one3 % 1000000000000000000000000103)) script).bind fun t5 => ((some ((((((absI s2) * 8929) + (61 * t5.sum)) + (2 * k_)) + (if (decide (s2 < 0)) = true then 1 else 0)) % 10000000000000000000000000000033)).bind fun seed6 => some [(maxI 0 (s2 - 1000000000000000000)), seed6, 0])))
/-- _law_take -/
def m_l_take (w_well_here : (List Int)) (many : Int) : Option (Int × (List Int)) :=
  ((idx w_well_here 0).bind fun t1 => (if (decide (0 < t1)) = true then ((idx w_well_here 0).bind fun t2 => (modO t2 many).bind fun t3 => ((idx w_well_here 0).bind fun t4 => (fdivO t4 many).bind fun t5 => (setO w_well_here 0 t5).bind fun t6 => some (t3, t6))) else ((idx w_well_here 2).bind fun t7 => (setO w_well_here 2 (t7 + 1)).bind fun t8 => ((idx t8 1).bind fun t9 => (idx t8 2).bind fun t10 => (powO (t9 + (314159 * t10)) 3).bind fun t11 => (idx t8 2).bind fun t12 => (some ((t11 + (2718281 * t12)) % 1000000000000000000000000000000073)).bind fun mixed13 => ((mulO mixed13 (mixed13 + 40503)).bind fun t15 => (modO ((t15 % 10000000000000000000000000000000193) / 10007) many).bind fun t16 => some (t16, t8))))))
/-- _law_walk -/
def m_l_walk (w_well_here : (List Int)) (letters : Int) (most : Int) : Option ((List Int) × (List Int)) :=
  ((m_l_take w_well_here 4).bind fun t1 => (m_l_take t1.2 (most + 1)).bind fun t2 => (m_l_take t2.2 6).bind fun t3 => (idx ([t2.1, most]) (if (decide (t3.1 = 0)) = true then 1 else 0)).bind fun t4 => ((rngO 0 t4).bind fun t5 => (lcE (β := Int) (fun (s7 : (List Int)) (turn6 : Int) => ((m_l_take s7 letters).bind fun t8 => (m_l_take t8.2 2).bind fun t9 => (mulO (1 + t8.1) (1 - (2 * t9.1))).bind fun t10 => some (some t10, t9.2))) t5 t3.2).bind fun t11 => ((if (decide (t1.1 = 1)) = true then ((m_l_take t11.2 4).bind fun t12 => (repO (cut t11.1 none (some (1 + t12.1))) t4).bind fun t13 => some ((cut t13 none (some t4)), t12.2)) else some (t11.1, t11.2) : Option ((List Int) × (List Int))).bind fun s14 => ((if (decide (t1.1 = 2)) = true then ((lcT (fun (step15 : Int) => (-step15)) ((cut s14.1 none (some (t4 / 3))).reverse)).bind fun t17 => (catO (α := Int) (cut s14.1 none (some (t4 - (t4 / 3)))) t17).bind fun t18 => some t18) else some s14.1 : Option (List Int)).bind fun s19 => ((if (decide (t1.1 = 3)) = true then ((lcT (fun (step20 : Int) => (absI step20)) s19).bind fun t22 => some t22) else some s19 : Option (List Int)).bind fun s23 => some (s23, s14.2))))))
/-- _law_key -/
def m_l_key (walk_here : (List Int)) : Option (Int × (List Int)) :=
  ((lcT (fun (step1 : Int) => ((2 * (absI step1)) + (if (decide (step1 < 0)) = true then 1 else 0))) walk_here).bind fun t3 => some ((walk_here.length : Int), t3))
/-- _law_added -/
def m_l_added (walk_here : (List Int)) (first : Int) (second : Int) : Option Bool :=
  ((m_p_power walk_here first).bind fun t1 => (m_p_power walk_here second).bind fun t2 => (if ((decide (400 < (t1.length : Int))) || (decide (400 < (t2.length : Int)))) = true then some true else ((if (decide ((absI (first + second)) ≤ 20)) = true then ((m_p_power walk_here (first + second)).bind fun t3 => (m_p_behind t1 t2).bind fun t4 => some (!decide (t3 = t4))) else some false).bind fun t5 => (if t5 = true then some false else ((m_p_behind t1 t2).bind fun t6 => (m_p_behind t2 t1).bind fun t7 => (if (!decide (t6 = t7)) = true then some true else ((m_p_power walk_here (-first)).bind fun t8 => (m_p_back t1).bind fun t9 => some (!decide (t8 = t9)))).bind fun t10 => (if t10 = true then some false else ((mulO first second).bind fun t11 => (if (decide (20 < (absI t11))) = true then some true else ((m_p_power t1 second).bind fun t12 => (mulO first second).bind fun t13 => (m_p_power walk_here t13).bind fun t14 => some (decide (t12 = t14)))).bind fun t15 => some t15)))))))
/-- _law_rooted -/
def m_l_rooted (walk_here : (List Int)) (other : (List Int)) (times : Int) : Option Bool :=
  ((m_p_root walk_here).bind fun t1 => ((m_p_turned walk_here other).bind fun t2 => ((m_p_power t1.1 (minI t1.2 20)).bind fun t3 => (m_p_straight walk_here).bind fun t4 => (if ((!decide (t3 = t4)) && (decide (t1.2 ≤ 20))) = true then some false else ((m_p_core walk_here).bind fun t5 => ((m_p_behind t5.1 t5.2).bind fun t6 => (m_p_back t5.1).bind fun t7 => (m_p_behind t6 t7).bind fun t8 => (m_p_straight walk_here).bind fun t9 => (if (!decide (t8 = t9)) = true then some true else ((m_p_core t5.2).bind fun t10 => some (!decide (t10 = (([] : (List Int)), t5.2))))).bind fun t11 => (if t11 = true then some false else ((m_p_root t2).bind fun t12 => (m_p_turned t1.1 other).bind fun t13 => (if (!decide (t12 = (t13, t1.2))) = true then some true else ((m_p_least_turned t2).bind fun t14 => (m_p_core t14).bind fun t15 => some (!decide (t15.1 = ([] : (List Int)))))).bind fun t16 => (if t16 = true then some false else ((m_p_power t2 times).bind fun t17 => (if (decide (400 < (t17.length : Int))) = true then some true else ((if (decide (times = 0)) = true then some true else ((m_p_straight walk_here).bind fun t18 => some (decide (t18 = ([] : (List Int)))))).bind fun t19 => (if t19 = true then ((m_p_root t17).bind fun t20 => some (decide (t20 = (([] : (List Int)), 0)))) else ((m_p_turned t1.1 other).bind fun t21 => ((m_p_root t17).bind fun t22 => (m_p_back t21).bind fun t23 => (idx ([t21, t23]) (if (decide (times < 0)) = true then 1 else 0)).bind fun t24 => (mulO t1.2 (absI times)).bind fun t25 => some (decide (t22 = (t24, t25))))))))))))))))))
/-- _law_commuting -/
def m_l_commuting (one : (List Int)) (other : (List Int)) : Option Bool :=
  ((m_p_root one).bind fun t1 => (m_p_root other).bind fun t2 => ((if (decide (t1.1 = ([] : (List Int)))) = true then some true else ((if (decide (t2.1 = ([] : (List Int)))) = true then some true else ((if (decide (t1.1 = t2.1)) = true then some true else ((m_p_back t2.1).bind fun t3 => some (decide (t1.1 = t3)))).bind fun t4 => some t4)).bind fun t5 => some t5)).bind fun t6 => ((m_p_commute one other).bind fun t7 => (if (decide (t7 = t6)) = true then ((m_p_commute other one).bind fun t8 => (if (decide (t8 = t6)) = true then ((m_p_back one).bind fun t9 => (m_p_commute t9 other).bind fun t10 => some (decide (t10 = t6))) else some false).bind fun t11 => some t11) else some false).bind fun t12 => some t12)))
/-- _law_turning -/
def m_l_turning (one : (List Int)) (other : (List Int)) (by_ : (List Int)) : Option Bool :=
  ((m_p_turned one by_).bind fun t1 => ((m_p_least_turned t1).bind fun t2 => (m_p_least_turned one).bind fun t3 => (if (!decide (t2 = t3)) = true then some true else ((m_p_least_turned one).bind fun t4 => (m_l_key t4).bind fun t5 => (m_p_straight one).bind fun t6 => (m_l_key t6).bind fun t7 => some ((ltP2 ltI (ltL ltI)) t7 t5))).bind fun t8 => (if t8 = true then some false else ((m_p_turned_onto one t1).bind fun t9 => (match t9 with | none => (some false) | some found10 => ((if false = true then some true else ((m_p_turned one found10).bind fun t11 => (if (!decide (t11 = t1)) = true then some true else ((m_l_key found10).bind fun t12 => (m_p_straight by_).bind fun t13 => (m_l_key t13).bind fun t14 => some ((ltP2 ltI (ltL ltI)) t14 t12))).bind fun t15 => some t15)).bind fun t16 => (if t16 = true then some false else ((m_p_back found10).bind fun t17 => (m_p_behind by_ t17).bind fun t18 => (m_p_commute one t18).bind fun t19 => (if (!t19) = true then some false else ((m_p_turned_onto one other).bind fun t20 => (match t20 with | none => ((m_p_least_turned one).bind fun t21 => (m_p_least_turned other).bind fun t22 => (if (!decide (true = (!decide (t21 = t22)))) = true then some false else (((m_p_turned_onto other one).bind fun t23 => some t23.isNone)))) | some found24 => ((m_p_least_turned one).bind fun t25 => (m_p_least_turned other).bind fun t26 => (if (!decide (false = (!decide (t25 = t26)))) = true then some false else (((m_p_turned_onto other one).bind fun t27 => (match t27 with | none => none | some again28 => ((m_p_turned one found24).bind fun t29 => (m_p_straight other).bind fun t30 => (if (decide (t29 = t30)) = true then ((if (decide ((again28.length : Int) = (found24.length : Int))) = true then ((m_p_turned other again28).bind fun t31 => (m_p_straight one).bind fun t32 => some (decide (t31 = t32))) else some false).bind fun t33 => some t33) else some false).bind fun t34 => some t34)))))))))))))))))
/-- _law_behind -/
def m_l_behind (one : (List Int)) (other : (List Int)) (third : (List Int)) : Option Bool :=
  ((m_p_behind one other).bind fun t1 => (m_p_behind t1 third).bind fun t2 => (m_p_behind other third).bind fun t3 => (m_p_behind one t3).bind fun t4 => (if (!decide (t2 = t4)) = true then some false else ((m_p_behind one other).bind fun t5 => (m_p_back t5).bind fun t6 => (m_p_back other).bind fun t7 => (m_p_back one).bind fun t8 => (m_p_behind t7 t8).bind fun t9 => (if (!decide (t6 = t9)) = true then some true else ((m_p_back one).bind fun t10 => (m_p_back t10).bind fun t11 => (m_p_straight one).bind fun t12 => some (!decide (t11 = t12)))).bind fun t13 => (if t13 = true then some false else ((m_p_back one).bind fun t14 => (m_p_behind t14 other).bind fun t15 => (m_p_behind one t15).bind fun t16 => (m_p_straight other).bind fun t17 => (if (!decide (t16 = t17)) = true then some true else ((m_p_behind one ([] : (List Int))).bind fun t18 => (m_p_straight one).bind fun t19 => some (!decide (t18 = t19)))).bind fun t20 => (if t20 = true then some false else ((m_p_behind one other).bind fun t21 => (m_p_turned t21 third).bind fun t22 => (m_p_turned one third).bind fun t23 => (m_p_turned other third).bind fun t24 => (m_p_behind t23 t24).bind fun t25 => some (decide (t22 = t25)))))))))
/-- _law_long -/
def m_l_long (walk_here : (List Int)) (by_ : (List Int)) (times : Int) : Option Bool :=
  ((m_p_power walk_here times).bind fun t1 => (m_p_turned walk_here by_).bind fun t2 => (if ((decide (360 < (t1.length : Int))) || (decide (times = 0))) = true then some true else ((m_p_turned t1 by_).bind fun t3 => (m_p_power t2 times).bind fun t4 => (if (!decide (t3 = t4)) = true then some true else ((m_p_commute t1 walk_here).bind fun t5 => (if (!t5) = true then some true else ((m_p_back t1).bind fun t6 => (m_p_commute walk_here t6).bind fun t7 => some (!t7))).bind fun t8 => some t8)).bind fun t9 => (if t9 = true then some false else ((m_p_turned t1 by_).bind fun t10 => (m_p_turned_onto t1 t10).bind fun t11 => (m_p_turned_onto walk_here t2).bind fun t12 => (if (!decide (t11 = t12)) = true then some false else ((if (decide (times < 0)) = true then some true else ((m_p_least_turned t1).bind fun t13 => (m_p_least_turned walk_here).bind fun t14 => (m_p_power t14 times).bind fun t15 => some (decide (t13 = t15)))).bind fun t16 => some t16)))))))
/-- _law_right -/
def m_l_right (w_well_here : (List Int)) : Option (Bool × (List Int)) :=
  ((m_l_take w_well_here 4).bind fun t1 => ((m_l_walk t1.2 (1 + t1.1) 6).bind fun t2 => (m_l_walk t2.2 (1 + t1.1) 20).bind fun t3 => ((m_l_walk t3.2 (1 + t1.1) 6).bind fun t4 => (m_l_walk t4.2 (1 + t1.1) 20).bind fun t5 => ((m_l_take t5.2 41).bind fun t6 => (m_l_take t6.2 13).bind fun t7 => ((m_p_power t2.1 (t6.1 - 20)).bind fun t8 => (m_p_power t2.1 (t7.1 - 6)).bind fun t9 => ((m_p_turned t2.1 t4.1).bind fun t10 => (m_p_back t2.1).bind fun t11 => (m_p_least_turned t3.1).bind fun t12 => ((lcF (fun (walk_here13 : (List Int)) => (decide ((walk_here13.length : Int) ≤ 60))) (fun (walk_here13 : (List Int)) => walk_here13) ([t2.1, t3.1, t10, t8, t9, t11, t12, []])).bind fun t15 => ((lpR (fun (s16 : (List Int)) (walk_here17 : (List Int)) => (((m_l_behind walk_here17 t2.1 t3.1).bind fun t21 => (if (!t21) = true then some true else ((m_l_behind t3.1 walk_here17 t5.1).bind fun t22 => some (!t22))).bind fun t23 => (if t23 = true then some (Step.ret (false, s16)) else ((m_l_added walk_here17 (t6.1 - 20) (t7.1 - 6)).bind fun t24 => (if (!t24) = true then some true else ((m_l_rooted walk_here17 t4.1 (t7.1 - 6)).bind fun t25 => some (!t25))).bind fun t26 => (if t26 = true then some (Step.ret (false, s16)) else ((m_l_take s16 (t15.length : Int)).bind fun t27 => (idx t15 t27.1).bind fun t28 => ((lpR (fun (s29 : Unit) (other30 : (List Int)) => (((m_l_commuting walk_here17 other30).bind fun t34 => (if (!t34) = true then some true else ((m_l_turning walk_here17 other30 t4.1).bind fun t35 => some (!t35))).bind fun t36 => (if t36 = true then some (Step.ret (false, t27.2)) else some (Step.go ()))) : Option (Step (Bool × (List Int)) Unit))) ([t2.1, t3.1, t28]) ()).bind fun f31o => Sum.elim (fun r38 => some (Step.ret r38)) (fun f31 => some (Step.go t27.2)) f31o)))))) : Option (Step (Bool × (List Int)) (List Int)))) t15 t7.2).bind fun f18o => Sum.elim (fun r49 => some r49) (fun f18 => ((m_l_long t2.1 t4.1 (t6.1 - 20)).bind fun t41 => (if (!t41) = true then some true else ((m_l_long t3.1 t4.1 (t6.1 - 20)).bind fun t42 => (if (!t42) = true then some true else ((m_l_long t5.1 t4.1 (t7.1 - 6)).bind fun t43 => some (!t43))).bind fun t44 => some t44)).bind fun t45 => (if t45 = true then some (false, f18) else ((m_l_added t2.1 (t7.1 - 6) (t7.1 - 6)).bind fun t46 => (if t46 = true then ((m_l_rooted t2.1 t5.1 (t6.1 - 20)).bind fun t47 => some t47) else some false).bind fun t48 => some (t48, f18))))) f18o))))))))
/-- law -/
def m_l_law (script : (List Int)) : Option Bool :=
  ((rngO 0 (maxI 1 (minI 3 (script.length : Int)))).bind fun t1 => ((lpR (fun (s2 : Unit) (k_3 : Int) => (((m_l_well script k_3).bind fun t7 => (m_l_right t7).bind fun t8 => (if (!t8.1) = true then some (Step.ret false) else some (Step.go ()))) : Option (Step Bool Unit))) t1 ()).bind fun f4o => Sum.elim (fun r10 => some r10) (fun f4 => some true) f4o))
end L51
namespace L51
open PySem PySem.Spec PyProof.Rows L2 Z
def top (i : Nat) : Stmt := PySem.Challenge.pw_walkclubs_k51_whole_powers_roots_and_tur.main.body.getD i (.Pass ⟨0, 0, 0, 0⟩)
abbrev s_p_step_order : Stmt := top 5
def N_p_step_order : List Str := ["step"]
def V_p_step_order : List Str := ["step"]
def G_p_step_order : List Str := []
theorem sc_p_step_order : FnScope N_p_step_order ["step"] (defScope s_p_step_order) := ⟨rfl, rfl, rfl, by decide +kernel, rfl, by decide +kernel, by decide +kernel⟩
abbrev sp_p_step_order (K : PySem.W.Frag) : Sp := spZ (α := Int) (β := Int) (fun a => [(dat (PyData.int a))]) (fun a => []) (fun a => m_p_step_order a) (fun a b => (dat (PyData.int b))) (fun a b => [])
set_option maxHeartbeats 4000000 in
theorem body_p_step_order {X : Cx} (hsc : X.env.scope = defScope s_p_step_order) {sts_ : List Stmt} (hst_ : defBody s_p_step_order = sts_) (B : Bd X N_p_step_order V_p_step_order G_p_step_order 0) (T : Bt X V_p_step_order)  (step : Int) (b : Int) (F0 : Hp) (os : Os) (D : Ends) (hm : m_p_step_order step = some b) (R : RetZ F0 (os) (dat (PyData.int b)) D) :
    SX X [sl (dat (PyData.int step))] (os) F0 sts_ D := by
  subst hst_
  unfold m_p_step_order at hm
  refine sx_if (tx_cmp op_gt r2_gt (nomark _) (ex_v (i := 0) (j := 0) B rfl rfl rfl) ex_int) (fun hk => ?_) (fun hk => ?_)
  · have hm := ifT hm hk
    obtain rfl := som hm
    exact sx_ret (ex_sub (ex_mulL (by decide) ex_int (ex_v (i := 0) (j := 0) B rfl rfl rfl)) ex_int) (fun F H v e o c => R.rt F H v e o c)
  · have hm := ifF hm hk
    refine sx_fall ?_ rfl
    obtain rfl := som hm
    exact sx_ret (ex_sub (ex_mulL (by decide) (ex_neg ex_int) (ex_v (i := 0) (j := 0) B rfl rfl rfl)) ex_int) (fun F H v e o c => R.rt F H v e o c)
theorem cal_p_step_order {P : Program} {w : World} {K : PySem.W.Frag} {mg : Str → Option Value} {base : Heap} {f : Addr} {fd : FuncData} (Fn : Fun K "step_order" "step_order" s_p_step_order f fd) (hmg : mg "step_order" = some (.ref f)) (hb : Binds K fd ["step"] [])  : Cal P w K mg base 1 "step_order" s_p_step_order ["step"] (sp_p_step_order K) := by
  obtain ⟨sts_, hst_⟩ : ∃ z_, defBody s_p_step_order = z_ := ⟨_, rfl⟩
  exact cal_ZQ (V := V_p_step_order) (Gs := G_p_step_order) (nl := 0) hst_ Fn sc_p_step_order (by decide +kernel) (by decide +kernel) hmg hb (fun _ => rfl) rfl fun _ _ _ _ _ _ _ a b F0 os D B T hm R => body_p_step_order rfl hst_ B T  a b F0 os D hm R
abbrev s_p_walk_key : Stmt := top 6
def N_p_walk_key : List Str := ["walk", "step"]
def V_p_walk_key : List Str := ["walk"]
def G_p_walk_key : List Str := ["len", "tuple"]
theorem sc_p_walk_key : FnScope N_p_walk_key ["walk"] (defScope s_p_walk_key) := ⟨rfl, rfl, rfl, by decide +kernel, rfl, by decide +kernel, by decide +kernel⟩
abbrev sp_p_walk_key (K : PySem.W.Frag) : Sp := spZ (α := (List Int)) (β := (Int × (List Int))) (fun a => [(dat (PyData.tuple (List.map PyData.int a)))]) (fun a => []) (fun a => m_p_walk_key a) (fun a b => (dat (PyData.tuple [(PyData.int b.1), (PyData.tuple (List.map PyData.int b.2))]))) (fun a b => [])
set_option maxHeartbeats 4000000 in
theorem body_p_walk_key {X : Cx} (hsc : X.env.scope = defScope s_p_walk_key) {sts_ : List Stmt} (hst_ : defBody s_p_walk_key = sts_) (B : Bd X N_p_walk_key V_p_walk_key G_p_walk_key 1) (T : Bt X V_p_walk_key) (g_len : X.mg "len" = none) (g_tuple : X.mg "tuple" = none) (c_p_step_order : Cal X.prog X.w X.K X.mg X.base 1 "step_order" s_p_step_order ["step"] (sp_p_step_order X.K)) (walk : (List Int)) (b : (Int × (List Int))) (F0 : Hp) (os : Os) (D : Ends) (hm : m_p_walk_key walk = some b) (R : RetZ F0 (os) (dat (PyData.tuple [(PyData.int b.1), (PyData.tuple (List.map PyData.int b.2))])) D) :
    SX X [sl (dat (PyData.tuple (List.map PyData.int walk))), un] (os) F0 sts_ D := by
  subst hst_
  unfold m_p_walk_key at hm
  obtain ⟨t4, h4, hm⟩ := bnd hm
  obtain rfl := som hm
  exact sx_ret (ex_tup (ds := [(PyData.int (walk.length : Int)), (PyData.tuple (List.map PyData.int t4))]) (hl := len_ok (n := 2) rfl) (ax_cons (EX.to (ex_fn (j := 0) B rfl g_len (by decide +kernel) call_len_seq (rc_lenT (ds := List.map PyData.int walk) rdt_dat) (ax_cons (ex_v (i := 0) (j := 0) B rfl rfl rfl) ax_nil)) (by rw [List.length_map])) (ax_cons (ex_ty (j := 1) B rfl g_tuple (by decide +kernel) call_tuple_of (rc_tupL (ds := List.map PyData.int t4) rdl_dat) (ax_cons (EN.ex (en_lc (lc_mk1 (j := 1) (vp := fun step1 => (dat (PyData.int step1))) (c := anyOs) (enc := PyData.int) (fun (_ : Unit) (step1 : Int) => ((fun (step1 : Int) => ((m_p_step_order step1).bind fun t3 => some t3)) step1).map fun y => (some y, ())) (fun (_ : Unit) (tl1 : Os) => tl1) () (t4) () B rfl rfl (by rw [B.hN, hsc]; decide +kernel) (by rw [hsc]; decide +kernel) (by decide) (lcO_ok h4) (ix_tup (enc := PyData.int) (ex_v (i := 0) (j := 0) B rfl rfl rfl) rdt_dat) (fun _ _ => trivial) (fun _ _ _ => List.Perm.refl _) (fun _ step1 t tl1 hx hf => by (obtain ⟨y, hy, rfl⟩ := Option.map_eq_some_iff.mp hf; obtain ⟨t3, h3, hy⟩ := bnd hy; obtain rfl := som hy; exact ⟨true, _, fun X1 hX => by (have B1 := Bd.fam (W' := ["step"]) (G' := ["step_order"]) B hX (by (try rw [hsc]); decide +kernel); have c_p_step_order' := fam_cal hX c_p_step_order; exact ⟨.nil, fun _ => ⟨_, rfl, (ex_call (a := step1) (b := t3) (gi := 0) (rest := tl1) B1 rfl c_p_step_order' (by decide) h3 (ax_cons (ex_v (i := 1) (j := 0) B1 rfl rfl rfl) ax_nil))⟩, fun h => Bool.noConfusion h⟩)⟩))))) ax_nil)) ax_nil))) (fun F H v e o c => R.rt F H v e o c)
theorem cal_p_walk_key {P : Program} {w : World} {K : PySem.W.Frag} {mg : Str → Option Value} {base : Heap} {f : Addr} {fd : FuncData} (Fn : Fun K "walk_key" "walk_key" s_p_walk_key f fd) (hmg : mg "walk_key" = some (.ref f)) (hb : Binds K fd ["walk"] []) (g_len : mg "len" = none) (g_tuple : mg "tuple" = none) (c_p_step_order : Cal P w K mg base 1 "step_order" s_p_step_order ["step"] (sp_p_step_order K)) : Cal P w K mg base 2 "walk_key" s_p_walk_key ["walk"] (sp_p_walk_key K) := by
  obtain ⟨sts_, hst_⟩ : ∃ z_, defBody s_p_walk_key = z_ := ⟨_, rfl⟩
  exact cal_ZQ (V := V_p_walk_key) (Gs := G_p_walk_key) (nl := 1) hst_ Fn sc_p_walk_key (by decide +kernel) (by decide +kernel) hmg hb (fun _ => rfl) rfl fun _ _ _ _ _ _ _ a b F0 os D B T hm R => body_p_walk_key rfl hst_ B T g_len g_tuple c_p_step_order a b F0 os D hm R
abbrev s_p_straightened : Stmt := top 7
def N_p_straightened : List Str := ["walk", "found", "step"]
def V_p_straightened : List Str := ["walk", "found", "step"]
def G_p_straightened : List Str := ["len", "tuple"]
theorem sc_p_straightened : FnScope N_p_straightened ["walk"] (defScope s_p_straightened) := ⟨rfl, rfl, rfl, by decide +kernel, rfl, by decide +kernel, by decide +kernel⟩
abbrev sp_p_straightened (K : PySem.W.Frag) : Sp := spZ (α := (List Int)) (β := (List Int)) (fun a => [(dat (PyData.tuple (List.map PyData.int a)))]) (fun a => []) (fun a => m_p_straightened a) (fun a b => (dat (PyData.tuple (List.map PyData.int b)))) (fun a b => [])
set_option maxHeartbeats 4000000 in
theorem body_p_straightened {X : Cx} (hsc : X.env.scope = defScope s_p_straightened) {sts_ : List Stmt} (hst_ : defBody s_p_straightened = sts_) (B : Bd X N_p_straightened V_p_straightened G_p_straightened 0) (T : Bt X V_p_straightened) (g_len : X.mg "len" = none) (g_tuple : X.mg "tuple" = none) (walk : (List Int)) (b : (List Int)) (F0 : Hp) (os : Os) (D : Ends) (hm : m_p_straightened walk = some b) (R : RetZ F0 (os) (dat (PyData.tuple (List.map PyData.int b))) D) :
    SX X [sl (dat (PyData.tuple (List.map PyData.int walk))), un, un] (os) F0 sts_ D := by
  subst hst_
  unfold m_p_straightened at hm
  refine sx_asgN (i := 1) (vi := 1) (n := ol (List.map PyData.int ([] : (List Int)))) B T rfl rfl (en_lst (ds := []) ax_nil) (fun q_found0 => ?_)
  obtain ⟨f3, h11, hm⟩ := bnd hm
  refine sx_for (c := anyOs) _ (fun (s1 : (List Int)) (_ : Unit) => [sl (dat (PyData.tuple (List.map PyData.int walk))), sl (own q_found0), un]) (fun (s1 : (List Int)) (_ : Unit) => (q_found0, ol (List.map PyData.int s1)) :: os) B T (fun step2 => gx_name (i := 2) (vi := 2) (φ := (dat (PyData.int step2))) B T rfl rfl) ([] : (List Int)) () f3 h11 (ix_tup (enc := PyData.int) (ex_v (i := 0) (j := 0) B rfl rfl rfl) rdt_dat) ⟨.inl rfl, .inl rfl, .inl rfl, trivial⟩ (fun _ _ => trivial) (fun F5 e4 s1 _ step2 z12 hx hm => ?_) (fun _ => ?_)
  · clear h11
    obtain ⟨t7, h7, hm⟩ := bnd hm
    obtain ⟨s10, h_s10, hm⟩ := bnd hm
    refine sx_join [sl (dat (PyData.tuple (List.map PyData.int walk))), sl (own q_found0), sl (dat (PyData.int step2))] ((q_found0, ol (List.map PyData.int s10)) :: os) (?_) (fun Q => ?_)
    · clear h_s10
      obtain rfl := som hm
      exact sx_nil fun σ H a => ⟨(), (a.weak ⟨.inl rfl, .inl rfl, .inr rfl, trivial⟩)⟩
    · have hm := h_s10
      refine sx_if (WX.tx (wx_and (l := t7) (os2 := (q_found0, ol (List.map PyData.int s1)) :: os) (tx_cmp op_gt r2_gt (nomark _) (EX.to (ex_fn (j := 0) B rfl g_len (by decide +kernel) call_len_seq (rc_lenL (ds := List.map PyData.int s1) (rdl_own 0 rfl)) (ax_cons (ex_v (i := 1) (j := 1) B rfl rfl rfl) ax_nil)) (by rw [List.length_map])) ex_int) (fun hk => by (have hm := ifT h7 hk; obtain ⟨t6, h6, hm⟩ := bnd hm; obtain rfl := som hm; exact (wx_and1 (tx_cmp op_eq r2_eqI (nomark _) (ex_idxL (enc := PyData.int) h6 (rdl_own 0 rfl) (ex_v (i := 1) (j := 1) B rfl rfl rfl) (ex_neg ex_int)) (ex_neg (ex_v (i := 2) (j := 2) B rfl rfl rfl)))))) (fun hk => by (have hm := ifF h7 hk; obtain rfl := som hm; rfl)) (and_fix (fun hk => by (have hm := ifF h7 hk; obtain rfl := som hm; rfl))))) (fun hk => ?_) (fun hk => ?_)
      · have hm := ifT hm hk
        obtain ⟨t8, h8, hm⟩ := bnd hm
        refine sx_expr (ex_popO (enc := PyData.int) (j := 0) h8 (ex_v (i := 1) (j := 1) B rfl rfl rfl) rfl) ?_
        obtain rfl := som hm
        exact sx_fall Q rfl
      · have hm := ifF hm hk
        obtain ⟨t9, h9, hm⟩ := bnd hm
        refine sx_expr (ex_app (enc := PyData.int) (j := 0) (xs0 := s1) (xs := s1) (y := step2) h9 (ex_v (i := 1) (j := 1) B rfl rfl rfl) rfl (ex_v (i := 2) (j := 2) B rfl rfl rfl) rfl) ?_
        obtain rfl := som hm
        exact sx_fall Q rfl
  · skip
    refine sx_frz (j := 0) (i := 1) rfl rfl ?_
    obtain rfl := som hm
    exact sx_ret (ex_ty (j := 1) B rfl g_tuple (by decide +kernel) call_tuple_of (rc_tupL (ds := List.map PyData.int f3) rdl_dat) (ax_cons (ex_v (i := 1) (j := 1) B rfl rfl rfl) ax_nil)) (fun F H v e o c => R.rt F H v e o c)
theorem cal_p_straightened {P : Program} {w : World} {K : PySem.W.Frag} {mg : Str → Option Value} {base : Heap} {f : Addr} {fd : FuncData} (Fn : Fun K "straightened" "straightened" s_p_straightened f fd) (hmg : mg "straightened" = some (.ref f)) (hb : Binds K fd ["walk"] []) (g_len : mg "len" = none) (g_tuple : mg "tuple" = none) : Cal P w K mg base 1 "straightened" s_p_straightened ["walk"] (sp_p_straightened K) := by
  obtain ⟨sts_, hst_⟩ : ∃ z_, defBody s_p_straightened = z_ := ⟨_, rfl⟩
  exact cal_ZQ (V := V_p_straightened) (Gs := G_p_straightened) (nl := 2) hst_ Fn sc_p_straightened (by decide +kernel) (by decide +kernel) hmg hb (fun _ => rfl) rfl fun _ _ _ _ _ _ _ a b F0 os D B T hm R => body_p_straightened rfl hst_ B T g_len g_tuple a b F0 os D hm R
abbrev s_p_turned_back : Stmt := top 8
def N_p_turned_back : List Str := ["walk", "step"]
def V_p_turned_back : List Str := ["walk"]
def G_p_turned_back : List Str := ["tuple"]
theorem sc_p_turned_back : FnScope N_p_turned_back ["walk"] (defScope s_p_turned_back) := ⟨rfl, rfl, rfl, by decide +kernel, rfl, by decide +kernel, by decide +kernel⟩
abbrev sp_p_turned_back (K : PySem.W.Frag) : Sp := spZ (α := (List Int)) (β := (List Int)) (fun a => [(dat (PyData.tuple (List.map PyData.int a)))]) (fun a => []) (fun a => m_p_turned_back a) (fun a b => (dat (PyData.tuple (List.map PyData.int b)))) (fun a b => [])
set_option maxHeartbeats 4000000 in
theorem body_p_turned_back {X : Cx} (hsc : X.env.scope = defScope s_p_turned_back) {sts_ : List Stmt} (hst_ : defBody s_p_turned_back = sts_) (B : Bd X N_p_turned_back V_p_turned_back G_p_turned_back 0) (T : Bt X V_p_turned_back) (g_tuple : X.mg "tuple" = none) (walk : (List Int)) (b : (List Int)) (F0 : Hp) (os : Os) (D : Ends) (hm : m_p_turned_back walk = some b) (R : RetZ F0 (os) (dat (PyData.tuple (List.map PyData.int b))) D) :
    SX X [sl (dat (PyData.tuple (List.map PyData.int walk))), un] (os) F0 sts_ D := by
  subst hst_
  unfold m_p_turned_back at hm
  obtain ⟨t3, h3, hm⟩ := bnd hm
  obtain rfl := som hm
  exact sx_ret (ex_ty (j := 0) B rfl g_tuple (by decide +kernel) call_tuple_of (rc_tupL (ds := List.map PyData.int t3) rdl_dat) (ax_cons (EN.ex (en_lc (lc_mk1 (j := 1) (vp := fun step1 => (dat (PyData.int step1))) (c := anyOs) (enc := PyData.int) (fun (_ : Unit) (step1 : Int) => some (some (-step1), ())) (fun (_ : Unit) (tl1 : Os) => tl1) () (t3) () B rfl rfl (by rw [B.hN, hsc]; decide +kernel) (by rw [hsc]; decide +kernel) (by decide) (lcT_ok h3) (ix_tup (enc := PyData.int) (ex_revT (enc := PyData.int) rdt_dat (ex_v (i := 0) (j := 0) B rfl rfl rfl)) rdt_dat) (fun _ _ => trivial) (fun _ _ _ => List.Perm.refl _) (fun _ step1 t tl1 hx hf => by (obtain rfl := som hf; exact ⟨true, _, fun X1 hX => by (have B1 := Bd.fam (W' := ["step"]) (G' := []) B hX (by (try rw [hsc]); decide +kernel); exact ⟨.nil, fun _ => ⟨_, rfl, (ex_neg (ex_v (i := 1) (j := 0) B1 rfl rfl rfl))⟩, fun h => Bool.noConfusion h⟩)⟩))))) ax_nil)) (fun F H v e o c => R.rt F H v e o c)
theorem cal_p_turned_back {P : Program} {w : World} {K : PySem.W.Frag} {mg : Str → Option Value} {base : Heap} {f : Addr} {fd : FuncData} (Fn : Fun K "turned_back" "turned_back" s_p_turned_back f fd) (hmg : mg "turned_back" = some (.ref f)) (hb : Binds K fd ["walk"] []) (g_tuple : mg "tuple" = none) : Cal P w K mg base 1 "turned_back" s_p_turned_back ["walk"] (sp_p_turned_back K) := by
  obtain ⟨sts_, hst_⟩ : ∃ z_, defBody s_p_turned_back = z_ := ⟨_, rfl⟩
  exact cal_ZQ (V := V_p_turned_back) (Gs := G_p_turned_back) (nl := 1) hst_ Fn sc_p_turned_back (by decide +kernel) (by decide +kernel) hmg hb (fun _ => rfl) rfl fun _ _ _ _ _ _ _ a b F0 os D B T hm R => body_p_turned_back rfl hst_ B T g_tuple a b F0 os D hm R
abbrev s_p_is_integer : Stmt := top 11
def N_p_is_integer : List Str := ["value"]
def V_p_is_integer : List Str := ["value"]
def G_p_is_integer : List Str := ["isinstance", "int", "bool"]
theorem sc_p_is_integer : FnScope N_p_is_integer ["value"] (defScope s_p_is_integer) := ⟨rfl, rfl, rfl, by decide +kernel, rfl, by decide +kernel, by decide +kernel⟩
abbrev sp_p_is_integer (K : PySem.W.Frag) : Sp := spZ (α := Int) (β := Bool) (fun a => [(dat (PyData.int a))]) (fun a => []) (fun a => m_p_is_integer a) (fun a b => (dat (PyData.bool b))) (fun a b => [])
set_option maxHeartbeats 4000000 in
theorem body_p_is_integer {X : Cx} (hsc : X.env.scope = defScope s_p_is_integer) {sts_ : List Stmt} (hst_ : defBody s_p_is_integer = sts_) (B : Bd X N_p_is_integer V_p_is_integer G_p_is_integer 0) (T : Bt X V_p_is_integer) (g_isinstance : X.mg "isinstance" = none) (g_int : X.mg "int" = none) (g_bool : X.mg "bool" = none) (value : Int) (b : Bool) (F0 : Hp) (os : Os) (D : Ends) (hm : m_p_is_integer value = some b) (R : RetZ F0 (os) (dat (PyData.bool b)) D) :
    SX X [sl (dat (PyData.int value))] (os) F0 sts_ D := by
  subst hst_
  unfold m_p_is_integer at hm
  obtain rfl := som hm
  exact sx_ret (ex_and (ex_fn (j := 0) B rfl g_isinstance (by decide +kernel) call_isi (rc_isi (d := (PyData.int value)) (T := "int") (show kitB "int" "int" = some true by decide +kernel)) (ax_cons (ex_v (i := 0) (j := 0) B rfl rfl rfl) (ax_cons (ex_tyname (T := "int") (gi := 1) B rfl g_int (by decide +kernel)) ax_nil))) (fun _ => (ex_one (ex_not (ex_fn (j := 0) B rfl g_isinstance (by decide +kernel) call_isi (rc_isi (d := (PyData.int value)) (T := "bool") (show kitB "int" "bool" = some false by decide +kernel)) (ax_cons (ex_v (i := 0) (j := 0) B rfl rfl rfl) (ax_cons (ex_tyname (T := "bool") (gi := 2) B rfl g_bool (by decide +kernel)) ax_nil)))))) (fun _ => rfl) rfl) (fun F H v e o c => R.rt F H v e o c)
theorem cal_p_is_integer {P : Program} {w : World} {K : PySem.W.Frag} {mg : Str → Option Value} {base : Heap} {f : Addr} {fd : FuncData} (Fn : Fun K "is_integer" "is_integer" s_p_is_integer f fd) (hmg : mg "is_integer" = some (.ref f)) (hb : Binds K fd ["value"] []) (g_isinstance : mg "isinstance" = none) (g_int : mg "int" = none) (g_bool : mg "bool" = none) : Cal P w K mg base 1 "is_integer" s_p_is_integer ["value"] (sp_p_is_integer K) := by
  obtain ⟨sts_, hst_⟩ : ∃ z_, defBody s_p_is_integer = z_ := ⟨_, rfl⟩
  exact cal_ZQ (V := V_p_is_integer) (Gs := G_p_is_integer) (nl := 0) hst_ Fn sc_p_is_integer (by decide +kernel) (by decide +kernel) hmg hb (fun _ => rfl) rfl fun _ _ _ _ _ _ _ a b F0 os D B T hm R => body_p_is_integer rfl hst_ B T g_isinstance g_int g_bool a b F0 os D hm R
abbrev s_p_is_step : Stmt := top 13
def N_p_is_step : List Str := ["value", "letters"]
def V_p_is_step : List Str := ["value", "letters"]
def G_p_is_step : List Str := ["is_integer", "abs"]
theorem sc_p_is_step : FnScope N_p_is_step ["value", "letters"] (defScope s_p_is_step) := ⟨rfl, rfl, rfl, by decide +kernel, rfl, by decide +kernel, by decide +kernel⟩
abbrev sp_p_is_step (K : PySem.W.Frag) : Sp := spZ (α := (Int × Int)) (β := Bool) (fun a => [(dat (PyData.int a.1)), (dat (PyData.int a.2))]) (fun a => []) (fun a => m_p_is_step a.1 a.2) (fun a b => (dat (PyData.bool b))) (fun a b => [])
set_option maxHeartbeats 4000000 in
theorem body_p_is_step {X : Cx} (hsc : X.env.scope = defScope s_p_is_step) {sts_ : List Stmt} (hst_ : defBody s_p_is_step = sts_) (B : Bd X N_p_is_step V_p_is_step G_p_is_step 1) (T : Bt X V_p_is_step) (c_p_is_integer : Cal X.prog X.w X.K X.mg X.base 1 "is_integer" s_p_is_integer ["value"] (sp_p_is_integer X.K)) (g_abs : X.mg "abs" = none) (value : Int) (letters : Int) (b : Bool) (F0 : Hp) (os : Os) (D : Ends) (hm : m_p_is_step value letters = some b) (R : RetZ F0 (os) (dat (PyData.bool b)) D) :
    SX X [sl (dat (PyData.int value)), sl (dat (PyData.int letters))] (os) F0 sts_ D := by
  subst hst_
  unfold m_p_is_step at hm
  obtain ⟨t1, h1, hm⟩ := bnd hm
  obtain rfl := som hm
  exact sx_ret (ex_and (ex_call (a := value) (b := t1) (gi := 0) (rest := os) B rfl c_p_is_integer (by decide) h1 (ax_cons (ex_v (i := 0) (j := 0) B rfl rfl rfl) ax_nil)) (fun _ => (ex_one (ex_chain op_le op_le r2_le r2_le (fun _ => rfl) ex_int (ex_fn (j := 1) B rfl g_abs (by decide +kernel) call_abs rc_abs (ax_cons (ex_v (i := 0) (j := 0) B rfl rfl rfl) ax_nil)) (fun _ => (ex_v (i := 1) (j := 1) B rfl rfl rfl))))) (fun _ => rfl) rfl) (fun F H v e o c => R.rt F H v e o c)
theorem cal_p_is_step {P : Program} {w : World} {K : PySem.W.Frag} {mg : Str → Option Value} {base : Heap} {f : Addr} {fd : FuncData} (Fn : Fun K "is_step" "is_step" s_p_is_step f fd) (hmg : mg "is_step" = some (.ref f)) (hb : Binds K fd ["value", "letters"] []) (c_p_is_integer : Cal P w K mg base 1 "is_integer" s_p_is_integer ["value"] (sp_p_is_integer K)) (g_abs : mg "abs" = none) : Cal P w K mg base 2 "is_step" s_p_is_step ["value", "letters"] (sp_p_is_step K) := by
  obtain ⟨sts_, hst_⟩ : ∃ z_, defBody s_p_is_step = z_ := ⟨_, rfl⟩
  exact cal_ZQ (V := V_p_is_step) (Gs := G_p_is_step) (nl := 0) hst_ Fn sc_p_is_step (by decide +kernel) (by decide +kernel) hmg hb (fun _ => rfl) rfl fun _ _ _ _ _ _ _ a b F0 os D B T hm R => body_p_is_step rfl hst_ B T c_p_is_integer g_abs a.1 a.2 b F0 os D hm R
abbrev s_p_is_a_walk : Stmt := top 14
def N_p_is_a_walk : List Str := ["value", "letters", "step"]
def V_p_is_a_walk : List Str := ["value", "letters"]
def G_p_is_a_walk : List Str := ["isinstance", "tuple", "all"]
theorem sc_p_is_a_walk : FnScope N_p_is_a_walk ["value", "letters"] (defScope s_p_is_a_walk) := ⟨rfl, rfl, rfl, by decide +kernel, rfl, by decide +kernel, by decide +kernel⟩
abbrev sp_p_is_a_walk (K : PySem.W.Frag) : Sp := spZ (α := ((List Int) × Int)) (β := Bool) (fun a => [(dat (PyData.tuple (List.map PyData.int a.1))), (dat (PyData.int a.2))]) (fun a => []) (fun a => m_p_is_a_walk a.1 a.2) (fun a b => (dat (PyData.bool b))) (fun a b => [])
set_option maxHeartbeats 4000000 in
theorem body_p_is_a_walk {X : Cx} (hsc : X.env.scope = defScope s_p_is_a_walk) {sts_ : List Stmt} (hst_ : defBody s_p_is_a_walk = sts_) (B : Bd X N_p_is_a_walk V_p_is_a_walk G_p_is_a_walk 2) (T : Bt X V_p_is_a_walk) (g_isinstance : X.mg "isinstance" = none) (g_tuple : X.mg "tuple" = none) (g_all : X.mg "all" = none) (c_p_is_step : Cal X.prog X.w X.K X.mg X.base 2 "is_step" s_p_is_step ["value", "letters"] (sp_p_is_step X.K)) (value : (List Int)) (letters : Int) (b : Bool) (F0 : Hp) (os : Os) (D : Ends) (hm : m_p_is_a_walk value letters = some b) (R : RetZ F0 (os) (dat (PyData.bool b)) D) :
    SX X [sl (dat (PyData.tuple (List.map PyData.int value))), sl (dat (PyData.int letters)), un] (os) F0 sts_ D := by
  subst hst_
  unfold m_p_is_a_walk at hm
  obtain ⟨t5, h5, hm⟩ := bnd hm
  obtain rfl := som hm
  exact sx_ret (ex_and (l := t5) (os2 := os) (ex_fn (j := 0) B rfl g_isinstance (by decide +kernel) call_isi (rc_isi (d := (PyData.tuple (List.map PyData.int value))) (T := "tuple") (show kitB "tuple" "tuple" = some true by decide +kernel)) (ax_cons (ex_v (i := 0) (j := 0) B rfl rfl rfl) (ax_cons (ex_tyname (T := "tuple") (gi := 1) B rfl g_tuple (by decide +kernel)) ax_nil))) (fun hk => by (have hm := ifT h5 hk; obtain ⟨t4, h4, hm⟩ := bnd hm; obtain rfl := som hm; exact (ex_one (ex_fn (j := 2) B rfl g_all (by decide +kernel) (cr_all B.calm) (rc_all rdl_dat) (ax_cons (EN.ex (en_lc (lc_mk1 (j := 2) (vp := fun step1 => (dat (PyData.int step1))) (c := anyOs) (enc := PyData.bool) (fun (_ : Unit) (step1 : Int) => ((fun (step1 : Int) => ((m_p_is_step step1 letters).bind fun t3 => some t3)) step1).map fun y => (some y, ())) (fun (_ : Unit) (tl1 : Os) => tl1) () (t4) () B rfl rfl (by rw [B.hN, hsc]; decide +kernel) (by rw [hsc]; decide +kernel) (by decide) (lcO_ok h4) (ix_tup (enc := PyData.int) (ex_v (i := 0) (j := 0) B rfl rfl rfl) rdt_dat) (fun _ _ => trivial) (fun _ _ _ => List.Perm.refl _) (fun _ step1 t tl1 hx hf => by (obtain ⟨y, hy, rfl⟩ := Option.map_eq_some_iff.mp hf; obtain ⟨t3, h3, hy⟩ := bnd hy; obtain rfl := som hy; exact ⟨true, _, fun X1 hX => by (have B1 := Bd.fam (W' := ["letters", "step"]) (G' := ["is_step"]) B hX (by (try rw [hsc]); decide +kernel); have c_p_is_step' := fam_cal hX c_p_is_step; exact ⟨.nil, fun _ => ⟨_, rfl, (ex_call (a := (step1, letters)) (b := t3) (gi := 0) (rest := tl1) B1 rfl c_p_is_step' (by decide) h3 (ax_cons (ex_v (i := 2) (j := 1) B1 rfl rfl rfl) (ax_cons (ex_v (i := 1) (j := 0) B1 rfl rfl rfl) ax_nil)))⟩, fun h => Bool.noConfusion h⟩)⟩))))) ax_nil))))) (fun hk => by (have hm := ifF h5 hk; obtain rfl := som hm; rfl)) (and_fix (fun hk => by (have hm := ifF h5 hk; obtain rfl := som hm; rfl)))) (fun F H v e o c => R.rt F H v e o c)
theorem cal_p_is_a_walk {P : Program} {w : World} {K : PySem.W.Frag} {mg : Str → Option Value} {base : Heap} {f : Addr} {fd : FuncData} (Fn : Fun K "is_a_walk" "is_a_walk" s_p_is_a_walk f fd) (hmg : mg "is_a_walk" = some (.ref f)) (hb : Binds K fd ["value", "letters"] []) (g_isinstance : mg "isinstance" = none) (g_tuple : mg "tuple" = none) (g_all : mg "all" = none) (c_p_is_step : Cal P w K mg base 2 "is_step" s_p_is_step ["value", "letters"] (sp_p_is_step K)) : Cal P w K mg base 3 "is_a_walk" s_p_is_a_walk ["value", "letters"] (sp_p_is_a_walk K) := by
  obtain ⟨sts_, hst_⟩ : ∃ z_, defBody s_p_is_a_walk = z_ := ⟨_, rfl⟩
  exact cal_ZQ (V := V_p_is_a_walk) (Gs := G_p_is_a_walk) (nl := 1) hst_ Fn sc_p_is_a_walk (by decide +kernel) (by decide +kernel) hmg hb (fun _ => rfl) rfl fun _ _ _ _ _ _ _ a b F0 os D B T hm R => body_p_is_a_walk rfl hst_ B T g_isinstance g_tuple g_all c_p_is_step a.1 a.2 b F0 os D hm R
abbrev s_p_need_walk : Stmt := top 15
def N_p_need_walk : List Str := ["walk", "letters"]
def V_p_need_walk : List Str := ["walk", "letters"]
def G_p_need_walk : List Str := ["is_a_walk", "InvalidWalk", "anew"]
theorem sc_p_need_walk : FnScope N_p_need_walk ["walk", "letters"] (defScope s_p_need_walk) := ⟨rfl, rfl, rfl, by decide +kernel, rfl, by decide +kernel, by decide +kernel⟩
abbrev sp_p_need_walk (K : PySem.W.Frag) : Sp := spZ (α := ((List Int) × Int)) (β := Unit) (fun a => [(dat (PyData.tuple (List.map PyData.int a.1))), (dat (PyData.int a.2))]) (fun a => []) (fun a => m_p_need_walk a.1 a.2) (fun a b => (dat PyData.none)) (fun a b => [])
set_option maxHeartbeats 4000000 in
theorem body_p_need_walk {X : Cx} (hsc : X.env.scope = defScope s_p_need_walk) {sts_ : List Stmt} (hst_ : defBody s_p_need_walk = sts_) (B : Bd X N_p_need_walk V_p_need_walk G_p_need_walk 3) (T : Bt X V_p_need_walk) (c_p_is_a_walk : Cal X.prog X.w X.K X.mg X.base 3 "is_a_walk" s_p_is_a_walk ["value", "letters"] (sp_p_is_a_walk X.K)) (walk : (List Int)) (letters : Int) (b : Unit) (F0 : Hp) (os : Os) (D : Ends) (hm : m_p_need_walk walk letters = some b) (R : RetZ F0 (os) (dat PyData.none) D) :
    SX X [sl (dat (PyData.tuple (List.map PyData.int walk))), sl (dat (PyData.int letters))] (os) F0 sts_ D := by
  subst hst_
  unfold m_p_need_walk at hm
  obtain ⟨t1, h1, hm⟩ := bnd hm
  refine sx_if (tx_not (tx_val (ex_call (a := (walk, letters)) (b := t1) (gi := 0) (rest := os) B rfl c_p_is_a_walk (by decide) h1 (ax_cons (ex_v (i := 0) (j := 0) B rfl rfl rfl) (ax_cons (ex_v (i := 1) (j := 1) B rfl rfl rfl) ax_nil))) (by intro _; rfl))) (fun hk => ?_) (fun hk => ?_)
  · have hm := ifT hm hk
    exact nomatch hm
  · have hm := ifF hm hk
    refine sx_fall ?_ rfl
    obtain rfl := som hm
    exact sx_end fun F σ H e o => R.nx σ H (R.rt F H .non e o (cl_dat .non))
theorem cal_p_need_walk {P : Program} {w : World} {K : PySem.W.Frag} {mg : Str → Option Value} {base : Heap} {f : Addr} {fd : FuncData} (Fn : Fun K "need_walk" "need_walk" s_p_need_walk f fd) (hmg : mg "need_walk" = some (.ref f)) (hb : Binds K fd ["walk", "letters"] []) (c_p_is_a_walk : Cal P w K mg base 3 "is_a_walk" s_p_is_a_walk ["value", "letters"] (sp_p_is_a_walk K)) : Cal P w K mg base 4 "need_walk" s_p_need_walk ["walk", "letters"] (sp_p_need_walk K) := by
  obtain ⟨sts_, hst_⟩ : ∃ z_, defBody s_p_need_walk = z_ := ⟨_, rfl⟩
  exact cal_ZQ (V := V_p_need_walk) (Gs := G_p_need_walk) (nl := 0) hst_ Fn sc_p_need_walk (by decide +kernel) (by decide +kernel) hmg hb (fun _ => rfl) rfl fun _ _ _ _ _ _ _ a b F0 os D B T hm R => body_p_need_walk rfl hst_ B T c_p_is_a_walk a.1 a.2 b F0 os D hm R
abbrev s_p_need_number : Stmt := top 16
def N_p_need_number : List Str := ["number", "low", "high"]
def V_p_need_number : List Str := ["number", "low", "high"]
def G_p_need_number : List Str := ["InvalidNumber"]
theorem sc_p_need_number : FnScope N_p_need_number ["number", "low", "high"] (defScope s_p_need_number) := ⟨rfl, rfl, rfl, by decide +kernel, rfl, by decide +kernel, by decide +kernel⟩
abbrev sp_p_need_number (K : PySem.W.Frag) : Sp := spZ (α := (Int × Int × Int)) (β := Unit) (fun a => [(dat (PyData.int a.1)), (dat (PyData.int a.2.1)), (dat (PyData.int a.2.2))]) (fun a => []) (fun a => m_p_need_number a.1 a.2.1 a.2.2) (fun a b => (dat PyData.none)) (fun a b => [])
set_option maxHeartbeats 4000000 in
theorem body_p_need_number {X : Cx} (hsc : X.env.scope = defScope s_p_need_number) {sts_ : List Stmt} (hst_ : defBody s_p_need_number = sts_) (B : Bd X N_p_need_number V_p_need_number G_p_need_number 0) (T : Bt X V_p_need_number)  (number : Int) (low : Int) (high : Int) (b : Unit) (F0 : Hp) (os : Os) (D : Ends) (hm : m_p_need_number number low high = some b) (R : RetZ F0 (os) (dat PyData.none) D) :
    SX X [sl (dat (PyData.int number)), sl (dat (PyData.int low)), sl (dat (PyData.int high))] (os) F0 sts_ D := by
  subst hst_
  unfold m_p_need_number at hm
  refine sx_if (WX.tx (wx_or (tx_cmp op_lt r2_lt (nomark _) (ex_v (i := 0) (j := 0) B rfl rfl rfl) (ex_v (i := 1) (j := 1) B rfl rfl rfl)) (fun _ => (wx_or1 (WX.tx (wx_and (tx_cmp op_notN (r2_notN (d := (PyData.int high)) (t := true) rfl) (nomark _) (ex_v (i := 2) (j := 2) B rfl rfl rfl) ex_none) (fun _ => (wx_and1 (tx_cmp op_gt r2_gt (nomark _) (ex_v (i := 0) (j := 0) B rfl rfl rfl) (ex_v (i := 2) (j := 2) B rfl rfl rfl)))) (fun _ => rfl) rfl)))) (fun _ => rfl) rfl)) (fun hk => ?_) (fun hk => ?_)
  · have hm := ifT hm hk
    exact nomatch hm
  · have hm := ifF hm hk
    refine sx_fall ?_ rfl
    obtain rfl := som hm
    exact sx_end fun F σ H e o => R.nx σ H (R.rt F H .non e o (cl_dat .non))
theorem cal_p_need_number {P : Program} {w : World} {K : PySem.W.Frag} {mg : Str → Option Value} {base : Heap} {f : Addr} {fd : FuncData} (Fn : Fun K "need_number" "need_number" s_p_need_number f fd) (hmg : mg "need_number" = some (.ref f)) (hb : Binds K fd ["number", "low", "high"] [])  : Cal P w K mg base 1 "need_number" s_p_need_number ["number", "low", "high"] (sp_p_need_number K) := by
  obtain ⟨sts_, hst_⟩ : ∃ z_, defBody s_p_need_number = z_ := ⟨_, rfl⟩
  exact cal_ZQ (V := V_p_need_number) (Gs := G_p_need_number) (nl := 0) hst_ Fn sc_p_need_number (by decide +kernel) (by decide +kernel) hmg hb (fun _ => rfl) rfl fun _ _ _ _ _ _ _ a b F0 os D B T hm R => body_p_need_number rfl hst_ B T  a.1 a.2.1 a.2.2 b F0 os D hm R
abbrev s_p_parted : Stmt := top 19
def N_p_parted : List Str := ["walk", "begin", "end"]
def V_p_parted : List Str := ["walk", "begin", "end"]
def G_p_parted : List Str := ["len"]
theorem sc_p_parted : FnScope N_p_parted ["walk"] (defScope s_p_parted) := ⟨rfl, rfl, rfl, by decide +kernel, rfl, by decide +kernel, by decide +kernel⟩
abbrev sp_p_parted (K : PySem.W.Frag) : Sp := spZ (α := (List Int)) (β := ((List Int) × (List Int))) (fun a => [(dat (PyData.tuple (List.map PyData.int a)))]) (fun a => []) (fun a => m_p_parted a) (fun a b => (dat (PyData.tuple [(PyData.tuple (List.map PyData.int b.1)), (PyData.tuple (List.map PyData.int b.2))]))) (fun a b => [])
set_option maxHeartbeats 4000000 in
theorem body_p_parted {X : Cx} (hsc : X.env.scope = defScope s_p_parted) {sts_ : List Stmt} (hst_ : defBody s_p_parted = sts_) (B : Bd X N_p_parted V_p_parted G_p_parted 0) (T : Bt X V_p_parted) (g_len : X.mg "len" = none) (walk : (List Int)) (b : ((List Int) × (List Int))) (F0 : Hp) (os : Os) (D : Ends) (hm : m_p_parted walk = some b) (R : RetZ F0 (os) (dat (PyData.tuple [(PyData.tuple (List.map PyData.int b.1)), (PyData.tuple (List.map PyData.int b.2))])) D) :
    SX X [sl (dat (PyData.tuple (List.map PyData.int walk))), un, un] (os) F0 sts_ D := by
  subst hst_
  unfold m_p_parted at hm
  refine sx_par2 (i := 1) (j := 2) _ hsc B rfl rfl (by decide) (by decide +kernel) (by decide +kernel) (by intro env he; cases env; cases he; first | rfl | kernel_rfl) (aq_x (φ := (dat (PyData.int 0))) ex_int (aq_x (φ := (dat (PyData.int (walk.length : Int)))) (EX.to (ex_fn (j := 0) B rfl g_len (by decide +kernel) call_len_seq (rc_lenT (ds := List.map PyData.int walk) rdt_dat) (ax_cons (ex_v (i := 0) (j := 0) B rfl rfl rfl) ax_nil)) (by rw [List.length_map])) aq_nil)) (fun v0 v1 os_ hr_ => ?_) (by rintro φs os_ ⟨_, rfl, _, rfl, rfl, rfl⟩; exact ⟨_, _, rfl⟩)
  obtain ⟨_, e0, _, e1, e8, e9⟩ := hr_
  cases e0; cases e1; cases e8; cases e9
  obtain ⟨f2o, h9, hm⟩ := bnd hm
  refine sx_while _ _ (fun (s1 : (Int × Int)) (_ : Unit) => [sl (dat (PyData.tuple (List.map PyData.int walk))), sl (dat (PyData.int s1.1)), sl (dat (PyData.int s1.2))]) (fun (s1 : (Int × Int)) (_ : Unit) => os) (fun (r : ((List Int) × (List Int))) v H => ∃ F, Same F0 F ∧ Ow F (os) H ∧ Cl (dat (PyData.tuple [(PyData.tuple (List.map PyData.int r.1)), (PyData.tuple (List.map PyData.int r.2))])) F v) T 1000 (0, (walk.length : Int)) () f2o h9 ⟨.inl rfl, .inl rfl, .inl rfl, trivial⟩ rfl (fun s1 _ b hm => by (obtain ⟨t5, h5, hm⟩ := bnd hm; obtain rfl := som hm; exact (WX.tx (wx_and (l := t5) (os2 := os) (tx_cmp op_gt r2_gt (nomark _) (ex_sub (ex_v (i := 2) (j := 2) B rfl rfl rfl) (ex_v (i := 1) (j := 1) B rfl rfl rfl)) ex_int) (fun hk => by (have hm := ifT h5 hk; obtain ⟨t3, h3, hm⟩ := bnd hm; obtain ⟨t4, h4, hm⟩ := bnd hm; obtain rfl := som hm; exact (wx_and1 (tx_cmp op_eq r2_eqI (nomark _) (ex_idxT (enc := PyData.int) h3 rdt_dat (ex_v (i := 0) (j := 0) B rfl rfl rfl) (ex_v (i := 1) (j := 1) B rfl rfl rfl)) (ex_neg (ex_idxT (enc := PyData.int) h4 rdt_dat (ex_v (i := 0) (j := 0) B rfl rfl rfl) (ex_sub (ex_v (i := 2) (j := 2) B rfl rfl rfl) ex_int))))))) (fun hk => by (have hm := ifF h5 hk; obtain rfl := som hm; rfl)) (and_fix (fun hk => by (have hm := ifF h5 hk; obtain rfl := som hm; rfl))))))) (fun F7 e6 s1 _ z10 _ hm => ?_) (fun f2 _ ho => ?_) (fun r8 v H ho hr => ?_)
  · clear h9
    refine sx_par2 (i := 1) (j := 2) _ hsc B rfl rfl (by decide) (by decide +kernel) (by decide +kernel) (by intro env he; cases env; cases he; first | rfl | kernel_rfl) (aq_x (φ := (dat (PyData.int (s1.1 + 1)))) (ex_add (ex_v (i := 1) (j := 1) B rfl rfl rfl) ex_int) (aq_x (φ := (dat (PyData.int (s1.2 - 1)))) (ex_sub (ex_v (i := 2) (j := 2) B rfl rfl rfl) ex_int) aq_nil)) (fun v0 v1 os_ hr_ => ?_) (by rintro φs os_ ⟨_, rfl, _, rfl, rfl, rfl⟩; exact ⟨_, _, rfl⟩)
    obtain ⟨_, e0, _, e1, e8, e9⟩ := hr_
    cases e0; cases e1; cases e8; cases e9
    exact sx_nil fun σ H a => ⟨_, (), (som hm).symm, (a.weak ⟨.inl rfl, .inl rfl, .inl rfl, trivial⟩)⟩
  · cases ho
    have hm := elimR hm
    obtain rfl := som hm
    exact sx_ret (ex_tup (ds := [(PyData.tuple (List.map PyData.int (cut walk none (some f2.1)))), (PyData.tuple (List.map PyData.int (cut walk (some f2.1) (some f2.2))))]) (hl := len_ok (n := 2) rfl) (ax_cons (ex_cutT (enc := PyData.int) rdt_dat (ex_v (i := 0) (j := 0) B rfl rfl rfl) px_none (px_some (ex_v (i := 1) (j := 1) B rfl rfl rfl))) (ax_cons (ex_cutT (enc := PyData.int) rdt_dat (ex_v (i := 0) (j := 0) B rfl rfl rfl) (px_some (ex_v (i := 1) (j := 1) B rfl rfl rfl)) (px_some (ex_v (i := 2) (j := 2) B rfl rfl rfl))) ax_nil))) (fun F H v e o c => R.rt F H v e o c)
  · cases ho
    have hm := elimL hm
    cases hm
theorem cal_p_parted {P : Program} {w : World} {K : PySem.W.Frag} {mg : Str → Option Value} {base : Heap} {f : Addr} {fd : FuncData} (Fn : Fun K "parted" "parted" s_p_parted f fd) (hmg : mg "parted" = some (.ref f)) (hb : Binds K fd ["walk"] []) (g_len : mg "len" = none) : Cal P w K mg base 1 "parted" s_p_parted ["walk"] (sp_p_parted K) := by
  obtain ⟨sts_, hst_⟩ : ∃ z_, defBody s_p_parted = z_ := ⟨_, rfl⟩
  exact cal_ZQ (V := V_p_parted) (Gs := G_p_parted) (nl := 2) hst_ Fn sc_p_parted (by decide +kernel) (by decide +kernel) hmg hb (fun _ => rfl) rfl fun _ _ _ _ _ _ _ a b F0 os D B T hm R => body_p_parted rfl hst_ B T g_len a b F0 os D hm R
abbrev s_p_least_part : Stmt := top 20
def N_p_least_part : List Str := ["around", "size", "part"]
def V_p_least_part : List Str := ["around", "size", "part"]
def G_p_least_part : List Str := ["len", "range"]
theorem sc_p_least_part : FnScope N_p_least_part ["around"] (defScope s_p_least_part) := ⟨rfl, rfl, rfl, by decide +kernel, rfl, by decide +kernel, by decide +kernel⟩
abbrev sp_p_least_part (K : PySem.W.Frag) : Sp := spZ (α := (List Int)) (β := (List Int)) (fun a => [(dat (PyData.tuple (List.map PyData.int a)))]) (fun a => []) (fun a => m_p_least_part a) (fun a b => (dat (PyData.tuple (List.map PyData.int b)))) (fun a b => [])
set_option maxHeartbeats 4000000 in
theorem body_p_least_part {X : Cx} (hsc : X.env.scope = defScope s_p_least_part) {sts_ : List Stmt} (hst_ : defBody s_p_least_part = sts_) (B : Bd X N_p_least_part V_p_least_part G_p_least_part 0) (T : Bt X V_p_least_part) (g_len : X.mg "len" = none) (g_range : X.mg "range" = none) (around : (List Int)) (b : (List Int)) (F0 : Hp) (os : Os) (D : Ends) (hm : m_p_least_part around = some b) (R : RetZ F0 (os) (dat (PyData.tuple (List.map PyData.int b))) D) :
    SX X [sl (dat (PyData.tuple (List.map PyData.int around))), un, un] (os) F0 sts_ D := by
  subst hst_
  unfold m_p_least_part at hm
  refine sx_asg (i := 1) (vi := 1) (φ := (dat (PyData.int (around.length : Int)))) B T rfl rfl (EX.to (ex_fn (j := 0) B rfl g_len (by decide +kernel) call_len_seq (rc_lenT (ds := List.map PyData.int around) rdt_dat) (ax_cons (ex_v (i := 0) (j := 0) B rfl rfl rfl) ax_nil)) (by rw [List.length_map])) ?_
  obtain ⟨t1, h1, hm⟩ := bnd hm
  obtain ⟨f4o, h11, hm⟩ := bnd hm
  refine sx_forR (c := anyOs) _ (fun (s2 : Unit) (_ : Unit) => [sl (dat (PyData.tuple (List.map PyData.int around))), sl (dat (PyData.int (around.length : Int))), un]) (fun (s2 : Unit) (_ : Unit) => os) (fun (r : (List Int)) v H => ∃ F, Same F0 F ∧ Ow F (os) H ∧ Cl (dat (PyData.tuple (List.map PyData.int r))) F v) B T (fun part_3 => gx_name (i := 2) (vi := 2) (φ := (dat (PyData.int part_3))) B T rfl rfl) () () f4o h11 (ix_rng2 (gi := 1) B rfl g_range h1 ex_int (ex_add (ex_v (i := 1) (j := 1) B rfl rfl rfl) ex_int)) ⟨.inl rfl, .inl rfl, .inl rfl, trivial⟩ (fun _ _ => trivial) (fun F6 e5 s2 _ part_3 z13 hx hm2 => ?_) (fun f4 _ ho => ?_) (fun r12 v H ho hr => ?_)
  · clear hm h11
    have hm := hm2
    obtain ⟨t7, h7, hm⟩ := bnd hm
    obtain ⟨t10, h10, hm⟩ := bnd hm
    refine sx_if (WX.tx (wx_and (l := t10) (os2 := os) (tx_cmp op_eq r2_eqI (nomark _) (ex_mod h7 (ex_v (i := 1) (j := 1) B rfl rfl rfl) (ex_v (i := 2) (j := 2) B rfl rfl rfl)) ex_int) (fun hk => by (have hm := ifT h10 hk; obtain ⟨t8, h8, hm⟩ := bnd hm; obtain ⟨t9, h9, hm⟩ := bnd hm; obtain rfl := som hm; exact (wx_and1 (tx_eqR (e := (eT PyData.int)) (x := t9) (y := around) B (eqv_tup eqv_int) (sh_tup sh_int) (by decide) rdx_dat rdx_dat (ex_repT (enc := PyData.int) h9 (ex_cutT (enc := PyData.int) rdt_dat (ex_v (i := 0) (j := 0) B rfl rfl rfl) px_none (px_some (ex_v (i := 2) (j := 2) B rfl rfl rfl))) (ex_fdiv h8 (ex_v (i := 1) (j := 1) B rfl rfl rfl) (ex_v (i := 2) (j := 2) B rfl rfl rfl))) (ex_v (i := 0) (j := 0) B rfl rfl rfl))))) (fun hk => by (have hm := ifF h10 hk; obtain rfl := som hm; rfl)) (and_fix (fun hk => by (have hm := ifF h10 hk; obtain rfl := som hm; rfl))))) (fun hk => ?_) (fun hk => ?_)
    · have hm := ifT hm hk
      exact sx_ret (ex_cutT (enc := PyData.int) rdt_dat (ex_v (i := 0) (j := 0) B rfl rfl rfl) px_none (px_some (ex_v (i := 2) (j := 2) B rfl rfl rfl))) (fun F H v e o c => ⟨_, (som hm).symm, F, (e5.trans e), o, c⟩)
    · have hm := ifF hm hk
      refine sx_fall ?_ rfl
      exact sx_nil fun σ H a => ⟨_, (), (som hm).symm, (a.weak ⟨.inl rfl, .inl rfl, .inr rfl, trivial⟩)⟩
  · cases ho
    have hm := elimR hm
    obtain rfl := som hm
    exact sx_ret (ex_tup (ds := []) ax_nil) (fun F H v e o c => R.rt F H v e o c)
  · cases ho
    have hm := elimL hm
    obtain rfl := som hm
    obtain ⟨F, e, o, c⟩ := hr
    exact R.rt F H v e o c
theorem cal_p_least_part {P : Program} {w : World} {K : PySem.W.Frag} {mg : Str → Option Value} {base : Heap} {f : Addr} {fd : FuncData} (Fn : Fun K "least_part" "least_part" s_p_least_part f fd) (hmg : mg "least_part" = some (.ref f)) (hb : Binds K fd ["around"] []) (g_len : mg "len" = none) (g_range : mg "range" = none) : Cal P w K mg base 1 "least_part" s_p_least_part ["around"] (sp_p_least_part K) := by
  obtain ⟨sts_, hst_⟩ : ∃ z_, defBody s_p_least_part = z_ := ⟨_, rfl⟩
  exact cal_ZQ (V := V_p_least_part) (Gs := G_p_least_part) (nl := 2) hst_ Fn sc_p_least_part (by decide +kernel) (by decide +kernel) hmg hb (fun _ => rfl) rfl fun _ _ _ _ _ _ _ a b F0 os D B T hm R => body_p_least_part rfl hst_ B T g_len g_range a b F0 os D hm R
abbrev s_p_shift_onto : Stmt := top 21
def N_p_shift_onto : List Str := ["around", "wanted", "at"]
def V_p_shift_onto : List Str := ["around", "wanted", "at"]
def G_p_shift_onto : List Str := ["len", "range"]
theorem sc_p_shift_onto : FnScope N_p_shift_onto ["around", "wanted"] (defScope s_p_shift_onto) := ⟨rfl, rfl, rfl, by decide +kernel, rfl, by decide +kernel, by decide +kernel⟩
abbrev sp_p_shift_onto (K : PySem.W.Frag) : Sp := spZ (α := ((List Int) × (List Int))) (β := (Option Int)) (fun a => [(dat (PyData.tuple (List.map PyData.int a.1))), (dat (PyData.tuple (List.map PyData.int a.2)))]) (fun a => []) (fun a => m_p_shift_onto a.1 a.2) (fun a b => (dat ((eO PyData.int) b))) (fun a b => [])
set_option maxHeartbeats 4000000 in
theorem body_p_shift_onto {X : Cx} (hsc : X.env.scope = defScope s_p_shift_onto) {sts_ : List Stmt} (hst_ : defBody s_p_shift_onto = sts_) (B : Bd X N_p_shift_onto V_p_shift_onto G_p_shift_onto 0) (T : Bt X V_p_shift_onto) (g_len : X.mg "len" = none) (g_range : X.mg "range" = none) (around : (List Int)) (wanted : (List Int)) (b : (Option Int)) (F0 : Hp) (os : Os) (D : Ends) (hm : m_p_shift_onto around wanted = some b) (R : RetZ F0 (os) (dat ((eO PyData.int) b)) D) :
    SX X [sl (dat (PyData.tuple (List.map PyData.int around))), sl (dat (PyData.tuple (List.map PyData.int wanted))), un] (os) F0 sts_ D := by
  subst hst_
  unfold m_p_shift_onto at hm
  refine sx_if (tx_cmp op_ne r2_neI (nomark _) (EX.to (ex_fn (j := 0) B rfl g_len (by decide +kernel) call_len_seq (rc_lenT (ds := List.map PyData.int around) rdt_dat) (ax_cons (ex_v (i := 0) (j := 0) B rfl rfl rfl) ax_nil)) (by rw [List.length_map])) (EX.to (ex_fn (j := 0) B rfl g_len (by decide +kernel) call_len_seq (rc_lenT (ds := List.map PyData.int wanted) rdt_dat) (ax_cons (ex_v (i := 1) (j := 1) B rfl rfl rfl) ax_nil)) (by rw [List.length_map]))) (fun hk => ?_) (fun hk => ?_)
  · have hm := ifT hm hk
    obtain rfl := som hm
    exact sx_ret ex_none (fun F H v e o c => R.rt F H v e o c)
  · have hm := ifF hm hk
    refine sx_fall ?_ rfl
    obtain ⟨t1, h1, hm⟩ := bnd hm
    obtain ⟨f4o, h8, hm⟩ := bnd hm
    refine sx_forR (c := anyOs) _ (fun (s2 : Unit) (_ : Unit) => [sl (dat (PyData.tuple (List.map PyData.int around))), sl (dat (PyData.tuple (List.map PyData.int wanted))), un]) (fun (s2 : Unit) (_ : Unit) => os) (fun (r : (Option Int)) v H => ∃ F, Same F0 F ∧ Ow F (os) H ∧ Cl (dat ((eO PyData.int) r)) F v) B T (fun at_3 => gx_name (i := 2) (vi := 2) (φ := (dat (PyData.int at_3))) B T rfl rfl) () () f4o h8 (ix_rng1 (gi := 1) B rfl g_range h1 (EX.to (ex_fn (j := 0) B rfl g_len (by decide +kernel) call_len_seq (rc_lenT (ds := List.map PyData.int around) rdt_dat) (ax_cons (ex_v (i := 0) (j := 0) B rfl rfl rfl) ax_nil)) (by rw [List.length_map]))) ⟨.inl rfl, .inl rfl, .inl rfl, trivial⟩ (fun _ _ => trivial) (fun F6 e5 s2 _ at_3 z10 hx hm2 => ?_) (fun f4 _ ho => ?_) (fun r9 v H ho hr => ?_)
    · clear hm h8
      have hm := hm2
      obtain ⟨t7, h7, hm⟩ := bnd hm
      refine sx_if (tx_eqR (e := (eT PyData.int)) (x := t7) (y := wanted) B (eqv_tup eqv_int) (sh_tup sh_int) (by decide) rdx_dat rdx_dat (ex_catT (enc := PyData.int) h7 (ex_cutT (enc := PyData.int) rdt_dat (ex_v (i := 0) (j := 0) B rfl rfl rfl) (px_some (ex_v (i := 2) (j := 2) B rfl rfl rfl)) px_none) (ex_cutT (enc := PyData.int) rdt_dat (ex_v (i := 0) (j := 0) B rfl rfl rfl) px_none (px_some (ex_v (i := 2) (j := 2) B rfl rfl rfl)))) (ex_v (i := 1) (j := 1) B rfl rfl rfl)) (fun hk => ?_) (fun hk => ?_)
      · have hm := ifT hm hk
        exact sx_ret (ex_v (i := 2) (j := 2) B rfl rfl rfl) (fun F H v e o c => ⟨_, (som hm).symm, F, (e5.trans e), o, c⟩)
      · have hm := ifF hm hk
        refine sx_fall ?_ rfl
        exact sx_nil fun σ H a => ⟨_, (), (som hm).symm, (a.weak ⟨.inl rfl, .inl rfl, .inr rfl, trivial⟩)⟩
    · cases ho
      have hm := elimR hm
      obtain rfl := som hm
      exact sx_ret ex_none (fun F H v e o c => R.rt F H v e o c)
    · cases ho
      have hm := elimL hm
      obtain rfl := som hm
      obtain ⟨F, e, o, c⟩ := hr
      exact R.rt F H v e o c
theorem cal_p_shift_onto {P : Program} {w : World} {K : PySem.W.Frag} {mg : Str → Option Value} {base : Heap} {f : Addr} {fd : FuncData} (Fn : Fun K "shift_onto" "shift_onto" s_p_shift_onto f fd) (hmg : mg "shift_onto" = some (.ref f)) (hb : Binds K fd ["around", "wanted"] []) (g_len : mg "len" = none) (g_range : mg "range" = none) : Cal P w K mg base 1 "shift_onto" s_p_shift_onto ["around", "wanted"] (sp_p_shift_onto K) := by
  obtain ⟨sts_, hst_⟩ : ∃ z_, defBody s_p_shift_onto = z_ := ⟨_, rfl⟩
  exact cal_ZQ (V := V_p_shift_onto) (Gs := G_p_shift_onto) (nl := 1) hst_ Fn sc_p_shift_onto (by decide +kernel) (by decide +kernel) hmg hb (fun _ => rfl) rfl fun _ _ _ _ _ _ _ a b F0 os D B T hm R => body_p_shift_onto rfl hst_ B T g_len g_range a.1 a.2 b F0 os D hm R
abbrev s_p_straight : Stmt := top 22
def N_p_straight : List Str := ["walk"]
def V_p_straight : List Str := ["walk"]
def G_p_straight : List Str := ["need_walk", "MOST_LETTERS", "straightened"]
theorem sc_p_straight : FnScope N_p_straight ["walk"] (defScope s_p_straight) := ⟨rfl, rfl, rfl, by decide +kernel, rfl, by decide +kernel, by decide +kernel⟩
abbrev sp_p_straight (K : PySem.W.Frag) : Sp := spZ (α := (List Int)) (β := (List Int)) (fun a => [(dat (PyData.tuple (List.map PyData.int a)))]) (fun a => []) (fun a => m_p_straight a) (fun a b => (dat (PyData.tuple (List.map PyData.int b)))) (fun a b => [])
set_option maxHeartbeats 4000000 in
theorem body_p_straight {X : Cx} (hsc : X.env.scope = defScope s_p_straight) {sts_ : List Stmt} (hst_ : defBody s_p_straight = sts_) (B : Bd X N_p_straight V_p_straight G_p_straight 4) (T : Bt X V_p_straight) {tk_MOST_LETTERS : Tok} (c_p_need_walk : Cal X.prog X.w X.K X.mg X.base 4 "need_walk" s_p_need_walk ["walk", "letters"] (sp_p_need_walk X.K)) (g_MOST_LETTERS : X.mg "MOST_LETTERS" = some (.int 4 tk_MOST_LETTERS)) (c_p_straightened : Cal X.prog X.w X.K X.mg X.base 1 "straightened" s_p_straightened ["walk"] (sp_p_straightened X.K)) (walk : (List Int)) (b : (List Int)) (F0 : Hp) (os : Os) (D : Ends) (hm : m_p_straight walk = some b) (R : RetZ F0 (os) (dat (PyData.tuple (List.map PyData.int b))) D) :
    SX X [sl (dat (PyData.tuple (List.map PyData.int walk)))] (os) F0 sts_ D := by
  subst hst_
  unfold m_p_straight at hm
  obtain ⟨t1, h1, hm⟩ := bnd hm
  refine sx_expr (ex_call (a := (walk, 4)) (b := t1) (gi := 0) (rest := os) B rfl c_p_need_walk (by decide) h1 (ax_cons (ex_v (i := 0) (j := 0) B rfl rfl rfl) (ax_cons (ex_g (j := 1) B rfl g_MOST_LETTERS) ax_nil))) ?_
  obtain ⟨t2, h2, hm⟩ := bnd hm
  obtain rfl := som hm
  exact sx_ret (ex_call (a := walk) (b := t2) (gi := 2) (rest := os) B rfl c_p_straightened (by decide) h2 (ax_cons (ex_v (i := 0) (j := 0) B rfl rfl rfl) ax_nil)) (fun F H v e o c => R.rt F H v e o c)
theorem cal_p_straight {P : Program} {w : World} {K : PySem.W.Frag} {mg : Str → Option Value} {base : Heap} {f : Addr} {fd : FuncData} (Fn : Fun K "straight" "straight" s_p_straight f fd) (hmg : mg "straight" = some (.ref f)) (hb : Binds K fd ["walk"] []) {tk_MOST_LETTERS : Tok} (c_p_need_walk : Cal P w K mg base 4 "need_walk" s_p_need_walk ["walk", "letters"] (sp_p_need_walk K)) (g_MOST_LETTERS : mg "MOST_LETTERS" = some (.int 4 tk_MOST_LETTERS)) (c_p_straightened : Cal P w K mg base 1 "straightened" s_p_straightened ["walk"] (sp_p_straightened K)) : Cal P w K mg base 5 "straight" s_p_straight ["walk"] (sp_p_straight K) := by
  obtain ⟨sts_, hst_⟩ : ∃ z_, defBody s_p_straight = z_ := ⟨_, rfl⟩
  exact cal_ZQ (V := V_p_straight) (Gs := G_p_straight) (nl := 0) hst_ Fn sc_p_straight (by decide +kernel) (by decide +kernel) hmg hb (fun _ => rfl) rfl fun _ _ _ _ _ _ _ a b F0 os D B T hm R => body_p_straight rfl hst_ B T c_p_need_walk g_MOST_LETTERS c_p_straightened a b F0 os D hm R
abbrev s_p_behind : Stmt := top 23
def N_p_behind : List Str := ["one", "other"]
def V_p_behind : List Str := ["one", "other"]
def G_p_behind : List Str := ["need_walk", "MOST_LETTERS", "straightened"]
theorem sc_p_behind : FnScope N_p_behind ["one", "other"] (defScope s_p_behind) := ⟨rfl, rfl, rfl, by decide +kernel, rfl, by decide +kernel, by decide +kernel⟩
abbrev sp_p_behind (K : PySem.W.Frag) : Sp := spZ (α := ((List Int) × (List Int))) (β := (List Int)) (fun a => [(dat (PyData.tuple (List.map PyData.int a.1))), (dat (PyData.tuple (List.map PyData.int a.2)))]) (fun a => []) (fun a => m_p_behind a.1 a.2) (fun a b => (dat (PyData.tuple (List.map PyData.int b)))) (fun a b => [])
set_option maxHeartbeats 4000000 in
theorem body_p_behind {X : Cx} (hsc : X.env.scope = defScope s_p_behind) {sts_ : List Stmt} (hst_ : defBody s_p_behind = sts_) (B : Bd X N_p_behind V_p_behind G_p_behind 4) (T : Bt X V_p_behind) {tk_MOST_LETTERS : Tok} (c_p_need_walk : Cal X.prog X.w X.K X.mg X.base 4 "need_walk" s_p_need_walk ["walk", "letters"] (sp_p_need_walk X.K)) (g_MOST_LETTERS : X.mg "MOST_LETTERS" = some (.int 4 tk_MOST_LETTERS)) (c_p_straightened : Cal X.prog X.w X.K X.mg X.base 1 "straightened" s_p_straightened ["walk"] (sp_p_straightened X.K)) (one : (List Int)) (other : (List Int)) (b : (List Int)) (F0 : Hp) (os : Os) (D : Ends) (hm : m_p_behind one other = some b) (R : RetZ F0 (os) (dat (PyData.tuple (List.map PyData.int b))) D) :
    SX X [sl (dat (PyData.tuple (List.map PyData.int one))), sl (dat (PyData.tuple (List.map PyData.int other)))] (os) F0 sts_ D := by
  subst hst_
  unfold m_p_behind at hm
  obtain ⟨t1, h1, hm⟩ := bnd hm
  refine sx_expr (ex_call (a := (one, 4)) (b := t1) (gi := 0) (rest := os) B rfl c_p_need_walk (by decide) h1 (ax_cons (ex_v (i := 0) (j := 0) B rfl rfl rfl) (ax_cons (ex_g (j := 1) B rfl g_MOST_LETTERS) ax_nil))) ?_
  obtain ⟨t2, h2, hm⟩ := bnd hm
  refine sx_expr (ex_call (a := (other, 4)) (b := t2) (gi := 0) (rest := os) B rfl c_p_need_walk (by decide) h2 (ax_cons (ex_v (i := 1) (j := 1) B rfl rfl rfl) (ax_cons (ex_g (j := 1) B rfl g_MOST_LETTERS) ax_nil))) ?_
  obtain ⟨t3, h3, hm⟩ := bnd hm
  obtain ⟨t4, h4, hm⟩ := bnd hm
  obtain rfl := som hm
  exact sx_ret (ex_call (a := t3) (b := t4) (gi := 2) (rest := os) B rfl c_p_straightened (by decide) h4 (ax_cons (ex_catT (enc := PyData.int) h3 (ex_v (i := 0) (j := 0) B rfl rfl rfl) (ex_v (i := 1) (j := 1) B rfl rfl rfl)) ax_nil)) (fun F H v e o c => R.rt F H v e o c)
theorem cal_p_behind {P : Program} {w : World} {K : PySem.W.Frag} {mg : Str → Option Value} {base : Heap} {f : Addr} {fd : FuncData} (Fn : Fun K "behind" "behind" s_p_behind f fd) (hmg : mg "behind" = some (.ref f)) (hb : Binds K fd ["one", "other"] []) {tk_MOST_LETTERS : Tok} (c_p_need_walk : Cal P w K mg base 4 "need_walk" s_p_need_walk ["walk", "letters"] (sp_p_need_walk K)) (g_MOST_LETTERS : mg "MOST_LETTERS" = some (.int 4 tk_MOST_LETTERS)) (c_p_straightened : Cal P w K mg base 1 "straightened" s_p_straightened ["walk"] (sp_p_straightened K)) : Cal P w K mg base 5 "behind" s_p_behind ["one", "other"] (sp_p_behind K) := by
  obtain ⟨sts_, hst_⟩ : ∃ z_, defBody s_p_behind = z_ := ⟨_, rfl⟩
  exact cal_ZQ (V := V_p_behind) (Gs := G_p_behind) (nl := 0) hst_ Fn sc_p_behind (by decide +kernel) (by decide +kernel) hmg hb (fun _ => rfl) rfl fun _ _ _ _ _ _ _ a b F0 os D B T hm R => body_p_behind rfl hst_ B T c_p_need_walk g_MOST_LETTERS c_p_straightened a.1 a.2 b F0 os D hm R
abbrev s_p_back : Stmt := top 24
def N_p_back : List Str := ["walk"]
def V_p_back : List Str := ["walk"]
def G_p_back : List Str := ["need_walk", "MOST_LETTERS", "turned_back", "straightened"]
theorem sc_p_back : FnScope N_p_back ["walk"] (defScope s_p_back) := ⟨rfl, rfl, rfl, by decide +kernel, rfl, by decide +kernel, by decide +kernel⟩
abbrev sp_p_back (K : PySem.W.Frag) : Sp := spZ (α := (List Int)) (β := (List Int)) (fun a => [(dat (PyData.tuple (List.map PyData.int a)))]) (fun a => []) (fun a => m_p_back a) (fun a b => (dat (PyData.tuple (List.map PyData.int b)))) (fun a b => [])
set_option maxHeartbeats 4000000 in
theorem body_p_back {X : Cx} (hsc : X.env.scope = defScope s_p_back) {sts_ : List Stmt} (hst_ : defBody s_p_back = sts_) (B : Bd X N_p_back V_p_back G_p_back 4) (T : Bt X V_p_back) {tk_MOST_LETTERS : Tok} (c_p_need_walk : Cal X.prog X.w X.K X.mg X.base 4 "need_walk" s_p_need_walk ["walk", "letters"] (sp_p_need_walk X.K)) (g_MOST_LETTERS : X.mg "MOST_LETTERS" = some (.int 4 tk_MOST_LETTERS)) (c_p_turned_back : Cal X.prog X.w X.K X.mg X.base 1 "turned_back" s_p_turned_back ["walk"] (sp_p_turned_back X.K)) (c_p_straightened : Cal X.prog X.w X.K X.mg X.base 1 "straightened" s_p_straightened ["walk"] (sp_p_straightened X.K)) (walk : (List Int)) (b : (List Int)) (F0 : Hp) (os : Os) (D : Ends) (hm : m_p_back walk = some b) (R : RetZ F0 (os) (dat (PyData.tuple (List.map PyData.int b))) D) :
    SX X [sl (dat (PyData.tuple (List.map PyData.int walk)))] (os) F0 sts_ D := by
  subst hst_
  unfold m_p_back at hm
  obtain ⟨t1, h1, hm⟩ := bnd hm
  refine sx_expr (ex_call (a := (walk, 4)) (b := t1) (gi := 0) (rest := os) B rfl c_p_need_walk (by decide) h1 (ax_cons (ex_v (i := 0) (j := 0) B rfl rfl rfl) (ax_cons (ex_g (j := 1) B rfl g_MOST_LETTERS) ax_nil))) ?_
  obtain ⟨t2, h2, hm⟩ := bnd hm
  obtain ⟨t3, h3, hm⟩ := bnd hm
  obtain rfl := som hm
  exact sx_ret (ex_call (a := t2) (b := t3) (gi := 2) (rest := os) B rfl c_p_turned_back (by decide) h3 (ax_cons (ex_call (a := walk) (b := t2) (gi := 3) (rest := os) B rfl c_p_straightened (by decide) h2 (ax_cons (ex_v (i := 0) (j := 0) B rfl rfl rfl) ax_nil)) ax_nil)) (fun F H v e o c => R.rt F H v e o c)
theorem cal_p_back {P : Program} {w : World} {K : PySem.W.Frag} {mg : Str → Option Value} {base : Heap} {f : Addr} {fd : FuncData} (Fn : Fun K "back" "back" s_p_back f fd) (hmg : mg "back" = some (.ref f)) (hb : Binds K fd ["walk"] []) {tk_MOST_LETTERS : Tok} (c_p_need_walk : Cal P w K mg base 4 "need_walk" s_p_need_walk ["walk", "letters"] (sp_p_need_walk K)) (g_MOST_LETTERS : mg "MOST_LETTERS" = some (.int 4 tk_MOST_LETTERS)) (c_p_turned_back : Cal P w K mg base 1 "turned_back" s_p_turned_back ["walk"] (sp_p_turned_back K)) (c_p_straightened : Cal P w K mg base 1 "straightened" s_p_straightened ["walk"] (sp_p_straightened K)) : Cal P w K mg base 5 "back" s_p_back ["walk"] (sp_p_back K) := by
  obtain ⟨sts_, hst_⟩ : ∃ z_, defBody s_p_back = z_ := ⟨_, rfl⟩
  exact cal_ZQ (V := V_p_back) (Gs := G_p_back) (nl := 0) hst_ Fn sc_p_back (by decide +kernel) (by decide +kernel) hmg hb (fun _ => rfl) rfl fun _ _ _ _ _ _ _ a b F0 os D B T hm R => body_p_back rfl hst_ B T c_p_need_walk g_MOST_LETTERS c_p_turned_back c_p_straightened a b F0 os D hm R
abbrev s_p_power : Stmt := top 25
def N_p_power : List Str := ["walk", "times", "once"]
def V_p_power : List Str := ["walk", "times", "once"]
def G_p_power : List Str := ["need_walk", "MOST_LETTERS", "need_number", "MOST_TIMES", "straightened", "turned_back", "abs"]
theorem sc_p_power : FnScope N_p_power ["walk", "times"] (defScope s_p_power) := ⟨rfl, rfl, rfl, by decide +kernel, rfl, by decide +kernel, by decide +kernel⟩
abbrev sp_p_power (K : PySem.W.Frag) : Sp := spZ (α := ((List Int) × Int)) (β := (List Int)) (fun a => [(dat (PyData.tuple (List.map PyData.int a.1))), (dat (PyData.int a.2))]) (fun a => []) (fun a => m_p_power a.1 a.2) (fun a b => (dat (PyData.tuple (List.map PyData.int b)))) (fun a b => [])
set_option maxHeartbeats 4000000 in
theorem body_p_power {X : Cx} (hsc : X.env.scope = defScope s_p_power) {sts_ : List Stmt} (hst_ : defBody s_p_power = sts_) (B : Bd X N_p_power V_p_power G_p_power 4) (T : Bt X V_p_power) {tk_MOST_TIMES : Tok} {tk_MOST_LETTERS : Tok} (c_p_need_walk : Cal X.prog X.w X.K X.mg X.base 4 "need_walk" s_p_need_walk ["walk", "letters"] (sp_p_need_walk X.K)) (g_MOST_LETTERS : X.mg "MOST_LETTERS" = some (.int 4 tk_MOST_LETTERS)) (c_p_need_number : Cal X.prog X.w X.K X.mg X.base 1 "need_number" s_p_need_number ["number", "low", "high"] (sp_p_need_number X.K)) (g_MOST_TIMES : X.mg "MOST_TIMES" = some (.int 20 tk_MOST_TIMES)) (c_p_straightened : Cal X.prog X.w X.K X.mg X.base 1 "straightened" s_p_straightened ["walk"] (sp_p_straightened X.K)) (c_p_turned_back : Cal X.prog X.w X.K X.mg X.base 1 "turned_back" s_p_turned_back ["walk"] (sp_p_turned_back X.K)) (g_abs : X.mg "abs" = none) (walk : (List Int)) (times : Int) (b : (List Int)) (F0 : Hp) (os : Os) (D : Ends) (hm : m_p_power walk times = some b) (R : RetZ F0 (os) (dat (PyData.tuple (List.map PyData.int b))) D) :
    SX X [sl (dat (PyData.tuple (List.map PyData.int walk))), sl (dat (PyData.int times)), un] (os) F0 sts_ D := by
  subst hst_
  unfold m_p_power at hm
  obtain ⟨t1, h1, hm⟩ := bnd hm
  refine sx_expr (ex_call (a := (walk, 4)) (b := t1) (gi := 0) (rest := os) B rfl c_p_need_walk (by decide) h1 (ax_cons (ex_v (i := 0) (j := 0) B rfl rfl rfl) (ax_cons (ex_g (j := 1) B rfl g_MOST_LETTERS) ax_nil))) ?_
  obtain ⟨t2, h2, hm⟩ := bnd hm
  refine sx_expr (ex_call (a := (times, (-20), 20)) (b := t2) (gi := 2) (rest := os) B rfl c_p_need_number (by decide) h2 (ax_cons (ex_v (i := 1) (j := 1) B rfl rfl rfl) (ax_cons (ex_neg (ex_g (j := 3) B rfl g_MOST_TIMES)) (ax_cons (ex_g (j := 3) B rfl g_MOST_TIMES) ax_nil)))) ?_
  obtain ⟨t3, h3, hm⟩ := bnd hm
  refine sx_asg (i := 2) (vi := 2) (φ := (dat (PyData.tuple (List.map PyData.int t3)))) B T rfl rfl (ex_call (a := walk) (b := t3) (gi := 4) (rest := os) B rfl c_p_straightened (by decide) h3 (ax_cons (ex_v (i := 0) (j := 0) B rfl rfl rfl) ax_nil)) ?_
  obtain ⟨s5, h_s5, hm⟩ := bnd hm
  refine sx_join [sl (dat (PyData.tuple (List.map PyData.int walk))), sl (dat (PyData.int times)), sl (dat (PyData.tuple (List.map PyData.int s5)))] (os) (?_) (fun Q => ?_)
  · clear h_s5
    obtain ⟨t6, h6, hm⟩ := bnd hm
    obtain ⟨t7, h7, hm⟩ := bnd hm
    obtain rfl := som hm
    exact sx_ret (ex_call (a := t6) (b := t7) (gi := 4) (rest := os) B rfl c_p_straightened (by decide) h7 (ax_cons (ex_repT (enc := PyData.int) h6 (ex_v (i := 2) (j := 2) B rfl rfl rfl) (ex_fn (j := 6) B rfl g_abs (by decide +kernel) call_abs rc_abs (ax_cons (ex_v (i := 1) (j := 1) B rfl rfl rfl) ax_nil))) ax_nil)) (fun F H v e o c => R.rt F H v e o c)
  · have hm := h_s5
    refine sx_if (tx_cmp op_lt r2_lt (nomark _) (ex_v (i := 1) (j := 1) B rfl rfl rfl) ex_int) (fun hk => ?_) (fun hk => ?_)
    · have hm := ifT hm hk
      obtain ⟨t4, h4, hm⟩ := bnd hm
      refine sx_asg (i := 2) (vi := 2) (φ := (dat (PyData.tuple (List.map PyData.int t4)))) B T rfl rfl (ex_call (a := t3) (b := t4) (gi := 5) (rest := os) B rfl c_p_turned_back (by decide) h4 (ax_cons (ex_v (i := 2) (j := 2) B rfl rfl rfl) ax_nil)) ?_
      obtain rfl := som hm
      exact sx_fall Q rfl
    · have hm := ifF hm hk
      obtain rfl := som hm
      exact sx_fall Q rfl
theorem cal_p_power {P : Program} {w : World} {K : PySem.W.Frag} {mg : Str → Option Value} {base : Heap} {f : Addr} {fd : FuncData} (Fn : Fun K "power" "power" s_p_power f fd) (hmg : mg "power" = some (.ref f)) (hb : Binds K fd ["walk", "times"] []) {tk_MOST_TIMES : Tok} {tk_MOST_LETTERS : Tok} (c_p_need_walk : Cal P w K mg base 4 "need_walk" s_p_need_walk ["walk", "letters"] (sp_p_need_walk K)) (g_MOST_LETTERS : mg "MOST_LETTERS" = some (.int 4 tk_MOST_LETTERS)) (c_p_need_number : Cal P w K mg base 1 "need_number" s_p_need_number ["number", "low", "high"] (sp_p_need_number K)) (g_MOST_TIMES : mg "MOST_TIMES" = some (.int 20 tk_MOST_TIMES)) (c_p_straightened : Cal P w K mg base 1 "straightened" s_p_straightened ["walk"] (sp_p_straightened K)) (c_p_turned_back : Cal P w K mg base 1 "turned_back" s_p_turned_back ["walk"] (sp_p_turned_back K)) (g_abs : mg "abs" = none) : Cal P w K mg base 5 "power" s_p_power ["walk", "times"] (sp_p_power K) := by
  obtain ⟨sts_, hst_⟩ : ∃ z_, defBody s_p_power = z_ := ⟨_, rfl⟩
  exact cal_ZQ (V := V_p_power) (Gs := G_p_power) (nl := 1) hst_ Fn sc_p_power (by decide +kernel) (by decide +kernel) hmg hb (fun _ => rfl) rfl fun _ _ _ _ _ _ _ a b F0 os D B T hm R => body_p_power rfl hst_ B T c_p_need_walk g_MOST_LETTERS c_p_need_number g_MOST_TIMES c_p_straightened c_p_turned_back g_abs a.1 a.2 b F0 os D hm R
abbrev s_p_core : Stmt := top 26
def N_p_core : List Str := ["walk"]
def V_p_core : List Str := ["walk"]
def G_p_core : List Str := ["need_walk", "MOST_LETTERS", "parted", "straightened"]
theorem sc_p_core : FnScope N_p_core ["walk"] (defScope s_p_core) := ⟨rfl, rfl, rfl, by decide +kernel, rfl, by decide +kernel, by decide +kernel⟩
abbrev sp_p_core (K : PySem.W.Frag) : Sp := spZ (α := (List Int)) (β := ((List Int) × (List Int))) (fun a => [(dat (PyData.tuple (List.map PyData.int a)))]) (fun a => []) (fun a => m_p_core a) (fun a b => (dat (PyData.tuple [(PyData.tuple (List.map PyData.int b.1)), (PyData.tuple (List.map PyData.int b.2))]))) (fun a b => [])
set_option maxHeartbeats 4000000 in
theorem body_p_core {X : Cx} (hsc : X.env.scope = defScope s_p_core) {sts_ : List Stmt} (hst_ : defBody s_p_core = sts_) (B : Bd X N_p_core V_p_core G_p_core 4) (T : Bt X V_p_core) {tk_MOST_LETTERS : Tok} (c_p_need_walk : Cal X.prog X.w X.K X.mg X.base 4 "need_walk" s_p_need_walk ["walk", "letters"] (sp_p_need_walk X.K)) (g_MOST_LETTERS : X.mg "MOST_LETTERS" = some (.int 4 tk_MOST_LETTERS)) (c_p_parted : Cal X.prog X.w X.K X.mg X.base 1 "parted" s_p_parted ["walk"] (sp_p_parted X.K)) (c_p_straightened : Cal X.prog X.w X.K X.mg X.base 1 "straightened" s_p_straightened ["walk"] (sp_p_straightened X.K)) (walk : (List Int)) (b : ((List Int) × (List Int))) (F0 : Hp) (os : Os) (D : Ends) (hm : m_p_core walk = some b) (R : RetZ F0 (os) (dat (PyData.tuple [(PyData.tuple (List.map PyData.int b.1)), (PyData.tuple (List.map PyData.int b.2))])) D) :
    SX X [sl (dat (PyData.tuple (List.map PyData.int walk)))] (os) F0 sts_ D := by
  subst hst_
  unfold m_p_core at hm
  obtain ⟨t1, h1, hm⟩ := bnd hm
  refine sx_expr (ex_call (a := (walk, 4)) (b := t1) (gi := 0) (rest := os) B rfl c_p_need_walk (by decide) h1 (ax_cons (ex_v (i := 0) (j := 0) B rfl rfl rfl) (ax_cons (ex_g (j := 1) B rfl g_MOST_LETTERS) ax_nil))) ?_
  obtain ⟨t2, h2, hm⟩ := bnd hm
  obtain ⟨t3, h3, hm⟩ := bnd hm
  obtain rfl := som hm
  exact sx_ret (ex_call (a := t2) (b := t3) (gi := 2) (rest := os) B rfl c_p_parted (by decide) h3 (ax_cons (ex_call (a := walk) (b := t2) (gi := 3) (rest := os) B rfl c_p_straightened (by decide) h2 (ax_cons (ex_v (i := 0) (j := 0) B rfl rfl rfl) ax_nil)) ax_nil)) (fun F H v e o c => R.rt F H v e o c)
theorem cal_p_core {P : Program} {w : World} {K : PySem.W.Frag} {mg : Str → Option Value} {base : Heap} {f : Addr} {fd : FuncData} (Fn : Fun K "core" "core" s_p_core f fd) (hmg : mg "core" = some (.ref f)) (hb : Binds K fd ["walk"] []) {tk_MOST_LETTERS : Tok} (c_p_need_walk : Cal P w K mg base 4 "need_walk" s_p_need_walk ["walk", "letters"] (sp_p_need_walk K)) (g_MOST_LETTERS : mg "MOST_LETTERS" = some (.int 4 tk_MOST_LETTERS)) (c_p_parted : Cal P w K mg base 1 "parted" s_p_parted ["walk"] (sp_p_parted K)) (c_p_straightened : Cal P w K mg base 1 "straightened" s_p_straightened ["walk"] (sp_p_straightened K)) : Cal P w K mg base 5 "core" s_p_core ["walk"] (sp_p_core K) := by
  obtain ⟨sts_, hst_⟩ : ∃ z_, defBody s_p_core = z_ := ⟨_, rfl⟩
  exact cal_ZQ (V := V_p_core) (Gs := G_p_core) (nl := 0) hst_ Fn sc_p_core (by decide +kernel) (by decide +kernel) hmg hb (fun _ => rfl) rfl fun _ _ _ _ _ _ _ a b F0 os D B T hm R => body_p_core rfl hst_ B T c_p_need_walk g_MOST_LETTERS c_p_parted c_p_straightened a b F0 os D hm R
abbrev s_p_root : Stmt := top 27
def N_p_root : List Str := ["walk", "lead", "around", "part"]
def V_p_root : List Str := ["walk", "lead", "around", "part"]
def G_p_root : List Str := ["need_walk", "MOST_LETTERS", "parted", "straightened", "least_part", "turned_back", "len"]
theorem sc_p_root : FnScope N_p_root ["walk"] (defScope s_p_root) := ⟨rfl, rfl, rfl, by decide +kernel, rfl, by decide +kernel, by decide +kernel⟩
abbrev sp_p_root (K : PySem.W.Frag) : Sp := spZ (α := (List Int)) (β := ((List Int) × Int)) (fun a => [(dat (PyData.tuple (List.map PyData.int a)))]) (fun a => []) (fun a => m_p_root a) (fun a b => (dat (PyData.tuple [(PyData.tuple (List.map PyData.int b.1)), (PyData.int b.2)]))) (fun a b => [])
set_option maxHeartbeats 4000000 in
theorem body_p_root {X : Cx} (hsc : X.env.scope = defScope s_p_root) {sts_ : List Stmt} (hst_ : defBody s_p_root = sts_) (B : Bd X N_p_root V_p_root G_p_root 4) (T : Bt X V_p_root) {tk_MOST_LETTERS : Tok} (c_p_need_walk : Cal X.prog X.w X.K X.mg X.base 4 "need_walk" s_p_need_walk ["walk", "letters"] (sp_p_need_walk X.K)) (g_MOST_LETTERS : X.mg "MOST_LETTERS" = some (.int 4 tk_MOST_LETTERS)) (c_p_parted : Cal X.prog X.w X.K X.mg X.base 1 "parted" s_p_parted ["walk"] (sp_p_parted X.K)) (c_p_straightened : Cal X.prog X.w X.K X.mg X.base 1 "straightened" s_p_straightened ["walk"] (sp_p_straightened X.K)) (c_p_least_part : Cal X.prog X.w X.K X.mg X.base 1 "least_part" s_p_least_part ["around"] (sp_p_least_part X.K)) (c_p_turned_back : Cal X.prog X.w X.K X.mg X.base 1 "turned_back" s_p_turned_back ["walk"] (sp_p_turned_back X.K)) (g_len : X.mg "len" = none) (walk : (List Int)) (b : ((List Int) × Int)) (F0 : Hp) (os : Os) (D : Ends) (hm : m_p_root walk = some b) (R : RetZ F0 (os) (dat (PyData.tuple [(PyData.tuple (List.map PyData.int b.1)), (PyData.int b.2)])) D) :
    SX X [sl (dat (PyData.tuple (List.map PyData.int walk))), un, un, un] (os) F0 sts_ D := by
  subst hst_
  unfold m_p_root at hm
  obtain ⟨t1, h1, hm⟩ := bnd hm
  refine sx_expr (ex_call (a := (walk, 4)) (b := t1) (gi := 0) (rest := os) B rfl c_p_need_walk (by decide) h1 (ax_cons (ex_v (i := 0) (j := 0) B rfl rfl rfl) (ax_cons (ex_g (j := 1) B rfl g_MOST_LETTERS) ax_nil))) ?_
  obtain ⟨t2, h2, hm⟩ := bnd hm
  obtain ⟨t3, h3, hm⟩ := bnd hm
  refine sx_unp (gx_pair B (gx_name (i := 1) (vi := 1) B T rfl rfl) (gx_name (i := 2) (vi := 2) B T rfl rfl)) (ex_call (a := t2) (b := t3) (gi := 2) (rest := os) B rfl c_p_parted (by decide) h3 (ax_cons (ex_call (a := walk) (b := t2) (gi := 3) (rest := os) B rfl c_p_straightened (by decide) h2 (ax_cons (ex_v (i := 0) (j := 0) B rfl rfl rfl) ax_nil)) ax_nil)) ?_
  refine sx_if (tx_eqR (e := (eT PyData.int)) (x := t3.2) (y := ([] : (List Int))) B (eqv_tup eqv_int) (sh_tup sh_int) (by decide) rdx_dat rdx_dat (ex_v (i := 2) (j := 2) B rfl rfl rfl) (ex_tup (ds := []) ax_nil)) (fun hk => ?_) (fun hk => ?_)
  · have hm := ifT hm hk
    obtain rfl := som hm
    exact sx_ret (ex_tup (ds := [(PyData.tuple (List.map PyData.int ([] : (List Int)))), (PyData.int 0)]) (hl := len_ok (n := 2) rfl) (ax_cons (ex_tup (ds := []) ax_nil) (ax_cons ex_int ax_nil))) (fun F H v e o c => R.rt F H v e o c)
  · have hm := ifF hm hk
    refine sx_fall ?_ rfl
    obtain ⟨t4, h4, hm⟩ := bnd hm
    refine sx_asg (i := 3) (vi := 3) (φ := (dat (PyData.tuple (List.map PyData.int t4)))) B T rfl rfl (ex_call (a := t3.2) (b := t4) (gi := 4) (rest := os) B rfl c_p_least_part (by decide) h4 (ax_cons (ex_v (i := 2) (j := 2) B rfl rfl rfl) ax_nil)) ?_
    obtain ⟨t5, h5, hm⟩ := bnd hm
    obtain ⟨t6, h6, hm⟩ := bnd hm
    obtain ⟨t7, h7, hm⟩ := bnd hm
    obtain ⟨t8, h8, hm⟩ := bnd hm
    obtain rfl := som hm
    exact sx_ret (ex_tup (ds := [(PyData.tuple (List.map PyData.int t7)), (PyData.int t8)]) (hl := len_ok (n := 2) rfl) (ax_cons (ex_catT (enc := PyData.int) h7 (ex_catT (enc := PyData.int) h5 (ex_v (i := 1) (j := 1) B rfl rfl rfl) (ex_v (i := 3) (j := 3) B rfl rfl rfl)) (ex_call (a := t3.1) (b := t6) (gi := 5) (rest := os) B rfl c_p_turned_back (by decide) h6 (ax_cons (ex_v (i := 1) (j := 1) B rfl rfl rfl) ax_nil))) (ax_cons (ex_fdiv h8 (EX.to (ex_fn (j := 6) B rfl g_len (by decide +kernel) call_len_seq (rc_lenT (ds := List.map PyData.int t3.2) rdt_dat) (ax_cons (ex_v (i := 2) (j := 2) B rfl rfl rfl) ax_nil)) (by rw [List.length_map])) (EX.to (ex_fn (j := 6) B rfl g_len (by decide +kernel) call_len_seq (rc_lenT (ds := List.map PyData.int t4) rdt_dat) (ax_cons (ex_v (i := 3) (j := 3) B rfl rfl rfl) ax_nil)) (by rw [List.length_map]))) ax_nil))) (fun F H v e o c => R.rt F H v e o c)
theorem cal_p_root {P : Program} {w : World} {K : PySem.W.Frag} {mg : Str → Option Value} {base : Heap} {f : Addr} {fd : FuncData} (Fn : Fun K "root" "root" s_p_root f fd) (hmg : mg "root" = some (.ref f)) (hb : Binds K fd ["walk"] []) {tk_MOST_LETTERS : Tok} (c_p_need_walk : Cal P w K mg base 4 "need_walk" s_p_need_walk ["walk", "letters"] (sp_p_need_walk K)) (g_MOST_LETTERS : mg "MOST_LETTERS" = some (.int 4 tk_MOST_LETTERS)) (c_p_parted : Cal P w K mg base 1 "parted" s_p_parted ["walk"] (sp_p_parted K)) (c_p_straightened : Cal P w K mg base 1 "straightened" s_p_straightened ["walk"] (sp_p_straightened K)) (c_p_least_part : Cal P w K mg base 1 "least_part" s_p_least_part ["around"] (sp_p_least_part K)) (c_p_turned_back : Cal P w K mg base 1 "turned_back" s_p_turned_back ["walk"] (sp_p_turned_back K)) (g_len : mg "len" = none) : Cal P w K mg base 5 "root" s_p_root ["walk"] (sp_p_root K) := by
  obtain ⟨sts_, hst_⟩ : ∃ z_, defBody s_p_root = z_ := ⟨_, rfl⟩
  exact cal_ZQ (V := V_p_root) (Gs := G_p_root) (nl := 3) hst_ Fn sc_p_root (by decide +kernel) (by decide +kernel) hmg hb (fun _ => rfl) rfl fun _ _ _ _ _ _ _ a b F0 os D B T hm R => body_p_root rfl hst_ B T c_p_need_walk g_MOST_LETTERS c_p_parted c_p_straightened c_p_least_part c_p_turned_back g_len a b F0 os D hm R
abbrev s_p_commute : Stmt := top 28
def N_p_commute : List Str := ["one", "other"]
def V_p_commute : List Str := ["one", "other"]
def G_p_commute : List Str := ["need_walk", "MOST_LETTERS", "straightened"]
theorem sc_p_commute : FnScope N_p_commute ["one", "other"] (defScope s_p_commute) := ⟨rfl, rfl, rfl, by decide +kernel, rfl, by decide +kernel, by decide +kernel⟩
abbrev sp_p_commute (K : PySem.W.Frag) : Sp := spZ (α := ((List Int) × (List Int))) (β := Bool) (fun a => [(dat (PyData.tuple (List.map PyData.int a.1))), (dat (PyData.tuple (List.map PyData.int a.2)))]) (fun a => []) (fun a => m_p_commute a.1 a.2) (fun a b => (dat (PyData.bool b))) (fun a b => [])
set_option maxHeartbeats 4000000 in
theorem body_p_commute {X : Cx} (hsc : X.env.scope = defScope s_p_commute) {sts_ : List Stmt} (hst_ : defBody s_p_commute = sts_) (B : Bd X N_p_commute V_p_commute G_p_commute 4) (T : Bt X V_p_commute) {tk_MOST_LETTERS : Tok} (c_p_need_walk : Cal X.prog X.w X.K X.mg X.base 4 "need_walk" s_p_need_walk ["walk", "letters"] (sp_p_need_walk X.K)) (g_MOST_LETTERS : X.mg "MOST_LETTERS" = some (.int 4 tk_MOST_LETTERS)) (c_p_straightened : Cal X.prog X.w X.K X.mg X.base 1 "straightened" s_p_straightened ["walk"] (sp_p_straightened X.K)) (one : (List Int)) (other : (List Int)) (b : Bool) (F0 : Hp) (os : Os) (D : Ends) (hm : m_p_commute one other = some b) (R : RetZ F0 (os) (dat (PyData.bool b)) D) :
    SX X [sl (dat (PyData.tuple (List.map PyData.int one))), sl (dat (PyData.tuple (List.map PyData.int other)))] (os) F0 sts_ D := by
  subst hst_
  unfold m_p_commute at hm
  obtain ⟨t1, h1, hm⟩ := bnd hm
  refine sx_expr (ex_call (a := (one, 4)) (b := t1) (gi := 0) (rest := os) B rfl c_p_need_walk (by decide) h1 (ax_cons (ex_v (i := 0) (j := 0) B rfl rfl rfl) (ax_cons (ex_g (j := 1) B rfl g_MOST_LETTERS) ax_nil))) ?_
  obtain ⟨t2, h2, hm⟩ := bnd hm
  refine sx_expr (ex_call (a := (other, 4)) (b := t2) (gi := 0) (rest := os) B rfl c_p_need_walk (by decide) h2 (ax_cons (ex_v (i := 1) (j := 1) B rfl rfl rfl) (ax_cons (ex_g (j := 1) B rfl g_MOST_LETTERS) ax_nil))) ?_
  obtain ⟨t3, h3, hm⟩ := bnd hm
  obtain ⟨t4, h4, hm⟩ := bnd hm
  obtain ⟨t5, h5, hm⟩ := bnd hm
  obtain ⟨t6, h6, hm⟩ := bnd hm
  obtain rfl := som hm
  exact sx_ret (ex_eqR (e := (eT PyData.int)) (x := t4) (y := t6) B (eqv_tup eqv_int) (sh_tup sh_int) (by decide) rdx_dat rdx_dat (ex_call (a := t3) (b := t4) (gi := 2) (rest := os) B rfl c_p_straightened (by decide) h4 (ax_cons (ex_catT (enc := PyData.int) h3 (ex_v (i := 0) (j := 0) B rfl rfl rfl) (ex_v (i := 1) (j := 1) B rfl rfl rfl)) ax_nil)) (ex_call (a := t5) (b := t6) (gi := 2) (rest := os) B rfl c_p_straightened (by decide) h6 (ax_cons (ex_catT (enc := PyData.int) h5 (ex_v (i := 1) (j := 1) B rfl rfl rfl) (ex_v (i := 0) (j := 0) B rfl rfl rfl)) ax_nil))) (fun F H v e o c => R.rt F H v e o c)
theorem cal_p_commute {P : Program} {w : World} {K : PySem.W.Frag} {mg : Str → Option Value} {base : Heap} {f : Addr} {fd : FuncData} (Fn : Fun K "commute" "commute" s_p_commute f fd) (hmg : mg "commute" = some (.ref f)) (hb : Binds K fd ["one", "other"] []) {tk_MOST_LETTERS : Tok} (c_p_need_walk : Cal P w K mg base 4 "need_walk" s_p_need_walk ["walk", "letters"] (sp_p_need_walk K)) (g_MOST_LETTERS : mg "MOST_LETTERS" = some (.int 4 tk_MOST_LETTERS)) (c_p_straightened : Cal P w K mg base 1 "straightened" s_p_straightened ["walk"] (sp_p_straightened K)) : Cal P w K mg base 5 "commute" s_p_commute ["one", "other"] (sp_p_commute K) := by
  obtain ⟨sts_, hst_⟩ : ∃ z_, defBody s_p_commute = z_ := ⟨_, rfl⟩
  exact cal_ZQ (V := V_p_commute) (Gs := G_p_commute) (nl := 0) hst_ Fn sc_p_commute (by decide +kernel) (by decide +kernel) hmg hb (fun _ => rfl) rfl fun _ _ _ _ _ _ _ a b F0 os D B T hm R => body_p_commute rfl hst_ B T c_p_need_walk g_MOST_LETTERS c_p_straightened a.1 a.2 b F0 os D hm R
abbrev s_p_turned : Stmt := top 29
def N_p_turned : List Str := ["walk", "other"]
def V_p_turned : List Str := ["walk", "other"]
def G_p_turned : List Str := ["need_walk", "MOST_LETTERS", "straightened", "turned_back"]
theorem sc_p_turned : FnScope N_p_turned ["walk", "other"] (defScope s_p_turned) := ⟨rfl, rfl, rfl, by decide +kernel, rfl, by decide +kernel, by decide +kernel⟩
abbrev sp_p_turned (K : PySem.W.Frag) : Sp := spZ (α := ((List Int) × (List Int))) (β := (List Int)) (fun a => [(dat (PyData.tuple (List.map PyData.int a.1))), (dat (PyData.tuple (List.map PyData.int a.2)))]) (fun a => []) (fun a => m_p_turned a.1 a.2) (fun a b => (dat (PyData.tuple (List.map PyData.int b)))) (fun a b => [])
set_option maxHeartbeats 4000000 in
theorem body_p_turned {X : Cx} (hsc : X.env.scope = defScope s_p_turned) {sts_ : List Stmt} (hst_ : defBody s_p_turned = sts_) (B : Bd X N_p_turned V_p_turned G_p_turned 4) (T : Bt X V_p_turned) {tk_MOST_LETTERS : Tok} (c_p_need_walk : Cal X.prog X.w X.K X.mg X.base 4 "need_walk" s_p_need_walk ["walk", "letters"] (sp_p_need_walk X.K)) (g_MOST_LETTERS : X.mg "MOST_LETTERS" = some (.int 4 tk_MOST_LETTERS)) (c_p_straightened : Cal X.prog X.w X.K X.mg X.base 1 "straightened" s_p_straightened ["walk"] (sp_p_straightened X.K)) (c_p_turned_back : Cal X.prog X.w X.K X.mg X.base 1 "turned_back" s_p_turned_back ["walk"] (sp_p_turned_back X.K)) (walk : (List Int)) (other : (List Int)) (b : (List Int)) (F0 : Hp) (os : Os) (D : Ends) (hm : m_p_turned walk other = some b) (R : RetZ F0 (os) (dat (PyData.tuple (List.map PyData.int b))) D) :
    SX X [sl (dat (PyData.tuple (List.map PyData.int walk))), sl (dat (PyData.tuple (List.map PyData.int other)))] (os) F0 sts_ D := by
  subst hst_
  unfold m_p_turned at hm
  obtain ⟨t1, h1, hm⟩ := bnd hm
  refine sx_expr (ex_call (a := (walk, 4)) (b := t1) (gi := 0) (rest := os) B rfl c_p_need_walk (by decide) h1 (ax_cons (ex_v (i := 0) (j := 0) B rfl rfl rfl) (ax_cons (ex_g (j := 1) B rfl g_MOST_LETTERS) ax_nil))) ?_
  obtain ⟨t2, h2, hm⟩ := bnd hm
  refine sx_expr (ex_call (a := (other, 4)) (b := t2) (gi := 0) (rest := os) B rfl c_p_need_walk (by decide) h2 (ax_cons (ex_v (i := 1) (j := 1) B rfl rfl rfl) (ax_cons (ex_g (j := 1) B rfl g_MOST_LETTERS) ax_nil))) ?_
  obtain ⟨t3, h3, hm⟩ := bnd hm
  obtain ⟨t4, h4, hm⟩ := bnd hm
  obtain ⟨t5, h5, hm⟩ := bnd hm
  obtain ⟨t6, h6, hm⟩ := bnd hm
  obtain rfl := som hm
  exact sx_ret (ex_call (a := t5) (b := t6) (gi := 2) (rest := os) B rfl c_p_straightened (by decide) h6 (ax_cons (ex_catT (enc := PyData.int) h5 (ex_catT (enc := PyData.int) h4 (ex_call (a := other) (b := t3) (gi := 3) (rest := os) B rfl c_p_turned_back (by decide) h3 (ax_cons (ex_v (i := 1) (j := 1) B rfl rfl rfl) ax_nil)) (ex_v (i := 0) (j := 0) B rfl rfl rfl)) (ex_v (i := 1) (j := 1) B rfl rfl rfl)) ax_nil)) (fun F H v e o c => R.rt F H v e o c)
theorem cal_p_turned {P : Program} {w : World} {K : PySem.W.Frag} {mg : Str → Option Value} {base : Heap} {f : Addr} {fd : FuncData} (Fn : Fun K "turned" "turned" s_p_turned f fd) (hmg : mg "turned" = some (.ref f)) (hb : Binds K fd ["walk", "other"] []) {tk_MOST_LETTERS : Tok} (c_p_need_walk : Cal P w K mg base 4 "need_walk" s_p_need_walk ["walk", "letters"] (sp_p_need_walk K)) (g_MOST_LETTERS : mg "MOST_LETTERS" = some (.int 4 tk_MOST_LETTERS)) (c_p_straightened : Cal P w K mg base 1 "straightened" s_p_straightened ["walk"] (sp_p_straightened K)) (c_p_turned_back : Cal P w K mg base 1 "turned_back" s_p_turned_back ["walk"] (sp_p_turned_back K)) : Cal P w K mg base 5 "turned" s_p_turned ["walk", "other"] (sp_p_turned K) := by
  obtain ⟨sts_, hst_⟩ : ∃ z_, defBody s_p_turned = z_ := ⟨_, rfl⟩
  exact cal_ZQ (V := V_p_turned) (Gs := G_p_turned) (nl := 0) hst_ Fn sc_p_turned (by decide +kernel) (by decide +kernel) hmg hb (fun _ => rfl) rfl fun _ _ _ _ _ _ _ a b F0 os D B T hm R => body_p_turned rfl hst_ B T c_p_need_walk g_MOST_LETTERS c_p_straightened c_p_turned_back a.1 a.2 b F0 os D hm R
abbrev s_p_turned_onto : Stmt := top 30
def N_p_turned_onto : List Str := ["one", "other", "lead", "around", "goal", "wanted", "shift", "part", "found", "times"]
def V_p_turned_onto : List Str := ["one", "other", "lead", "around", "goal", "wanted", "shift", "part", "found", "times"]
def G_p_turned_onto : List Str := ["need_walk", "MOST_LETTERS", "parted", "straightened", "shift_onto", "least_part", "range", "turned_back", "min", "walk_key"]
theorem sc_p_turned_onto : FnScope N_p_turned_onto ["one", "other"] (defScope s_p_turned_onto) := ⟨rfl, rfl, rfl, by decide +kernel, rfl, by decide +kernel, by decide +kernel⟩
abbrev sp_p_turned_onto (K : PySem.W.Frag) : Sp := spZ (α := ((List Int) × (List Int))) (β := (Option (List Int))) (fun a => [(dat (PyData.tuple (List.map PyData.int a.1))), (dat (PyData.tuple (List.map PyData.int a.2)))]) (fun a => []) (fun a => m_p_turned_onto a.1 a.2) (fun a b => (dat ((eO (eT PyData.int)) b))) (fun a b => [])
set_option maxHeartbeats 4000000 in
theorem body_p_turned_onto {X : Cx} (hsc : X.env.scope = defScope s_p_turned_onto) {sts_ : List Stmt} (hst_ : defBody s_p_turned_onto = sts_) (B : Bd X N_p_turned_onto V_p_turned_onto G_p_turned_onto 4) (T : Bt X V_p_turned_onto) {tk_MOST_LETTERS : Tok} (c_p_need_walk : Cal X.prog X.w X.K X.mg X.base 4 "need_walk" s_p_need_walk ["walk", "letters"] (sp_p_need_walk X.K)) (g_MOST_LETTERS : X.mg "MOST_LETTERS" = some (.int 4 tk_MOST_LETTERS)) (c_p_parted : Cal X.prog X.w X.K X.mg X.base 1 "parted" s_p_parted ["walk"] (sp_p_parted X.K)) (c_p_straightened : Cal X.prog X.w X.K X.mg X.base 1 "straightened" s_p_straightened ["walk"] (sp_p_straightened X.K)) (c_p_shift_onto : Cal X.prog X.w X.K X.mg X.base 1 "shift_onto" s_p_shift_onto ["around", "wanted"] (sp_p_shift_onto X.K)) (c_p_least_part : Cal X.prog X.w X.K X.mg X.base 1 "least_part" s_p_least_part ["around"] (sp_p_least_part X.K)) (g_range : X.mg "range" = none) (c_p_turned_back : Cal X.prog X.w X.K X.mg X.base 1 "turned_back" s_p_turned_back ["walk"] (sp_p_turned_back X.K)) (g_min : X.mg "min" = none) (c_p_walk_key : Cal X.prog X.w X.K X.mg X.base 2 "walk_key" s_p_walk_key ["walk"] (sp_p_walk_key X.K)) (one : (List Int)) (other : (List Int)) (b : (Option (List Int))) (F0 : Hp) (os : Os) (D : Ends) (hm : m_p_turned_onto one other = some b) (R : RetZ F0 (os) (dat ((eO (eT PyData.int)) b)) D) :
    SX X [sl (dat (PyData.tuple (List.map PyData.int one))), sl (dat (PyData.tuple (List.map PyData.int other))), un, un, un, un, un, un, un, un] (os) F0 sts_ D := by
  subst hst_
  unfold m_p_turned_onto at hm
  obtain ⟨t1, h1, hm⟩ := bnd hm
  refine sx_expr (ex_call (a := (one, 4)) (b := t1) (gi := 0) (rest := os) B rfl c_p_need_walk (by decide) h1 (ax_cons (ex_v (i := 0) (j := 0) B rfl rfl rfl) (ax_cons (ex_g (j := 1) B rfl g_MOST_LETTERS) ax_nil))) ?_
  obtain ⟨t2, h2, hm⟩ := bnd hm
  refine sx_expr (ex_call (a := (other, 4)) (b := t2) (gi := 0) (rest := os) B rfl c_p_need_walk (by decide) h2 (ax_cons (ex_v (i := 1) (j := 1) B rfl rfl rfl) (ax_cons (ex_g (j := 1) B rfl g_MOST_LETTERS) ax_nil))) ?_
  obtain ⟨t3, h3, hm⟩ := bnd hm
  obtain ⟨t4, h4, hm⟩ := bnd hm
  refine sx_unp (gx_pair B (gx_name (i := 2) (vi := 2) B T rfl rfl) (gx_name (i := 3) (vi := 3) B T rfl rfl)) (ex_call (a := t3) (b := t4) (gi := 2) (rest := os) B rfl c_p_parted (by decide) h4 (ax_cons (ex_call (a := one) (b := t3) (gi := 3) (rest := os) B rfl c_p_straightened (by decide) h3 (ax_cons (ex_v (i := 0) (j := 0) B rfl rfl rfl) ax_nil)) ax_nil)) ?_
  obtain ⟨t5, h5, hm⟩ := bnd hm
  obtain ⟨t6, h6, hm⟩ := bnd hm
  refine sx_unp (gx_pair B (gx_name (i := 4) (vi := 4) B T rfl rfl) (gx_name (i := 5) (vi := 5) B T rfl rfl)) (ex_call (a := t5) (b := t6) (gi := 2) (rest := os) B rfl c_p_parted (by decide) h6 (ax_cons (ex_call (a := other) (b := t5) (gi := 3) (rest := os) B rfl c_p_straightened (by decide) h5 (ax_cons (ex_v (i := 1) (j := 1) B rfl rfl rfl) ax_nil)) ax_nil)) ?_
  refine sx_if (WX.tx (wx_and (tx_eqR (e := (eT PyData.int)) (x := t4.2) (y := ([] : (List Int))) B (eqv_tup eqv_int) (sh_tup sh_int) (by decide) rdx_dat rdx_dat (ex_v (i := 3) (j := 3) B rfl rfl rfl) (ex_tup (ds := []) ax_nil)) (fun _ => (wx_and1 (tx_eqR (e := (eT PyData.int)) (x := t6.2) (y := ([] : (List Int))) B (eqv_tup eqv_int) (sh_tup sh_int) (by decide) rdx_dat rdx_dat (ex_v (i := 5) (j := 5) B rfl rfl rfl) (ex_tup (ds := []) ax_nil)))) (fun _ => rfl) rfl)) (fun hk => ?_) (fun hk => ?_)
  · have hm := ifT hm hk
    obtain rfl := som hm
    exact sx_ret (ex_tup (ds := []) ax_nil) (fun F H v e o c => R.rt F H v e o c)
  · have hm := ifF hm hk
    refine sx_fall ?_ rfl
    obtain ⟨t7, h7, hm⟩ := bnd hm
    refine sx_asg (i := 6) (vi := 6) (φ := (dat ((eO PyData.int) t7))) B T rfl rfl (ex_call (a := (t4.2, t6.2)) (b := t7) (gi := 4) (rest := os) B rfl c_p_shift_onto (by decide) h7 (ax_cons (ex_v (i := 3) (j := 3) B rfl rfl rfl) (ax_cons (ex_v (i := 5) (j := 5) B rfl rfl rfl) ax_nil))) ?_
    cases hq34 : t7 with
    | none =>
      rw [hq34] at hm
      refine sx_if (tx_cmp op_isN (r2_isN (d := PyData.none) (t := true) rfl) (nomark _) (ex_v (i := 6) (j := 6) B rfl rfl rfl) ex_none) (fun _ => ?_) (fun hk => Bool.noConfusion hk)
      obtain rfl := som hm
      exact sx_ret ex_none (fun F H v e o c => R.rt F H v e o c)
    | some shift8 =>
      rw [hq34] at hm
      refine sx_if (tx_cmp op_isN (r2_isN (d := (PyData.int shift8)) (t := false) rfl) (nomark _) (ex_v (i := 6) (j := 6) B rfl rfl rfl) ex_none) (fun hk => Bool.noConfusion hk) (fun _ => ?_)
      refine sx_fall ?_ rfl
      obtain ⟨t9, h9, hm⟩ := bnd hm
      refine sx_par2 (i := 7) (j := 8) _ hsc B rfl rfl (by decide) (by decide +kernel) (by decide +kernel) (by intro env he; cases env; cases he; first | rfl | kernel_rfl) (aq_x (φ := (dat (PyData.tuple (List.map PyData.int t9)))) (ex_call (a := t4.2) (b := t9) (gi := 5) (rest := os) B rfl c_p_least_part (by decide) h9 (ax_cons (ex_v (i := 3) (j := 3) B rfl rfl rfl) ax_nil)) (aq_n (n := ol (List.map (eT PyData.int) ([] : (List (List Int))))) (en_lst (ds := []) ax_nil) (fun q_found10 => aq_nil))) (fun v0 v1 os_ hr_ => ?_) (by rintro φs os_ ⟨_, rfl, q_found10, _, rfl, rfl, rfl⟩; exact ⟨_, _, rfl⟩)
      obtain ⟨_, e0, q_found10, _, e1, e8, e9⟩ := hr_
      cases e0; cases e1; cases e8; cases e9
      obtain ⟨t11, h11, hm⟩ := bnd hm
      obtain ⟨f14, h32, hm⟩ := bnd hm
      refine sx_for (c := anyOs) _ (fun (s12 : (List (List Int))) (_ : Unit) => [sl (dat (PyData.tuple (List.map PyData.int one))), sl (dat (PyData.tuple (List.map PyData.int other))), sl (dat (PyData.tuple (List.map PyData.int t4.1))), sl (dat (PyData.tuple (List.map PyData.int t4.2))), sl (dat (PyData.tuple (List.map PyData.int t6.1))), sl (dat (PyData.tuple (List.map PyData.int t6.2))), sl (dat (PyData.int shift8)), sl (dat (PyData.tuple (List.map PyData.int t9))), sl (own q_found10), un]) (fun (s12 : (List (List Int))) (_ : Unit) => (q_found10, ol (List.map (eT PyData.int) s12)) :: os) B T (fun times13 => gx_name (i := 9) (vi := 9) (φ := (dat (PyData.int times13))) B T rfl rfl) ([] : (List (List Int))) () f14 h32 (ix_rng1 (gi := 6) B rfl g_range h11 ex_int) ⟨.inl rfl, .inl rfl, .inl rfl, .inl rfl, .inl rfl, .inl rfl, .inl rfl, .inl rfl, .inl rfl, .inl rfl, trivial⟩ (fun _ _ => trivial) (fun F16 e15 s12 _ times13 z34 hx hm => ?_) (fun _ => ?_)
      · clear h32
        obtain ⟨t17, h17, hm⟩ := bnd hm
        obtain ⟨t18, h18, hm⟩ := bnd hm
        obtain ⟨t19, h19, hm⟩ := bnd hm
        obtain ⟨t20, h20, hm⟩ := bnd hm
        obtain ⟨t21, h21, hm⟩ := bnd hm
        obtain ⟨t22, h22, hm⟩ := bnd hm
        obtain ⟨t23, h23, hm⟩ := bnd hm
        refine sx_expr (ex_app (enc := (eT PyData.int)) (j := 0) (xs0 := s12) (xs := s12) (y := t22) h23 (ex_v (i := 8) (j := 8) B rfl rfl rfl) rfl (ex_call (a := t21) (b := t22) (gi := 3) (rest := (q_found10, ol (List.map (eT PyData.int) s12)) :: os) B rfl c_p_straightened (by decide) h22 (ax_cons (ex_catT (enc := PyData.int) h21 (ex_catT (enc := PyData.int) h19 (ex_catT (enc := PyData.int) h18 (ex_v (i := 2) (j := 2) B rfl rfl rfl) (ex_repT (enc := PyData.int) h17 (ex_v (i := 7) (j := 7) B rfl rfl rfl) (ex_v (i := 9) (j := 9) B rfl rfl rfl))) (ex_cutT (enc := PyData.int) rdt_dat (ex_v (i := 3) (j := 3) B rfl rfl rfl) px_none (px_some (ex_v (i := 6) (j := 6) B rfl rfl rfl)))) (ex_call (a := t6.1) (b := t20) (gi := 7) (rest := (q_found10, ol (List.map (eT PyData.int) s12)) :: os) B rfl c_p_turned_back (by decide) h20 (ax_cons (ex_v (i := 4) (j := 4) B rfl rfl rfl) ax_nil))) ax_nil)) rfl) ?_
        obtain ⟨t24, h24, hm⟩ := bnd hm
        obtain ⟨t25, h25, hm⟩ := bnd hm
        obtain ⟨t26, h26, hm⟩ := bnd hm
        obtain ⟨t27, h27, hm⟩ := bnd hm
        obtain ⟨t28, h28, hm⟩ := bnd hm
        obtain ⟨t29, h29, hm⟩ := bnd hm
        obtain ⟨t30, h30, hm⟩ := bnd hm
        obtain ⟨t31, h31, hm⟩ := bnd hm
        refine sx_expr (ex_app (enc := (eT PyData.int)) (j := 0) (xs0 := t23) (xs := t23) (y := t30) h31 (ex_v (i := 8) (j := 8) B rfl rfl rfl) rfl (ex_call (a := t29) (b := t30) (gi := 3) (rest := (q_found10, ol (List.map (eT PyData.int) t23)) :: os) B rfl c_p_straightened (by decide) h30 (ax_cons (ex_catT (enc := PyData.int) h29 (ex_catT (enc := PyData.int) h27 (ex_catT (enc := PyData.int) h26 (ex_v (i := 2) (j := 2) B rfl rfl rfl) (ex_repT (enc := PyData.int) h25 (ex_call (a := t9) (b := t24) (gi := 7) (rest := (q_found10, ol (List.map (eT PyData.int) t23)) :: os) B rfl c_p_turned_back (by decide) h24 (ax_cons (ex_v (i := 7) (j := 7) B rfl rfl rfl) ax_nil)) (ex_v (i := 9) (j := 9) B rfl rfl rfl))) (ex_cutT (enc := PyData.int) rdt_dat (ex_v (i := 3) (j := 3) B rfl rfl rfl) px_none (px_some (ex_v (i := 6) (j := 6) B rfl rfl rfl)))) (ex_call (a := t6.1) (b := t28) (gi := 7) (rest := (q_found10, ol (List.map (eT PyData.int) t23)) :: os) B rfl c_p_turned_back (by decide) h28 (ax_cons (ex_v (i := 4) (j := 4) B rfl rfl rfl) ax_nil))) ax_nil)) rfl) ?_
        obtain rfl := som hm
        exact sx_nil fun σ H a => ⟨(), (a.weak ⟨.inl rfl, .inl rfl, .inl rfl, .inl rfl, .inl rfl, .inl rfl, .inl rfl, .inl rfl, .inl rfl, .inr rfl, trivial⟩)⟩
      · skip
        refine sx_frz (j := 0) (i := 8) rfl rfl ?_
        obtain ⟨t33, h33, hm⟩ := bnd hm
        obtain rfl := som hm
        exact sx_ret (ex_minK (enc := (eT PyData.int)) (encb := (eP PyData.int (eT PyData.int))) (gi := 8) (gf := 9) (xs := f14) B rfl g_min rfl c_p_walk_key (by decide) (fun _ => rfl) (fun _ => rfl) (fun _ _ => rfl) (fun _ _ => rfl) (lt_pair eqv_int lt_int (eqv_tup eqv_int) (lt_tup eqv_int lt_int)) (sh_pair sh_int (sh_tup sh_int)) (by decide) h33 (ax_cons (ex_v (i := 8) (j := 8) B rfl rfl rfl) ax_nil)) (fun F H v e o c => R.rt F H v e o c)
theorem cal_p_turned_onto {P : Program} {w : World} {K : PySem.W.Frag} {mg : Str → Option Value} {base : Heap} {f : Addr} {fd : FuncData} (Fn : Fun K "turned_onto" "turned_onto" s_p_turned_onto f fd) (hmg : mg "turned_onto" = some (.ref f)) (hb : Binds K fd ["one", "other"] []) {tk_MOST_LETTERS : Tok} (c_p_need_walk : Cal P w K mg base 4 "need_walk" s_p_need_walk ["walk", "letters"] (sp_p_need_walk K)) (g_MOST_LETTERS : mg "MOST_LETTERS" = some (.int 4 tk_MOST_LETTERS)) (c_p_parted : Cal P w K mg base 1 "parted" s_p_parted ["walk"] (sp_p_parted K)) (c_p_straightened : Cal P w K mg base 1 "straightened" s_p_straightened ["walk"] (sp_p_straightened K)) (c_p_shift_onto : Cal P w K mg base 1 "shift_onto" s_p_shift_onto ["around", "wanted"] (sp_p_shift_onto K)) (c_p_least_part : Cal P w K mg base 1 "least_part" s_p_least_part ["around"] (sp_p_least_part K)) (g_range : mg "range" = none) (c_p_turned_back : Cal P w K mg base 1 "turned_back" s_p_turned_back ["walk"] (sp_p_turned_back K)) (g_min : mg "min" = none) (c_p_walk_key : Cal P w K mg base 2 "walk_key" s_p_walk_key ["walk"] (sp_p_walk_key K)) : Cal P w K mg base 5 "turned_onto" s_p_turned_onto ["one", "other"] (sp_p_turned_onto K) := by
  obtain ⟨sts_, hst_⟩ : ∃ z_, defBody s_p_turned_onto = z_ := ⟨_, rfl⟩
  exact cal_ZQ (V := V_p_turned_onto) (Gs := G_p_turned_onto) (nl := 8) hst_ Fn sc_p_turned_onto (by decide +kernel) (by decide +kernel) hmg hb (fun _ => rfl) rfl fun _ _ _ _ _ _ _ a b F0 os D B T hm R => body_p_turned_onto rfl hst_ B T c_p_need_walk g_MOST_LETTERS c_p_parted c_p_straightened c_p_shift_onto c_p_least_part g_range c_p_turned_back g_min c_p_walk_key a.1 a.2 b F0 os D hm R
abbrev s_p_least_turned : Stmt := top 31
def N_p_least_turned : List Str := ["walk", "around", "at"]
def V_p_least_turned : List Str := ["walk", "around"]
def G_p_least_turned : List Str := ["need_walk", "MOST_LETTERS", "parted", "straightened", "min", "range", "len", "walk_key"]
theorem sc_p_least_turned : FnScope N_p_least_turned ["walk"] (defScope s_p_least_turned) := ⟨rfl, rfl, rfl, by decide +kernel, rfl, by decide +kernel, by decide +kernel⟩
abbrev sp_p_least_turned (K : PySem.W.Frag) : Sp := spZ (α := (List Int)) (β := (List Int)) (fun a => [(dat (PyData.tuple (List.map PyData.int a)))]) (fun a => []) (fun a => m_p_least_turned a) (fun a b => (dat (PyData.tuple (List.map PyData.int b)))) (fun a b => [])
set_option maxHeartbeats 4000000 in
theorem body_p_least_turned {X : Cx} (hsc : X.env.scope = defScope s_p_least_turned) {sts_ : List Stmt} (hst_ : defBody s_p_least_turned = sts_) (B : Bd X N_p_least_turned V_p_least_turned G_p_least_turned 4) (T : Bt X V_p_least_turned) {tk_MOST_LETTERS : Tok} (c_p_need_walk : Cal X.prog X.w X.K X.mg X.base 4 "need_walk" s_p_need_walk ["walk", "letters"] (sp_p_need_walk X.K)) (g_MOST_LETTERS : X.mg "MOST_LETTERS" = some (.int 4 tk_MOST_LETTERS)) (c_p_parted : Cal X.prog X.w X.K X.mg X.base 1 "parted" s_p_parted ["walk"] (sp_p_parted X.K)) (c_p_straightened : Cal X.prog X.w X.K X.mg X.base 1 "straightened" s_p_straightened ["walk"] (sp_p_straightened X.K)) (g_min : X.mg "min" = none) (g_range : X.mg "range" = none) (g_len : X.mg "len" = none) (c_p_walk_key : Cal X.prog X.w X.K X.mg X.base 2 "walk_key" s_p_walk_key ["walk"] (sp_p_walk_key X.K)) (walk : (List Int)) (b : (List Int)) (F0 : Hp) (os : Os) (D : Ends) (hm : m_p_least_turned walk = some b) (R : RetZ F0 (os) (dat (PyData.tuple (List.map PyData.int b))) D) :
    SX X [sl (dat (PyData.tuple (List.map PyData.int walk))), un, un] (os) F0 sts_ D := by
  subst hst_
  unfold m_p_least_turned at hm
  obtain ⟨t1, h1, hm⟩ := bnd hm
  refine sx_expr (ex_call (a := (walk, 4)) (b := t1) (gi := 0) (rest := os) B rfl c_p_need_walk (by decide) h1 (ax_cons (ex_v (i := 0) (j := 0) B rfl rfl rfl) (ax_cons (ex_g (j := 1) B rfl g_MOST_LETTERS) ax_nil))) ?_
  obtain ⟨t2, h2, hm⟩ := bnd hm
  obtain ⟨t3, h3, hm⟩ := bnd hm
  refine sx_asg (i := 1) (vi := 1) (φ := (dat (PyData.tuple (List.map PyData.int t3.2)))) B T rfl rfl (ex_ixT rdt_dat (by rfl) (ex_call (a := t2) (b := t3) (gi := 2) (rest := os) B rfl c_p_parted (by decide) h3 (ax_cons (ex_call (a := walk) (b := t2) (gi := 3) (rest := os) B rfl c_p_straightened (by decide) h2 (ax_cons (ex_v (i := 0) (j := 0) B rfl rfl rfl) ax_nil)) ax_nil)) ex_int) ?_
  obtain ⟨t4, h4, hm⟩ := bnd hm
  obtain ⟨t8, h8, hm⟩ := bnd hm
  obtain ⟨t9, h9, hm⟩ := bnd hm
  obtain rfl := som hm
  exact sx_ret (ex_minKD (enc := (eT PyData.int)) (encb := (eP PyData.int (eT PyData.int))) (gi := 4) (gf := 7) (xs := t8) B rfl g_min rfl c_p_walk_key (by decide) (fun _ => rfl) (fun _ => rfl) (fun _ _ => rfl) (fun _ _ => rfl) (lt_pair eqv_int lt_int (eqv_tup eqv_int) (lt_tup eqv_int lt_int)) (sh_pair sh_int (sh_tup sh_int)) (by decide) h9 (ax_cons (EN.ex (en_lc (lc_mk1 (j := 2) (vp := fun at_5 => (dat (PyData.int at_5))) (c := anyOs) (enc := (eT PyData.int)) (fun (_ : Unit) (at_5 : Int) => ((fun (at_5 : Int) => ((catO (α := Int) (cut t3.2 (some at_5) none) (cut t3.2 none (some at_5))).bind fun t7 => some t7)) at_5).map fun y => (some y, ())) (fun (_ : Unit) (tl1 : Os) => tl1) () (t8) () B rfl rfl (by rw [B.hN, hsc]; decide +kernel) (by rw [hsc]; decide +kernel) (by decide) (lcO_ok h8) (ix_rng1 (gi := 5) B rfl g_range h4 (EX.to (ex_fn (j := 6) B rfl g_len (by decide +kernel) call_len_seq (rc_lenT (ds := List.map PyData.int t3.2) rdt_dat) (ax_cons (ex_v (i := 1) (j := 1) B rfl rfl rfl) ax_nil)) (by rw [List.length_map]))) (fun _ _ => trivial) (fun _ _ _ => List.Perm.refl _) (fun _ at_5 t tl1 hx hf => by (obtain ⟨y, hy, rfl⟩ := Option.map_eq_some_iff.mp hf; obtain ⟨t7, h7, hy⟩ := bnd hy; obtain rfl := som hy; exact ⟨true, _, fun X1 hX => by (have B1 := Bd.fam (W' := ["around", "at"]) (G' := []) B hX (by (try rw [hsc]); decide +kernel); exact ⟨.nil, fun _ => ⟨_, rfl, (ex_catT (enc := PyData.int) h7 (ex_cutT (enc := PyData.int) rdt_dat (ex_v (i := 1) (j := 0) B1 rfl rfl rfl) (px_some (ex_v (i := 2) (j := 1) B1 rfl rfl rfl)) px_none) (ex_cutT (enc := PyData.int) rdt_dat (ex_v (i := 1) (j := 0) B1 rfl rfl rfl) px_none (px_some (ex_v (i := 2) (j := 1) B1 rfl rfl rfl))))⟩, fun h => Bool.noConfusion h⟩)⟩))))) ax_nil) (ex_tup (ds := []) ax_nil)) (fun F H v e o c => R.rt F H v e o c)
theorem cal_p_least_turned {P : Program} {w : World} {K : PySem.W.Frag} {mg : Str → Option Value} {base : Heap} {f : Addr} {fd : FuncData} (Fn : Fun K "least_turned" "least_turned" s_p_least_turned f fd) (hmg : mg "least_turned" = some (.ref f)) (hb : Binds K fd ["walk"] []) {tk_MOST_LETTERS : Tok} (c_p_need_walk : Cal P w K mg base 4 "need_walk" s_p_need_walk ["walk", "letters"] (sp_p_need_walk K)) (g_MOST_LETTERS : mg "MOST_LETTERS" = some (.int 4 tk_MOST_LETTERS)) (c_p_parted : Cal P w K mg base 1 "parted" s_p_parted ["walk"] (sp_p_parted K)) (c_p_straightened : Cal P w K mg base 1 "straightened" s_p_straightened ["walk"] (sp_p_straightened K)) (g_min : mg "min" = none) (g_range : mg "range" = none) (g_len : mg "len" = none) (c_p_walk_key : Cal P w K mg base 2 "walk_key" s_p_walk_key ["walk"] (sp_p_walk_key K)) : Cal P w K mg base 5 "least_turned" s_p_least_turned ["walk"] (sp_p_least_turned K) := by
  obtain ⟨sts_, hst_⟩ : ∃ z_, defBody s_p_least_turned = z_ := ⟨_, rfl⟩
  exact cal_ZQ (V := V_p_least_turned) (Gs := G_p_least_turned) (nl := 2) hst_ Fn sc_p_least_turned (by decide +kernel) (by decide +kernel) hmg hb (fun _ => rfl) rfl fun _ _ _ _ _ _ _ a b F0 os D B T hm R => body_p_least_turned rfl hst_ B T c_p_need_walk g_MOST_LETTERS c_p_parted c_p_straightened g_min g_range g_len c_p_walk_key a b F0 os D hm R
abbrev s_l_well : Stmt := top 33
def N_l_well : List Str := ["_law_script", "_law_k", "_law_cell", "_law_total", "_law_seed", "_law_one"]
def V_l_well : List Str := ["_law_script", "_law_k", "_law_cell", "_law_total", "_law_seed"]
def G_l_well : List Str := ["len", "sum", "int", "abs", "max"]
theorem sc_l_well : FnScope N_l_well ["_law_script", "_law_k"] (defScope s_l_well) := ⟨rfl, rfl, rfl, by decide +kernel, rfl, by decide +kernel, by decide +kernel⟩
abbrev sp_l_well (K : PySem.W.Frag) : Sp := spN (α := ((List Int) × Int)) (β := (List Int)) (fun a => [(scr K a.1), (dat (PyData.int a.2))]) (fun a => []) (fun a => m_l_well a.1 a.2) (fun a b => ol (List.map PyData.int b)) (fun a b => [])
set_option maxHeartbeats 4000000 in
theorem body_l_well {X : Cx} (hsc : X.env.scope = defScope s_l_well) {sts_ : List Stmt} (hst_ : defBody s_l_well = sts_) (B : Bd X N_l_well V_l_well G_l_well 0) (T : Bt X V_l_well) (g_len : X.mg "len" = none) (g_sum : X.mg "sum" = none) (g_int : X.mg "int" = none) (g_abs : X.mg "abs" = none) (g_max : X.mg "max" = none) (script : (List Int)) (k_ : Int) (b : (List Int)) (F0 : Hp) (os : Os) (D : Ends) (hm : m_l_well script k_ = some b) (R : RetN F0 (os) (ol (List.map PyData.int b)) D) :
    SX X [sl (scr X.K script), sl (dat (PyData.int k_)), un, un, un, un] (os) F0 sts_ D := by
  subst hst_
  unfold m_l_well at hm
  refine sx_asg (i := 2) (vi := 2) (φ := (dat (PyData.int ((11 * k_) + 6)))) B T rfl rfl (ex_add (ex_mulL (by decide) ex_int (ex_v (i := 1) (j := 1) B rfl rfl rfl)) ex_int) ?_
  obtain ⟨s2, h_s2, hm⟩ := bnd hm
  refine sx_join [sl (scr X.K script), sl (dat (PyData.int k_)), sl (dat (PyData.int s2)), un, un, un] (os) (?_) (fun Q => ?_)
  · clear h_s2
    obtain ⟨t5, h5, hm⟩ := bnd hm
    refine sx_asg (i := 3) (vi := 3) (φ := (dat (PyData.int t5.sum))) B T rfl rfl (ex_fn (j := 1) B rfl g_sum (by decide +kernel) (cr_sum B.calm) (rc_sum rdl_dat) (ax_cons (EN.ex (en_lc (lc_mk1 (j := 5) (vp := fun one3 => (dat (PyData.int one3))) (c := anyOs) (enc := PyData.int) (fun (_ : Unit) (one3 : Int) => some (some (one3 % 1000000000000000000000000103), ())) (fun (_ : Unit) (tl1 : Os) => tl1) () (t5) () B rfl rfl (by rw [B.hN, hsc]; decide +kernel) (by rw [hsc]; decide +kernel) (by decide) (lcT_ok h5) (ix_list (enc := PyData.int) (c := anyOs) (ex_v (i := 0) (j := 0) B rfl rfl rfl) (fun _ _ => rdl_scr) trivial) (fun _ _ => trivial) (fun _ _ _ => List.Perm.refl _) (fun _ one3 t tl1 hx hf => by (obtain rfl := som hf; exact ⟨true, _, fun X1 hX => by (have B1 := Bd.fam (W' := ["_law_one"]) (G' := ["int"]) B hX (by (try rw [hsc]); decide +kernel); have g_int' := fam_mg hX g_int; exact ⟨.nil, fun _ => ⟨_, rfl, (ex_mod (modO_lit (j := 1000000000000000000000000103) (by decide)) (ex_ty (j := 0) B1 rfl g_int' (by decide +kernel) call_int1 rc_intI (ax_cons (ex_v (i := 5) (j := 0) B1 rfl rfl rfl) ax_nil)) (EX.to (d' := PyData.int 1000000000000000000000000103) (ex_add (ex_pow (m := 1000000000000000000000000000) (by decide +kernel) ex_int ex_int) ex_int) (by rfl)))⟩, fun h => Bool.noConfusion h⟩)⟩))))) ax_nil)) ?_
    obtain ⟨seed6, h7, hm⟩ := bnd hm
    have h7 := som h7
    refine sx_asg (i := 4) (vi := 4) (φ := (dat (PyData.int seed6))) B T rfl rfl (EX.to (ex_mod (modO_lit (j := 10000000000000000000000000000033) (by decide)) (ex_ty (j := 2) B rfl g_int (by decide +kernel) call_int1 rc_intI (ax_cons (ex_add (ex_add (ex_add (ex_mulR (by decide) (ex_fn (j := 3) B rfl g_abs (by decide +kernel) call_abs rc_abs (ax_cons (ex_v (i := 2) (j := 2) B rfl rfl rfl) ax_nil)) ex_int) (ex_mulL (by decide) ex_int (ex_v (i := 3) (j := 3) B rfl rfl rfl))) (ex_mulL (by decide) ex_int (ex_v (i := 1) (j := 1) B rfl rfl rfl))) (ex_ty (j := 2) B rfl g_int (by decide +kernel) call_int1 rc_intB (ax_cons (ex_cmp op_lt r2_lt (nomark _) (ex_v (i := 2) (j := 2) B rfl rfl rfl) ex_int) ax_nil))) ax_nil)) (EX.to (d' := PyData.int 10000000000000000000000000000033) (ex_add (ex_pow (m := 10000000000000000000000000000000) (by decide +kernel) ex_int ex_int) ex_int) (by rfl))) (congrArg (fun z_ => (PyData.int z_)) h7)) ?_
    obtain rfl := som hm
    exact sx_retN (en_lst (ds := [(PyData.int (maxI 0 (s2 - 1000000000000000000))), (PyData.int seed6), (PyData.int 0)]) (hl := len_ok (n := 3) rfl) (ax_cons (ex_fn (j := 4) B rfl g_max (by decide +kernel) (call_max2 B.calm) rc_max (ax_cons ex_int (ax_cons (ex_sub (ex_v (i := 2) (j := 2) B rfl rfl rfl) (ex_pow (m := 1000000000000000000) (by decide +kernel) ex_int ex_int)) ax_nil))) (ax_cons (ex_v (i := 4) (j := 4) B rfl rfl rfl) (ax_cons ex_int ax_nil)))) (fun F H p e o => R.rt F H p e o)
  · have hm := h_s2
    refine sx_if (tx_cmp op_lt r2_lt (nomark _) (ex_v (i := 1) (j := 1) B rfl rfl rfl) (EX.to (ex_fn (j := 0) B rfl g_len (by decide +kernel) call_len_seq (rc_lenL (ds := List.map PyData.int script) rdl_scr) (ax_cons (ex_v (i := 0) (j := 0) B rfl rfl rfl) ax_nil)) (by rw [List.length_map]))) (fun hk => ?_) (fun hk => ?_)
    · have hm := ifT hm hk
      obtain ⟨t1, h1, hm⟩ := bnd hm
      refine sx_asg (i := 2) (vi := 2) (φ := (dat (PyData.int t1))) B T rfl rfl (ex_idxL (enc := PyData.int) h1 rdl_scr (ex_v (i := 0) (j := 0) B rfl rfl rfl) (ex_v (i := 1) (j := 1) B rfl rfl rfl)) ?_
      obtain rfl := som hm
      exact sx_fall Q rfl
    · have hm := ifF hm hk
      obtain rfl := som hm
      exact sx_fall Q rfl
theorem cal_l_well {P : Program} {w : World} {K : PySem.W.Frag} {mg : Str → Option Value} {base : Heap} {f : Addr} {fd : FuncData} (Fn : Fun K "_law_well" "_law_well" s_l_well f fd) (hmg : mg "_law_well" = some (.ref f)) (hb : Binds K fd ["_law_script", "_law_k"] []) (g_len : mg "len" = none) (g_sum : mg "sum" = none) (g_int : mg "int" = none) (g_abs : mg "abs" = none) (g_max : mg "max" = none) : Cal P w K mg base 1 "_law_well" s_l_well ["_law_script", "_law_k"] (sp_l_well K) := by
  obtain ⟨sts_, hst_⟩ : ∃ z_, defBody s_l_well = z_ := ⟨_, rfl⟩
  exact cal_NQ (V := V_l_well) (Gs := G_l_well) (nl := 4) hst_ Fn sc_l_well (by decide +kernel) (by decide +kernel) hmg hb (fun _ => rfl) rfl fun _ _ _ _ _ _ _ a b F0 os D B T hm R => body_l_well rfl hst_ B T g_len g_sum g_int g_abs g_max a.1 a.2 b F0 os D hm R
abbrev s_l_take : Stmt := top 34
def N_l_take : List Str := ["_law_well_here", "_law_many", "_law_found", "_law_mixed"]
def V_l_take : List Str := ["_law_well_here", "_law_many", "_law_found", "_law_mixed"]
def G_l_take : List Str := ["int"]
theorem sc_l_take : FnScope N_l_take ["_law_well_here", "_law_many"] (defScope s_l_take) := ⟨rfl, rfl, rfl, by decide +kernel, rfl, by decide +kernel, by decide +kernel⟩
abbrev sp_l_take (K : PySem.W.Frag) : Sp := spZ (α := (Addr × (List Int) × Int)) (β := (Int × (List Int))) (fun a => [own a.1, (dat (PyData.int a.2.2))]) (fun a => (a.1, ol (List.map PyData.int a.2.1)) :: []) (fun a => m_l_take a.2.1 a.2.2) (fun a b => (dat (PyData.int b.1))) (fun a b => (a.1, ol (List.map PyData.int b.2)) :: [])
set_option maxHeartbeats 4000000 in
theorem body_l_take {X : Cx} (hsc : X.env.scope = defScope s_l_take) {sts_ : List Stmt} (hst_ : defBody s_l_take = sts_) (B : Bd X N_l_take V_l_take G_l_take 0) (T : Bt X V_l_take) (g_int : X.mg "int" = none) (q_well_here : Addr) (w_well_here : (List Int)) (many : Int) (b : (Int × (List Int))) (F0 : Hp) (os : Os) (D : Ends) (hm : m_l_take w_well_here many = some b) (R : RetZ F0 ((q_well_here, ol (List.map PyData.int b.2)) :: os) (dat (PyData.int b.1)) D) :
    SX X [sl (own q_well_here), sl (dat (PyData.int many)), un, un] ((q_well_here, ol (List.map PyData.int w_well_here)) :: os) F0 sts_ D := by
  subst hst_
  unfold m_l_take at hm
  obtain ⟨t1, h1, hm⟩ := bnd hm
  refine sx_if (tx_cmp op_gt r2_gt (nomark _) (ex_idxL (enc := PyData.int) h1 (rdl_own 0 rfl) (ex_v (i := 0) (j := 0) B rfl rfl rfl) ex_int) ex_int) (fun hk => ?_) (fun hk => ?_)
  · have hm := ifT hm hk
    obtain ⟨t2, h2, hm⟩ := bnd hm
    obtain ⟨t3, h3, hm⟩ := bnd hm
    refine sx_asg (i := 2) (vi := 2) (φ := (dat (PyData.int t3))) B T rfl rfl (ex_mod h3 (ex_ty (j := 0) B rfl g_int (by decide +kernel) call_int1 rc_intI (ax_cons (ex_idxL (enc := PyData.int) h2 (rdl_own 0 rfl) (ex_v (i := 0) (j := 0) B rfl rfl rfl) ex_int) ax_nil)) (ex_v (i := 1) (j := 1) B rfl rfl rfl)) ?_
    obtain ⟨t4, h4, hm⟩ := bnd hm
    obtain ⟨t5, h5, hm⟩ := bnd hm
    obtain ⟨t6, h6, hm⟩ := bnd hm
    refine sx_setO (enc := PyData.int) (j := 0) h6 (ex_fdiv h5 (ex_idxL (enc := PyData.int) h4 (rdl_own 0 rfl) (ex_v (i := 0) (j := 0) B rfl rfl rfl) ex_int) (ex_v (i := 1) (j := 1) B rfl rfl rfl)) (ex_v (i := 0) (j := 0) B rfl rfl rfl) ex_int rfl ?_
    obtain rfl := som hm
    exact sx_ret (ex_v (i := 2) (j := 2) B rfl rfl rfl) (fun F H v e o c => R.rt F H v e o c)
  · have hm := ifF hm hk
    refine sx_fall ?_ rfl
    obtain ⟨t7, h7, hm⟩ := bnd hm
    obtain ⟨t8, h8, hm⟩ := bnd hm
    refine sx_setO (enc := PyData.int) (j := 0) h8 (ex_add (ex_idxL (enc := PyData.int) h7 (rdl_own 0 rfl) (ex_v (i := 0) (j := 0) B rfl rfl rfl) ex_int) ex_int) (ex_v (i := 0) (j := 0) B rfl rfl rfl) ex_int rfl ?_
    obtain ⟨t9, h9, hm⟩ := bnd hm
    obtain ⟨t10, h10, hm⟩ := bnd hm
    obtain ⟨t11, h11, hm⟩ := bnd hm
    obtain ⟨t12, h12, hm⟩ := bnd hm
    obtain ⟨mixed13, h14, hm⟩ := bnd hm
    have h14 := som h14
    refine sx_asg (i := 3) (vi := 3) (φ := (dat (PyData.int mixed13))) B T rfl rfl (EX.to (ex_mod (modO_lit (j := 1000000000000000000000000000000073) (by decide)) (ex_ty (j := 0) B rfl g_int (by decide +kernel) call_int1 rc_intI (ax_cons (ex_add (ex_pow h11 (ex_add (ex_idxL (enc := PyData.int) h9 (rdl_own 0 rfl) (ex_v (i := 0) (j := 0) B rfl rfl rfl) ex_int) (ex_mulL (by decide) ex_int (ex_idxL (enc := PyData.int) h10 (rdl_own 0 rfl) (ex_v (i := 0) (j := 0) B rfl rfl rfl) ex_int))) ex_int) (ex_mulL (by decide) ex_int (ex_idxL (enc := PyData.int) h12 (rdl_own 0 rfl) (ex_v (i := 0) (j := 0) B rfl rfl rfl) ex_int))) ax_nil)) (EX.to (d' := PyData.int 1000000000000000000000000000000073) (ex_add (ex_pow (m := 1000000000000000000000000000000000) (by decide +kernel) ex_int ex_int) ex_int) (by rfl))) (congrArg (fun z_ => (PyData.int z_)) h14)) ?_
    obtain ⟨t15, h15, hm⟩ := bnd hm
    obtain ⟨t16, h16, hm⟩ := bnd hm
    obtain rfl := som hm
    exact sx_ret (ex_mod h16 (ex_fdiv (fdivO_lit (j := 10007) (by decide) (by decide +kernel)) (ex_mod (modO_lit (j := 10000000000000000000000000000000193) (by decide)) (ex_ty (j := 0) B rfl g_int (by decide +kernel) call_int1 rc_intI (ax_cons (ex_mul h15 (ex_v (i := 3) (j := 3) B rfl rfl rfl) (ex_add (ex_v (i := 3) (j := 3) B rfl rfl rfl) ex_int)) ax_nil)) (EX.to (d' := PyData.int 10000000000000000000000000000000193) (ex_add (ex_pow (m := 10000000000000000000000000000000000) (by decide +kernel) ex_int ex_int) ex_int) (by rfl))) ex_int) (ex_v (i := 1) (j := 1) B rfl rfl rfl)) (fun F H v e o c => R.rt F H v e o c)
theorem cal_l_take {P : Program} {w : World} {K : PySem.W.Frag} {mg : Str → Option Value} {base : Heap} {f : Addr} {fd : FuncData} (Fn : Fun K "_law_take" "_law_take" s_l_take f fd) (hmg : mg "_law_take" = some (.ref f)) (hb : Binds K fd ["_law_well_here", "_law_many"] []) (g_int : mg "int" = none) : Cal P w K mg base 1 "_law_take" s_l_take ["_law_well_here", "_law_many"] (sp_l_take K) := by
  obtain ⟨sts_, hst_⟩ : ∃ z_, defBody s_l_take = z_ := ⟨_, rfl⟩
  exact cal_ZQ (V := V_l_take) (Gs := G_l_take) (nl := 2) hst_ Fn sc_l_take (by decide +kernel) (by decide +kernel) hmg hb (fun _ => rfl) rfl fun _ _ _ _ _ _ _ a b F0 os D B T hm R => body_l_take rfl hst_ B T g_int a.1 a.2.1 a.2.2 b F0 os D hm R
abbrev s_l_walk : Stmt := top 35
def N_l_walk : List Str := ["_law_well_here", "_law_letters", "_law_most", "_law_way", "_law_size", "_law_steps", "_law_third", "_law_turn", "_law_step"]
def V_l_walk : List Str := ["_law_well_here", "_law_letters", "_law_most", "_law_way", "_law_size", "_law_steps", "_law_third"]
def G_l_walk : List Str := ["_law_take", "int", "range", "tuple"]
theorem sc_l_walk : FnScope N_l_walk ["_law_well_here", "_law_letters", "_law_most"] (defScope s_l_walk) := ⟨rfl, rfl, rfl, by decide +kernel, rfl, by decide +kernel, by decide +kernel⟩
abbrev sp_l_walk (K : PySem.W.Frag) : Sp := spZ (α := (Addr × (List Int) × Int × Int)) (β := ((List Int) × (List Int))) (fun a => [own a.1, (dat (PyData.int a.2.2.1)), (dat (PyData.int a.2.2.2))]) (fun a => (a.1, ol (List.map PyData.int a.2.1)) :: []) (fun a => m_l_walk a.2.1 a.2.2.1 a.2.2.2) (fun a b => (dat (PyData.tuple (List.map PyData.int b.1)))) (fun a b => (a.1, ol (List.map PyData.int b.2)) :: [])
set_option maxHeartbeats 4000000 in
theorem body_l_walk {X : Cx} (hsc : X.env.scope = defScope s_l_walk) {sts_ : List Stmt} (hst_ : defBody s_l_walk = sts_) (B : Bd X N_l_walk V_l_walk G_l_walk 1) (T : Bt X V_l_walk) (c_l_take : Cal X.prog X.w X.K X.mg X.base 1 "_law_take" s_l_take ["_law_well_here", "_law_many"] (sp_l_take X.K)) (g_int : X.mg "int" = none) (g_range : X.mg "range" = none) (g_abs : X.mg "abs" = none) (g_tuple : X.mg "tuple" = none) (q_well_here : Addr) (w_well_here : (List Int)) (letters : Int) (most : Int) (b : ((List Int) × (List Int))) (F0 : Hp) (os : Os) (D : Ends) (hm : m_l_walk w_well_here letters most = some b) (R : RetZ F0 ((q_well_here, ol (List.map PyData.int b.2)) :: os) (dat (PyData.tuple (List.map PyData.int b.1))) D) :
    SX X [sl (own q_well_here), sl (dat (PyData.int letters)), sl (dat (PyData.int most)), un, un, un, un, un, un] ((q_well_here, ol (List.map PyData.int w_well_here)) :: os) F0 sts_ D := by
  subst hst_
  unfold m_l_walk at hm
  obtain ⟨t1, h1, hm⟩ := bnd hm
  obtain ⟨t2, h2, hm⟩ := bnd hm
  obtain ⟨t3, h3, hm⟩ := bnd hm
  obtain ⟨t4, h4, hm⟩ := bnd hm
  refine sx_par2 (i := 3) (j := 4) _ hsc B rfl rfl (by decide) (by decide +kernel) (by decide +kernel) (by intro env he; cases env; cases he; first | rfl | kernel_rfl) (aq_x (φ := (dat (PyData.int t1.1))) (ex_call (a := (q_well_here, w_well_here, 4)) (b := t1) (gi := 0) (rest := os) B rfl c_l_take (by decide) h1 (ax_cons (ex_v (i := 0) (j := 0) B rfl rfl rfl) (ax_cons ex_int ax_nil))) (aq_x (φ := (dat (PyData.int t4))) (ex_idxL (enc := PyData.int) h4 rdl_dat (EN.ex (en_lst (ds := [(PyData.int t2.1), (PyData.int most)]) (hl := len_ok (n := 2) rfl) (ax_cons (ex_call (a := (q_well_here, t1.2, (most + 1))) (b := t2) (gi := 0) (rest := os) B rfl c_l_take (by decide) h2 (ax_cons (ex_v (i := 0) (j := 0) B rfl rfl rfl) (ax_cons (ex_add (ex_v (i := 2) (j := 2) B rfl rfl rfl) ex_int) ax_nil))) (ax_cons (ex_v (i := 2) (j := 2) B rfl rfl rfl) ax_nil)))) (ex_ty (j := 1) B rfl g_int (by decide +kernel) call_int1 rc_intB (ax_cons (ex_cmp op_eq r2_eqI (nomark _) (ex_call (a := (q_well_here, t2.2, 6)) (b := t3) (gi := 0) (rest := os) B rfl c_l_take (by decide) h3 (ax_cons (ex_v (i := 0) (j := 0) B rfl rfl rfl) (ax_cons ex_int ax_nil))) ex_int) ax_nil))) aq_nil)) (fun v0 v1 os_ hr_ => ?_) (by rintro φs os_ ⟨_, rfl, _, rfl, rfl, rfl⟩; exact ⟨_, _, rfl⟩)
  obtain ⟨_, e0, _, e1, e8, e9⟩ := hr_
  cases e0; cases e1; cases e8; cases e9
  obtain ⟨t5, h5, hm⟩ := bnd hm
  obtain ⟨t11, h11, hm⟩ := bnd hm
  refine sx_asgLc (i := 5) B T rfl (by rw [hsc]; exact lcl_of (by decide +kernel)) (lc_mk1 (j := 7) (vp := fun turn6 => (dat (PyData.int turn6))) (c := anyOs) (enc := PyData.int) (fun (s7 : (List Int)) (turn6 : Int) => ((m_l_take s7 letters).bind fun t8 => (m_l_take t8.2 2).bind fun t9 => (mulO (1 + t8.1) (1 - (2 * t9.1))).bind fun t10 => some (some t10, t9.2))) (fun (s7 : (List Int)) (tl1 : Os) => (q_well_here, ol (List.map PyData.int s7)) :: tl1) t3.2 (t11.1) t11.2 B rfl rfl (by rw [B.hN, hsc]; decide +kernel) (by rw [hsc]; decide +kernel) (by decide) (lcE_ok h11) (ix_rng1 (gi := 2) B rfl g_range h5 (ex_v (i := 4) (j := 4) B rfl rfl rfl)) (fun _ _ => trivial) (fun _ _ _ => (List.Perm.swap _ _ _)) (fun s7 turn6 t tl1 hx hf => by (obtain ⟨t8, h8, hf⟩ := bnd hf; obtain ⟨t9, h9, hf⟩ := bnd hf; obtain ⟨t10, h10, hf⟩ := bnd hf; obtain rfl := som hf; exact ⟨true, _, fun X1 hX => by (have B1 := Bd.fam (W' := ["_law_well_here", "_law_letters"]) (G' := ["_law_take"]) B hX (by (try rw [hsc]); decide +kernel); have c_l_take' := fam_cal hX c_l_take; exact ⟨.nil, fun _ => ⟨_, rfl, (ex_mul h10 (ex_add ex_int (ex_call (a := (q_well_here, s7, letters)) (b := t8) (gi := 0) (rest := tl1) B1 rfl c_l_take' (by decide) h8 (ax_cons (ex_v (i := 0) (j := 0) B1 rfl rfl rfl) (ax_cons (ex_v (i := 1) (j := 1) B1 rfl rfl rfl) ax_nil)))) (ex_sub ex_int (ex_mulL (by decide) ex_int (ex_call (a := (q_well_here, t8.2, 2)) (b := t9) (gi := 0) (rest := tl1) B1 rfl c_l_take' (by decide) h9 (ax_cons (ex_v (i := 0) (j := 0) B1 rfl rfl rfl) (ax_cons ex_int ax_nil))))))⟩, fun h => Bool.noConfusion h⟩)⟩))) (sw_ok (by rw [hsc]; decide +kernel) (by rw [hsc]; exact lcl_of (by decide +kernel)) (by decide) (by decide +kernel)) (fun q_steps11 => ?_)
  refine sx_frz (j := 0) (i := 5) rfl rfl ?_
  obtain ⟨s14, h_s14, hm⟩ := bnd hm
  refine sx_join [sl (own q_well_here), sl (dat (PyData.int letters)), sl (dat (PyData.int most)), sl (dat (PyData.int t1.1)), sl (dat (PyData.int t4)), sl (dat (PyData.list (List.map PyData.int s14.1))), un, un, un] ((q_well_here, ol (List.map PyData.int s14.2)) :: os) (?_) (fun Q => ?_)
  · clear h_s14
    obtain ⟨s19, h_s19, hm⟩ := bnd hm
    refine sx_join [sl (own q_well_here), sl (dat (PyData.int letters)), sl (dat (PyData.int most)), sl (dat (PyData.int t1.1)), sl (dat (PyData.int t4)), sl (dat (PyData.list (List.map PyData.int s19))), un, un, un] ((q_well_here, ol (List.map PyData.int s14.2)) :: os) (?_) (fun Q => ?_)
    · clear h_s19
      obtain ⟨s23, h_s23, hm⟩ := bnd hm
      refine sx_join [sl (own q_well_here), sl (dat (PyData.int letters)), sl (dat (PyData.int most)), sl (dat (PyData.int t1.1)), sl (dat (PyData.int t4)), sl (dat (PyData.list (List.map PyData.int s23))), un, un, un] ((q_well_here, ol (List.map PyData.int s14.2)) :: os) (?_) (fun Q => ?_)
      · clear h_s23
        obtain rfl := som hm
        exact sx_ret (ex_ty (j := 3) B rfl g_tuple (by decide +kernel) call_tuple_of (rc_tupL (ds := List.map PyData.int s23) rdl_dat) (ax_cons (ex_v (i := 5) (j := 5) B rfl rfl rfl) ax_nil)) (fun F H v e o c => R.rt F H v e o c)
      · have hm := h_s23
        refine sx_if (tx_cmp op_eq r2_eqI (nomark _) (ex_v (i := 3) (j := 3) B rfl rfl rfl) ex_int) (fun hk => ?_) (fun hk => ?_)
        · have hm := ifT hm hk
          obtain ⟨t22, h22, hm⟩ := bnd hm
          refine sx_asgLc (i := 5) B T rfl (by rw [hsc]; exact lcl_of (by decide +kernel)) (lc_mk1 (j := 8) (vp := fun step20 => (dat (PyData.int step20))) (c := anyOs) (enc := PyData.int) (fun (_ : Unit) (step20 : Int) => some (some (absI step20), ())) (fun (_ : Unit) (tl1 : Os) => (q_well_here, ol (List.map PyData.int s14.2)) :: tl1) () (t22) () B rfl rfl (by rw [B.hN, hsc]; decide +kernel) (by rw [hsc]; decide +kernel) (by decide) (lcT_ok h22) (ix_list (enc := PyData.int) (c := anyOs) (ex_v (i := 5) (j := 5) B rfl rfl rfl) (fun _ _ => rdl_dat) trivial) (fun _ _ => trivial) (fun _ _ _ => (List.Perm.swap _ _ _)) (fun _ step20 t tl1 hx hf => by (obtain rfl := som hf; exact ⟨true, _, fun X1 hX => by (have B1 := Bd.fam (W' := ["_law_step"]) (G' := ["abs"]) B hX (by (try rw [hsc]); decide +kernel); have g_abs' := fam_mg hX g_abs; exact ⟨.nil, fun _ => ⟨_, rfl, (ex_fn (j := 0) B1 rfl g_abs' (by decide +kernel) call_abs rc_abs (ax_cons (ex_v (i := 8) (j := 0) B1 rfl rfl rfl) ax_nil))⟩, fun h => Bool.noConfusion h⟩)⟩))) (sw_ok (by rw [hsc]; decide +kernel) (by rw [hsc]; exact lcl_of (by decide +kernel)) (by decide) (by decide +kernel)) (fun q_steps22 => ?_)
          refine sx_frz (j := 0) (i := 5) rfl rfl ?_
          obtain rfl := som hm
          exact sx_fall Q rfl
        · have hm := ifF hm hk
          obtain rfl := som hm
          exact sx_fall Q rfl
    · have hm := h_s19
      refine sx_if (tx_cmp op_eq r2_eqI (nomark _) (ex_v (i := 3) (j := 3) B rfl rfl rfl) ex_int) (fun hk => ?_) (fun hk => ?_)
      · have hm := ifT hm hk
        refine sx_asg (i := 6) (vi := 6) (φ := (dat (PyData.int (t4 / 3)))) B T rfl rfl (ex_fdiv (fdivO_lit (j := 3) (by decide) (by decide +kernel)) (ex_v (i := 4) (j := 4) B rfl rfl rfl) ex_int) ?_
        obtain ⟨t17, h17, hm⟩ := bnd hm
        obtain ⟨t18, h18, hm⟩ := bnd hm
        refine sx_asg (i := 5) (vi := 5) (φ := (dat (PyData.list (List.map PyData.int t18)))) B T rfl rfl (EN.ex (en_cat (enc := PyData.int) h18 (EN.ex (en_cut (enc := PyData.int) rdl_dat (ex_v (i := 5) (j := 5) B rfl rfl rfl) px_none (px_some (ex_sub (ex_v (i := 4) (j := 4) B rfl rfl rfl) (ex_v (i := 6) (j := 6) B rfl rfl rfl))))) (EN.ex (en_lc (lc_mk1 (j := 8) (vp := fun step15 => (dat (PyData.int step15))) (c := anyOs) (enc := PyData.int) (fun (_ : Unit) (step15 : Int) => some (some (-step15), ())) (fun (_ : Unit) (tl1 : Os) => (q_well_here, ol (List.map PyData.int s14.2)) :: tl1) () (t17) () B rfl rfl (by rw [B.hN, hsc]; decide +kernel) (by rw [hsc]; decide +kernel) (by decide) (lcT_ok h17) (ix_list (enc := PyData.int) (c := anyOs) (EN.ex (en_rev (enc := PyData.int) rdl_dat (EN.ex (en_cut (enc := PyData.int) rdl_dat (ex_v (i := 5) (j := 5) B rfl rfl rfl) px_none (px_some (ex_v (i := 6) (j := 6) B rfl rfl rfl)))))) (fun _ _ => rdl_dat) trivial) (fun _ _ => trivial) (fun _ _ _ => (List.Perm.swap _ _ _)) (fun _ step15 t tl1 hx hf => by (obtain rfl := som hf; exact ⟨true, _, fun X1 hX => by (have B1 := Bd.fam (W' := ["_law_step"]) (G' := []) B hX (by (try rw [hsc]); decide +kernel); exact ⟨.nil, fun _ => ⟨_, rfl, (ex_neg (ex_v (i := 8) (j := 0) B1 rfl rfl rfl))⟩, fun h => Bool.noConfusion h⟩)⟩))))))) ?_
        obtain rfl := som hm
        exact sx_fall (SX.weak Q (by exact ⟨.inl rfl, .inl rfl, .inl rfl, .inl rfl, .inl rfl, .inl rfl, .inr rfl, .inl rfl, .inl rfl, trivial⟩)) rfl
      · have hm := ifF hm hk
        obtain rfl := som hm
        exact sx_fall Q rfl
  · have hm := h_s14
    refine sx_if (tx_cmp op_eq r2_eqI (nomark _) (ex_v (i := 3) (j := 3) B rfl rfl rfl) ex_int) (fun hk => ?_) (fun hk => ?_)
    · have hm := ifT hm hk
      obtain ⟨t12, h12, hm⟩ := bnd hm
      obtain ⟨t13, h13, hm⟩ := bnd hm
      refine sx_asg (i := 5) (vi := 5) (φ := (dat (PyData.list (List.map PyData.int (cut t13 none (some t4)))))) B T rfl rfl (EN.ex (en_cut (enc := PyData.int) rdl_dat (EN.ex (en_rep (enc := PyData.int) h13 (EN.ex (en_cut (enc := PyData.int) rdl_dat (ex_v (i := 5) (j := 5) B rfl rfl rfl) px_none (px_some (ex_add ex_int (ex_call (a := (q_well_here, t11.2, 4)) (b := t12) (gi := 0) (rest := os) B rfl c_l_take (by decide) h12 (ax_cons (ex_v (i := 0) (j := 0) B rfl rfl rfl) (ax_cons ex_int ax_nil))))))) (ex_v (i := 4) (j := 4) B rfl rfl rfl))) px_none (px_some (ex_v (i := 4) (j := 4) B rfl rfl rfl)))) ?_
      obtain rfl := som hm
      exact sx_fall Q rfl
    · have hm := ifF hm hk
      obtain rfl := som hm
      exact sx_fall Q rfl
theorem cal_l_walk {P : Program} {w : World} {K : PySem.W.Frag} {mg : Str → Option Value} {base : Heap} {f : Addr} {fd : FuncData} (Fn : Fun K "_law_walk" "_law_walk" s_l_walk f fd) (hmg : mg "_law_walk" = some (.ref f)) (hb : Binds K fd ["_law_well_here", "_law_letters", "_law_most"] []) (c_l_take : Cal P w K mg base 1 "_law_take" s_l_take ["_law_well_here", "_law_many"] (sp_l_take K)) (g_int : mg "int" = none) (g_range : mg "range" = none) (g_abs : mg "abs" = none) (g_tuple : mg "tuple" = none) : Cal P w K mg base 2 "_law_walk" s_l_walk ["_law_well_here", "_law_letters", "_law_most"] (sp_l_walk K) := by
  obtain ⟨sts_, hst_⟩ : ∃ z_, defBody s_l_walk = z_ := ⟨_, rfl⟩
  exact cal_ZQ (V := V_l_walk) (Gs := G_l_walk) (nl := 6) hst_ Fn sc_l_walk (by decide +kernel) (by decide +kernel) hmg hb (fun _ => rfl) rfl fun _ _ _ _ _ _ _ a b F0 os D B T hm R => body_l_walk rfl hst_ B T c_l_take g_int g_range g_abs g_tuple a.1 a.2.1 a.2.2.1 a.2.2.2 b F0 os D hm R
abbrev s_l_key : Stmt := top 36
def N_l_key : List Str := ["_law_walk_here", "_law_step"]
def V_l_key : List Str := ["_law_walk_here"]
def G_l_key : List Str := ["len", "tuple"]
theorem sc_l_key : FnScope N_l_key ["_law_walk_here"] (defScope s_l_key) := ⟨rfl, rfl, rfl, by decide +kernel, rfl, by decide +kernel, by decide +kernel⟩
abbrev sp_l_key (K : PySem.W.Frag) : Sp := spZ (α := (List Int)) (β := (Int × (List Int))) (fun a => [(dat (PyData.tuple (List.map PyData.int a)))]) (fun a => []) (fun a => m_l_key a) (fun a b => (dat (PyData.tuple [(PyData.int b.1), (PyData.tuple (List.map PyData.int b.2))]))) (fun a b => [])
set_option maxHeartbeats 4000000 in
theorem body_l_key {X : Cx} (hsc : X.env.scope = defScope s_l_key) {sts_ : List Stmt} (hst_ : defBody s_l_key = sts_) (B : Bd X N_l_key V_l_key G_l_key 0) (T : Bt X V_l_key) (g_len : X.mg "len" = none) (g_tuple : X.mg "tuple" = none) (g_abs : X.mg "abs" = none) (g_int : X.mg "int" = none) (walk_here : (List Int)) (b : (Int × (List Int))) (F0 : Hp) (os : Os) (D : Ends) (hm : m_l_key walk_here = some b) (R : RetZ F0 (os) (dat (PyData.tuple [(PyData.int b.1), (PyData.tuple (List.map PyData.int b.2))])) D) :
    SX X [sl (dat (PyData.tuple (List.map PyData.int walk_here))), un] (os) F0 sts_ D := by
  subst hst_
  unfold m_l_key at hm
  obtain ⟨t3, h3, hm⟩ := bnd hm
  obtain rfl := som hm
  exact sx_ret (ex_tup (ds := [(PyData.int (walk_here.length : Int)), (PyData.tuple (List.map PyData.int t3))]) (hl := len_ok (n := 2) rfl) (ax_cons (EX.to (ex_fn (j := 0) B rfl g_len (by decide +kernel) call_len_seq (rc_lenT (ds := List.map PyData.int walk_here) rdt_dat) (ax_cons (ex_v (i := 0) (j := 0) B rfl rfl rfl) ax_nil)) (by rw [List.length_map])) (ax_cons (ex_ty (j := 1) B rfl g_tuple (by decide +kernel) call_tuple_of (rc_tupL (ds := List.map PyData.int t3) rdl_dat) (ax_cons (EN.ex (en_lc (lc_mk1 (j := 1) (vp := fun step1 => (dat (PyData.int step1))) (c := anyOs) (enc := PyData.int) (fun (_ : Unit) (step1 : Int) => some (some ((2 * (absI step1)) + (if (decide (step1 < 0)) = true then 1 else 0)), ())) (fun (_ : Unit) (tl1 : Os) => tl1) () (t3) () B rfl rfl (by rw [B.hN, hsc]; decide +kernel) (by rw [hsc]; decide +kernel) (by decide) (lcT_ok h3) (ix_tup (enc := PyData.int) (ex_v (i := 0) (j := 0) B rfl rfl rfl) rdt_dat) (fun _ _ => trivial) (fun _ _ _ => List.Perm.refl _) (fun _ step1 t tl1 hx hf => by (obtain rfl := som hf; exact ⟨true, _, fun X1 hX => by (have B1 := Bd.fam (W' := ["_law_step"]) (G' := ["abs", "int"]) B hX (by (try rw [hsc]); decide +kernel); have g_abs' := fam_mg hX g_abs; have g_int' := fam_mg hX g_int; exact ⟨.nil, fun _ => ⟨_, rfl, (ex_add (ex_mulL (by decide) ex_int (ex_fn (j := 0) B1 rfl g_abs' (by decide +kernel) call_abs rc_abs (ax_cons (ex_v (i := 1) (j := 0) B1 rfl rfl rfl) ax_nil))) (ex_ty (j := 1) B1 rfl g_int' (by decide +kernel) call_int1 rc_intB (ax_cons (ex_cmp op_lt r2_lt (nomark _) (ex_v (i := 1) (j := 0) B1 rfl rfl rfl) ex_int) ax_nil)))⟩, fun h => Bool.noConfusion h⟩)⟩))))) ax_nil)) ax_nil))) (fun F H v e o c => R.rt F H v e o c)
theorem cal_l_key {P : Program} {w : World} {K : PySem.W.Frag} {mg : Str → Option Value} {base : Heap} {f : Addr} {fd : FuncData} (Fn : Fun K "_law_key" "_law_key" s_l_key f fd) (hmg : mg "_law_key" = some (.ref f)) (hb : Binds K fd ["_law_walk_here"] []) (g_len : mg "len" = none) (g_tuple : mg "tuple" = none) (g_abs : mg "abs" = none) (g_int : mg "int" = none) : Cal P w K mg base 1 "_law_key" s_l_key ["_law_walk_here"] (sp_l_key K) := by
  obtain ⟨sts_, hst_⟩ : ∃ z_, defBody s_l_key = z_ := ⟨_, rfl⟩
  exact cal_ZQ (V := V_l_key) (Gs := G_l_key) (nl := 1) hst_ Fn sc_l_key (by decide +kernel) (by decide +kernel) hmg hb (fun _ => rfl) rfl fun _ _ _ _ _ _ _ a b F0 os D B T hm R => body_l_key rfl hst_ B T g_len g_tuple g_abs g_int a b F0 os D hm R
abbrev s_l_added : Stmt := top 37
def N_l_added : List Str := ["_law_walk_here", "_law_first", "_law_second", "_law_once", "_law_twice"]
def V_l_added : List Str := ["_law_walk_here", "_law_first", "_law_second", "_law_once", "_law_twice"]
def G_l_added : List Str := ["power", "len", "abs", "behind", "back"]
theorem sc_l_added : FnScope N_l_added ["_law_walk_here", "_law_first", "_law_second"] (defScope s_l_added) := ⟨rfl, rfl, rfl, by decide +kernel, rfl, by decide +kernel, by decide +kernel⟩
abbrev sp_l_added (K : PySem.W.Frag) : Sp := spZ (α := ((List Int) × Int × Int)) (β := Bool) (fun a => [(dat (PyData.tuple (List.map PyData.int a.1))), (dat (PyData.int a.2.1)), (dat (PyData.int a.2.2))]) (fun a => []) (fun a => m_l_added a.1 a.2.1 a.2.2) (fun a b => (dat (PyData.bool b))) (fun a b => [])
set_option maxHeartbeats 4000000 in
theorem body_l_added {X : Cx} (hsc : X.env.scope = defScope s_l_added) {sts_ : List Stmt} (hst_ : defBody s_l_added = sts_) (B : Bd X N_l_added V_l_added G_l_added 5) (T : Bt X V_l_added) (c_p_power : Cal X.prog X.w X.K X.mg X.base 5 "power" s_p_power ["walk", "times"] (sp_p_power X.K)) (g_len : X.mg "len" = none) (g_abs : X.mg "abs" = none) (c_p_behind : Cal X.prog X.w X.K X.mg X.base 5 "behind" s_p_behind ["one", "other"] (sp_p_behind X.K)) (c_p_back : Cal X.prog X.w X.K X.mg X.base 5 "back" s_p_back ["walk"] (sp_p_back X.K)) (walk_here : (List Int)) (first : Int) (second : Int) (b : Bool) (F0 : Hp) (os : Os) (D : Ends) (hm : m_l_added walk_here first second = some b) (R : RetZ F0 (os) (dat (PyData.bool b)) D) :
    SX X [sl (dat (PyData.tuple (List.map PyData.int walk_here))), sl (dat (PyData.int first)), sl (dat (PyData.int second)), un, un] (os) F0 sts_ D := by
  subst hst_
  unfold m_l_added at hm
  obtain ⟨t1, h1, hm⟩ := bnd hm
  obtain ⟨t2, h2, hm⟩ := bnd hm
  refine sx_par2 (i := 3) (j := 4) _ hsc B rfl rfl (by decide) (by decide +kernel) (by decide +kernel) (by intro env he; cases env; cases he; first | rfl | kernel_rfl) (aq_x (φ := (dat (PyData.tuple (List.map PyData.int t1)))) (ex_call (a := (walk_here, first)) (b := t1) (gi := 0) (rest := os) B rfl c_p_power (by decide) h1 (ax_cons (ex_v (i := 0) (j := 0) B rfl rfl rfl) (ax_cons (ex_v (i := 1) (j := 1) B rfl rfl rfl) ax_nil))) (aq_x (φ := (dat (PyData.tuple (List.map PyData.int t2)))) (ex_call (a := (walk_here, second)) (b := t2) (gi := 0) (rest := os) B rfl c_p_power (by decide) h2 (ax_cons (ex_v (i := 0) (j := 0) B rfl rfl rfl) (ax_cons (ex_v (i := 2) (j := 2) B rfl rfl rfl) ax_nil))) aq_nil)) (fun v0 v1 os_ hr_ => ?_) (by rintro φs os_ ⟨_, rfl, _, rfl, rfl, rfl⟩; exact ⟨_, _, rfl⟩)
  obtain ⟨_, e0, _, e1, e8, e9⟩ := hr_
  cases e0; cases e1; cases e8; cases e9
  refine sx_if (WX.tx (wx_or (tx_cmp op_gt r2_gt (nomark _) (EX.to (ex_fn (j := 1) B rfl g_len (by decide +kernel) call_len_seq (rc_lenT (ds := List.map PyData.int t1) rdt_dat) (ax_cons (ex_v (i := 3) (j := 3) B rfl rfl rfl) ax_nil)) (by rw [List.length_map])) ex_int) (fun _ => (wx_or1 (tx_cmp op_gt r2_gt (nomark _) (EX.to (ex_fn (j := 1) B rfl g_len (by decide +kernel) call_len_seq (rc_lenT (ds := List.map PyData.int t2) rdt_dat) (ax_cons (ex_v (i := 4) (j := 4) B rfl rfl rfl) ax_nil)) (by rw [List.length_map])) ex_int))) (fun _ => rfl) rfl)) (fun hk => ?_) (fun hk => ?_)
  · have hm := ifT hm hk
    obtain rfl := som hm
    exact sx_ret ex_bool (fun F H v e o c => R.rt F H v e o c)
  · have hm := ifF hm hk
    refine sx_fall ?_ rfl
    obtain ⟨t5, h5, hm⟩ := bnd hm
    refine sx_if (WX.tx (wx_and (l := t5) (os2 := os) (tx_cmp op_le r2_le (nomark _) (ex_fn (j := 2) B rfl g_abs (by decide +kernel) call_abs rc_abs (ax_cons (ex_add (ex_v (i := 1) (j := 1) B rfl rfl rfl) (ex_v (i := 2) (j := 2) B rfl rfl rfl)) ax_nil)) ex_int) (fun hk => by (have hm := ifT h5 hk; obtain ⟨t3, h3, hm⟩ := bnd hm; obtain ⟨t4, h4, hm⟩ := bnd hm; obtain rfl := som hm; exact (wx_and1 (tx_neR (e := (eT PyData.int)) (x := t3) (y := t4) B (eqv_tup eqv_int) (sh_tup sh_int) (by decide) rdx_dat rdx_dat (ex_call (a := (walk_here, (first + second))) (b := t3) (gi := 0) (rest := os) B rfl c_p_power (by decide) h3 (ax_cons (ex_v (i := 0) (j := 0) B rfl rfl rfl) (ax_cons (ex_add (ex_v (i := 1) (j := 1) B rfl rfl rfl) (ex_v (i := 2) (j := 2) B rfl rfl rfl)) ax_nil))) (ex_call (a := (t1, t2)) (b := t4) (gi := 3) (rest := os) B rfl c_p_behind (by decide) h4 (ax_cons (ex_v (i := 3) (j := 3) B rfl rfl rfl) (ax_cons (ex_v (i := 4) (j := 4) B rfl rfl rfl) ax_nil))))))) (fun hk => by (have hm := ifF h5 hk; obtain rfl := som hm; rfl)) (and_fix (fun hk => by (have hm := ifF h5 hk; obtain rfl := som hm; rfl))))) (fun hk => ?_) (fun hk => ?_)
    · have hm := ifT hm hk
      obtain rfl := som hm
      exact sx_ret ex_bool (fun F H v e o c => R.rt F H v e o c)
    · have hm := ifF hm hk
      refine sx_fall ?_ rfl
      obtain ⟨t6, h6, hm⟩ := bnd hm
      obtain ⟨t7, h7, hm⟩ := bnd hm
      obtain ⟨t10, h10, hm⟩ := bnd hm
      refine sx_if (WX.tx (wx_or (l := t10) (os2 := os) (tx_neR (e := (eT PyData.int)) (x := t6) (y := t7) B (eqv_tup eqv_int) (sh_tup sh_int) (by decide) rdx_dat rdx_dat (ex_call (a := (t1, t2)) (b := t6) (gi := 3) (rest := os) B rfl c_p_behind (by decide) h6 (ax_cons (ex_v (i := 3) (j := 3) B rfl rfl rfl) (ax_cons (ex_v (i := 4) (j := 4) B rfl rfl rfl) ax_nil))) (ex_call (a := (t2, t1)) (b := t7) (gi := 3) (rest := os) B rfl c_p_behind (by decide) h7 (ax_cons (ex_v (i := 4) (j := 4) B rfl rfl rfl) (ax_cons (ex_v (i := 3) (j := 3) B rfl rfl rfl) ax_nil)))) (fun hk => by (have hm := ifF h10 hk; obtain ⟨t8, h8, hm⟩ := bnd hm; obtain ⟨t9, h9, hm⟩ := bnd hm; obtain rfl := som hm; exact (wx_or1 (tx_neR (e := (eT PyData.int)) (x := t8) (y := t9) B (eqv_tup eqv_int) (sh_tup sh_int) (by decide) rdx_dat rdx_dat (ex_call (a := (walk_here, (-first))) (b := t8) (gi := 0) (rest := os) B rfl c_p_power (by decide) h8 (ax_cons (ex_v (i := 0) (j := 0) B rfl rfl rfl) (ax_cons (ex_neg (ex_v (i := 1) (j := 1) B rfl rfl rfl)) ax_nil))) (ex_call (a := t1) (b := t9) (gi := 4) (rest := os) B rfl c_p_back (by decide) h9 (ax_cons (ex_v (i := 3) (j := 3) B rfl rfl rfl) ax_nil)))))) (fun hk => by (have hm := ifT h10 hk; obtain rfl := som hm; rfl)) (or_fix (fun hk => by (have hm := ifT h10 hk; obtain rfl := som hm; rfl))))) (fun hk => ?_) (fun hk => ?_)
      · have hm := ifT hm hk
        obtain rfl := som hm
        exact sx_ret ex_bool (fun F H v e o c => R.rt F H v e o c)
      · have hm := ifF hm hk
        refine sx_fall ?_ rfl
        obtain ⟨t11, h11, hm⟩ := bnd hm
        obtain ⟨t15, h15, hm⟩ := bnd hm
        obtain rfl := som hm
        exact sx_ret (ex_or (l := t15) (os2 := os) (ex_cmp op_gt r2_gt (nomark _) (ex_fn (j := 2) B rfl g_abs (by decide +kernel) call_abs rc_abs (ax_cons (ex_mul h11 (ex_v (i := 1) (j := 1) B rfl rfl rfl) (ex_v (i := 2) (j := 2) B rfl rfl rfl)) ax_nil)) ex_int) (fun hk => by (have hm := ifF h15 hk; obtain ⟨t12, h12, hm⟩ := bnd hm; obtain ⟨t13, h13, hm⟩ := bnd hm; obtain ⟨t14, h14, hm⟩ := bnd hm; obtain rfl := som hm; exact (ex_one (ex_eqR (e := (eT PyData.int)) (x := t12) (y := t14) B (eqv_tup eqv_int) (sh_tup sh_int) (by decide) rdx_dat rdx_dat (ex_call (a := (t1, second)) (b := t12) (gi := 0) (rest := os) B rfl c_p_power (by decide) h12 (ax_cons (ex_v (i := 3) (j := 3) B rfl rfl rfl) (ax_cons (ex_v (i := 2) (j := 2) B rfl rfl rfl) ax_nil))) (ex_call (a := (walk_here, t13)) (b := t14) (gi := 0) (rest := os) B rfl c_p_power (by decide) h14 (ax_cons (ex_v (i := 0) (j := 0) B rfl rfl rfl) (ax_cons (ex_mul h13 (ex_v (i := 1) (j := 1) B rfl rfl rfl) (ex_v (i := 2) (j := 2) B rfl rfl rfl)) ax_nil))))))) (fun hk => by (have hm := ifT h15 hk; obtain rfl := som hm; rfl)) (or_fix (fun hk => by (have hm := ifT h15 hk; obtain rfl := som hm; rfl)))) (fun F H v e o c => R.rt F H v e o c)
theorem cal_l_added {P : Program} {w : World} {K : PySem.W.Frag} {mg : Str → Option Value} {base : Heap} {f : Addr} {fd : FuncData} (Fn : Fun K "_law_added" "_law_added" s_l_added f fd) (hmg : mg "_law_added" = some (.ref f)) (hb : Binds K fd ["_law_walk_here", "_law_first", "_law_second"] []) (c_p_power : Cal P w K mg base 5 "power" s_p_power ["walk", "times"] (sp_p_power K)) (g_len : mg "len" = none) (g_abs : mg "abs" = none) (c_p_behind : Cal P w K mg base 5 "behind" s_p_behind ["one", "other"] (sp_p_behind K)) (c_p_back : Cal P w K mg base 5 "back" s_p_back ["walk"] (sp_p_back K)) : Cal P w K mg base 6 "_law_added" s_l_added ["_law_walk_here", "_law_first", "_law_second"] (sp_l_added K) := by
  obtain ⟨sts_, hst_⟩ : ∃ z_, defBody s_l_added = z_ := ⟨_, rfl⟩
  exact cal_ZQ (V := V_l_added) (Gs := G_l_added) (nl := 2) hst_ Fn sc_l_added (by decide +kernel) (by decide +kernel) hmg hb (fun _ => rfl) rfl fun _ _ _ _ _ _ _ a b F0 os D B T hm R => body_l_added rfl hst_ B T c_p_power g_len g_abs c_p_behind c_p_back a.1 a.2.1 a.2.2 b F0 os D hm R
abbrev s_l_rooted : Stmt := top 38
def N_l_rooted : List Str := ["_law_walk_here", "_law_other", "_law_times", "_law_part", "_law_many", "_law_moved", "_law_lead", "_law_middle", "_law_made", "_law_due"]
def V_l_rooted : List Str := ["_law_walk_here", "_law_other", "_law_times", "_law_part", "_law_many", "_law_moved", "_law_lead", "_law_middle", "_law_made", "_law_due"]
def G_l_rooted : List Str := ["root", "turned", "power", "min", "straight", "core", "behind", "back", "least_turned", "len", "int", "abs"]
theorem sc_l_rooted : FnScope N_l_rooted ["_law_walk_here", "_law_other", "_law_times"] (defScope s_l_rooted) := ⟨rfl, rfl, rfl, by decide +kernel, rfl, by decide +kernel, by decide +kernel⟩
abbrev sp_l_rooted (K : PySem.W.Frag) : Sp := spZ (α := ((List Int) × (List Int) × Int)) (β := Bool) (fun a => [(dat (PyData.tuple (List.map PyData.int a.1))), (dat (PyData.tuple (List.map PyData.int a.2.1))), (dat (PyData.int a.2.2))]) (fun a => []) (fun a => m_l_rooted a.1 a.2.1 a.2.2) (fun a b => (dat (PyData.bool b))) (fun a b => [])
set_option maxHeartbeats 4000000 in
theorem body_l_rooted {X : Cx} (hsc : X.env.scope = defScope s_l_rooted) {sts_ : List Stmt} (hst_ : defBody s_l_rooted = sts_) (B : Bd X N_l_rooted V_l_rooted G_l_rooted 5) (T : Bt X V_l_rooted) (c_p_root : Cal X.prog X.w X.K X.mg X.base 5 "root" s_p_root ["walk"] (sp_p_root X.K)) (c_p_turned : Cal X.prog X.w X.K X.mg X.base 5 "turned" s_p_turned ["walk", "other"] (sp_p_turned X.K)) (c_p_power : Cal X.prog X.w X.K X.mg X.base 5 "power" s_p_power ["walk", "times"] (sp_p_power X.K)) (g_min : X.mg "min" = none) (c_p_straight : Cal X.prog X.w X.K X.mg X.base 5 "straight" s_p_straight ["walk"] (sp_p_straight X.K)) (c_p_core : Cal X.prog X.w X.K X.mg X.base 5 "core" s_p_core ["walk"] (sp_p_core X.K)) (c_p_behind : Cal X.prog X.w X.K X.mg X.base 5 "behind" s_p_behind ["one", "other"] (sp_p_behind X.K)) (c_p_back : Cal X.prog X.w X.K X.mg X.base 5 "back" s_p_back ["walk"] (sp_p_back X.K)) (c_p_least_turned : Cal X.prog X.w X.K X.mg X.base 5 "least_turned" s_p_least_turned ["walk"] (sp_p_least_turned X.K)) (g_len : X.mg "len" = none) (g_int : X.mg "int" = none) (g_abs : X.mg "abs" = none) (walk_here : (List Int)) (other : (List Int)) (times : Int) (b : Bool) (F0 : Hp) (os : Os) (D : Ends) (hm : m_l_rooted walk_here other times = some b) (R : RetZ F0 (os) (dat (PyData.bool b)) D) :
    SX X [sl (dat (PyData.tuple (List.map PyData.int walk_here))), sl (dat (PyData.tuple (List.map PyData.int other))), sl (dat (PyData.int times)), un, un, un, un, un, un, un] (os) F0 sts_ D := by
  subst hst_
  unfold m_l_rooted at hm
  obtain ⟨t1, h1, hm⟩ := bnd hm
  refine sx_unp (gx_pair B (gx_name (i := 3) (vi := 3) B T rfl rfl) (gx_name (i := 4) (vi := 4) B T rfl rfl)) (ex_call (a := walk_here) (b := t1) (gi := 0) (rest := os) B rfl c_p_root (by decide) h1 (ax_cons (ex_v (i := 0) (j := 0) B rfl rfl rfl) ax_nil)) ?_
  obtain ⟨t2, h2, hm⟩ := bnd hm
  refine sx_asg (i := 5) (vi := 5) (φ := (dat (PyData.tuple (List.map PyData.int t2)))) B T rfl rfl (ex_call (a := (walk_here, other)) (b := t2) (gi := 1) (rest := os) B rfl c_p_turned (by decide) h2 (ax_cons (ex_v (i := 0) (j := 0) B rfl rfl rfl) (ax_cons (ex_v (i := 1) (j := 1) B rfl rfl rfl) ax_nil))) ?_
  obtain ⟨t3, h3, hm⟩ := bnd hm
  obtain ⟨t4, h4, hm⟩ := bnd hm
  refine sx_if (WX.tx (wx_and (tx_neR (e := (eT PyData.int)) (x := t3) (y := t4) B (eqv_tup eqv_int) (sh_tup sh_int) (by decide) rdx_dat rdx_dat (ex_call (a := (t1.1, (minI t1.2 20))) (b := t3) (gi := 2) (rest := os) B rfl c_p_power (by decide) h3 (ax_cons (ex_v (i := 3) (j := 3) B rfl rfl rfl) (ax_cons (ex_fn (j := 3) B rfl g_min (by decide +kernel) (call_min2 B.calm) rc_min (ax_cons (ex_v (i := 4) (j := 4) B rfl rfl rfl) (ax_cons ex_int ax_nil))) ax_nil))) (ex_call (a := walk_here) (b := t4) (gi := 4) (rest := os) B rfl c_p_straight (by decide) h4 (ax_cons (ex_v (i := 0) (j := 0) B rfl rfl rfl) ax_nil))) (fun _ => (wx_and1 (tx_cmp op_le r2_le (nomark _) (ex_v (i := 4) (j := 4) B rfl rfl rfl) ex_int))) (fun _ => rfl) rfl)) (fun hk => ?_) (fun hk => ?_)
  · have hm := ifT hm hk
    obtain rfl := som hm
    exact sx_ret ex_bool (fun F H v e o c => R.rt F H v e o c)
  · have hm := ifF hm hk
    refine sx_fall ?_ rfl
    obtain ⟨t5, h5, hm⟩ := bnd hm
    refine sx_unp (gx_pair B (gx_name (i := 6) (vi := 6) B T rfl rfl) (gx_name (i := 7) (vi := 7) B T rfl rfl)) (ex_call (a := walk_here) (b := t5) (gi := 5) (rest := os) B rfl c_p_core (by decide) h5 (ax_cons (ex_v (i := 0) (j := 0) B rfl rfl rfl) ax_nil)) ?_
    obtain ⟨t6, h6, hm⟩ := bnd hm
    obtain ⟨t7, h7, hm⟩ := bnd hm
    obtain ⟨t8, h8, hm⟩ := bnd hm
    obtain ⟨t9, h9, hm⟩ := bnd hm
    obtain ⟨t11, h11, hm⟩ := bnd hm
    refine sx_if (WX.tx (wx_or (l := t11) (os2 := os) (tx_neR (e := (eT PyData.int)) (x := t8) (y := t9) B (eqv_tup eqv_int) (sh_tup sh_int) (by decide) rdx_dat rdx_dat (ex_call (a := (t6, t7)) (b := t8) (gi := 6) (rest := os) B rfl c_p_behind (by decide) h8 (ax_cons (ex_call (a := (t5.1, t5.2)) (b := t6) (gi := 6) (rest := os) B rfl c_p_behind (by decide) h6 (ax_cons (ex_v (i := 6) (j := 6) B rfl rfl rfl) (ax_cons (ex_v (i := 7) (j := 7) B rfl rfl rfl) ax_nil))) (ax_cons (ex_call (a := t5.1) (b := t7) (gi := 7) (rest := os) B rfl c_p_back (by decide) h7 (ax_cons (ex_v (i := 6) (j := 6) B rfl rfl rfl) ax_nil)) ax_nil))) (ex_call (a := walk_here) (b := t9) (gi := 4) (rest := os) B rfl c_p_straight (by decide) h9 (ax_cons (ex_v (i := 0) (j := 0) B rfl rfl rfl) ax_nil))) (fun hk => by (have hm := ifF h11 hk; obtain ⟨t10, h10, hm⟩ := bnd hm; obtain rfl := som hm; exact (wx_or1 (tx_neR (e := (eP (eT PyData.int) (eT PyData.int))) (x := t10) (y := (([] : (List Int)), t5.2)) B (eqv_pair (eqv_tup eqv_int) (eqv_tup eqv_int)) (sh_pair (sh_tup sh_int) (sh_tup sh_int)) (by decide) rdx_dat rdx_dat (ex_call (a := t5.2) (b := t10) (gi := 5) (rest := os) B rfl c_p_core (by decide) h10 (ax_cons (ex_v (i := 7) (j := 7) B rfl rfl rfl) ax_nil)) (ex_tup (ds := [(PyData.tuple (List.map PyData.int ([] : (List Int)))), (PyData.tuple (List.map PyData.int t5.2))]) (hl := len_ok (n := 2) rfl) (ax_cons (ex_tup (ds := []) ax_nil) (ax_cons (ex_v (i := 7) (j := 7) B rfl rfl rfl) ax_nil))))))) (fun hk => by (have hm := ifT h11 hk; obtain rfl := som hm; rfl)) (or_fix (fun hk => by (have hm := ifT h11 hk; obtain rfl := som hm; rfl))))) (fun hk => ?_) (fun hk => ?_)
    · have hm := ifT hm hk
      obtain rfl := som hm
      exact sx_ret ex_bool (fun F H v e o c => R.rt F H v e o c)
    · have hm := ifF hm hk
      refine sx_fall ?_ rfl
      obtain ⟨t12, h12, hm⟩ := bnd hm
      obtain ⟨t13, h13, hm⟩ := bnd hm
      obtain ⟨t16, h16, hm⟩ := bnd hm
      refine sx_if (WX.tx (wx_or (l := t16) (os2 := os) (tx_neR (e := (eP (eT PyData.int) PyData.int)) (x := t12) (y := (t13, t1.2)) B (eqv_pair (eqv_tup eqv_int) eqv_int) (sh_pair (sh_tup sh_int) sh_int) (by decide) rdx_dat rdx_dat (ex_call (a := t2) (b := t12) (gi := 0) (rest := os) B rfl c_p_root (by decide) h12 (ax_cons (ex_v (i := 5) (j := 5) B rfl rfl rfl) ax_nil)) (ex_tup (ds := [(PyData.tuple (List.map PyData.int t13)), (PyData.int t1.2)]) (hl := len_ok (n := 2) rfl) (ax_cons (ex_call (a := (t1.1, other)) (b := t13) (gi := 1) (rest := os) B rfl c_p_turned (by decide) h13 (ax_cons (ex_v (i := 3) (j := 3) B rfl rfl rfl) (ax_cons (ex_v (i := 1) (j := 1) B rfl rfl rfl) ax_nil))) (ax_cons (ex_v (i := 4) (j := 4) B rfl rfl rfl) ax_nil)))) (fun hk => by (have hm := ifF h16 hk; obtain ⟨t14, h14, hm⟩ := bnd hm; obtain ⟨t15, h15, hm⟩ := bnd hm; obtain rfl := som hm; exact (wx_or1 (tx_neR (e := (eT PyData.int)) (x := t15.1) (y := ([] : (List Int))) B (eqv_tup eqv_int) (sh_tup sh_int) (by decide) rdx_dat rdx_dat (ex_ixT rdt_dat (by rfl) (ex_call (a := t14) (b := t15) (gi := 5) (rest := os) B rfl c_p_core (by decide) h15 (ax_cons (ex_call (a := t2) (b := t14) (gi := 8) (rest := os) B rfl c_p_least_turned (by decide) h14 (ax_cons (ex_v (i := 5) (j := 5) B rfl rfl rfl) ax_nil)) ax_nil)) ex_int) (ex_tup (ds := []) ax_nil))))) (fun hk => by (have hm := ifT h16 hk; obtain rfl := som hm; rfl)) (or_fix (fun hk => by (have hm := ifT h16 hk; obtain rfl := som hm; rfl))))) (fun hk => ?_) (fun hk => ?_)
      · have hm := ifT hm hk
        obtain rfl := som hm
        exact sx_ret ex_bool (fun F H v e o c => R.rt F H v e o c)
      · have hm := ifF hm hk
        refine sx_fall ?_ rfl
        obtain ⟨t17, h17, hm⟩ := bnd hm
        refine sx_asg (i := 8) (vi := 8) (φ := (dat (PyData.tuple (List.map PyData.int t17)))) B T rfl rfl (ex_call (a := (t2, times)) (b := t17) (gi := 2) (rest := os) B rfl c_p_power (by decide) h17 (ax_cons (ex_v (i := 5) (j := 5) B rfl rfl rfl) (ax_cons (ex_v (i := 2) (j := 2) B rfl rfl rfl) ax_nil))) ?_
        refine sx_if (tx_cmp op_gt r2_gt (nomark _) (EX.to (ex_fn (j := 9) B rfl g_len (by decide +kernel) call_len_seq (rc_lenT (ds := List.map PyData.int t17) rdt_dat) (ax_cons (ex_v (i := 8) (j := 8) B rfl rfl rfl) ax_nil)) (by rw [List.length_map])) ex_int) (fun hk => ?_) (fun hk => ?_)
        · have hm := ifT hm hk
          obtain rfl := som hm
          exact sx_ret ex_bool (fun F H v e o c => R.rt F H v e o c)
        · have hm := ifF hm hk
          refine sx_fall ?_ rfl
          obtain ⟨t19, h19, hm⟩ := bnd hm
          refine sx_if (WX.tx (wx_or (l := t19) (os2 := os) (tx_cmp op_eq r2_eqI (nomark _) (ex_v (i := 2) (j := 2) B rfl rfl rfl) ex_int) (fun hk => by (have hm := ifF h19 hk; obtain ⟨t18, h18, hm⟩ := bnd hm; obtain rfl := som hm; exact (wx_or1 (tx_eqR (e := (eT PyData.int)) (x := t18) (y := ([] : (List Int))) B (eqv_tup eqv_int) (sh_tup sh_int) (by decide) rdx_dat rdx_dat (ex_call (a := walk_here) (b := t18) (gi := 4) (rest := os) B rfl c_p_straight (by decide) h18 (ax_cons (ex_v (i := 0) (j := 0) B rfl rfl rfl) ax_nil)) (ex_tup (ds := []) ax_nil))))) (fun hk => by (have hm := ifT h19 hk; obtain rfl := som hm; rfl)) (or_fix (fun hk => by (have hm := ifT h19 hk; obtain rfl := som hm; rfl))))) (fun hk => ?_) (fun hk => ?_)
          · have hm := ifT hm hk
            obtain ⟨t20, h20, hm⟩ := bnd hm
            obtain rfl := som hm
            exact sx_ret (ex_eqR (e := (eP (eT PyData.int) PyData.int)) (x := t20) (y := (([] : (List Int)), 0)) B (eqv_pair (eqv_tup eqv_int) eqv_int) (sh_pair (sh_tup sh_int) sh_int) (by decide) rdx_dat rdx_dat (ex_call (a := t17) (b := t20) (gi := 0) (rest := os) B rfl c_p_root (by decide) h20 (ax_cons (ex_v (i := 8) (j := 8) B rfl rfl rfl) ax_nil)) (ex_tup (ds := [(PyData.tuple (List.map PyData.int ([] : (List Int)))), (PyData.int 0)]) (hl := len_ok (n := 2) rfl) (ax_cons (ex_tup (ds := []) ax_nil) (ax_cons ex_int ax_nil)))) (fun F H v e o c => R.rt F H v e o c)
          · have hm := ifF hm hk
            refine sx_fall ?_ rfl
            obtain ⟨t21, h21, hm⟩ := bnd hm
            refine sx_asg (i := 9) (vi := 9) (φ := (dat (PyData.tuple (List.map PyData.int t21)))) B T rfl rfl (ex_call (a := (t1.1, other)) (b := t21) (gi := 1) (rest := os) B rfl c_p_turned (by decide) h21 (ax_cons (ex_v (i := 3) (j := 3) B rfl rfl rfl) (ax_cons (ex_v (i := 1) (j := 1) B rfl rfl rfl) ax_nil))) ?_
            obtain ⟨t22, h22, hm⟩ := bnd hm
            obtain ⟨t23, h23, hm⟩ := bnd hm
            obtain ⟨t24, h24, hm⟩ := bnd hm
            obtain ⟨t25, h25, hm⟩ := bnd hm
            obtain rfl := som hm
            exact sx_ret (ex_eqR (e := (eP (eT PyData.int) PyData.int)) (x := t22) (y := (t24, t25)) B (eqv_pair (eqv_tup eqv_int) eqv_int) (sh_pair (sh_tup sh_int) sh_int) (by decide) rdx_dat rdx_dat (ex_call (a := t17) (b := t22) (gi := 0) (rest := os) B rfl c_p_root (by decide) h22 (ax_cons (ex_v (i := 8) (j := 8) B rfl rfl rfl) ax_nil)) (ex_tup (ds := [(PyData.tuple (List.map PyData.int t24)), (PyData.int t25)]) (hl := len_ok (n := 2) rfl) (ax_cons (ex_idxL (enc := (eT PyData.int)) h24 rdl_dat (EN.ex (en_lst (ds := [(PyData.tuple (List.map PyData.int t21)), (PyData.tuple (List.map PyData.int t23))]) (hl := len_ok (n := 2) rfl) (ax_cons (ex_v (i := 9) (j := 9) B rfl rfl rfl) (ax_cons (ex_call (a := t21) (b := t23) (gi := 7) (rest := os) B rfl c_p_back (by decide) h23 (ax_cons (ex_v (i := 9) (j := 9) B rfl rfl rfl) ax_nil)) ax_nil)))) (ex_ty (j := 10) B rfl g_int (by decide +kernel) call_int1 rc_intB (ax_cons (ex_cmp op_lt r2_lt (nomark _) (ex_v (i := 2) (j := 2) B rfl rfl rfl) ex_int) ax_nil))) (ax_cons (ex_mul h25 (ex_v (i := 4) (j := 4) B rfl rfl rfl) (ex_fn (j := 11) B rfl g_abs (by decide +kernel) call_abs rc_abs (ax_cons (ex_v (i := 2) (j := 2) B rfl rfl rfl) ax_nil))) ax_nil)))) (fun F H v e o c => R.rt F H v e o c)
theorem cal_l_rooted {P : Program} {w : World} {K : PySem.W.Frag} {mg : Str → Option Value} {base : Heap} {f : Addr} {fd : FuncData} (Fn : Fun K "_law_rooted" "_law_rooted" s_l_rooted f fd) (hmg : mg "_law_rooted" = some (.ref f)) (hb : Binds K fd ["_law_walk_here", "_law_other", "_law_times"] []) (c_p_root : Cal P w K mg base 5 "root" s_p_root ["walk"] (sp_p_root K)) (c_p_turned : Cal P w K mg base 5 "turned" s_p_turned ["walk", "other"] (sp_p_turned K)) (c_p_power : Cal P w K mg base 5 "power" s_p_power ["walk", "times"] (sp_p_power K)) (g_min : mg "min" = none) (c_p_straight : Cal P w K mg base 5 "straight" s_p_straight ["walk"] (sp_p_straight K)) (c_p_core : Cal P w K mg base 5 "core" s_p_core ["walk"] (sp_p_core K)) (c_p_behind : Cal P w K mg base 5 "behind" s_p_behind ["one", "other"] (sp_p_behind K)) (c_p_back : Cal P w K mg base 5 "back" s_p_back ["walk"] (sp_p_back K)) (c_p_least_turned : Cal P w K mg base 5 "least_turned" s_p_least_turned ["walk"] (sp_p_least_turned K)) (g_len : mg "len" = none) (g_int : mg "int" = none) (g_abs : mg "abs" = none) : Cal P w K mg base 6 "_law_rooted" s_l_rooted ["_law_walk_here", "_law_other", "_law_times"] (sp_l_rooted K) := by
  obtain ⟨sts_, hst_⟩ : ∃ z_, defBody s_l_rooted = z_ := ⟨_, rfl⟩
  exact cal_ZQ (V := V_l_rooted) (Gs := G_l_rooted) (nl := 7) hst_ Fn sc_l_rooted (by decide +kernel) (by decide +kernel) hmg hb (fun _ => rfl) rfl fun _ _ _ _ _ _ _ a b F0 os D B T hm R => body_l_rooted rfl hst_ B T c_p_root c_p_turned c_p_power g_min c_p_straight c_p_core c_p_behind c_p_back c_p_least_turned g_len g_int g_abs a.1 a.2.1 a.2.2 b F0 os D hm R
abbrev s_l_commuting : Stmt := top 39
def N_l_commuting : List Str := ["_law_one", "_law_other", "_law_first", "_law_second", "_law_due"]
def V_l_commuting : List Str := ["_law_one", "_law_other", "_law_first", "_law_second", "_law_due"]
def G_l_commuting : List Str := ["root", "back", "commute"]
theorem sc_l_commuting : FnScope N_l_commuting ["_law_one", "_law_other"] (defScope s_l_commuting) := ⟨rfl, rfl, rfl, by decide +kernel, rfl, by decide +kernel, by decide +kernel⟩
abbrev sp_l_commuting (K : PySem.W.Frag) : Sp := spZ (α := ((List Int) × (List Int))) (β := Bool) (fun a => [(dat (PyData.tuple (List.map PyData.int a.1))), (dat (PyData.tuple (List.map PyData.int a.2)))]) (fun a => []) (fun a => m_l_commuting a.1 a.2) (fun a b => (dat (PyData.bool b))) (fun a b => [])
set_option maxHeartbeats 4000000 in
theorem body_l_commuting {X : Cx} (hsc : X.env.scope = defScope s_l_commuting) {sts_ : List Stmt} (hst_ : defBody s_l_commuting = sts_) (B : Bd X N_l_commuting V_l_commuting G_l_commuting 5) (T : Bt X V_l_commuting) (c_p_root : Cal X.prog X.w X.K X.mg X.base 5 "root" s_p_root ["walk"] (sp_p_root X.K)) (c_p_back : Cal X.prog X.w X.K X.mg X.base 5 "back" s_p_back ["walk"] (sp_p_back X.K)) (c_p_commute : Cal X.prog X.w X.K X.mg X.base 5 "commute" s_p_commute ["one", "other"] (sp_p_commute X.K)) (one : (List Int)) (other : (List Int)) (b : Bool) (F0 : Hp) (os : Os) (D : Ends) (hm : m_l_commuting one other = some b) (R : RetZ F0 (os) (dat (PyData.bool b)) D) :
    SX X [sl (dat (PyData.tuple (List.map PyData.int one))), sl (dat (PyData.tuple (List.map PyData.int other))), un, un, un] (os) F0 sts_ D := by
  subst hst_
  unfold m_l_commuting at hm
  obtain ⟨t1, h1, hm⟩ := bnd hm
  obtain ⟨t2, h2, hm⟩ := bnd hm
  refine sx_par2 (i := 2) (j := 3) _ hsc B rfl rfl (by decide) (by decide +kernel) (by decide +kernel) (by intro env he; cases env; cases he; first | rfl | kernel_rfl) (aq_x (φ := (dat (PyData.tuple (List.map PyData.int t1.1)))) (ex_ixT rdt_dat (by rfl) (ex_call (a := one) (b := t1) (gi := 0) (rest := os) B rfl c_p_root (by decide) h1 (ax_cons (ex_v (i := 0) (j := 0) B rfl rfl rfl) ax_nil)) ex_int) (aq_x (φ := (dat (PyData.tuple (List.map PyData.int t2.1)))) (ex_ixT rdt_dat (by rfl) (ex_call (a := other) (b := t2) (gi := 0) (rest := os) B rfl c_p_root (by decide) h2 (ax_cons (ex_v (i := 1) (j := 1) B rfl rfl rfl) ax_nil)) ex_int) aq_nil)) (fun v0 v1 os_ hr_ => ?_) (by rintro φs os_ ⟨_, rfl, _, rfl, rfl, rfl⟩; exact ⟨_, _, rfl⟩)
  obtain ⟨_, e0, _, e1, e8, e9⟩ := hr_
  cases e0; cases e1; cases e8; cases e9
  obtain ⟨t6, h6, hm⟩ := bnd hm
  refine sx_asg (i := 4) (vi := 4) (φ := (dat (PyData.bool t6))) B T rfl rfl (ex_or (l := t6) (os2 := os) (ex_eqR (e := (eT PyData.int)) (x := t1.1) (y := ([] : (List Int))) B (eqv_tup eqv_int) (sh_tup sh_int) (by decide) rdx_dat rdx_dat (ex_v (i := 2) (j := 2) B rfl rfl rfl) (ex_tup (ds := []) ax_nil)) (fun hk => by (have hm := ifF h6 hk; obtain ⟨t5, h5, hm⟩ := bnd hm; obtain rfl := som hm; exact (ex_or (l := t5) (os2 := os) (ex_eqR (e := (eT PyData.int)) (x := t2.1) (y := ([] : (List Int))) B (eqv_tup eqv_int) (sh_tup sh_int) (by decide) rdx_dat rdx_dat (ex_v (i := 3) (j := 3) B rfl rfl rfl) (ex_tup (ds := []) ax_nil)) (fun hk => by (have hm := ifF h5 hk; obtain ⟨t4, h4, hm⟩ := bnd hm; obtain rfl := som hm; exact (ex_or (l := t4) (os2 := os) (ex_eqR (e := (eT PyData.int)) (x := t1.1) (y := t2.1) B (eqv_tup eqv_int) (sh_tup sh_int) (by decide) rdx_dat rdx_dat (ex_v (i := 2) (j := 2) B rfl rfl rfl) (ex_v (i := 3) (j := 3) B rfl rfl rfl)) (fun hk => by (have hm := ifF h4 hk; obtain ⟨t3, h3, hm⟩ := bnd hm; obtain rfl := som hm; exact (ex_one (ex_eqR (e := (eT PyData.int)) (x := t1.1) (y := t3) B (eqv_tup eqv_int) (sh_tup sh_int) (by decide) rdx_dat rdx_dat (ex_v (i := 2) (j := 2) B rfl rfl rfl) (ex_call (a := t2.1) (b := t3) (gi := 1) (rest := os) B rfl c_p_back (by decide) h3 (ax_cons (ex_v (i := 3) (j := 3) B rfl rfl rfl) ax_nil)))))) (fun hk => by (have hm := ifT h4 hk; obtain rfl := som hm; rfl)) (or_fix (fun hk => by (have hm := ifT h4 hk; obtain rfl := som hm; rfl)))))) (fun hk => by (have hm := ifT h5 hk; obtain rfl := som hm; rfl)) (or_fix (fun hk => by (have hm := ifT h5 hk; obtain rfl := som hm; rfl)))))) (fun hk => by (have hm := ifT h6 hk; obtain rfl := som hm; rfl)) (or_fix (fun hk => by (have hm := ifT h6 hk; obtain rfl := som hm; rfl)))) ?_
  obtain ⟨t7, h7, hm⟩ := bnd hm
  obtain ⟨t12, h12, hm⟩ := bnd hm
  obtain rfl := som hm
  exact sx_ret (ex_and (l := t12) (os2 := os) (ex_eqR (e := PyData.bool) (x := t7) (y := t6) B eqv_bool sh_bool (by decide) rdx_dat rdx_dat (ex_call (a := (one, other)) (b := t7) (gi := 2) (rest := os) B rfl c_p_commute (by decide) h7 (ax_cons (ex_v (i := 0) (j := 0) B rfl rfl rfl) (ax_cons (ex_v (i := 1) (j := 1) B rfl rfl rfl) ax_nil))) (ex_v (i := 4) (j := 4) B rfl rfl rfl)) (fun hk => by (have hm := ifT h12 hk; obtain ⟨t8, h8, hm⟩ := bnd hm; obtain ⟨t11, h11, hm⟩ := bnd hm; obtain rfl := som hm; exact (ex_and (l := t11) (os2 := os) (ex_eqR (e := PyData.bool) (x := t8) (y := t6) B eqv_bool sh_bool (by decide) rdx_dat rdx_dat (ex_call (a := (other, one)) (b := t8) (gi := 2) (rest := os) B rfl c_p_commute (by decide) h8 (ax_cons (ex_v (i := 1) (j := 1) B rfl rfl rfl) (ax_cons (ex_v (i := 0) (j := 0) B rfl rfl rfl) ax_nil))) (ex_v (i := 4) (j := 4) B rfl rfl rfl)) (fun hk => by (have hm := ifT h11 hk; obtain ⟨t9, h9, hm⟩ := bnd hm; obtain ⟨t10, h10, hm⟩ := bnd hm; obtain rfl := som hm; exact (ex_one (ex_eqR (e := PyData.bool) (x := t10) (y := t6) B eqv_bool sh_bool (by decide) rdx_dat rdx_dat (ex_call (a := (t9, other)) (b := t10) (gi := 2) (rest := os) B rfl c_p_commute (by decide) h10 (ax_cons (ex_call (a := one) (b := t9) (gi := 1) (rest := os) B rfl c_p_back (by decide) h9 (ax_cons (ex_v (i := 0) (j := 0) B rfl rfl rfl) ax_nil)) (ax_cons (ex_v (i := 1) (j := 1) B rfl rfl rfl) ax_nil))) (ex_v (i := 4) (j := 4) B rfl rfl rfl))))) (fun hk => by (have hm := ifF h11 hk; obtain rfl := som hm; rfl)) (and_fix (fun hk => by (have hm := ifF h11 hk; obtain rfl := som hm; rfl)))))) (fun hk => by (have hm := ifF h12 hk; obtain rfl := som hm; rfl)) (and_fix (fun hk => by (have hm := ifF h12 hk; obtain rfl := som hm; rfl)))) (fun F H v e o c => R.rt F H v e o c)
theorem cal_l_commuting {P : Program} {w : World} {K : PySem.W.Frag} {mg : Str → Option Value} {base : Heap} {f : Addr} {fd : FuncData} (Fn : Fun K "_law_commuting" "_law_commuting" s_l_commuting f fd) (hmg : mg "_law_commuting" = some (.ref f)) (hb : Binds K fd ["_law_one", "_law_other"] []) (c_p_root : Cal P w K mg base 5 "root" s_p_root ["walk"] (sp_p_root K)) (c_p_back : Cal P w K mg base 5 "back" s_p_back ["walk"] (sp_p_back K)) (c_p_commute : Cal P w K mg base 5 "commute" s_p_commute ["one", "other"] (sp_p_commute K)) : Cal P w K mg base 6 "_law_commuting" s_l_commuting ["_law_one", "_law_other"] (sp_l_commuting K) := by
  obtain ⟨sts_, hst_⟩ : ∃ z_, defBody s_l_commuting = z_ := ⟨_, rfl⟩
  exact cal_ZQ (V := V_l_commuting) (Gs := G_l_commuting) (nl := 3) hst_ Fn sc_l_commuting (by decide +kernel) (by decide +kernel) hmg hb (fun _ => rfl) rfl fun _ _ _ _ _ _ _ a b F0 os D B T hm R => body_l_commuting rfl hst_ B T c_p_root c_p_back c_p_commute a.1 a.2 b F0 os D hm R
abbrev s_l_turning : Stmt := top 40
def N_l_turning : List Str := ["_law_one", "_law_other", "_law_by", "_law_moved", "_law_found", "_law_again"]
def V_l_turning : List Str := ["_law_one", "_law_other", "_law_by", "_law_moved", "_law_found", "_law_again"]
def G_l_turning : List Str := ["turned", "least_turned", "_law_key", "straight", "turned_onto", "commute", "behind", "back", "len"]
theorem sc_l_turning : FnScope N_l_turning ["_law_one", "_law_other", "_law_by"] (defScope s_l_turning) := ⟨rfl, rfl, rfl, by decide +kernel, rfl, by decide +kernel, by decide +kernel⟩
abbrev sp_l_turning (K : PySem.W.Frag) : Sp := spZ (α := ((List Int) × (List Int) × (List Int))) (β := Bool) (fun a => [(dat (PyData.tuple (List.map PyData.int a.1))), (dat (PyData.tuple (List.map PyData.int a.2.1))), (dat (PyData.tuple (List.map PyData.int a.2.2)))]) (fun a => []) (fun a => m_l_turning a.1 a.2.1 a.2.2) (fun a b => (dat (PyData.bool b))) (fun a b => [])
set_option maxHeartbeats 4000000 in
theorem body_l_turning {X : Cx} (hsc : X.env.scope = defScope s_l_turning) {sts_ : List Stmt} (hst_ : defBody s_l_turning = sts_) (B : Bd X N_l_turning V_l_turning G_l_turning 5) (T : Bt X V_l_turning) (c_p_turned : Cal X.prog X.w X.K X.mg X.base 5 "turned" s_p_turned ["walk", "other"] (sp_p_turned X.K)) (c_p_least_turned : Cal X.prog X.w X.K X.mg X.base 5 "least_turned" s_p_least_turned ["walk"] (sp_p_least_turned X.K)) (c_l_key : Cal X.prog X.w X.K X.mg X.base 1 "_law_key" s_l_key ["_law_walk_here"] (sp_l_key X.K)) (c_p_straight : Cal X.prog X.w X.K X.mg X.base 5 "straight" s_p_straight ["walk"] (sp_p_straight X.K)) (c_p_turned_onto : Cal X.prog X.w X.K X.mg X.base 5 "turned_onto" s_p_turned_onto ["one", "other"] (sp_p_turned_onto X.K)) (c_p_commute : Cal X.prog X.w X.K X.mg X.base 5 "commute" s_p_commute ["one", "other"] (sp_p_commute X.K)) (c_p_behind : Cal X.prog X.w X.K X.mg X.base 5 "behind" s_p_behind ["one", "other"] (sp_p_behind X.K)) (c_p_back : Cal X.prog X.w X.K X.mg X.base 5 "back" s_p_back ["walk"] (sp_p_back X.K)) (g_len : X.mg "len" = none) (one : (List Int)) (other : (List Int)) (by_ : (List Int)) (b : Bool) (F0 : Hp) (os : Os) (D : Ends) (hm : m_l_turning one other by_ = some b) (R : RetZ F0 (os) (dat (PyData.bool b)) D) :
    SX X [sl (dat (PyData.tuple (List.map PyData.int one))), sl (dat (PyData.tuple (List.map PyData.int other))), sl (dat (PyData.tuple (List.map PyData.int by_))), un, un, un] (os) F0 sts_ D := by
  subst hst_
  unfold m_l_turning at hm
  obtain ⟨t1, h1, hm⟩ := bnd hm
  refine sx_asg (i := 3) (vi := 3) (φ := (dat (PyData.tuple (List.map PyData.int t1)))) B T rfl rfl (ex_call (a := (one, by_)) (b := t1) (gi := 0) (rest := os) B rfl c_p_turned (by decide) h1 (ax_cons (ex_v (i := 0) (j := 0) B rfl rfl rfl) (ax_cons (ex_v (i := 2) (j := 2) B rfl rfl rfl) ax_nil))) ?_
  obtain ⟨t2, h2, hm⟩ := bnd hm
  obtain ⟨t3, h3, hm⟩ := bnd hm
  obtain ⟨t8, h8, hm⟩ := bnd hm
  refine sx_if (WX.tx (wx_or (l := t8) (os2 := os) (tx_neR (e := (eT PyData.int)) (x := t2) (y := t3) B (eqv_tup eqv_int) (sh_tup sh_int) (by decide) rdx_dat rdx_dat (ex_call (a := t1) (b := t2) (gi := 1) (rest := os) B rfl c_p_least_turned (by decide) h2 (ax_cons (ex_v (i := 3) (j := 3) B rfl rfl rfl) ax_nil)) (ex_call (a := one) (b := t3) (gi := 1) (rest := os) B rfl c_p_least_turned (by decide) h3 (ax_cons (ex_v (i := 0) (j := 0) B rfl rfl rfl) ax_nil))) (fun hk => by (have hm := ifF h8 hk; obtain ⟨t4, h4, hm⟩ := bnd hm; obtain ⟨t5, h5, hm⟩ := bnd hm; obtain ⟨t6, h6, hm⟩ := bnd hm; obtain ⟨t7, h7, hm⟩ := bnd hm; obtain rfl := som hm; exact (wx_or1 (tx_gtD (e := (eP PyData.int (eT PyData.int))) (x := t5) (y := t7) B (lt_pair eqv_int lt_int (eqv_tup eqv_int) (lt_tup eqv_int lt_int)) (sh_pair sh_int (sh_tup sh_int)) (by decide) rdx_dat rdx_dat (ex_call (a := t4) (b := t5) (gi := 2) (rest := os) B rfl c_l_key (by decide) h5 (ax_cons (ex_call (a := one) (b := t4) (gi := 1) (rest := os) B rfl c_p_least_turned (by decide) h4 (ax_cons (ex_v (i := 0) (j := 0) B rfl rfl rfl) ax_nil)) ax_nil)) (ex_call (a := t6) (b := t7) (gi := 2) (rest := os) B rfl c_l_key (by decide) h7 (ax_cons (ex_call (a := one) (b := t6) (gi := 3) (rest := os) B rfl c_p_straight (by decide) h6 (ax_cons (ex_v (i := 0) (j := 0) B rfl rfl rfl) ax_nil)) ax_nil)))))) (fun hk => by (have hm := ifT h8 hk; obtain rfl := som hm; rfl)) (or_fix (fun hk => by (have hm := ifT h8 hk; obtain rfl := som hm; rfl))))) (fun hk => ?_) (fun hk => ?_)
  · have hm := ifT hm hk
    obtain rfl := som hm
    exact sx_ret ex_bool (fun F H v e o c => R.rt F H v e o c)
  · have hm := ifF hm hk
    refine sx_fall ?_ rfl
    obtain ⟨t9, h9, hm⟩ := bnd hm
    refine sx_asg (i := 4) (vi := 4) (φ := (dat ((eO (eT PyData.int)) t9))) B T rfl rfl (ex_call (a := (one, t1)) (b := t9) (gi := 4) (rest := os) B rfl c_p_turned_onto (by decide) h9 (ax_cons (ex_v (i := 0) (j := 0) B rfl rfl rfl) (ax_cons (ex_v (i := 3) (j := 3) B rfl rfl rfl) ax_nil))) ?_
    cases hq34 : t9 with
    | none =>
      rw [hq34] at hm
      refine sx_if (WX.tx (wx_or (l := true) (tx_cmp op_isN (r2_isN (d := PyData.none) (t := true) rfl) (nomark _) (ex_v (i := 4) (j := 4) B rfl rfl rfl) ex_none) (fun hk => Bool.noConfusion hk) (fun _ => rfl) rfl)) (fun _ => ?_) (fun hk => Bool.noConfusion hk)
      obtain rfl := som hm
      exact sx_ret ex_bool (fun F H v e o c => R.rt F H v e o c)
    | some found10 =>
      rw [hq34] at hm
      obtain ⟨t16, h16, hm⟩ := bnd hm
      refine sx_if (WX.tx (wx_or (l := t16) (os2 := os) (tx_cmp op_isN (r2_isN (d := (PyData.tuple (List.map PyData.int found10))) (t := false) rfl) (nomark _) (ex_v (i := 4) (j := 4) B rfl rfl rfl) ex_none) (fun hk => by (have hm := ifF h16 hk; obtain ⟨t11, h11, hm⟩ := bnd hm; obtain ⟨t15, h15, hm⟩ := bnd hm; obtain rfl := som hm; exact (wx_or (l := t15) (os2 := os) (tx_neR (e := (eT PyData.int)) (x := t11) (y := t1) B (eqv_tup eqv_int) (sh_tup sh_int) (by decide) rdx_dat rdx_dat (ex_call (a := (one, found10)) (b := t11) (gi := 0) (rest := os) B rfl c_p_turned (by decide) h11 (ax_cons (ex_v (i := 0) (j := 0) B rfl rfl rfl) (ax_cons (ex_v (i := 4) (j := 4) B rfl rfl rfl) ax_nil))) (ex_v (i := 3) (j := 3) B rfl rfl rfl)) (fun hk => by (have hm := ifF h15 hk; obtain ⟨t12, h12, hm⟩ := bnd hm; obtain ⟨t13, h13, hm⟩ := bnd hm; obtain ⟨t14, h14, hm⟩ := bnd hm; obtain rfl := som hm; exact (wx_or1 (tx_gtD (e := (eP PyData.int (eT PyData.int))) (x := t12) (y := t14) B (lt_pair eqv_int lt_int (eqv_tup eqv_int) (lt_tup eqv_int lt_int)) (sh_pair sh_int (sh_tup sh_int)) (by decide) rdx_dat rdx_dat (ex_call (a := found10) (b := t12) (gi := 2) (rest := os) B rfl c_l_key (by decide) h12 (ax_cons (ex_v (i := 4) (j := 4) B rfl rfl rfl) ax_nil)) (ex_call (a := t13) (b := t14) (gi := 2) (rest := os) B rfl c_l_key (by decide) h14 (ax_cons (ex_call (a := by_) (b := t13) (gi := 3) (rest := os) B rfl c_p_straight (by decide) h13 (ax_cons (ex_v (i := 2) (j := 2) B rfl rfl rfl) ax_nil)) ax_nil)))))) (fun hk => by (have hm := ifT h15 hk; obtain rfl := som hm; rfl)) (or_fix (fun hk => by (have hm := ifT h15 hk; obtain rfl := som hm; rfl)))))) (fun hk => by (have hm := ifT h16 hk; obtain rfl := som hm; rfl)) (or_fix (fun hk => by (have hm := ifT h16 hk; obtain rfl := som hm; rfl))))) (fun hk => ?_) (fun hk => ?_)
      · have hm := ifT hm hk
        obtain rfl := som hm
        exact sx_ret ex_bool (fun F H v e o c => R.rt F H v e o c)
      · have hm := ifF hm hk
        refine sx_fall ?_ rfl
        obtain ⟨t17, h17, hm⟩ := bnd hm
        obtain ⟨t18, h18, hm⟩ := bnd hm
        obtain ⟨t19, h19, hm⟩ := bnd hm
        refine sx_if (tx_not (tx_val (ex_call (a := (one, t18)) (b := t19) (gi := 5) (rest := os) B rfl c_p_commute (by decide) h19 (ax_cons (ex_v (i := 0) (j := 0) B rfl rfl rfl) (ax_cons (ex_call (a := (by_, t17)) (b := t18) (gi := 6) (rest := os) B rfl c_p_behind (by decide) h18 (ax_cons (ex_v (i := 2) (j := 2) B rfl rfl rfl) (ax_cons (ex_call (a := found10) (b := t17) (gi := 7) (rest := os) B rfl c_p_back (by decide) h17 (ax_cons (ex_v (i := 4) (j := 4) B rfl rfl rfl) ax_nil)) ax_nil))) ax_nil))) (by intro _; rfl))) (fun hk => ?_) (fun hk => ?_)
        · have hm := ifT hm hk
          obtain rfl := som hm
          exact sx_ret ex_bool (fun F H v e o c => R.rt F H v e o c)
        · have hm := ifF hm hk
          refine sx_fall ?_ rfl
          obtain ⟨t20, h20, hm⟩ := bnd hm
          refine sx_asg (i := 4) (vi := 4) (φ := (dat ((eO (eT PyData.int)) t20))) B T rfl rfl (ex_call (a := (one, other)) (b := t20) (gi := 4) (rest := os) B rfl c_p_turned_onto (by decide) h20 (ax_cons (ex_v (i := 0) (j := 0) B rfl rfl rfl) (ax_cons (ex_v (i := 1) (j := 1) B rfl rfl rfl) ax_nil))) ?_
          cases hq34 : t20 with
          | none =>
            rw [hq34] at hm
            obtain ⟨t21, h21, hm⟩ := bnd hm
            obtain ⟨t22, h22, hm⟩ := bnd hm
            refine sx_if (tx_neR (e := PyData.bool) (x := true) (y := (!decide (t21 = t22))) B eqv_bool sh_bool (by decide) rdx_dat rdx_dat (ex_cmp op_isN (r2_isN (d := PyData.none) (t := true) rfl) (nomark _) (ex_v (i := 4) (j := 4) B rfl rfl rfl) ex_none) (ex_neR (e := (eT PyData.int)) (x := t21) (y := t22) B (eqv_tup eqv_int) (sh_tup sh_int) (by decide) rdx_dat rdx_dat (ex_call (a := one) (b := t21) (gi := 1) (rest := os) B rfl c_p_least_turned (by decide) h21 (ax_cons (ex_v (i := 0) (j := 0) B rfl rfl rfl) ax_nil)) (ex_call (a := other) (b := t22) (gi := 1) (rest := os) B rfl c_p_least_turned (by decide) h22 (ax_cons (ex_v (i := 1) (j := 1) B rfl rfl rfl) ax_nil)))) (fun hk => ?_) (fun hk => ?_)
            · have hm := ifT hm hk
              obtain rfl := som hm
              exact sx_ret ex_bool (fun F H v e o c => R.rt F H v e o c)
            · have hm := ifF hm hk
              refine sx_fall ?_ rfl
              refine sx_if (tx_cmp op_isN (r2_isN (d := PyData.none) (t := true) rfl) (nomark _) (ex_v (i := 4) (j := 4) B rfl rfl rfl) ex_none) (fun _ => ?_) (fun hk => Bool.noConfusion hk)
              obtain ⟨t23, h23, hm⟩ := bnd hm
              obtain rfl := som hm
              exact sx_ret (ex_cmp op_isN (r2_isN (d := ((eO (eT PyData.int)) t23)) (t := t23.isNone) (none_opt non_tup _)) (nomark _) (ex_call (a := (other, one)) (b := t23) (gi := 4) (rest := os) B rfl c_p_turned_onto (by decide) h23 (ax_cons (ex_v (i := 1) (j := 1) B rfl rfl rfl) (ax_cons (ex_v (i := 0) (j := 0) B rfl rfl rfl) ax_nil))) ex_none) (fun F H v e o c => R.rt F H v e o c)
          | some found24 =>
            rw [hq34] at hm
            obtain ⟨t25, h25, hm⟩ := bnd hm
            obtain ⟨t26, h26, hm⟩ := bnd hm
            refine sx_if (tx_neR (e := PyData.bool) (x := false) (y := (!decide (t25 = t26))) B eqv_bool sh_bool (by decide) rdx_dat rdx_dat (ex_cmp op_isN (r2_isN (d := (PyData.tuple (List.map PyData.int found24))) (t := false) rfl) (nomark _) (ex_v (i := 4) (j := 4) B rfl rfl rfl) ex_none) (ex_neR (e := (eT PyData.int)) (x := t25) (y := t26) B (eqv_tup eqv_int) (sh_tup sh_int) (by decide) rdx_dat rdx_dat (ex_call (a := one) (b := t25) (gi := 1) (rest := os) B rfl c_p_least_turned (by decide) h25 (ax_cons (ex_v (i := 0) (j := 0) B rfl rfl rfl) ax_nil)) (ex_call (a := other) (b := t26) (gi := 1) (rest := os) B rfl c_p_least_turned (by decide) h26 (ax_cons (ex_v (i := 1) (j := 1) B rfl rfl rfl) ax_nil)))) (fun hk => ?_) (fun hk => ?_)
            · have hm := ifT hm hk
              obtain rfl := som hm
              exact sx_ret ex_bool (fun F H v e o c => R.rt F H v e o c)
            · have hm := ifF hm hk
              refine sx_fall ?_ rfl
              refine sx_if (tx_cmp op_isN (r2_isN (d := (PyData.tuple (List.map PyData.int found24))) (t := false) rfl) (nomark _) (ex_v (i := 4) (j := 4) B rfl rfl rfl) ex_none) (fun hk => Bool.noConfusion hk) (fun _ => ?_)
              refine sx_fall ?_ rfl
              obtain ⟨t27, h27, hm⟩ := bnd hm
              refine sx_asg (i := 5) (vi := 5) (φ := (dat ((eO (eT PyData.int)) t27))) B T rfl rfl (ex_call (a := (other, one)) (b := t27) (gi := 4) (rest := os) B rfl c_p_turned_onto (by decide) h27 (ax_cons (ex_v (i := 1) (j := 1) B rfl rfl rfl) (ax_cons (ex_v (i := 0) (j := 0) B rfl rfl rfl) ax_nil))) ?_
              cases hq34 : t27 with
              | none =>
                rw [hq34] at hm
                exact nomatch hm
              | some again28 =>
                rw [hq34] at hm
                obtain ⟨t29, h29, hm⟩ := bnd hm
                obtain ⟨t30, h30, hm⟩ := bnd hm
                obtain ⟨t34, h34, hm⟩ := bnd hm
                obtain rfl := som hm
                exact sx_ret (ex_and (l := t34) (os2 := os) (ex_eqR (e := (eT PyData.int)) (x := t29) (y := t30) B (eqv_tup eqv_int) (sh_tup sh_int) (by decide) rdx_dat rdx_dat (ex_call (a := (one, found24)) (b := t29) (gi := 0) (rest := os) B rfl c_p_turned (by decide) h29 (ax_cons (ex_v (i := 0) (j := 0) B rfl rfl rfl) (ax_cons (ex_v (i := 4) (j := 4) B rfl rfl rfl) ax_nil))) (ex_call (a := other) (b := t30) (gi := 3) (rest := os) B rfl c_p_straight (by decide) h30 (ax_cons (ex_v (i := 1) (j := 1) B rfl rfl rfl) ax_nil))) (fun hk => by (have hm := ifT h34 hk; obtain ⟨t33, h33, hm⟩ := bnd hm; obtain rfl := som hm; exact (ex_and (l := t33) (os2 := os) (ex_cmp op_eq r2_eqI (nomark _) (EX.to (ex_fn (j := 8) B rfl g_len (by decide +kernel) call_len_seq (rc_lenT (ds := List.map PyData.int again28) rdt_dat) (ax_cons (ex_v (i := 5) (j := 5) B rfl rfl rfl) ax_nil)) (by rw [List.length_map])) (EX.to (ex_fn (j := 8) B rfl g_len (by decide +kernel) call_len_seq (rc_lenT (ds := List.map PyData.int found24) rdt_dat) (ax_cons (ex_v (i := 4) (j := 4) B rfl rfl rfl) ax_nil)) (by rw [List.length_map]))) (fun hk => by (have hm := ifT h33 hk; obtain ⟨t31, h31, hm⟩ := bnd hm; obtain ⟨t32, h32, hm⟩ := bnd hm; obtain rfl := som hm; exact (ex_one (ex_eqR (e := (eT PyData.int)) (x := t31) (y := t32) B (eqv_tup eqv_int) (sh_tup sh_int) (by decide) rdx_dat rdx_dat (ex_call (a := (other, again28)) (b := t31) (gi := 0) (rest := os) B rfl c_p_turned (by decide) h31 (ax_cons (ex_v (i := 1) (j := 1) B rfl rfl rfl) (ax_cons (ex_v (i := 5) (j := 5) B rfl rfl rfl) ax_nil))) (ex_call (a := one) (b := t32) (gi := 3) (rest := os) B rfl c_p_straight (by decide) h32 (ax_cons (ex_v (i := 0) (j := 0) B rfl rfl rfl) ax_nil)))))) (fun hk => by (have hm := ifF h33 hk; obtain rfl := som hm; rfl)) (and_fix (fun hk => by (have hm := ifF h33 hk; obtain rfl := som hm; rfl)))))) (fun hk => by (have hm := ifF h34 hk; obtain rfl := som hm; rfl)) (and_fix (fun hk => by (have hm := ifF h34 hk; obtain rfl := som hm; rfl)))) (fun F H v e o c => R.rt F H v e o c)
theorem cal_l_turning {P : Program} {w : World} {K : PySem.W.Frag} {mg : Str → Option Value} {base : Heap} {f : Addr} {fd : FuncData} (Fn : Fun K "_law_turning" "_law_turning" s_l_turning f fd) (hmg : mg "_law_turning" = some (.ref f)) (hb : Binds K fd ["_law_one", "_law_other", "_law_by"] []) (c_p_turned : Cal P w K mg base 5 "turned" s_p_turned ["walk", "other"] (sp_p_turned K)) (c_p_least_turned : Cal P w K mg base 5 "least_turned" s_p_least_turned ["walk"] (sp_p_least_turned K)) (c_l_key : Cal P w K mg base 1 "_law_key" s_l_key ["_law_walk_here"] (sp_l_key K)) (c_p_straight : Cal P w K mg base 5 "straight" s_p_straight ["walk"] (sp_p_straight K)) (c_p_turned_onto : Cal P w K mg base 5 "turned_onto" s_p_turned_onto ["one", "other"] (sp_p_turned_onto K)) (c_p_commute : Cal P w K mg base 5 "commute" s_p_commute ["one", "other"] (sp_p_commute K)) (c_p_behind : Cal P w K mg base 5 "behind" s_p_behind ["one", "other"] (sp_p_behind K)) (c_p_back : Cal P w K mg base 5 "back" s_p_back ["walk"] (sp_p_back K)) (g_len : mg "len" = none) : Cal P w K mg base 6 "_law_turning" s_l_turning ["_law_one", "_law_other", "_law_by"] (sp_l_turning K) := by
  obtain ⟨sts_, hst_⟩ : ∃ z_, defBody s_l_turning = z_ := ⟨_, rfl⟩
  exact cal_ZQ (V := V_l_turning) (Gs := G_l_turning) (nl := 3) hst_ Fn sc_l_turning (by decide +kernel) (by decide +kernel) hmg hb (fun _ => rfl) rfl fun _ _ _ _ _ _ _ a b F0 os D B T hm R => body_l_turning rfl hst_ B T c_p_turned c_p_least_turned c_l_key c_p_straight c_p_turned_onto c_p_commute c_p_behind c_p_back g_len a.1 a.2.1 a.2.2 b F0 os D hm R
abbrev s_l_behind : Stmt := top 41
def N_l_behind : List Str := ["_law_one", "_law_other", "_law_third"]
def V_l_behind : List Str := ["_law_one", "_law_other", "_law_third"]
def G_l_behind : List Str := ["behind", "back", "straight", "turned"]
theorem sc_l_behind : FnScope N_l_behind ["_law_one", "_law_other", "_law_third"] (defScope s_l_behind) := ⟨rfl, rfl, rfl, by decide +kernel, rfl, by decide +kernel, by decide +kernel⟩
abbrev sp_l_behind (K : PySem.W.Frag) : Sp := spZ (α := ((List Int) × (List Int) × (List Int))) (β := Bool) (fun a => [(dat (PyData.tuple (List.map PyData.int a.1))), (dat (PyData.tuple (List.map PyData.int a.2.1))), (dat (PyData.tuple (List.map PyData.int a.2.2)))]) (fun a => []) (fun a => m_l_behind a.1 a.2.1 a.2.2) (fun a b => (dat (PyData.bool b))) (fun a b => [])
set_option maxHeartbeats 4000000 in
theorem body_l_behind {X : Cx} (hsc : X.env.scope = defScope s_l_behind) {sts_ : List Stmt} (hst_ : defBody s_l_behind = sts_) (B : Bd X N_l_behind V_l_behind G_l_behind 5) (T : Bt X V_l_behind) (c_p_behind : Cal X.prog X.w X.K X.mg X.base 5 "behind" s_p_behind ["one", "other"] (sp_p_behind X.K)) (c_p_back : Cal X.prog X.w X.K X.mg X.base 5 "back" s_p_back ["walk"] (sp_p_back X.K)) (c_p_straight : Cal X.prog X.w X.K X.mg X.base 5 "straight" s_p_straight ["walk"] (sp_p_straight X.K)) (c_p_turned : Cal X.prog X.w X.K X.mg X.base 5 "turned" s_p_turned ["walk", "other"] (sp_p_turned X.K)) (one : (List Int)) (other : (List Int)) (third : (List Int)) (b : Bool) (F0 : Hp) (os : Os) (D : Ends) (hm : m_l_behind one other third = some b) (R : RetZ F0 (os) (dat (PyData.bool b)) D) :
    SX X [sl (dat (PyData.tuple (List.map PyData.int one))), sl (dat (PyData.tuple (List.map PyData.int other))), sl (dat (PyData.tuple (List.map PyData.int third)))] (os) F0 sts_ D := by
  subst hst_
  unfold m_l_behind at hm
  obtain ⟨t1, h1, hm⟩ := bnd hm
  obtain ⟨t2, h2, hm⟩ := bnd hm
  obtain ⟨t3, h3, hm⟩ := bnd hm
  obtain ⟨t4, h4, hm⟩ := bnd hm
  refine sx_if (tx_neR (e := (eT PyData.int)) (x := t2) (y := t4) B (eqv_tup eqv_int) (sh_tup sh_int) (by decide) rdx_dat rdx_dat (ex_call (a := (t1, third)) (b := t2) (gi := 0) (rest := os) B rfl c_p_behind (by decide) h2 (ax_cons (ex_call (a := (one, other)) (b := t1) (gi := 0) (rest := os) B rfl c_p_behind (by decide) h1 (ax_cons (ex_v (i := 0) (j := 0) B rfl rfl rfl) (ax_cons (ex_v (i := 1) (j := 1) B rfl rfl rfl) ax_nil))) (ax_cons (ex_v (i := 2) (j := 2) B rfl rfl rfl) ax_nil))) (ex_call (a := (one, t3)) (b := t4) (gi := 0) (rest := os) B rfl c_p_behind (by decide) h4 (ax_cons (ex_v (i := 0) (j := 0) B rfl rfl rfl) (ax_cons (ex_call (a := (other, third)) (b := t3) (gi := 0) (rest := os) B rfl c_p_behind (by decide) h3 (ax_cons (ex_v (i := 1) (j := 1) B rfl rfl rfl) (ax_cons (ex_v (i := 2) (j := 2) B rfl rfl rfl) ax_nil))) ax_nil)))) (fun hk => ?_) (fun hk => ?_)
  · have hm := ifT hm hk
    obtain rfl := som hm
    exact sx_ret ex_bool (fun F H v e o c => R.rt F H v e o c)
  · have hm := ifF hm hk
    refine sx_fall ?_ rfl
    obtain ⟨t5, h5, hm⟩ := bnd hm
    obtain ⟨t6, h6, hm⟩ := bnd hm
    obtain ⟨t7, h7, hm⟩ := bnd hm
    obtain ⟨t8, h8, hm⟩ := bnd hm
    obtain ⟨t9, h9, hm⟩ := bnd hm
    obtain ⟨t13, h13, hm⟩ := bnd hm
    refine sx_if (WX.tx (wx_or (l := t13) (os2 := os) (tx_neR (e := (eT PyData.int)) (x := t6) (y := t9) B (eqv_tup eqv_int) (sh_tup sh_int) (by decide) rdx_dat rdx_dat (ex_call (a := t5) (b := t6) (gi := 1) (rest := os) B rfl c_p_back (by decide) h6 (ax_cons (ex_call (a := (one, other)) (b := t5) (gi := 0) (rest := os) B rfl c_p_behind (by decide) h5 (ax_cons (ex_v (i := 0) (j := 0) B rfl rfl rfl) (ax_cons (ex_v (i := 1) (j := 1) B rfl rfl rfl) ax_nil))) ax_nil)) (ex_call (a := (t7, t8)) (b := t9) (gi := 0) (rest := os) B rfl c_p_behind (by decide) h9 (ax_cons (ex_call (a := other) (b := t7) (gi := 1) (rest := os) B rfl c_p_back (by decide) h7 (ax_cons (ex_v (i := 1) (j := 1) B rfl rfl rfl) ax_nil)) (ax_cons (ex_call (a := one) (b := t8) (gi := 1) (rest := os) B rfl c_p_back (by decide) h8 (ax_cons (ex_v (i := 0) (j := 0) B rfl rfl rfl) ax_nil)) ax_nil)))) (fun hk => by (have hm := ifF h13 hk; obtain ⟨t10, h10, hm⟩ := bnd hm; obtain ⟨t11, h11, hm⟩ := bnd hm; obtain ⟨t12, h12, hm⟩ := bnd hm; obtain rfl := som hm; exact (wx_or1 (tx_neR (e := (eT PyData.int)) (x := t11) (y := t12) B (eqv_tup eqv_int) (sh_tup sh_int) (by decide) rdx_dat rdx_dat (ex_call (a := t10) (b := t11) (gi := 1) (rest := os) B rfl c_p_back (by decide) h11 (ax_cons (ex_call (a := one) (b := t10) (gi := 1) (rest := os) B rfl c_p_back (by decide) h10 (ax_cons (ex_v (i := 0) (j := 0) B rfl rfl rfl) ax_nil)) ax_nil)) (ex_call (a := one) (b := t12) (gi := 2) (rest := os) B rfl c_p_straight (by decide) h12 (ax_cons (ex_v (i := 0) (j := 0) B rfl rfl rfl) ax_nil)))))) (fun hk => by (have hm := ifT h13 hk; obtain rfl := som hm; rfl)) (or_fix (fun hk => by (have hm := ifT h13 hk; obtain rfl := som hm; rfl))))) (fun hk => ?_) (fun hk => ?_)
    · have hm := ifT hm hk
      obtain rfl := som hm
      exact sx_ret ex_bool (fun F H v e o c => R.rt F H v e o c)
    · have hm := ifF hm hk
      refine sx_fall ?_ rfl
      obtain ⟨t14, h14, hm⟩ := bnd hm
      obtain ⟨t15, h15, hm⟩ := bnd hm
      obtain ⟨t16, h16, hm⟩ := bnd hm
      obtain ⟨t17, h17, hm⟩ := bnd hm
      obtain ⟨t20, h20, hm⟩ := bnd hm
      refine sx_if (WX.tx (wx_or (l := t20) (os2 := os) (tx_neR (e := (eT PyData.int)) (x := t16) (y := t17) B (eqv_tup eqv_int) (sh_tup sh_int) (by decide) rdx_dat rdx_dat (ex_call (a := (one, t15)) (b := t16) (gi := 0) (rest := os) B rfl c_p_behind (by decide) h16 (ax_cons (ex_v (i := 0) (j := 0) B rfl rfl rfl) (ax_cons (ex_call (a := (t14, other)) (b := t15) (gi := 0) (rest := os) B rfl c_p_behind (by decide) h15 (ax_cons (ex_call (a := one) (b := t14) (gi := 1) (rest := os) B rfl c_p_back (by decide) h14 (ax_cons (ex_v (i := 0) (j := 0) B rfl rfl rfl) ax_nil)) (ax_cons (ex_v (i := 1) (j := 1) B rfl rfl rfl) ax_nil))) ax_nil))) (ex_call (a := other) (b := t17) (gi := 2) (rest := os) B rfl c_p_straight (by decide) h17 (ax_cons (ex_v (i := 1) (j := 1) B rfl rfl rfl) ax_nil))) (fun hk => by (have hm := ifF h20 hk; obtain ⟨t18, h18, hm⟩ := bnd hm; obtain ⟨t19, h19, hm⟩ := bnd hm; obtain rfl := som hm; exact (wx_or1 (tx_neR (e := (eT PyData.int)) (x := t18) (y := t19) B (eqv_tup eqv_int) (sh_tup sh_int) (by decide) rdx_dat rdx_dat (ex_call (a := (one, ([] : (List Int)))) (b := t18) (gi := 0) (rest := os) B rfl c_p_behind (by decide) h18 (ax_cons (ex_v (i := 0) (j := 0) B rfl rfl rfl) (ax_cons (ex_tup (ds := []) ax_nil) ax_nil))) (ex_call (a := one) (b := t19) (gi := 2) (rest := os) B rfl c_p_straight (by decide) h19 (ax_cons (ex_v (i := 0) (j := 0) B rfl rfl rfl) ax_nil)))))) (fun hk => by (have hm := ifT h20 hk; obtain rfl := som hm; rfl)) (or_fix (fun hk => by (have hm := ifT h20 hk; obtain rfl := som hm; rfl))))) (fun hk => ?_) (fun hk => ?_)
      · have hm := ifT hm hk
        obtain rfl := som hm
        exact sx_ret ex_bool (fun F H v e o c => R.rt F H v e o c)
      · have hm := ifF hm hk
        refine sx_fall ?_ rfl
        obtain ⟨t21, h21, hm⟩ := bnd hm
        obtain ⟨t22, h22, hm⟩ := bnd hm
        obtain ⟨t23, h23, hm⟩ := bnd hm
        obtain ⟨t24, h24, hm⟩ := bnd hm
        obtain ⟨t25, h25, hm⟩ := bnd hm
        obtain rfl := som hm
        exact sx_ret (ex_eqR (e := (eT PyData.int)) (x := t22) (y := t25) B (eqv_tup eqv_int) (sh_tup sh_int) (by decide) rdx_dat rdx_dat (ex_call (a := (t21, third)) (b := t22) (gi := 3) (rest := os) B rfl c_p_turned (by decide) h22 (ax_cons (ex_call (a := (one, other)) (b := t21) (gi := 0) (rest := os) B rfl c_p_behind (by decide) h21 (ax_cons (ex_v (i := 0) (j := 0) B rfl rfl rfl) (ax_cons (ex_v (i := 1) (j := 1) B rfl rfl rfl) ax_nil))) (ax_cons (ex_v (i := 2) (j := 2) B rfl rfl rfl) ax_nil))) (ex_call (a := (t23, t24)) (b := t25) (gi := 0) (rest := os) B rfl c_p_behind (by decide) h25 (ax_cons (ex_call (a := (one, third)) (b := t23) (gi := 3) (rest := os) B rfl c_p_turned (by decide) h23 (ax_cons (ex_v (i := 0) (j := 0) B rfl rfl rfl) (ax_cons (ex_v (i := 2) (j := 2) B rfl rfl rfl) ax_nil))) (ax_cons (ex_call (a := (other, third)) (b := t24) (gi := 3) (rest := os) B rfl c_p_turned (by decide) h24 (ax_cons (ex_v (i := 1) (j := 1) B rfl rfl rfl) (ax_cons (ex_v (i := 2) (j := 2) B rfl rfl rfl) ax_nil))) ax_nil)))) (fun F H v e o c => R.rt F H v e o c)
theorem cal_l_behind {P : Program} {w : World} {K : PySem.W.Frag} {mg : Str → Option Value} {base : Heap} {f : Addr} {fd : FuncData} (Fn : Fun K "_law_behind" "_law_behind" s_l_behind f fd) (hmg : mg "_law_behind" = some (.ref f)) (hb : Binds K fd ["_law_one", "_law_other", "_law_third"] []) (c_p_behind : Cal P w K mg base 5 "behind" s_p_behind ["one", "other"] (sp_p_behind K)) (c_p_back : Cal P w K mg base 5 "back" s_p_back ["walk"] (sp_p_back K)) (c_p_straight : Cal P w K mg base 5 "straight" s_p_straight ["walk"] (sp_p_straight K)) (c_p_turned : Cal P w K mg base 5 "turned" s_p_turned ["walk", "other"] (sp_p_turned K)) : Cal P w K mg base 6 "_law_behind" s_l_behind ["_law_one", "_law_other", "_law_third"] (sp_l_behind K) := by
  obtain ⟨sts_, hst_⟩ : ∃ z_, defBody s_l_behind = z_ := ⟨_, rfl⟩
  exact cal_ZQ (V := V_l_behind) (Gs := G_l_behind) (nl := 0) hst_ Fn sc_l_behind (by decide +kernel) (by decide +kernel) hmg hb (fun _ => rfl) rfl fun _ _ _ _ _ _ _ a b F0 os D B T hm R => body_l_behind rfl hst_ B T c_p_behind c_p_back c_p_straight c_p_turned a.1 a.2.1 a.2.2 b F0 os D hm R
abbrev s_l_long : Stmt := top 42
def N_l_long : List Str := ["_law_walk_here", "_law_by", "_law_times", "_law_made", "_law_moved"]
def V_l_long : List Str := ["_law_walk_here", "_law_by", "_law_times", "_law_made", "_law_moved"]
def G_l_long : List Str := ["power", "turned", "len", "commute", "back", "turned_onto", "least_turned"]
theorem sc_l_long : FnScope N_l_long ["_law_walk_here", "_law_by", "_law_times"] (defScope s_l_long) := ⟨rfl, rfl, rfl, by decide +kernel, rfl, by decide +kernel, by decide +kernel⟩
abbrev sp_l_long (K : PySem.W.Frag) : Sp := spZ (α := ((List Int) × (List Int) × Int)) (β := Bool) (fun a => [(dat (PyData.tuple (List.map PyData.int a.1))), (dat (PyData.tuple (List.map PyData.int a.2.1))), (dat (PyData.int a.2.2))]) (fun a => []) (fun a => m_l_long a.1 a.2.1 a.2.2) (fun a b => (dat (PyData.bool b))) (fun a b => [])
set_option maxHeartbeats 4000000 in
theorem body_l_long {X : Cx} (hsc : X.env.scope = defScope s_l_long) {sts_ : List Stmt} (hst_ : defBody s_l_long = sts_) (B : Bd X N_l_long V_l_long G_l_long 5) (T : Bt X V_l_long) (c_p_power : Cal X.prog X.w X.K X.mg X.base 5 "power" s_p_power ["walk", "times"] (sp_p_power X.K)) (c_p_turned : Cal X.prog X.w X.K X.mg X.base 5 "turned" s_p_turned ["walk", "other"] (sp_p_turned X.K)) (g_len : X.mg "len" = none) (c_p_commute : Cal X.prog X.w X.K X.mg X.base 5 "commute" s_p_commute ["one", "other"] (sp_p_commute X.K)) (c_p_back : Cal X.prog X.w X.K X.mg X.base 5 "back" s_p_back ["walk"] (sp_p_back X.K)) (c_p_turned_onto : Cal X.prog X.w X.K X.mg X.base 5 "turned_onto" s_p_turned_onto ["one", "other"] (sp_p_turned_onto X.K)) (c_p_least_turned : Cal X.prog X.w X.K X.mg X.base 5 "least_turned" s_p_least_turned ["walk"] (sp_p_least_turned X.K)) (walk_here : (List Int)) (by_ : (List Int)) (times : Int) (b : Bool) (F0 : Hp) (os : Os) (D : Ends) (hm : m_l_long walk_here by_ times = some b) (R : RetZ F0 (os) (dat (PyData.bool b)) D) :
    SX X [sl (dat (PyData.tuple (List.map PyData.int walk_here))), sl (dat (PyData.tuple (List.map PyData.int by_))), sl (dat (PyData.int times)), un, un] (os) F0 sts_ D := by
  subst hst_
  unfold m_l_long at hm
  obtain ⟨t1, h1, hm⟩ := bnd hm
  obtain ⟨t2, h2, hm⟩ := bnd hm
  refine sx_par2 (i := 3) (j := 4) _ hsc B rfl rfl (by decide) (by decide +kernel) (by decide +kernel) (by intro env he; cases env; cases he; first | rfl | kernel_rfl) (aq_x (φ := (dat (PyData.tuple (List.map PyData.int t1)))) (ex_call (a := (walk_here, times)) (b := t1) (gi := 0) (rest := os) B rfl c_p_power (by decide) h1 (ax_cons (ex_v (i := 0) (j := 0) B rfl rfl rfl) (ax_cons (ex_v (i := 2) (j := 2) B rfl rfl rfl) ax_nil))) (aq_x (φ := (dat (PyData.tuple (List.map PyData.int t2)))) (ex_call (a := (walk_here, by_)) (b := t2) (gi := 1) (rest := os) B rfl c_p_turned (by decide) h2 (ax_cons (ex_v (i := 0) (j := 0) B rfl rfl rfl) (ax_cons (ex_v (i := 1) (j := 1) B rfl rfl rfl) ax_nil))) aq_nil)) (fun v0 v1 os_ hr_ => ?_) (by rintro φs os_ ⟨_, rfl, _, rfl, rfl, rfl⟩; exact ⟨_, _, rfl⟩)
  obtain ⟨_, e0, _, e1, e8, e9⟩ := hr_
  cases e0; cases e1; cases e8; cases e9
  refine sx_if (WX.tx (wx_or (tx_cmp op_gt r2_gt (nomark _) (EX.to (ex_fn (j := 2) B rfl g_len (by decide +kernel) call_len_seq (rc_lenT (ds := List.map PyData.int t1) rdt_dat) (ax_cons (ex_v (i := 3) (j := 3) B rfl rfl rfl) ax_nil)) (by rw [List.length_map])) ex_int) (fun _ => (wx_or1 (tx_cmp op_eq r2_eqI (nomark _) (ex_v (i := 2) (j := 2) B rfl rfl rfl) ex_int))) (fun _ => rfl) rfl)) (fun hk => ?_) (fun hk => ?_)
  · have hm := ifT hm hk
    obtain rfl := som hm
    exact sx_ret ex_bool (fun F H v e o c => R.rt F H v e o c)
  · have hm := ifF hm hk
    refine sx_fall ?_ rfl
    obtain ⟨t3, h3, hm⟩ := bnd hm
    obtain ⟨t4, h4, hm⟩ := bnd hm
    obtain ⟨t9, h9, hm⟩ := bnd hm
    refine sx_if (WX.tx (wx_or (l := t9) (os2 := os) (tx_neR (e := (eT PyData.int)) (x := t3) (y := t4) B (eqv_tup eqv_int) (sh_tup sh_int) (by decide) rdx_dat rdx_dat (ex_call (a := (t1, by_)) (b := t3) (gi := 1) (rest := os) B rfl c_p_turned (by decide) h3 (ax_cons (ex_v (i := 3) (j := 3) B rfl rfl rfl) (ax_cons (ex_v (i := 1) (j := 1) B rfl rfl rfl) ax_nil))) (ex_call (a := (t2, times)) (b := t4) (gi := 0) (rest := os) B rfl c_p_power (by decide) h4 (ax_cons (ex_v (i := 4) (j := 4) B rfl rfl rfl) (ax_cons (ex_v (i := 2) (j := 2) B rfl rfl rfl) ax_nil)))) (fun hk => by (have hm := ifF h9 hk; obtain ⟨t5, h5, hm⟩ := bnd hm; obtain ⟨t8, h8, hm⟩ := bnd hm; obtain rfl := som hm; exact (wx_or (l := t8) (os2 := os) (tx_not (tx_val (ex_call (a := (t1, walk_here)) (b := t5) (gi := 3) (rest := os) B rfl c_p_commute (by decide) h5 (ax_cons (ex_v (i := 3) (j := 3) B rfl rfl rfl) (ax_cons (ex_v (i := 0) (j := 0) B rfl rfl rfl) ax_nil))) (by intro _; rfl))) (fun hk => by (have hm := ifF h8 hk; obtain ⟨t6, h6, hm⟩ := bnd hm; obtain ⟨t7, h7, hm⟩ := bnd hm; obtain rfl := som hm; exact (wx_or1 (tx_not (tx_val (ex_call (a := (walk_here, t6)) (b := t7) (gi := 3) (rest := os) B rfl c_p_commute (by decide) h7 (ax_cons (ex_v (i := 0) (j := 0) B rfl rfl rfl) (ax_cons (ex_call (a := t1) (b := t6) (gi := 4) (rest := os) B rfl c_p_back (by decide) h6 (ax_cons (ex_v (i := 3) (j := 3) B rfl rfl rfl) ax_nil)) ax_nil))) (by intro _; rfl)))))) (fun hk => by (have hm := ifT h8 hk; obtain rfl := som hm; rfl)) (or_fix (fun hk => by (have hm := ifT h8 hk; obtain rfl := som hm; rfl)))))) (fun hk => by (have hm := ifT h9 hk; obtain rfl := som hm; rfl)) (or_fix (fun hk => by (have hm := ifT h9 hk; obtain rfl := som hm; rfl))))) (fun hk => ?_) (fun hk => ?_)
    · have hm := ifT hm hk
      obtain rfl := som hm
      exact sx_ret ex_bool (fun F H v e o c => R.rt F H v e o c)
    · have hm := ifF hm hk
      refine sx_fall ?_ rfl
      obtain ⟨t10, h10, hm⟩ := bnd hm
      obtain ⟨t11, h11, hm⟩ := bnd hm
      obtain ⟨t12, h12, hm⟩ := bnd hm
      refine sx_if (tx_neR (e := (eO (eT PyData.int))) (x := t11) (y := t12) B (eqv_opt (eqv_tup eqv_int) non_tup) (sh_opt (sh_tup sh_int)) (by decide) rdx_dat rdx_dat (ex_call (a := (t1, t10)) (b := t11) (gi := 5) (rest := os) B rfl c_p_turned_onto (by decide) h11 (ax_cons (ex_v (i := 3) (j := 3) B rfl rfl rfl) (ax_cons (ex_call (a := (t1, by_)) (b := t10) (gi := 1) (rest := os) B rfl c_p_turned (by decide) h10 (ax_cons (ex_v (i := 3) (j := 3) B rfl rfl rfl) (ax_cons (ex_v (i := 1) (j := 1) B rfl rfl rfl) ax_nil))) ax_nil))) (ex_call (a := (walk_here, t2)) (b := t12) (gi := 5) (rest := os) B rfl c_p_turned_onto (by decide) h12 (ax_cons (ex_v (i := 0) (j := 0) B rfl rfl rfl) (ax_cons (ex_v (i := 4) (j := 4) B rfl rfl rfl) ax_nil)))) (fun hk => ?_) (fun hk => ?_)
      · have hm := ifT hm hk
        obtain rfl := som hm
        exact sx_ret ex_bool (fun F H v e o c => R.rt F H v e o c)
      · have hm := ifF hm hk
        refine sx_fall ?_ rfl
        obtain ⟨t16, h16, hm⟩ := bnd hm
        obtain rfl := som hm
        exact sx_ret (ex_or (l := t16) (os2 := os) (ex_cmp op_lt r2_lt (nomark _) (ex_v (i := 2) (j := 2) B rfl rfl rfl) ex_int) (fun hk => by (have hm := ifF h16 hk; obtain ⟨t13, h13, hm⟩ := bnd hm; obtain ⟨t14, h14, hm⟩ := bnd hm; obtain ⟨t15, h15, hm⟩ := bnd hm; obtain rfl := som hm; exact (ex_one (ex_eqR (e := (eT PyData.int)) (x := t13) (y := t15) B (eqv_tup eqv_int) (sh_tup sh_int) (by decide) rdx_dat rdx_dat (ex_call (a := t1) (b := t13) (gi := 6) (rest := os) B rfl c_p_least_turned (by decide) h13 (ax_cons (ex_v (i := 3) (j := 3) B rfl rfl rfl) ax_nil)) (ex_call (a := (t14, times)) (b := t15) (gi := 0) (rest := os) B rfl c_p_power (by decide) h15 (ax_cons (ex_call (a := walk_here) (b := t14) (gi := 6) (rest := os) B rfl c_p_least_turned (by decide) h14 (ax_cons (ex_v (i := 0) (j := 0) B rfl rfl rfl) ax_nil)) (ax_cons (ex_v (i := 2) (j := 2) B rfl rfl rfl) ax_nil))))))) (fun hk => by (have hm := ifT h16 hk; obtain rfl := som hm; rfl)) (or_fix (fun hk => by (have hm := ifT h16 hk; obtain rfl := som hm; rfl)))) (fun F H v e o c => R.rt F H v e o c)
theorem cal_l_long {P : Program} {w : World} {K : PySem.W.Frag} {mg : Str → Option Value} {base : Heap} {f : Addr} {fd : FuncData} (Fn : Fun K "_law_long" "_law_long" s_l_long f fd) (hmg : mg "_law_long" = some (.ref f)) (hb : Binds K fd ["_law_walk_here", "_law_by", "_law_times"] []) (c_p_power : Cal P w K mg base 5 "power" s_p_power ["walk", "times"] (sp_p_power K)) (c_p_turned : Cal P w K mg base 5 "turned" s_p_turned ["walk", "other"] (sp_p_turned K)) (g_len : mg "len" = none) (c_p_commute : Cal P w K mg base 5 "commute" s_p_commute ["one", "other"] (sp_p_commute K)) (c_p_back : Cal P w K mg base 5 "back" s_p_back ["walk"] (sp_p_back K)) (c_p_turned_onto : Cal P w K mg base 5 "turned_onto" s_p_turned_onto ["one", "other"] (sp_p_turned_onto K)) (c_p_least_turned : Cal P w K mg base 5 "least_turned" s_p_least_turned ["walk"] (sp_p_least_turned K)) : Cal P w K mg base 6 "_law_long" s_l_long ["_law_walk_here", "_law_by", "_law_times"] (sp_l_long K) := by
  obtain ⟨sts_, hst_⟩ : ∃ z_, defBody s_l_long = z_ := ⟨_, rfl⟩
  exact cal_ZQ (V := V_l_long) (Gs := G_l_long) (nl := 2) hst_ Fn sc_l_long (by decide +kernel) (by decide +kernel) hmg hb (fun _ => rfl) rfl fun _ _ _ _ _ _ _ a b F0 os D B T hm R => body_l_long rfl hst_ B T c_p_power c_p_turned g_len c_p_commute c_p_back c_p_turned_onto c_p_least_turned a.1 a.2.1 a.2.2 b F0 os D hm R
abbrev s_l_right : Stmt := top 43
def N_l_right : List Str := ["_law_well_here", "_law_letters", "_law_short", "_law_long_here", "_law_by", "_law_third", "_law_first", "_law_second", "_law_made", "_law_also", "_law_walks", "_law_walk_here", "_law_other"]
def V_l_right : List Str := ["_law_well_here", "_law_letters", "_law_short", "_law_long_here", "_law_by", "_law_third", "_law_first", "_law_second", "_law_made", "_law_also", "_law_walks", "_law_walk_here", "_law_other"]
def G_l_right : List Str := ["_law_take", "_law_walk", "power", "turned", "back", "least_turned", "_law_behind", "_law_added", "_law_rooted", "len", "_law_commuting", "_law_turning", "_law_long"]
theorem sc_l_right : FnScope N_l_right ["_law_well_here"] (defScope s_l_right) := ⟨rfl, rfl, rfl, by decide +kernel, rfl, by decide +kernel, by decide +kernel⟩
abbrev sp_l_right (K : PySem.W.Frag) : Sp := spZ (α := (Addr × (List Int))) (β := (Bool × (List Int))) (fun a => [own a.1]) (fun a => (a.1, ol (List.map PyData.int a.2)) :: []) (fun a => m_l_right a.2) (fun a b => (dat (PyData.bool b.1))) (fun a b => (a.1, ol (List.map PyData.int b.2)) :: [])
set_option maxHeartbeats 4000000 in
theorem body_l_right {X : Cx} (hsc : X.env.scope = defScope s_l_right) {sts_ : List Stmt} (hst_ : defBody s_l_right = sts_) (B : Bd X N_l_right V_l_right G_l_right 6) (T : Bt X V_l_right) (c_l_take : Cal X.prog X.w X.K X.mg X.base 1 "_law_take" s_l_take ["_law_well_here", "_law_many"] (sp_l_take X.K)) (c_l_walk : Cal X.prog X.w X.K X.mg X.base 2 "_law_walk" s_l_walk ["_law_well_here", "_law_letters", "_law_most"] (sp_l_walk X.K)) (c_p_power : Cal X.prog X.w X.K X.mg X.base 5 "power" s_p_power ["walk", "times"] (sp_p_power X.K)) (c_p_turned : Cal X.prog X.w X.K X.mg X.base 5 "turned" s_p_turned ["walk", "other"] (sp_p_turned X.K)) (c_p_back : Cal X.prog X.w X.K X.mg X.base 5 "back" s_p_back ["walk"] (sp_p_back X.K)) (c_p_least_turned : Cal X.prog X.w X.K X.mg X.base 5 "least_turned" s_p_least_turned ["walk"] (sp_p_least_turned X.K)) (g_len : X.mg "len" = none) (c_l_behind : Cal X.prog X.w X.K X.mg X.base 6 "_law_behind" s_l_behind ["_law_one", "_law_other", "_law_third"] (sp_l_behind X.K)) (c_l_added : Cal X.prog X.w X.K X.mg X.base 6 "_law_added" s_l_added ["_law_walk_here", "_law_first", "_law_second"] (sp_l_added X.K)) (c_l_rooted : Cal X.prog X.w X.K X.mg X.base 6 "_law_rooted" s_l_rooted ["_law_walk_here", "_law_other", "_law_times"] (sp_l_rooted X.K)) (c_l_commuting : Cal X.prog X.w X.K X.mg X.base 6 "_law_commuting" s_l_commuting ["_law_one", "_law_other"] (sp_l_commuting X.K)) (c_l_turning : Cal X.prog X.w X.K X.mg X.base 6 "_law_turning" s_l_turning ["_law_one", "_law_other", "_law_by"] (sp_l_turning X.K)) (c_l_long : Cal X.prog X.w X.K X.mg X.base 6 "_law_long" s_l_long ["_law_walk_here", "_law_by", "_law_times"] (sp_l_long X.K)) (q_well_here : Addr) (w_well_here : (List Int)) (b : (Bool × (List Int))) (F0 : Hp) (os : Os) (D : Ends) (hm : m_l_right w_well_here = some b) (R : RetZ F0 ((q_well_here, ol (List.map PyData.int b.2)) :: os) (dat (PyData.bool b.1)) D) :
    SX X [sl (own q_well_here), un, un, un, un, un, un, un, un, un, un, un, un] ((q_well_here, ol (List.map PyData.int w_well_here)) :: os) F0 sts_ D := by
  subst hst_
  unfold m_l_right at hm
  obtain ⟨t1, h1, hm⟩ := bnd hm
  refine sx_asg (i := 1) (vi := 1) (φ := (dat (PyData.int (1 + t1.1)))) B T rfl rfl (ex_add ex_int (ex_call (a := (q_well_here, w_well_here, 4)) (b := t1) (gi := 0) (rest := os) B rfl c_l_take (by decide) h1 (ax_cons (ex_v (i := 0) (j := 0) B rfl rfl rfl) (ax_cons ex_int ax_nil)))) ?_
  obtain ⟨t2, h2, hm⟩ := bnd hm
  obtain ⟨t3, h3, hm⟩ := bnd hm
  refine sx_par2 (i := 2) (j := 3) _ hsc B rfl rfl (by decide) (by decide +kernel) (by decide +kernel) (by intro env he; cases env; cases he; first | rfl | kernel_rfl) (aq_x (φ := (dat (PyData.tuple (List.map PyData.int t2.1)))) (ex_call (a := (q_well_here, t1.2, (1 + t1.1), 6)) (b := t2) (gi := 1) (rest := os) B rfl c_l_walk (by decide) h2 (ax_cons (ex_v (i := 0) (j := 0) B rfl rfl rfl) (ax_cons (ex_v (i := 1) (j := 1) B rfl rfl rfl) (ax_cons ex_int ax_nil)))) (aq_x (φ := (dat (PyData.tuple (List.map PyData.int t3.1)))) (ex_call (a := (q_well_here, t2.2, (1 + t1.1), 20)) (b := t3) (gi := 1) (rest := os) B rfl c_l_walk (by decide) h3 (ax_cons (ex_v (i := 0) (j := 0) B rfl rfl rfl) (ax_cons (ex_v (i := 1) (j := 1) B rfl rfl rfl) (ax_cons ex_int ax_nil)))) aq_nil)) (fun v0 v1 os_ hr_ => ?_) (by rintro φs os_ ⟨_, rfl, _, rfl, rfl, rfl⟩; exact ⟨_, _, rfl⟩)
  obtain ⟨_, e0, _, e1, e8, e9⟩ := hr_
  cases e0; cases e1; cases e8; cases e9
  obtain ⟨t4, h4, hm⟩ := bnd hm
  obtain ⟨t5, h5, hm⟩ := bnd hm
  refine sx_par2 (i := 4) (j := 5) _ hsc B rfl rfl (by decide) (by decide +kernel) (by decide +kernel) (by intro env he; cases env; cases he; first | rfl | kernel_rfl) (aq_x (φ := (dat (PyData.tuple (List.map PyData.int t4.1)))) (ex_call (a := (q_well_here, t3.2, (1 + t1.1), 6)) (b := t4) (gi := 1) (rest := os) B rfl c_l_walk (by decide) h4 (ax_cons (ex_v (i := 0) (j := 0) B rfl rfl rfl) (ax_cons (ex_v (i := 1) (j := 1) B rfl rfl rfl) (ax_cons ex_int ax_nil)))) (aq_x (φ := (dat (PyData.tuple (List.map PyData.int t5.1)))) (ex_call (a := (q_well_here, t4.2, (1 + t1.1), 20)) (b := t5) (gi := 1) (rest := os) B rfl c_l_walk (by decide) h5 (ax_cons (ex_v (i := 0) (j := 0) B rfl rfl rfl) (ax_cons (ex_v (i := 1) (j := 1) B rfl rfl rfl) (ax_cons ex_int ax_nil)))) aq_nil)) (fun v0 v1 os_ hr_ => ?_) (by rintro φs os_ ⟨_, rfl, _, rfl, rfl, rfl⟩; exact ⟨_, _, rfl⟩)
  obtain ⟨_, e0, _, e1, e8, e9⟩ := hr_
  cases e0; cases e1; cases e8; cases e9
  obtain ⟨t6, h6, hm⟩ := bnd hm
  obtain ⟨t7, h7, hm⟩ := bnd hm
  refine sx_par2 (i := 6) (j := 7) _ hsc B rfl rfl (by decide) (by decide +kernel) (by decide +kernel) (by intro env he; cases env; cases he; first | rfl | kernel_rfl) (aq_x (φ := (dat (PyData.int (t6.1 - 20)))) (ex_sub (ex_call (a := (q_well_here, t5.2, 41)) (b := t6) (gi := 0) (rest := os) B rfl c_l_take (by decide) h6 (ax_cons (ex_v (i := 0) (j := 0) B rfl rfl rfl) (ax_cons ex_int ax_nil))) ex_int) (aq_x (φ := (dat (PyData.int (t7.1 - 6)))) (ex_sub (ex_call (a := (q_well_here, t6.2, 13)) (b := t7) (gi := 0) (rest := os) B rfl c_l_take (by decide) h7 (ax_cons (ex_v (i := 0) (j := 0) B rfl rfl rfl) (ax_cons ex_int ax_nil))) ex_int) aq_nil)) (fun v0 v1 os_ hr_ => ?_) (by rintro φs os_ ⟨_, rfl, _, rfl, rfl, rfl⟩; exact ⟨_, _, rfl⟩)
  obtain ⟨_, e0, _, e1, e8, e9⟩ := hr_
  cases e0; cases e1; cases e8; cases e9
  obtain ⟨t8, h8, hm⟩ := bnd hm
  obtain ⟨t9, h9, hm⟩ := bnd hm
  refine sx_par2 (i := 8) (j := 9) _ hsc B rfl rfl (by decide) (by decide +kernel) (by decide +kernel) (by intro env he; cases env; cases he; first | rfl | kernel_rfl) (aq_x (φ := (dat (PyData.tuple (List.map PyData.int t8)))) (ex_call (a := (t2.1, (t6.1 - 20))) (b := t8) (gi := 2) (rest := (q_well_here, ol (List.map PyData.int t7.2)) :: os) B rfl c_p_power (by decide) h8 (ax_cons (ex_v (i := 2) (j := 2) B rfl rfl rfl) (ax_cons (ex_v (i := 6) (j := 6) B rfl rfl rfl) ax_nil))) (aq_x (φ := (dat (PyData.tuple (List.map PyData.int t9)))) (ex_call (a := (t2.1, (t7.1 - 6))) (b := t9) (gi := 2) (rest := (q_well_here, ol (List.map PyData.int t7.2)) :: os) B rfl c_p_power (by decide) h9 (ax_cons (ex_v (i := 2) (j := 2) B rfl rfl rfl) (ax_cons (ex_v (i := 7) (j := 7) B rfl rfl rfl) ax_nil))) aq_nil)) (fun v0 v1 os_ hr_ => ?_) (by rintro φs os_ ⟨_, rfl, _, rfl, rfl, rfl⟩; exact ⟨_, _, rfl⟩)
  obtain ⟨_, e0, _, e1, e8, e9⟩ := hr_
  cases e0; cases e1; cases e8; cases e9
  obtain ⟨t10, h10, hm⟩ := bnd hm
  obtain ⟨t11, h11, hm⟩ := bnd hm
  obtain ⟨t12, h12, hm⟩ := bnd hm
  refine sx_asg (i := 10) (vi := 10) (φ := (dat (PyData.list (List.map (eT PyData.int) ([t2.1, t3.1, t10, t8, t9, t11, t12, []]))))) B T rfl rfl (EN.ex (en_lst (ds := [(PyData.tuple (List.map PyData.int t2.1)), (PyData.tuple (List.map PyData.int t3.1)), (PyData.tuple (List.map PyData.int t10)), (PyData.tuple (List.map PyData.int t8)), (PyData.tuple (List.map PyData.int t9)), (PyData.tuple (List.map PyData.int t11)), (PyData.tuple (List.map PyData.int t12)), (PyData.tuple (List.map PyData.int ([])))]) (hl := len_ok (n := 8) rfl) (ax_cons (ex_v (i := 2) (j := 2) B rfl rfl rfl) (ax_cons (ex_v (i := 3) (j := 3) B rfl rfl rfl) (ax_cons (ex_call (a := (t2.1, t4.1)) (b := t10) (gi := 3) (rest := (q_well_here, ol (List.map PyData.int t7.2)) :: os) B rfl c_p_turned (by decide) h10 (ax_cons (ex_v (i := 2) (j := 2) B rfl rfl rfl) (ax_cons (ex_v (i := 4) (j := 4) B rfl rfl rfl) ax_nil))) (ax_cons (ex_v (i := 8) (j := 8) B rfl rfl rfl) (ax_cons (ex_v (i := 9) (j := 9) B rfl rfl rfl) (ax_cons (ex_call (a := t2.1) (b := t11) (gi := 4) (rest := (q_well_here, ol (List.map PyData.int t7.2)) :: os) B rfl c_p_back (by decide) h11 (ax_cons (ex_v (i := 2) (j := 2) B rfl rfl rfl) ax_nil)) (ax_cons (ex_call (a := t3.1) (b := t12) (gi := 5) (rest := (q_well_here, ol (List.map PyData.int t7.2)) :: os) B rfl c_p_least_turned (by decide) h12 (ax_cons (ex_v (i := 3) (j := 3) B rfl rfl rfl) ax_nil)) (ax_cons (ex_tup (ds := []) ax_nil) ax_nil)))))))))) ?_
  obtain ⟨t15, h15, hm⟩ := bnd hm
  refine sx_asgLc (i := 10) B T rfl (by rw [hsc]; exact lcl_of (by decide +kernel)) (lc_mk1 (j := 11) (vp := fun walk_here13 => (dat (PyData.tuple (List.map PyData.int walk_here13)))) (c := anyOs) (enc := (eT PyData.int)) (fun (_ : Unit) (walk_here13 : (List Int)) => some (if (decide ((walk_here13.length : Int) ≤ 60)) = true then some walk_here13 else none, ())) (fun (_ : Unit) (tl1 : Os) => (q_well_here, ol (List.map PyData.int t7.2)) :: tl1) () (t15) () B rfl rfl (by rw [B.hN, hsc]; decide +kernel) (by rw [hsc]; decide +kernel) (by decide) (lcF_ok h15) (ix_list (enc := (eT PyData.int)) (c := anyOs) (ex_v (i := 10) (j := 10) B rfl rfl rfl) (fun _ _ => rdl_dat) trivial) (fun _ _ => trivial) (fun _ _ _ => (List.Perm.swap _ _ _)) (fun _ walk_here13 t tl1 hx hf => by (obtain rfl := som hf; exact ⟨(decide ((walk_here13.length : Int) ≤ 60)), _, fun X1 hX => by (have B1 := Bd.fam (W' := ["_law_walk_here"]) (G' := ["len"]) B hX (by (try rw [hsc]); decide +kernel); have g_len' := fam_mg hX g_len; exact ⟨.one (tx_cmp op_le r2_le (nomark _) (EX.to (ex_fn (j := 0) B1 rfl g_len' (by decide +kernel) call_len_seq (rc_lenT (ds := List.map PyData.int walk_here13) rdt_dat) (ax_cons (ex_v (i := 11) (j := 0) B1 rfl rfl rfl) ax_nil)) (by rw [List.length_map])) ex_int), fun h => ⟨_, if_pos h, (ex_v (i := 11) (j := 0) B1 rfl rfl rfl)⟩, fun h => ⟨(by first | exact if_neg (by rw [h]; exact Bool.false_ne_true) | rfl), rfl⟩⟩)⟩))) (sw_ok (by rw [hsc]; decide +kernel) (by rw [hsc]; exact lcl_of (by decide +kernel)) (by decide) (by decide +kernel)) (fun q_walks15 => ?_)
  refine sx_frz (j := 0) (i := 10) rfl rfl ?_
  obtain ⟨f18o, h40, hm⟩ := bnd hm
  refine sx_forR (c := anyOs) _ (fun (s16 : (List Int)) (_ : Unit) => [sl (own q_well_here), sl (dat (PyData.int (1 + t1.1))), sl (dat (PyData.tuple (List.map PyData.int t2.1))), sl (dat (PyData.tuple (List.map PyData.int t3.1))), sl (dat (PyData.tuple (List.map PyData.int t4.1))), sl (dat (PyData.tuple (List.map PyData.int t5.1))), sl (dat (PyData.int (t6.1 - 20))), sl (dat (PyData.int (t7.1 - 6))), sl (dat (PyData.tuple (List.map PyData.int t8))), sl (dat (PyData.tuple (List.map PyData.int t9))), sl (dat (PyData.list (List.map (eT PyData.int) t15))), un, un]) (fun (s16 : (List Int)) (_ : Unit) => (q_well_here, ol (List.map PyData.int s16)) :: os) (fun (r : (Bool × (List Int))) v H => ∃ F, Same F0 F ∧ Ow F ((q_well_here, ol (List.map PyData.int r.2)) :: os) H ∧ Cl (dat (PyData.bool r.1)) F v) B T (fun walk_here17 => gx_name (i := 11) (vi := 11) (φ := (dat (PyData.tuple (List.map PyData.int walk_here17)))) B T rfl rfl) t7.2 () f18o h40 (ix_list (enc := (eT PyData.int)) (c := anyOs) (ex_v (i := 10) (j := 10) B rfl rfl rfl) (fun _ _ => rdl_dat) trivial) ⟨.inl rfl, .inl rfl, .inl rfl, .inl rfl, .inl rfl, .inl rfl, .inl rfl, .inl rfl, .inl rfl, .inl rfl, .inl rfl, .inl rfl, .inl rfl, trivial⟩ (fun _ _ => trivial) (fun F20 e19 s16 _ walk_here17 z50 hx hm2 => ?_) (fun f18 _ ho => ?_) (fun r49 v H ho hr => ?_)
  · clear hm h40
    have hm := hm2
    obtain ⟨t21, h21, hm⟩ := bnd hm
    obtain ⟨t23, h23, hm⟩ := bnd hm
    refine sx_if (WX.tx (wx_or (l := t23) (os2 := (q_well_here, ol (List.map PyData.int s16)) :: os) (tx_not (tx_val (ex_call (a := (walk_here17, t2.1, t3.1)) (b := t21) (gi := 6) (rest := (q_well_here, ol (List.map PyData.int s16)) :: os) B rfl c_l_behind (by decide) h21 (ax_cons (ex_v (i := 11) (j := 11) B rfl rfl rfl) (ax_cons (ex_v (i := 2) (j := 2) B rfl rfl rfl) (ax_cons (ex_v (i := 3) (j := 3) B rfl rfl rfl) ax_nil)))) (by intro _; rfl))) (fun hk => by (have hm := ifF h23 hk; obtain ⟨t22, h22, hm⟩ := bnd hm; obtain rfl := som hm; exact (wx_or1 (tx_not (tx_val (ex_call (a := (t3.1, walk_here17, t5.1)) (b := t22) (gi := 6) (rest := (q_well_here, ol (List.map PyData.int s16)) :: os) B rfl c_l_behind (by decide) h22 (ax_cons (ex_v (i := 3) (j := 3) B rfl rfl rfl) (ax_cons (ex_v (i := 11) (j := 11) B rfl rfl rfl) (ax_cons (ex_v (i := 5) (j := 5) B rfl rfl rfl) ax_nil)))) (by intro _; rfl)))))) (fun hk => by (have hm := ifT h23 hk; obtain rfl := som hm; rfl)) (or_fix (fun hk => by (have hm := ifT h23 hk; obtain rfl := som hm; rfl))))) (fun hk => ?_) (fun hk => ?_)
    · have hm := ifT hm hk
      exact sx_ret ex_bool (fun F H v e o c => ⟨_, (som hm).symm, F, (e19.trans e), o, c⟩)
    · have hm := ifF hm hk
      refine sx_fall ?_ rfl
      obtain ⟨t24, h24, hm⟩ := bnd hm
      obtain ⟨t26, h26, hm⟩ := bnd hm
      refine sx_if (WX.tx (wx_or (l := t26) (os2 := (q_well_here, ol (List.map PyData.int s16)) :: os) (tx_not (tx_val (ex_call (a := (walk_here17, (t6.1 - 20), (t7.1 - 6))) (b := t24) (gi := 7) (rest := (q_well_here, ol (List.map PyData.int s16)) :: os) B rfl c_l_added (by decide) h24 (ax_cons (ex_v (i := 11) (j := 11) B rfl rfl rfl) (ax_cons (ex_v (i := 6) (j := 6) B rfl rfl rfl) (ax_cons (ex_v (i := 7) (j := 7) B rfl rfl rfl) ax_nil)))) (by intro _; rfl))) (fun hk => by (have hm := ifF h26 hk; obtain ⟨t25, h25, hm⟩ := bnd hm; obtain rfl := som hm; exact (wx_or1 (tx_not (tx_val (ex_call (a := (walk_here17, t4.1, (t7.1 - 6))) (b := t25) (gi := 8) (rest := (q_well_here, ol (List.map PyData.int s16)) :: os) B rfl c_l_rooted (by decide) h25 (ax_cons (ex_v (i := 11) (j := 11) B rfl rfl rfl) (ax_cons (ex_v (i := 4) (j := 4) B rfl rfl rfl) (ax_cons (ex_v (i := 7) (j := 7) B rfl rfl rfl) ax_nil)))) (by intro _; rfl)))))) (fun hk => by (have hm := ifT h26 hk; obtain rfl := som hm; rfl)) (or_fix (fun hk => by (have hm := ifT h26 hk; obtain rfl := som hm; rfl))))) (fun hk => ?_) (fun hk => ?_)
      · have hm := ifT hm hk
        exact sx_ret ex_bool (fun F H v e o c => ⟨_, (som hm).symm, F, (e19.trans e), o, c⟩)
      · have hm := ifF hm hk
        refine sx_fall ?_ rfl
        obtain ⟨t27, h27, hm⟩ := bnd hm
        obtain ⟨t28, h28, hm⟩ := bnd hm
        obtain ⟨f31o, h37, hm⟩ := bnd hm
        refine sx_forR (c := anyOs) _ (fun (s29 : Unit) (_ : Unit) => [sl (own q_well_here), sl (dat (PyData.int (1 + t1.1))), sl (dat (PyData.tuple (List.map PyData.int t2.1))), sl (dat (PyData.tuple (List.map PyData.int t3.1))), sl (dat (PyData.tuple (List.map PyData.int t4.1))), sl (dat (PyData.tuple (List.map PyData.int t5.1))), sl (dat (PyData.int (t6.1 - 20))), sl (dat (PyData.int (t7.1 - 6))), sl (dat (PyData.tuple (List.map PyData.int t8))), sl (dat (PyData.tuple (List.map PyData.int t9))), sl (dat (PyData.list (List.map (eT PyData.int) t15))), sl (dat (PyData.tuple (List.map PyData.int walk_here17))), un]) (fun (s29 : Unit) (_ : Unit) => (q_well_here, ol (List.map PyData.int t27.2)) :: os) (fun (r : (Bool × (List Int))) v H => ∃ F, Same F0 F ∧ Ow F ((q_well_here, ol (List.map PyData.int r.2)) :: os) H ∧ Cl (dat (PyData.bool r.1)) F v) B T (fun other30 => gx_name (i := 12) (vi := 12) (φ := (dat (PyData.tuple (List.map PyData.int other30)))) B T rfl rfl) () () f31o h37 (ix_list (enc := (eT PyData.int)) (c := anyOs) (EN.ex (en_lst (ds := [(PyData.tuple (List.map PyData.int t2.1)), (PyData.tuple (List.map PyData.int t3.1)), (PyData.tuple (List.map PyData.int t28))]) (hl := len_ok (n := 3) rfl) (ax_cons (ex_v (i := 2) (j := 2) B rfl rfl rfl) (ax_cons (ex_v (i := 3) (j := 3) B rfl rfl rfl) (ax_cons (ex_idxL (enc := (eT PyData.int)) h28 rdl_dat (ex_v (i := 10) (j := 10) B rfl rfl rfl) (ex_call (a := (q_well_here, s16, (t15.length : Int))) (b := t27) (gi := 0) (rest := os) B rfl c_l_take (by decide) h27 (ax_cons (ex_v (i := 0) (j := 0) B rfl rfl rfl) (ax_cons (EX.to (ex_fn (j := 9) B rfl g_len (by decide +kernel) call_len_seq (rc_lenL (ds := List.map (eT PyData.int) t15) rdl_dat) (ax_cons (ex_v (i := 10) (j := 10) B rfl rfl rfl) ax_nil)) (by rw [List.length_map])) ax_nil)))) ax_nil))))) (fun _ _ => rdl_dat) trivial) ⟨.inl rfl, .inl rfl, .inl rfl, .inl rfl, .inl rfl, .inl rfl, .inl rfl, .inl rfl, .inl rfl, .inl rfl, .inl rfl, .inl rfl, .inl rfl, trivial⟩ (fun _ _ => trivial) (fun F33 e32 s29 _ other30 z39 hx hm2 => ?_) (fun f31 _ ho => ?_) (fun r38 v H ho hr => ?_)
        · clear hm h37
          have hm := hm2
          obtain ⟨t34, h34, hm⟩ := bnd hm
          obtain ⟨t36, h36, hm⟩ := bnd hm
          refine sx_if (WX.tx (wx_or (l := t36) (os2 := (q_well_here, ol (List.map PyData.int t27.2)) :: os) (tx_not (tx_val (ex_call (a := (walk_here17, other30)) (b := t34) (gi := 10) (rest := (q_well_here, ol (List.map PyData.int t27.2)) :: os) B rfl c_l_commuting (by decide) h34 (ax_cons (ex_v (i := 11) (j := 11) B rfl rfl rfl) (ax_cons (ex_v (i := 12) (j := 12) B rfl rfl rfl) ax_nil))) (by intro _; rfl))) (fun hk => by (have hm := ifF h36 hk; obtain ⟨t35, h35, hm⟩ := bnd hm; obtain rfl := som hm; exact (wx_or1 (tx_not (tx_val (ex_call (a := (walk_here17, other30, t4.1)) (b := t35) (gi := 11) (rest := (q_well_here, ol (List.map PyData.int t27.2)) :: os) B rfl c_l_turning (by decide) h35 (ax_cons (ex_v (i := 11) (j := 11) B rfl rfl rfl) (ax_cons (ex_v (i := 12) (j := 12) B rfl rfl rfl) (ax_cons (ex_v (i := 4) (j := 4) B rfl rfl rfl) ax_nil)))) (by intro _; rfl)))))) (fun hk => by (have hm := ifT h36 hk; obtain rfl := som hm; rfl)) (or_fix (fun hk => by (have hm := ifT h36 hk; obtain rfl := som hm; rfl))))) (fun hk => ?_) (fun hk => ?_)
          · have hm := ifT hm hk
            exact sx_ret ex_bool (fun F H v e o c => ⟨_, (som hm).symm, F, ((e19.trans e32).trans e), o, c⟩)
          · have hm := ifF hm hk
            refine sx_fall ?_ rfl
            exact sx_nil fun σ H a => ⟨_, (), (som hm).symm, (a.weak ⟨.inl rfl, .inl rfl, .inl rfl, .inl rfl, .inl rfl, .inl rfl, .inl rfl, .inl rfl, .inl rfl, .inl rfl, .inl rfl, .inl rfl, .inr rfl, trivial⟩)⟩
        · cases ho
          have hm := elimR hm
          exact sx_nil fun σ H a => ⟨_, (), (som hm).symm, (a.weak ⟨.inl rfl, .inl rfl, .inl rfl, .inl rfl, .inl rfl, .inl rfl, .inl rfl, .inl rfl, .inl rfl, .inl rfl, .inl rfl, .inr rfl, .inl rfl, trivial⟩)⟩
        · cases ho
          have hm := elimL hm
          exact ⟨_, (som hm).symm, hr⟩
  · cases ho
    have hm := elimR hm
    obtain ⟨t41, h41, hm⟩ := bnd hm
    obtain ⟨t45, h45, hm⟩ := bnd hm
    refine sx_if (WX.tx (wx_or (l := t45) (os2 := (q_well_here, ol (List.map PyData.int f18)) :: os) (tx_not (tx_val (ex_call (a := (t2.1, t4.1, (t6.1 - 20))) (b := t41) (gi := 12) (rest := (q_well_here, ol (List.map PyData.int f18)) :: os) B rfl c_l_long (by decide) h41 (ax_cons (ex_v (i := 2) (j := 2) B rfl rfl rfl) (ax_cons (ex_v (i := 4) (j := 4) B rfl rfl rfl) (ax_cons (ex_v (i := 6) (j := 6) B rfl rfl rfl) ax_nil)))) (by intro _; rfl))) (fun hk => by (have hm := ifF h45 hk; obtain ⟨t42, h42, hm⟩ := bnd hm; obtain ⟨t44, h44, hm⟩ := bnd hm; obtain rfl := som hm; exact (wx_or (l := t44) (os2 := (q_well_here, ol (List.map PyData.int f18)) :: os) (tx_not (tx_val (ex_call (a := (t3.1, t4.1, (t6.1 - 20))) (b := t42) (gi := 12) (rest := (q_well_here, ol (List.map PyData.int f18)) :: os) B rfl c_l_long (by decide) h42 (ax_cons (ex_v (i := 3) (j := 3) B rfl rfl rfl) (ax_cons (ex_v (i := 4) (j := 4) B rfl rfl rfl) (ax_cons (ex_v (i := 6) (j := 6) B rfl rfl rfl) ax_nil)))) (by intro _; rfl))) (fun hk => by (have hm := ifF h44 hk; obtain ⟨t43, h43, hm⟩ := bnd hm; obtain rfl := som hm; exact (wx_or1 (tx_not (tx_val (ex_call (a := (t5.1, t4.1, (t7.1 - 6))) (b := t43) (gi := 12) (rest := (q_well_here, ol (List.map PyData.int f18)) :: os) B rfl c_l_long (by decide) h43 (ax_cons (ex_v (i := 5) (j := 5) B rfl rfl rfl) (ax_cons (ex_v (i := 4) (j := 4) B rfl rfl rfl) (ax_cons (ex_v (i := 7) (j := 7) B rfl rfl rfl) ax_nil)))) (by intro _; rfl)))))) (fun hk => by (have hm := ifT h44 hk; obtain rfl := som hm; rfl)) (or_fix (fun hk => by (have hm := ifT h44 hk; obtain rfl := som hm; rfl)))))) (fun hk => by (have hm := ifT h45 hk; obtain rfl := som hm; rfl)) (or_fix (fun hk => by (have hm := ifT h45 hk; obtain rfl := som hm; rfl))))) (fun hk => ?_) (fun hk => ?_)
    · have hm := ifT hm hk
      obtain rfl := som hm
      exact sx_ret ex_bool (fun F H v e o c => R.rt F H v e o c)
    · have hm := ifF hm hk
      refine sx_fall ?_ rfl
      obtain ⟨t46, h46, hm⟩ := bnd hm
      obtain ⟨t48, h48, hm⟩ := bnd hm
      obtain rfl := som hm
      exact sx_ret (ex_and (l := t48) (os2 := (q_well_here, ol (List.map PyData.int f18)) :: os) (ex_call (a := (t2.1, (t7.1 - 6), (t7.1 - 6))) (b := t46) (gi := 7) (rest := (q_well_here, ol (List.map PyData.int f18)) :: os) B rfl c_l_added (by decide) h46 (ax_cons (ex_v (i := 2) (j := 2) B rfl rfl rfl) (ax_cons (ex_v (i := 7) (j := 7) B rfl rfl rfl) (ax_cons (ex_v (i := 7) (j := 7) B rfl rfl rfl) ax_nil)))) (fun hk => by (have hm := ifT h48 hk; obtain ⟨t47, h47, hm⟩ := bnd hm; obtain rfl := som hm; exact (ex_one (ex_call (a := (t2.1, t5.1, (t6.1 - 20))) (b := t47) (gi := 8) (rest := (q_well_here, ol (List.map PyData.int f18)) :: os) B rfl c_l_rooted (by decide) h47 (ax_cons (ex_v (i := 2) (j := 2) B rfl rfl rfl) (ax_cons (ex_v (i := 5) (j := 5) B rfl rfl rfl) (ax_cons (ex_v (i := 6) (j := 6) B rfl rfl rfl) ax_nil))))))) (fun hk => by (have hm := ifF h48 hk; obtain rfl := som hm; rfl)) (and_fix (fun hk => by (have hm := ifF h48 hk; obtain rfl := som hm; rfl)))) (fun F H v e o c => R.rt F H v e o c)
  · cases ho
    have hm := elimL hm
    obtain rfl := som hm
    obtain ⟨F, e, o, c⟩ := hr
    exact R.rt F H v e o c
theorem cal_l_right {P : Program} {w : World} {K : PySem.W.Frag} {mg : Str → Option Value} {base : Heap} {f : Addr} {fd : FuncData} (Fn : Fun K "_law_right" "_law_right" s_l_right f fd) (hmg : mg "_law_right" = some (.ref f)) (hb : Binds K fd ["_law_well_here"] []) (c_l_take : Cal P w K mg base 1 "_law_take" s_l_take ["_law_well_here", "_law_many"] (sp_l_take K)) (c_l_walk : Cal P w K mg base 2 "_law_walk" s_l_walk ["_law_well_here", "_law_letters", "_law_most"] (sp_l_walk K)) (c_p_power : Cal P w K mg base 5 "power" s_p_power ["walk", "times"] (sp_p_power K)) (c_p_turned : Cal P w K mg base 5 "turned" s_p_turned ["walk", "other"] (sp_p_turned K)) (c_p_back : Cal P w K mg base 5 "back" s_p_back ["walk"] (sp_p_back K)) (c_p_least_turned : Cal P w K mg base 5 "least_turned" s_p_least_turned ["walk"] (sp_p_least_turned K)) (g_len : mg "len" = none) (c_l_behind : Cal P w K mg base 6 "_law_behind" s_l_behind ["_law_one", "_law_other", "_law_third"] (sp_l_behind K)) (c_l_added : Cal P w K mg base 6 "_law_added" s_l_added ["_law_walk_here", "_law_first", "_law_second"] (sp_l_added K)) (c_l_rooted : Cal P w K mg base 6 "_law_rooted" s_l_rooted ["_law_walk_here", "_law_other", "_law_times"] (sp_l_rooted K)) (c_l_commuting : Cal P w K mg base 6 "_law_commuting" s_l_commuting ["_law_one", "_law_other"] (sp_l_commuting K)) (c_l_turning : Cal P w K mg base 6 "_law_turning" s_l_turning ["_law_one", "_law_other", "_law_by"] (sp_l_turning K)) (c_l_long : Cal P w K mg base 6 "_law_long" s_l_long ["_law_walk_here", "_law_by", "_law_times"] (sp_l_long K)) : Cal P w K mg base 7 "_law_right" s_l_right ["_law_well_here"] (sp_l_right K) := by
  obtain ⟨sts_, hst_⟩ : ∃ z_, defBody s_l_right = z_ := ⟨_, rfl⟩
  exact cal_ZQ (V := V_l_right) (Gs := G_l_right) (nl := 12) hst_ Fn sc_l_right (by decide +kernel) (by decide +kernel) hmg hb (fun _ => rfl) rfl fun _ _ _ _ _ _ _ a b F0 os D B T hm R => body_l_right rfl hst_ B T c_l_take c_l_walk c_p_power c_p_turned c_p_back c_p_least_turned g_len c_l_behind c_l_added c_l_rooted c_l_commuting c_l_turning c_l_long a.1 a.2 b F0 os D hm R
abbrev s_l_law : Stmt := top 44
def N_l_law : List Str := ["_law_script", "_law_k"]
def V_l_law : List Str := ["_law_script", "_law_k"]
def G_l_law : List Str := ["range", "max", "min", "len", "_law_right", "_law_well"]
theorem sc_l_law : FnScope N_l_law ["_law_script"] (defScope s_l_law) := ⟨rfl, rfl, rfl, by decide +kernel, rfl, by decide +kernel, by decide +kernel⟩
abbrev sp_l_law (K : PySem.W.Frag) : Sp := spZ (α := (List Int)) (β := Bool) (fun a => [(scr K a)]) (fun a => []) (fun a => m_l_law a) (fun a b => (dat (PyData.bool b))) (fun a b => [])
set_option maxHeartbeats 4000000 in
theorem body_l_law {X : Cx} (hsc : X.env.scope = defScope s_l_law) {sts_ : List Stmt} (hst_ : defBody s_l_law = sts_) (B : Bd X N_l_law V_l_law G_l_law 7) (T : Bt X V_l_law) (g_range : X.mg "range" = none) (g_max : X.mg "max" = none) (g_min : X.mg "min" = none) (g_len : X.mg "len" = none) (c_l_right : Cal X.prog X.w X.K X.mg X.base 7 "_law_right" s_l_right ["_law_well_here"] (sp_l_right X.K)) (c_l_well : Cal X.prog X.w X.K X.mg X.base 1 "_law_well" s_l_well ["_law_script", "_law_k"] (sp_l_well X.K)) (script : (List Int)) (b : Bool) (F0 : Hp) (os : Os) (D : Ends) (hm : m_l_law script = some b) (R : RetZ F0 (os) (dat (PyData.bool b)) D) :
    SX X [sl (scr X.K script), un] (os) F0 sts_ D := by
  subst hst_
  unfold m_l_law at hm
  obtain ⟨t1, h1, hm⟩ := bnd hm
  obtain ⟨f4o, h9, hm⟩ := bnd hm
  refine sx_forR (c := anyOs) _ (fun (s2 : Unit) (_ : Unit) => [sl (scr X.K script), un]) (fun (s2 : Unit) (_ : Unit) => os) (fun (r : Bool) v H => ∃ F, Same F0 F ∧ Ow F (os) H ∧ Cl (dat (PyData.bool r)) F v) B T (fun k_3 => gx_name (i := 1) (vi := 1) (φ := (dat (PyData.int k_3))) B T rfl rfl) () () f4o h9 (ix_rng1 (gi := 0) B rfl g_range h1 (ex_fn (j := 1) B rfl g_max (by decide +kernel) (call_max2 B.calm) rc_max (ax_cons ex_int (ax_cons (ex_fn (j := 2) B rfl g_min (by decide +kernel) (call_min2 B.calm) rc_min (ax_cons ex_int (ax_cons (EX.to (ex_fn (j := 3) B rfl g_len (by decide +kernel) call_len_seq (rc_lenL (ds := List.map PyData.int script) rdl_scr) (ax_cons (ex_v (i := 0) (j := 0) B rfl rfl rfl) ax_nil)) (by rw [List.length_map])) ax_nil))) ax_nil)))) ⟨.inl rfl, .inl rfl, trivial⟩ (fun _ _ => trivial) (fun F6 e5 s2 _ k_3 z11 hx hm2 => ?_) (fun f4 _ ho => ?_) (fun r10 v H ho hr => ?_)
  · clear hm h9
    have hm := hm2
    obtain ⟨t7, h7, hm⟩ := bnd hm
    obtain ⟨t8, h8, hm⟩ := bnd hm
    refine sx_if (tx_not (tx_val (ex_calln (a := fun q => (q, t7)) (b := t8) (gi := 4) (rest := os) B rfl c_l_right (by decide) (fun _ => h8) (en_call (a := (script, k_3)) (b := t7) (gi := 5) (rest := os) B rfl c_l_well (by decide) h7 (ax_cons (ex_v (i := 0) (j := 0) B rfl rfl rfl) (ax_cons (ex_v (i := 1) (j := 1) B rfl rfl rfl) ax_nil))) (fun _ => rfl) (fun _ => rfl) (fun _ => rfl)) (by intro _; rfl))) (fun hk => ?_) (fun hk => ?_)
    · have hm := ifT hm hk
      exact sx_ret ex_bool (fun F H v e o c => ⟨_, (som hm).symm, F, (e5.trans e), o, c⟩)
    · have hm := ifF hm hk
      refine sx_fall ?_ rfl
      exact sx_nil fun σ H a => ⟨_, (), (som hm).symm, (a.weak ⟨.inl rfl, .inr rfl, trivial⟩)⟩
  · cases ho
    have hm := elimR hm
    obtain rfl := som hm
    exact sx_ret ex_bool (fun F H v e o c => R.rt F H v e o c)
  · cases ho
    have hm := elimL hm
    obtain rfl := som hm
    obtain ⟨F, e, o, c⟩ := hr
    exact R.rt F H v e o c
theorem cal_l_law {P : Program} {w : World} {K : PySem.W.Frag} {mg : Str → Option Value} {base : Heap} {f : Addr} {fd : FuncData} (Fn : Fun K "law" "law" s_l_law f fd) (hmg : mg "law" = some (.ref f)) (hb : Binds K fd ["_law_script"] []) (g_range : mg "range" = none) (g_max : mg "max" = none) (g_min : mg "min" = none) (g_len : mg "len" = none) (c_l_right : Cal P w K mg base 7 "_law_right" s_l_right ["_law_well_here"] (sp_l_right K)) (c_l_well : Cal P w K mg base 1 "_law_well" s_l_well ["_law_script", "_law_k"] (sp_l_well K)) : Cal P w K mg base 8 "law" s_l_law ["_law_script"] (sp_l_law K) := by
  obtain ⟨sts_, hst_⟩ : ∃ z_, defBody s_l_law = z_ := ⟨_, rfl⟩
  exact cal_ZQ (V := V_l_law) (Gs := G_l_law) (nl := 1) hst_ Fn sc_l_law (by decide +kernel) (by decide +kernel) hmg hb (fun _ => rfl) rfl fun _ _ _ _ _ _ _ a b F0 os D B T hm R => body_l_law rfl hst_ B T g_range g_max g_min g_len c_l_right c_l_well a b F0 os D hm R
end L51
namespace Z
open PySem PySem.Spec L2
theorem log2_small {n k : Nat} (h : n < 2 ^ k) (hk : 0 < k) : n.log2 < k := by
  by_cases h0 : n = 0
  · subst h0
    simpa using hk
  · exact (Nat.log2_lt h0).mpr h
theorem log2_int {i : Int} {k : Nat} (h0 : 0 ≤ i) (h : i < 2 ^ k) (hk : 0 < k) : i.natAbs.log2 < k := by
  refine log2_small ?_ hk
  have e : ((2 ^ k : Nat) : Int) = (2 : Int) ^ k := by norm_cast
  omega
theorem idx_of {α : Type} {xs : List α} {i : Int} {v : α} (h0 : 0 ≤ i) (h : xs[i.toNat]? = some v) : idx xs i = some v := by
  have hl := (List.getElem?_eq_some_iff.mp h).1
  unfold idx atI ixN
  rw [if_pos h0, if_pos (by omega)]
  exact h
theorem idx_last {α : Type} {xs : List α} {v : α} (h : xs[xs.length - 1]? = some v) : idx xs (-1) = some v := by
  have hl := (List.getElem?_eq_some_iff.mp h).1
  unfold idx atI ixN
  rw [if_neg (by omega), if_pos (by omega)]
  have e : ((-1 : Int) + (xs.length : Int)).toNat = xs.length - 1 := by omega
  show xs[((-1 : Int) + (xs.length : Int)).toNat]? = _
  rw [e]
  exact h
theorem rngO_ok {a b : Int} (h : -(2 ^ 62) ≤ a ∧ a < 2 ^ 62 ∧ -(2 ^ 62) ≤ b ∧ b < 2 ^ 62) : rngO a b = some (range' a b) := if_pos h
theorem mem_rng {a b x : Int} (h : x ∈ range' a b) : a ≤ x ∧ x < b := by
  unfold range' at h
  obtain ⟨i, hi, rfl⟩ := List.mem_map.mp h
  have := List.mem_range.mp hi
  omega
theorem lpR_go {α R S : Type} {f : S → α → Option (Step R S)} (P : S → Prop) : ∀ {xs : List α}, (∀ x ∈ xs, ∀ s, P s → ∃ s', f s x = some (.go s') ∧ P s') → ∀ {s0 : S}, P s0 → ∃ s', lpR f xs s0 = some (.inr s') ∧ P s'
  | [], _, s0, h0 => ⟨s0, rfl, h0⟩
  | x :: xs, h, s0, h0 => by
    obtain ⟨s1, e, h1⟩ := h x List.mem_cons_self s0 h0
    obtain ⟨s2, e2, h2⟩ := lpR_go P (fun y hy => h y (List.mem_cons_of_mem _ hy)) h1
    refine ⟨s2, ?_, h2⟩
    unfold lpR
    rw [e]
    exact e2
theorem lpR_goN {α R S : Type} {f : S → α → Option (Step R S)} : ∀ {xs : List α} (P : Nat → S → Prop), (∀ (i : Nat) (x : α) (s : S), xs[i]? = some x → P i s → ∃ s', f s x = some (.go s') ∧ P (i + 1) s') → ∀ {s0 : S}, P 0 s0 → ∃ s', lpR f xs s0 = some (.inr s') ∧ P xs.length s'
  | [], P, _, s0, h0 => ⟨s0, rfl, h0⟩
  | x :: xs, P, h, s0, h0 => by
    obtain ⟨s1, e, h1⟩ := h 0 x s0 rfl h0
    obtain ⟨s2, e2, h2⟩ := lpR_goN (xs := xs) (fun i => P (i + 1)) (fun i y s hy hs => h (i + 1) y s (by simpa using hy) hs) h1
    refine ⟨s2, ?_, h2⟩
    unfold lpR
    rw [e]
    exact e2
/-- three cells, of which so many draws were made at most -/
def SpOk (n : Nat) (w : List Int) : Prop := ∃ a b c : Int, w = [a, b, c] ∧ 0 ≤ a ∧ 0 ≤ b ∧ b < 2 ^ 101 ∧ 0 ≤ c ∧ c ≤ n
theorem SpOk.mono {n m : Nat} {w : List Int} (h : SpOk n w) (hm : n ≤ m) : SpOk m w := by
  obtain ⟨a, b, c, e, h1, h2, h3, h4, h5⟩ := h
  exact ⟨a, b, c, e, h1, h2, h3, h4, by omega⟩
end Z
namespace Z
open PySem PySem.Spec L2
/-- a step put on a pile -/
def psh : List Int → Int → List Int
  | [], x => [x]
  | y :: t, x => if y = -x then t else x :: y :: t
/-- no two opposite steps beside one another -/
def Gd : List Int → Prop
  | x :: y :: t => y ≠ -x ∧ Gd (y :: t)
  | _ => True
theorem gd_nil : Gd [] := trivial
def fl (s w : List Int) : List Int := w.foldl psh s
def red (w : List Int) : List Int := (fl [] w).reverse
def iv (w : List Int) : List Int := w.reverse.map fun x => -x
theorem gd_tail {x : Int} : ∀ {t : List Int}, Gd (x :: t) → Gd t
  | [], _ => trivial
  | _ :: _, h => h.2
theorem psh_gd {s : List Int} {x : Int} (h : Gd s) : Gd (psh s x) := by
  cases s with
  | nil => trivial
  | cons y t =>
    by_cases hy : y = -x
    · rw [show psh (y :: t) x = t from if_pos hy]
      exact gd_tail h
    · rw [show psh (y :: t) x = x :: y :: t from if_neg hy]
      exact ⟨hy, h⟩
theorem psh_inv {s : List Int} {x : Int} (h : Gd s) : psh (psh s x) (-x) = s := by
  cases s with
  | nil =>
    show (if x = -(-x) then [] else [-x, x]) = []
    rw [if_pos (by omega)]
  | cons y t =>
    by_cases hy : y = -x
    · have e : psh (y :: t) x = t := if_pos hy
      rw [e]
      cases t with
      | nil => show [-x] = [y]; rw [hy]
      | cons z t =>
        have e2 : psh (z :: t) (-x) = -x :: z :: t := if_neg (by have := h.1; omega)
        rw [e2, hy]
    · have e : psh (y :: t) x = x :: y :: t := if_neg hy
      rw [e]
      exact if_pos (by omega)
theorem fl_gd : ∀ {w s : List Int}, Gd s → Gd (fl s w)
  | [], _, h => h
  | _ :: w, _, h => fl_gd (w := w) (psh_gd h)
theorem fl_app (s u v : List Int) : fl s (u ++ v) = fl (fl s u) v := List.foldl_append
theorem gd_suf : ∀ {a b : List Int}, Gd (a ++ b) → Gd b
  | [], _, h => h
  | _ :: a, _, h => gd_suf (a := a) (gd_tail h)
theorem gd_pre : ∀ {a b : List Int}, Gd (a ++ b) → Gd a
  | [], _, _ => trivial
  | [_], _, _ => trivial
  | _ :: y :: a, _, h => ⟨h.1, gd_pre (a := y :: a) h.2⟩
theorem gd_join {x y : Int} {t : List Int} (hxy : x ≠ -y) (h2 : Gd (x :: t)) : ∀ {a : List Int}, Gd (a ++ [y]) → Gd (a ++ y :: x :: t)
  | [], _ => ⟨hxy, h2⟩
  | [_], h => ⟨h.1, hxy, h2⟩
  | _ :: b :: a, h => ⟨h.1, gd_join (a := b :: a) hxy h2 h.2⟩
theorem gd_rev : ∀ {w : List Int}, Gd w → Gd w.reverse
  | [], _ => trivial
  | [_], _ => trivial
  | x :: y :: t, h => by
    have ih := gd_rev (w := y :: t) h.2
    rw [List.reverse_cons] at ih
    rw [List.reverse_cons, List.reverse_cons, List.append_assoc]
    have := h.1
    exact gd_join (t := []) (by omega) trivial ih
theorem gd_neg : ∀ {w : List Int}, Gd w → Gd (w.map fun x => -x)
  | [], _ => trivial
  | [_], _ => trivial
  | x :: y :: t, h => ⟨by have := h.1; show -y ≠ -(-x); omega, gd_neg (w := y :: t) h.2⟩
theorem gd_iv {w : List Int} (h : Gd w) : Gd (iv w) := gd_neg (gd_rev h)
theorem fl_of_gd : ∀ {w s : List Int}, Gd (w.reverse ++ s) → fl s w = w.reverse ++ s
  | [], _, _ => rfl
  | x :: w, s, h => by
    rw [List.reverse_cons, List.append_assoc] at h
    have e : psh s x = x :: s := by
      have hs := gd_suf h
      cases s with
      | nil => rfl
      | cons y t => exact if_neg hs.1
    show fl (psh s x) w = _
    have h' : Gd (w.reverse ++ (x :: s)) := h
    rw [e, fl_of_gd (w := w) h', List.reverse_cons, List.append_assoc]
    rfl
theorem red_gd (w : List Int) : Gd (red w) := gd_rev (fl_gd gd_nil)
theorem red_of {w : List Int} (h : Gd w) : red w = w := by
  unfold red
  rw [fl_of_gd (s := []) (by rw [List.append_nil]; exact gd_rev h), List.append_nil, List.reverse_reverse]
theorem fl_nest : ∀ {w t s : List Int}, Gd s → Gd t → fl (fl s t.reverse) w = fl s (fl t w).reverse
  | [], _, _, _, _ => rfl
  | x :: w, t, s, hs, ht => by
    show fl (psh (fl s t.reverse) x) w = fl s (fl (psh t x) w).reverse
    rw [← fl_nest (w := w) hs (psh_gd (x := x) ht)]
    refine congrArg (fun z => fl z w) ?_
    cases t with
    | nil => rfl
    | cons y t =>
      by_cases hy : y = -x
      · have e : psh (y :: t) x = t := if_pos hy
        rw [e, List.reverse_cons, fl_app, hy]
        have := psh_inv (x := -x) (fl_gd (w := t.reverse) hs)
        rw [Int.neg_neg] at this
        exact this
      · have e : psh (y :: t) x = x :: y :: t := if_neg hy
        rw [e, List.reverse_cons (a := x), fl_app]
        rfl
theorem fl_red {s w : List Int} (hs : Gd s) : fl s w = fl s (red w) := fl_nest (t := []) hs gd_nil
theorem red_app (u v : List Int) : red (u ++ v) = red (red u ++ red v) := by
  have e1 := fl_red (w := v) (fl_gd (w := u) gd_nil)
  have e2 := fl_red (s := []) (w := u) gd_nil
  show (fl [] (u ++ v)).reverse = (fl [] (red u ++ red v)).reverse
  rw [fl_app, fl_app, e1, ← e2]
theorem red_red (u : List Int) : red (red u) = red u := red_of (red_gd u)
theorem red_appL (u v : List Int) : red (red u ++ v) = red (u ++ v) := by rw [red_app (red u), red_red, ← red_app]
theorem red_appR (u v : List Int) : red (u ++ red v) = red (u ++ v) := by rw [red_app u, red_red, ← red_app]
theorem iv_cons (x : Int) (w : List Int) : iv (x :: w) = iv w ++ [-x] := by
  unfold iv
  rw [List.reverse_cons, List.map_append]
  rfl
theorem fl_inv : ∀ {w s : List Int}, Gd s → fl s (w ++ iv w) = s
  | [], _, _ => rfl
  | x :: w, s, h => by
    rw [iv_cons]
    show fl (psh s x) (w ++ (iv w ++ [-x])) = s
    rw [← List.append_assoc, fl_app, fl_inv (psh_gd h)]
    exact psh_inv h
theorem red_inv (w : List Int) : red (w ++ iv w) = [] := by
  unfold red
  rw [fl_inv gd_nil]
  rfl
theorem iv_iv (w : List Int) : iv (iv w) = w := by
  unfold iv
  rw [← List.map_reverse, List.reverse_reverse, List.map_map]
  have : ((fun x : Int => -x) ∘ fun x : Int => -x) = id := by
    funext x
    show -(-x) = x
    omega
  rw [this, List.map_id]
theorem red_inv' (w : List Int) : red (iv w ++ w) = [] := by
  have := red_inv (iv w)
  rw [iv_iv] at this
  exact this
theorem psh_mem {P : Int → Prop} {s : List Int} {x : Int} (h : ∀ y ∈ s, P y) (hx : P x) : ∀ y ∈ psh s x, P y := by
  cases s with
  | nil =>
    intro y hy
    have : y = x := by simpa [psh] using hy
    exact this ▸ hx
  | cons z t =>
    by_cases hz : z = -x
    · rw [show psh (z :: t) x = t from if_pos hz]
      exact fun y hy => h y (List.mem_cons_of_mem _ hy)
    · rw [show psh (z :: t) x = x :: z :: t from if_neg hz]
      intro y hy
      rcases List.mem_cons.mp hy with rfl | hy
      · exact hx
      · exact h y hy
theorem fl_mem {P : Int → Prop} : ∀ {w s : List Int}, (∀ y ∈ s, P y) → (∀ y ∈ w, P y) → ∀ y ∈ fl s w, P y
  | [], _, h, _ => h
  | x :: w, _, h, h2 => fl_mem (w := w) (psh_mem h (h2 x List.mem_cons_self)) fun y hy => h2 y (List.mem_cons_of_mem _ hy)
theorem red_mem {P : Int → Prop} {w : List Int} (h : ∀ y ∈ w, P y) : ∀ y ∈ red w, P y := fun y hy =>
  fl_mem (s := []) (fun _ z => nomatch z) h y (List.mem_reverse.mp hy)
theorem psh_len (s : List Int) (x : Int) : (psh s x).length ≤ s.length + 1 := by
  cases s with
  | nil => exact Nat.le_refl _
  | cons y t =>
    by_cases hy : y = -x
    · rw [show psh (y :: t) x = t from if_pos hy, List.length_cons]
      omega
    · rw [show psh (y :: t) x = x :: y :: t from if_neg hy, List.length_cons, List.length_cons]
      exact Nat.le_refl _
theorem fl_len : ∀ (w s : List Int), (fl s w).length ≤ s.length + w.length
  | [], s => Nat.le_refl _
  | x :: w, s => by
    have h1 := fl_len w (psh s x)
    have h2 := psh_len s x
    show (fl (psh s x) w).length ≤ _
    rw [List.length_cons]
    omega
theorem red_len (w : List Int) : (red w).length ≤ w.length := by
  have := fl_len w []
  unfold red
  rw [List.length_reverse]
  simpa using this
theorem iv_len (w : List Int) : (iv w).length = w.length := by
  unfold iv
  rw [List.length_map, List.length_reverse]
theorem cut_to {α : Type} (xs : List α) {i : Int} (h : 0 ≤ i) : cut xs none (some i) = xs.take i.toNat := by
  obtain ⟨n, rfl⟩ := Int.eq_ofNat_of_zero_le h
  unfold cut
  show (xs.drop 0).take (HT.sIx xs.length xs.length (some (n : Int)) - 0) = _
  rw [HT.sIx_nat, Nat.sub_zero, List.drop_zero, Int.toNat_natCast]
  by_cases hn : n ≤ xs.length
  · rw [Nat.min_eq_left hn]
  · rw [Nat.min_eq_right (by omega), List.take_length, List.take_of_length_le (by omega)]
theorem cut_from {α : Type} (xs : List α) {i : Int} (h : 0 ≤ i) : cut xs (some i) none = xs.drop i.toNat := by
  obtain ⟨n, rfl⟩ := Int.eq_ofNat_of_zero_le h
  unfold cut
  show (xs.drop (HT.sIx xs.length 0 (some (n : Int)))).take (xs.length - HT.sIx xs.length 0 (some (n : Int))) = _
  rw [HT.sIx_nat, Int.toNat_natCast]
  by_cases hn : n ≤ xs.length
  · rw [Nat.min_eq_left hn, List.take_of_length_le (by rw [List.length_drop]; omega)]
  · rw [Nat.min_eq_right (by omega), List.drop_length, List.take_nil, List.drop_of_length_le (by omega)]
def straightM (walk : List Int) : Option (List Int) :=
  ((lp (fun (s1 : (List Int)) (step2 : Int) => ((if (decide (0 < (s1.length : Int))) = true then ((idx s1 (-1)).bind fun t6 => some (decide (t6 = (-step2)))) else some false).bind fun t7 => ((if t7 = true then ((popO s1).bind fun t8 => some t8.2) else ((appO s1 step2).bind fun t9 => some t9) : Option (List Int)).bind fun s10 => some s10))) walk ([])).bind fun f3 => some f3)
theorem last_rev {α : Type} (y : α) (t : List α) : idx (y :: t).reverse (-1) = some y := by
  refine idx_last ?_
  rw [List.length_reverse, List.reverse_cons, List.length_cons, Nat.add_sub_cancel, List.getElem?_append_right (by rw [List.length_reverse]; exact Nat.le_refl _), List.length_reverse, Nat.sub_self]
  rfl
theorem pop_rev {α : Type} (y : α) (t : List α) : popO (y :: t).reverse = some (y, t.reverse) := by
  unfold popO
  rw [List.reverse_cons, List.getLast?_append]
  simp
theorem app_ok {α : Type} {s : List α} {x : α} (h : s.length < sizeLine) : appO s x = some (s ++ [x]) := if_pos h
theorem straight_lp : ∀ (w t : List Int), t.length + w.length ≤ sizeLine → lp (fun (s1 : (List Int)) (step2 : Int) => ((if (decide (0 < (s1.length : Int))) = true then ((idx s1 (-1)).bind fun t6 => some (decide (t6 = (-step2)))) else some false).bind fun t7 => ((if t7 = true then ((popO s1).bind fun t8 => some t8.2) else ((appO s1 step2).bind fun t9 => some t9) : Option (List Int)).bind fun s10 => some s10))) w t.reverse = some (fl t w).reverse
  | [], _, _ => rfl
  | x :: w, t, h => by
    rw [List.length_cons] at h
    have h2 := psh_len t x
    have ih := straight_lp w (psh t x) (by omega)
    unfold lp
    refine Eq.trans (congrArg (fun z => Option.bind z _) (?_ : _ = some (psh t x).reverse)) ih
    cases t with
    | nil =>
      have : appO ([] : List Int) x = some [x] := app_ok (by decide)
      simp [this, psh]
    | cons y t =>
      have hpos : decide (0 < ((y :: t).reverse.length : Int)) = true := by
        rw [List.length_reverse, List.length_cons]
        exact decide_eq_true (by omega)
      rw [hpos, if_pos rfl, last_rev]
      by_cases hy : y = -x
      · have e : psh (y :: t) x = t := if_pos hy
        simp only [Option.bind_some, hy, decide_true, if_true]
        rw [← hy, pop_rev, e]
        rfl
      · have e : psh (y :: t) x = x :: y :: t := if_neg hy
        simp only [Option.bind_some, hy, decide_false, Bool.false_eq_true, if_false]
        rw [app_ok (by rw [List.length_reverse]; omega), e]
        simp
theorem straight_ok {w : List Int} (h : w.length ≤ sizeLine) : straightM w = some (red w) := by
  unfold straightM
  rw [show ([] : List Int) = ([] : List Int).reverse from rfl, straight_lp w [] (by simpa using h)]
  rfl
theorem lcT_some {α β : Type} (f : α → β) {xs : List α} (h : xs.length < sizeLine) : lcT f xs = some (xs.map f) := if_pos h
theorem mapO_some {α β : Type} {f : α → Option β} {g : α → β} : ∀ {xs : List α}, (∀ x ∈ xs, f x = some (g x)) → mapO f xs = some (xs.map g)
  | [], _ => rfl
  | x :: xs, h => by
    unfold mapO
    rw [h x List.mem_cons_self, mapO_some (xs := xs) fun y hy => h y (List.mem_cons_of_mem _ hy)]
    rfl
theorem lcO_some {α β : Type} {f : α → Option β} (g : α → β) {xs : List α} (hl : xs.length < sizeLine) (h : ∀ x ∈ xs, f x = some (g x)) : lcO f xs = some (xs.map g) := by
  unfold lcO
  rw [if_pos hl, mapO_some h]
theorem cat_ok {α : Type} {xs ys : List α} (h : xs.length + ys.length ≤ sizeLine) : catO xs ys = some (xs ++ ys) := if_pos h
def kk : List Int → List Int → Nat
  | x :: u, y :: v => if x = -y then kk u v + 1 else 0
  | _, _ => 0
end Z
namespace Z
open PySem PySem.Spec L2
def wellM (script : (List Int)) (k_ : Int) : Option (List Int) :=
  ((if (decide (k_ < (script.length : Int))) = true then ((idx script k_).bind fun t1 => some t1) else some ((11 * k_) + 6) : Option Int).bind fun s2 => ((lcT (fun (one3 : Int) => (one3 % 1000000000000000000000000103)) script).bind fun t5 => ((some ((((((absI s2) * 8929) + (61 * t5.sum)) + (2 * k_)) + (if (decide (s2 < 0)) = true then 1 else 0)) % 10000000000000000000000000000033)).bind fun seed6 => some [(maxI 0 (s2 - 1000000000000000000)), seed6, 0])))
def takeM (w_well_here : (List Int)) (many : Int) : Option (Int × (List Int)) :=
  ((idx w_well_here 0).bind fun t1 => (if (decide (0 < t1)) = true then ((idx w_well_here 0).bind fun t2 => (modO t2 many).bind fun t3 => ((idx w_well_here 0).bind fun t4 => (fdivO t4 many).bind fun t5 => (setO w_well_here 0 t5).bind fun t6 => some (t3, t6))) else ((idx w_well_here 2).bind fun t7 => (setO w_well_here 2 (t7 + 1)).bind fun t8 => ((idx t8 1).bind fun t9 => (idx t8 2).bind fun t10 => (powO (t9 + (314159 * t10)) 3).bind fun t11 => (idx t8 2).bind fun t12 => (some ((t11 + (2718281 * t12)) % 1000000000000000000000000000000073)).bind fun mixed13 => ((mulO mixed13 (mixed13 + 40503)).bind fun t15 => (modO ((t15 % 10000000000000000000000000000000193) / 10007) many).bind fun t16 => some (t16, t8))))))
def walkM (w_well_here : (List Int)) (letters : Int) (most : Int) : Option ((List Int) × (List Int)) :=
  ((takeM w_well_here 4).bind fun t1 => (takeM t1.2 (most + 1)).bind fun t2 => (takeM t2.2 6).bind fun t3 => (idx ([t2.1, most]) (if (decide (t3.1 = 0)) = true then 1 else 0)).bind fun t4 => ((rngO 0 t4).bind fun t5 => (lcE (β := Int) (fun (s7 : (List Int)) (turn6 : Int) => ((takeM s7 letters).bind fun t8 => (takeM t8.2 2).bind fun t9 => (mulO (1 + t8.1) (1 - (2 * t9.1))).bind fun t10 => some (some t10, t9.2))) t5 t3.2).bind fun t11 => ((if (decide (t1.1 = 1)) = true then ((takeM t11.2 4).bind fun t12 => (repO (cut t11.1 none (some (1 + t12.1))) t4).bind fun t13 => some ((cut t13 none (some t4)), t12.2)) else some (t11.1, t11.2) : Option ((List Int) × (List Int))).bind fun s14 => ((if (decide (t1.1 = 2)) = true then ((lcT (fun (step15 : Int) => (-step15)) ((cut s14.1 none (some (t4 / 3))).reverse)).bind fun t17 => (catO (α := Int) (cut s14.1 none (some (t4 - (t4 / 3)))) t17).bind fun t18 => some t18) else some s14.1 : Option (List Int)).bind fun s19 => ((if (decide (t1.1 = 3)) = true then ((lcT (fun (step20 : Int) => (absI step20)) s19).bind fun t22 => some t22) else some s19 : Option (List Int)).bind fun s23 => some (s23, s14.2))))))
/-- three cells, of which so many draws were made at most -/
def WeOk (n : Nat) (w : List Int) : Prop := ∃ a b c : Int, w = [a, b, c] ∧ 0 ≤ a ∧ 0 ≤ b ∧ b < 2 ^ 104 ∧ 0 ≤ c ∧ c ≤ n
theorem WeOk.mono {n m : Nat} {w : List Int} (h : WeOk n w) (hm : n ≤ m) : WeOk m w := by
  obtain ⟨a, b, c, e, h1, h2, h3, h4, h5⟩ := h
  exact ⟨a, b, c, e, h1, h2, h3, h4, by omega⟩
theorem well_ok {ns : List Int} {k : Int} (hl : ns.length < sizeLine) (h0 : 0 ≤ k) : ∃ w, wellM ns k = some w ∧ WeOk 0 w := by
  unfold wellM
  have h1 : ∃ s, (if (decide (k < (ns.length : Int))) = true then ((idx ns k).bind fun t1 => some t1) else some ((11 * k) + 6) : Option Int) = some s := by
    by_cases hk : k < (ns.length : Int)
    · rw [if_pos (decide_eq_true hk)]
      have hk2 : k.toNat < ns.length := by omega
      exact ⟨ns[k.toNat], by rw [idx_of h0 (List.getElem?_eq_getElem hk2)]; rfl⟩
    · rw [if_neg (by simpa using hk)]
      exact ⟨_, rfl⟩
  obtain ⟨s, e⟩ := h1
  rw [e]
  simp only [Option.bind_some, lcT_some _ hl]
  refine ⟨_, rfl, _, _, _, rfl, ?_, Int.emod_nonneg _ (by decide), ?_, Int.le_refl 0, Int.le_refl 0⟩
  · unfold maxI
    split <;> omega
  · exact Int.lt_trans (Int.emod_lt_of_pos _ (by decide)) (by decide)
theorem pow_three {i : Int} (h0 : 0 ≤ i) (h : i < 2 ^ 200) : powO i 3 = some (i ^ 3) := by
  unfold powO
  rw [if_pos]
  · rfl
  refine ⟨by decide, ?_⟩
  have hb : Builtin.Int.intBits i ≤ 200 := by
    unfold Builtin.Int.intBits
    split
    · omega
    · have := log2_int h0 h (by decide)
      omega
  omega
theorem take_big {n : Nat} (hn : n < 2 ^ 60) {w : List Int} (h : WeOk n w) {many : Int} (h0 : 0 < many) (hbl : many.natAbs.log2 < 9000) : ∃ v w', takeM w many = some (v, w') ∧ 0 ≤ v ∧ v < many ∧ WeOk (n + 1) w' := by
  obtain ⟨a, b, c, rfl, ha, hb0, hb1, hc0, hc1⟩ := h
  unfold takeM
  have i0 : idx [a, b, c] 0 = some a := rfl
  have i2 : idx [a, b, c] 2 = some c := rfl
  have j1 : idx [a, b, c + 1] 1 = some b := rfl
  have j2 : idx [a, b, c + 1] 2 = some (c + 1) := rfl
  have m0 : setO [a, b, c] 2 (c + 1) = some [a, b, c + 1] := rfl
  have m1 : modO a many = some (a % many) := if_pos h0
  have m2 : fdivO a many = some (a / many) := if_pos ⟨h0, hbl⟩
  have m3 : setO [a, b, c] 0 (a / many) = some [a / many, b, c] := rfl
  have m4 : powO (b + (314159 * (c + 1))) 3 = some ((b + (314159 * (c + 1))) ^ 3) := pow_three (by omega) (by omega)
  simp only [i0, i2, j1, j2, m0, m1, m2, m3, m4, Option.bind_some]
  by_cases hp : 0 < a
  · rw [if_pos (decide_eq_true hp)]
    exact ⟨a % many, [a / many, b, c], rfl, Int.emod_nonneg _ (by omega), Int.emod_lt_of_pos _ h0, _, _, _, rfl, Int.ediv_nonneg ha (by omega), hb0, hb1, hc0, by omega⟩
  · rw [if_neg (by simpa using hp)]
    generalize (b + (314159 * (c + 1))) ^ 3 = t11
    have q0 : 0 ≤ (t11 + (2718281 * (c + 1))) % 1000000000000000000000000000000073 := Int.emod_nonneg _ (by decide)
    have q1 : (t11 + (2718281 * (c + 1))) % 1000000000000000000000000000000073 < 1000000000000000000000000000000073 := Int.emod_lt_of_pos _ (by decide)
    generalize (t11 + (2718281 * (c + 1))) % 1000000000000000000000000000000073 = x at q0 q1
    have m5 : mulO x (x + 40503) = some (x * (x + 40503)) := by
      refine if_pos ?_
      have e1 : x.natAbs.log2 < 110 := log2_int q0 (by omega) (by decide)
      have e2 : (x + 40503).natAbs.log2 < 111 := log2_int (by omega) (by omega) (by decide)
      omega
    have m6 : modO (((x * (x + 40503)) % 10000000000000000000000000000000193) / 10007) many = some (((x * (x + 40503)) % 10000000000000000000000000000000193) / 10007 % many) := if_pos h0
    simp only [m5, m6, Option.bind_some]
    exact ⟨_, _, rfl, Int.emod_nonneg _ (by omega), Int.emod_lt_of_pos _ h0, _, _, _, rfl, ha, hb0, hb1, by omega, by omega⟩
theorem take_ok {n : Nat} (hn : n < 2 ^ 60) {w : List Int} (h : WeOk n w) {many : Int} (h0 : 0 < many) (hb : many < 2 ^ 64) : ∃ v w', takeM w many = some (v, w') ∧ 0 ≤ v ∧ v < many ∧ WeOk (n + 1) w' :=
  take_big hn h h0 (Nat.lt_trans (log2_int (by omega) hb (by decide)) (by decide))
theorem lcS_goN {α β S : Type} {f : S → α → Option (Option β × S)} (Qy : β → Prop) : ∀ {xs : List α} (P : Nat → S → Prop), (∀ (i : Nat) (x : α) (s : S), xs[i]? = some x → P i s → ∃ y s', f s x = some (some y, s') ∧ Qy y ∧ P (i + 1) s') → ∀ {s0 : S}, P 0 s0 →
    ∃ ys s', lcS f xs s0 = some (ys, s') ∧ ys.length = xs.length ∧ (∀ y ∈ ys, Qy y) ∧ P xs.length s'
  | [], P, _, s0, h0 => ⟨[], s0, rfl, rfl, (fun _ z => nomatch z), h0⟩
  | x :: xs, P, h, s0, h0 => by
    obtain ⟨y, s1, e, hy, h1⟩ := h 0 x s0 rfl h0
    obtain ⟨ys, s2, e2, hl, hq, h2⟩ := lcS_goN Qy (xs := xs) (fun i => P (i + 1)) (fun i z s hz hs => h (i + 1) z s (by simpa using hz) hs) h1
    refine ⟨y :: ys, s2, ?_, by rw [List.length_cons, List.length_cons, hl], fun z hz => ?_, h2⟩
    · unfold lcS
      rw [e]
      show ((lcS f xs s1).bind _) = _
      rw [e2]
      rfl
    · rcases List.mem_cons.mp hz with rfl | hz
      · exact hy
      · exact hq z hz
theorem lcE_goN {α β S : Type} {f : S → α → Option (Option β × S)} (Qy : β → Prop) {xs : List α} (P : Nat → S → Prop) (hl : xs.length < sizeLine) (h : ∀ (i : Nat) (x : α) (s : S), xs[i]? = some x → P i s → ∃ y s', f s x = some (some y, s') ∧ Qy y ∧ P (i + 1) s') {s0 : S} (h0 : P 0 s0) :
    ∃ ys s', lcE f xs s0 = some (ys, s') ∧ ys.length = xs.length ∧ (∀ y ∈ ys, Qy y) ∧ P xs.length s' := by
  unfold lcE
  rw [if_pos hl]
  exact lcS_goN Qy P h h0
theorem lpR_mix {α R S : Type} {f : S → α → Option (Step R S)} (Rr : R → Prop) : ∀ {xs : List α} (P : Nat → S → Prop), (∀ (i : Nat) (x : α) (s : S), xs[i]? = some x → P i s → (∃ s', f s x = some (.go s') ∧ P (i + 1) s') ∨ ∃ r, f s x = some (.ret r) ∧ Rr r) → ∀ {s0 : S}, P 0 s0 →
    (∃ s', lpR f xs s0 = some (.inr s') ∧ P xs.length s') ∨ ∃ r, lpR f xs s0 = some (.inl r) ∧ Rr r
  | [], P, _, s0, h0 => .inl ⟨s0, rfl, h0⟩
  | x :: xs, P, h, s0, h0 => by
    rcases h 0 x s0 rfl h0 with ⟨s1, e, h1⟩ | ⟨r, e, hr⟩
    · rcases lpR_mix Rr (xs := xs) (fun i => P (i + 1)) (fun i y s hy hs => h (i + 1) y s (by simpa using hy) hs) h1 with ⟨s2, e2, h2⟩ | ⟨r, e2, hr⟩
      · exact .inl ⟨s2, by unfold lpR; rw [e]; exact e2, h2⟩
      · exact .inr ⟨r, by unfold lpR; rw [e]; exact e2, hr⟩
    · exact .inr ⟨r, by unfold lpR; rw [e]; rfl, hr⟩
theorem rng_len (a b : Int) : (range' a b).length = (b - a).toNat := by
  unfold range'
  rw [List.length_map, List.length_range]
def Sok (L x : Int) : Prop := x ≠ 0 ∧ -L ≤ x ∧ x ≤ L
theorem Sok.mono {L M x : Int} (h : Sok L x) (hm : L ≤ M) : Sok M x := ⟨h.1, by have := h.2.1; omega, by have := h.2.2; omega⟩
theorem Sok.neg {L x : Int} (h : Sok L x) : Sok L (-x) := ⟨by have := h.1; omega, by have := h.2.2; omega, by have := h.2.1; omega⟩
theorem Sok.abs {L x : Int} (h : Sok L x) : Sok L (absI x) := by
  obtain ⟨h1, h2, h3⟩ := h
  unfold absI
  split <;> exact ⟨by omega, by omega, by omega⟩
theorem flat_len {α : Type} (xs : List α) : ∀ m : Nat, (List.replicate m xs).flatten.length = m * xs.length
  | 0 => by simp
  | m + 1 => by
    rw [List.replicate_succ, List.flatten_cons, List.length_append, flat_len xs m, Nat.add_mul]
    omega
theorem flat_mem {α : Type} {xs : List α} {x : α} {m : Nat} (h : x ∈ (List.replicate m xs).flatten) : x ∈ xs := by
  obtain ⟨l, hl, hx⟩ := List.mem_flatten.mp h
  exact (List.mem_replicate.mp hl).2 ▸ hx
theorem walk_ok {n : Nat} {L most : Int} (hn : n + 3000 < 2 ^ 60) {w : List Int} (h : WeOk n w) (h1 : 1 ≤ L) (h4 : L ≤ 4) (hm0 : 0 ≤ most) (hm1 : most ≤ 1000) :
    ∃ ws w', walkM w L most = some (ws, w') ∧ (∀ x ∈ ws, Sok L x) ∧ (ws.length : Int) ≤ most ∧ WeOk (n + 2100) w' := by
  unfold walkM
  obtain ⟨v1, w1, e1, a1, b1, k1⟩ := take_ok (by omega) h (many := 4) (by decide) (by decide)
  obtain ⟨v2, w2, e2, a2, b2, k2⟩ := take_ok (by omega) k1 (many := most + 1) (by omega) (by omega)
  obtain ⟨v3, w3, e3, a3, b3, k3⟩ := take_ok (by omega) k2 (many := 6) (by decide) (by decide)
  simp only [e1, e2, e3, Option.bind_some]
  obtain ⟨sz, es, s0, s1⟩ : ∃ sz, idx [v2, most] (if (decide (v3 = 0)) = true then 1 else 0) = some sz ∧ 0 ≤ sz ∧ sz ≤ most := by
    by_cases hv : v3 = 0
    · rw [if_pos (decide_eq_true hv)]
      exact ⟨most, rfl, hm0, Int.le_refl _⟩
    · rw [if_neg (by simpa using hv)]
      exact ⟨v2, rfl, a2, by omega⟩
  simp only [es, Option.bind_some, rngO_ok (show -(2 ^ 62) ≤ (0 : Int) ∧ (0 : Int) < 2 ^ 62 ∧ -(2 ^ 62) ≤ sz ∧ sz < 2 ^ 62 by omega)]
  have hlr : (range' 0 sz).length = sz.toNat := by rw [rng_len, Int.sub_zero]
  obtain ⟨ys, w4, e4, l4, q4, k4⟩ := lcE_goN (f := (fun (s7 : (List Int)) (turn6 : Int) => ((takeM s7 L).bind fun t8 => (takeM t8.2 2).bind fun t9 => (mulO (1 + t8.1) (1 - (2 * t9.1))).bind fun t10 => some (some t10, t9.2)))) (Sok L) (xs := range' 0 sz) (fun i s => WeOk (n + 3 + 2 * i) s) (by rw [hlr]; exact Nat.lt_of_le_of_lt (m := 1000) (by omega) (by decide)) (fun i x s hx hs => by
    have hi : i < sz.toNat := by
      have := (List.getElem?_eq_some_iff.mp hx).1
      omega
    obtain ⟨u1, x1, f1, c1, d1, g1⟩ := take_ok (by omega) hs (many := L) (by omega) (by omega)
    obtain ⟨u2, x2, f2, c2, d2, g2⟩ := take_ok (by omega) g1 (many := 2) (by decide) (by decide)
    have hu : u2 = 0 ∨ u2 = 1 := by omega
    have hmul : mulO (1 + u1) (1 - 2 * u2) = some ((1 + u1) * (1 - 2 * u2)) := by
      refine if_pos ?_
      have z1 : (1 + u1).natAbs.log2 < 3 := log2_int (by omega) (by omega) (by decide)
      have z2 : (1 - 2 * u2).natAbs.log2 < 2 := by
        rcases hu with rfl | rfl <;> decide
      omega
    refine ⟨(1 + u1) * (1 - 2 * u2), x2, ?_, ?_, ?_⟩
    · simp only [f1, f2, hmul, Option.bind_some]
    · rcases hu with rfl | rfl
      · exact ⟨by omega, by omega, by omega⟩
      · exact ⟨by omega, by omega, by omega⟩
    · exact g2.mono (by omega)) (s0 := w3) (k3.mono (by omega))
  simp only [e4, Option.bind_some]
  rw [hlr] at l4 k4
  have hw4 : WeOk (n + 2050) w4 := k4.mono (by omega)
  obtain ⟨zs, w5, e5, q5, l5, k5⟩ : ∃ zs w5, (if (decide (v1 = 1)) = true then ((takeM w4 4).bind fun t12 => (repO (cut ys none (some (1 + t12.1))) sz).bind fun t13 => some ((cut t13 none (some sz)), t12.2)) else some (ys, w4) : Option ((List Int) × (List Int))) = some (zs, w5) ∧ (∀ x ∈ zs, Sok L x) ∧ (zs.length : Int) ≤ sz ∧ WeOk (n + 2051) w5 := by
    by_cases hv : v1 = 1
    · rw [if_pos (decide_eq_true hv)]
      obtain ⟨u1, x1, f1, c1, d1, g1⟩ := take_ok (by omega) hw4 (many := 4) (by decide) (by decide)
      have hrep : repO (cut ys none (some (1 + u1))) sz = some (List.replicate sz.toNat (ys.take (1 + u1).toNat)).flatten := by
        rw [cut_to _ (by omega)]
        refine if_pos ⟨by omega, by omega, ?_⟩
        have z1 : (ys.take (1 + u1).toNat).length ≤ 4 := by rw [List.length_take]; omega
        have z2 : (ys.take (1 + u1).toNat).length * sz.toNat ≤ 4 * 1000 := Nat.mul_le_mul z1 (by omega)
        exact Nat.le_trans z2 (by decide)
      simp only [f1, hrep, Option.bind_some]
      refine ⟨_, _, rfl, fun x hx => ?_, ?_, g1⟩
      · rw [cut_to _ s0] at hx
        exact q4 x (List.mem_of_mem_take (flat_mem (List.mem_of_mem_take hx)))
      · rw [cut_to _ s0, List.length_take]
        omega
    · rw [if_neg (by simpa using hv)]
      exact ⟨_, _, rfl, q4, by omega, hw4.mono (by omega)⟩
  simp only [e5, Option.bind_some]
  have hz1000 : zs.length < sizeLine := Nat.lt_of_le_of_lt (show zs.length ≤ 1000 by omega) (by decide)
  obtain ⟨us, e6, q6, l6⟩ : ∃ us, (if (decide (v1 = 2)) = true then ((lcT (fun (step15 : Int) => (-step15)) ((cut zs none (some (sz / 3))).reverse)).bind fun t17 => (catO (α := Int) (cut zs none (some (sz - (sz / 3)))) t17).bind fun t18 => some t18) else some zs : Option (List Int)) = some us ∧ (∀ x ∈ us, Sok L x) ∧ (us.length : Int) ≤ sz := by
    by_cases hv : v1 = 2
    · rw [if_pos (decide_eq_true hv), cut_to _ (show 0 ≤ sz / 3 by omega), cut_to _ (show 0 ≤ sz - sz / 3 by omega), lcT_some _ (by rw [List.length_reverse, List.length_take]; omega)]
      simp only [Option.bind_some]
      rw [cat_ok (by rw [List.length_map, List.length_reverse, List.length_take, List.length_take]; exact Nat.le_trans (m := 2000) (by omega) (by decide))]
      refine ⟨_, rfl, fun x hx => ?_, ?_⟩
      · rcases List.mem_append.mp hx with hx | hx
        · exact q5 x (List.mem_of_mem_take hx)
        · obtain ⟨y, hy, rfl⟩ := List.mem_map.mp hx
          exact (q5 y (List.mem_of_mem_take (List.mem_reverse.mp hy))).neg
      · rw [List.length_append, List.length_map, List.length_reverse, List.length_take, List.length_take]
        omega
    · rw [if_neg (by simpa using hv)]
      exact ⟨_, rfl, q5, l5⟩
  simp only [e6, Option.bind_some]
  have hu1000 : us.length < sizeLine := Nat.lt_of_le_of_lt (show us.length ≤ 1000 by omega) (by decide)
  by_cases hv : v1 = 3
  · rw [if_pos (decide_eq_true hv), lcT_some _ hu1000]
    refine ⟨_, _, rfl, fun x hx => ?_, ?_, k5.mono (by omega)⟩
    · obtain ⟨y, hy, rfl⟩ := List.mem_map.mp hx
      exact (q6 y hy).abs
    · rw [List.length_map]
      omega
  · rw [if_neg (by simpa using hv)]
    exact ⟨_, _, rfl, q6, by omega, k5.mono (by omega)⟩
end Z
namespace Z
open PySem PySem.Spec L2
theorem bindS {α β : Type} {m : Option α} {k : α → Option β} {a : α} {r : Option β} (h : m = some a) (h2 : k a = r) : m.bind k = r := by
  rw [h]
  exact h2
/-- three cells, of which so many draws were made at most -/
def WeC (n : Nat) (w : List Int) : Prop := ∃ a b c : Int, w = [a, b, c] ∧ 0 ≤ a ∧ 0 ≤ b ∧ b < 2 ^ 140 ∧ 0 ≤ c ∧ c ≤ n
theorem WeC.mono {n m : Nat} {w : List Int} (h : WeC n w) (hm : n ≤ m) : WeC m w := by
  obtain ⟨a, b, c, e, h1, h2, h3, h4, h5⟩ := h
  exact ⟨a, b, c, e, h1, h2, h3, h4, by omega⟩
/-- what a datum needs so that its text can be asked for: no deeper than k, no longer than n -/
def Txt (k n : Nat) (d : PyData) : Prop := d.showable = true ∧ d.hasDict = false ∧ d.depth ≤ k ∧ d.shown.length ≤ n
theorem Txt.mono {k n k' n' : Nat} {d : PyData} (h : Txt k n d) (hk : k ≤ k') (hn : n ≤ n') : Txt k' n' d := ⟨h.1, h.2.1, Nat.le_trans h.2.2.1 hk, Nat.le_trans h.2.2.2 hn⟩
end Z
namespace Z
open PySem PySem.Spec L2
def cp : List Int → List Int → Nat
  | x :: u, y :: v => if x = y then cp u v + 1 else 0
  | _, _ => 0
theorem cp_le : ∀ u v : List Int, cp u v ≤ u.length ∧ cp u v ≤ v.length
  | [], _ => ⟨Nat.zero_le _, Nat.zero_le _⟩
  | _ :: _, [] => ⟨Nat.zero_le _, Nat.zero_le _⟩
  | x :: u, y :: v => by
    have := cp_le u v
    unfold cp
    rw [List.length_cons, List.length_cons]
    split <;> omega
theorem cp_at : ∀ {u v : List Int} {i : Nat}, i < cp u v → u.getD i 0 = v.getD i 0
  | [], _, _, h => absurd h (Nat.not_lt_zero _)
  | _ :: _, [], _, h => absurd h (Nat.not_lt_zero _)
  | x :: u, y :: v, i, h => by
    by_cases hx : x = y
    · cases i with
      | zero => exact hx
      | succ i =>
        have e : cp (x :: u) (y :: v) = cp u v + 1 := if_pos hx
        rw [e] at h
        exact cp_at (u := u) (v := v) (i := i) (by omega)
    · have e : cp (x :: u) (y :: v) = 0 := if_neg hx
      rw [e] at h
      exact absurd h (Nat.not_lt_zero _)
theorem cp_end : ∀ {u v : List Int}, cp u v < u.length → cp u v < v.length → u.getD (cp u v) 0 ≠ v.getD (cp u v) 0
  | [], _, h, _ => absurd h (Nat.not_lt_zero _)
  | _ :: _, [], _, h => absurd h (Nat.not_lt_zero _)
  | x :: u, y :: v, h1, h2 => by
    by_cases hx : x = y
    · have e : cp (x :: u) (y :: v) = cp u v + 1 := if_pos hx
      rw [e] at h1 h2 ⊢
      exact cp_end (u := u) (v := v) (by simpa using h1) (by simpa using h2)
    · have e : cp (x :: u) (y :: v) = 0 := if_neg hx
      rw [e]
      exact hx
theorem cp_take : ∀ {u v : List Int} {s : Nat}, s ≤ u.length → s ≤ v.length → (u.take s = v.take s ↔ s ≤ cp u v)
  | _, _, 0, _, _ => by simp
  | [], _, s + 1, h, _ => absurd h (Nat.not_succ_le_zero _)
  | _ :: _, [], s + 1, _, h => absurd h (Nat.not_succ_le_zero _)
  | x :: u, y :: v, s + 1, h1, h2 => by
    have ih := cp_take (u := u) (v := v) (s := s) (by simpa using h1) (by simpa using h2)
    rw [List.take_succ_cons, List.take_succ_cons, List.cons.injEq, ih]
    by_cases hx : x = y
    · have e : cp (x :: u) (y :: v) = cp u v + 1 := if_pos hx
      rw [e]
      constructor
      · intro z
        omega
      · intro z
        exact ⟨hx, by omega⟩
    · have e : cp (x :: u) (y :: v) = 0 := if_neg hx
      rw [e]
      constructor
      · intro z
        exact absurd z.1 hx
      · intro z
        omega
theorem iv_get {w : List Int} {i : Nat} (h : i < w.length) : (iv w).getD i 0 = -w.getD (w.length - 1 - i) 0 := by
  unfold iv
  have h2 : i < w.reverse.length := by rw [List.length_reverse]; exact h
  rw [List.getD_eq_getElem?_getD, List.getElem?_map, List.getElem?_reverse h, List.getD_eq_getElem?_getD, List.getElem?_eq_getElem (show w.length - 1 - i < w.length by omega)]
  rfl
theorem iv_take {w : List Int} {s : Nat} : iv (w.drop (w.length - s)) = (iv w).take s := by
  unfold iv
  rw [← List.map_take, List.take_reverse]
theorem idx_getD {w : List Int} {i : Int} (h0 : 0 ≤ i) (h : i < (w.length : Int)) : idx w i = some (w.getD i.toNat 0) := by
  have hl : i.toNat < w.length := by omega
  rw [idx_of h0 (List.getElem?_eq_getElem hl), List.getD_eq_getElem?_getD, List.getElem?_eq_getElem hl]
  rfl
/-- how many steps fall away at both ends -/
theorem cut_mid {α : Type} (xs : List α) {i j : Int} (h0 : 0 ≤ i) (h1 : i ≤ xs.length) (h2 : 0 ≤ j) (h3 : j ≤ xs.length) : cut xs (some i) (some j) = (xs.drop i.toNat).take (j.toNat - i.toNat) := by
  obtain ⟨n, rfl⟩ := Int.eq_ofNat_of_zero_le h0
  obtain ⟨m, rfl⟩ := Int.eq_ofNat_of_zero_le h2
  unfold cut
  rw [HT.sIx_nat, HT.sIx_nat, Nat.min_eq_left (by omega), Nat.min_eq_left (by omega), Int.toNat_natCast, Int.toNat_natCast]
theorem rng_at {a b x : Int} {i : Nat} (h : (range' a b)[i]? = some x) : x = a + i ∧ i < (b - a).toNat := by
  have hl := (List.getElem?_eq_some_iff.mp h).1
  rw [rng_len] at hl
  unfold range' at h
  rw [List.getElem?_map, List.getElem?_range hl] at h
  exact ⟨(Option.some.inj h).symm, hl⟩
theorem gd_at : ∀ {l : List Int} {i : Nat}, Gd l → i + 1 < l.length → l.getD i 0 ≠ -l.getD (i + 1) 0
  | [], _, _, h => absurd h (Nat.not_lt_zero _)
  | [_], i, _, h => by simp at h
  | x :: y :: t, 0, g, _ => by
    have := g.1
    show x ≠ -y
    omega
  | x :: y :: t, i + 1, g, h => gd_at (l := y :: t) (i := i) g.2 (by simpa using h)
def rep (w : List Int) (m : Nat) : List Int := (List.replicate m w).flatten
theorem rep_len (w : List Int) (m : Nat) : (rep w m).length = m * w.length := flat_len w m
theorem rep_succ (w : List Int) (m : Nat) : rep w (m + 1) = w ++ rep w m := by
  unfold rep
  rw [List.replicate_succ, List.flatten_cons]
theorem rep_zero (w : List Int) : rep w 0 = [] := rfl
theorem rep_one (w : List Int) : rep w 1 = w := by rw [rep_succ, rep_zero, List.append_nil]
theorem rep_succ' (w : List Int) : ∀ m : Nat, rep w (m + 1) = rep w m ++ w
  | 0 => by rw [rep_one, rep_zero, List.nil_append]
  | m + 1 => by rw [rep_succ, rep_succ' w m, ← List.append_assoc, ← rep_succ, rep_succ' w m]
theorem rep_ok {w : List Int} {m : Int} (h0 : 0 ≤ m) (h1 : m ≤ 1000) (h : w.length ≤ 1000) : repT w m = some (rep w m.toNat) := by
  unfold repT
  rw [if_pos ⟨by omega, h1, h⟩]
  rfl
theorem iv_app (u v : List Int) : iv (u ++ v) = iv v ++ iv u := by
  unfold iv
  rw [List.reverse_append, List.map_append]
def pr (P : List Int) (i : Int) : Int := P.getD (i % (P.length : Int)).toNat 0
end Z
namespace Z
open PySem PySem.Spec L2
def FG : Type := {w : List Int // Gd w}
def fg (w : List Int) : FG := ⟨red w, red_gd w⟩
def fmul (u v : FG) : FG := fg (u.1 ++ v.1)
def finv (u : FG) : FG := ⟨iv u.1, gd_iv u.2⟩
def fone : FG := ⟨[], gd_nil⟩
instance : Mul FG := ⟨fmul⟩
theorem fg_ext {u v : FG} (h : u.1 = v.1) : u = v := Subtype.ext h
theorem fg_self (u : FG) : fg u.1 = u := fg_ext (red_of u.2)
theorem fg_app (u v : List Int) : fg (u ++ v) = fg u * fg v := fg_ext (red_app u v)
theorem fmul_assoc (a b c : FG) : a * b * c = a * (b * c) := fg_ext (by
  show red (red (a.1 ++ b.1) ++ c.1) = red (a.1 ++ red (b.1 ++ c.1))
  rw [red_appL, red_appR, List.append_assoc])
theorem fone_mul (a : FG) : fone * a = a := fg_ext (red_of a.2)
theorem fmul_one (a : FG) : a * fone = a := fg_ext (by
  show red (a.1 ++ []) = a.1
  rw [List.append_nil]
  exact red_of a.2)
theorem finv_mul (a : FG) : finv a * a = fone := fg_ext (red_inv' a.1)
theorem fmul_inv (a : FG) : a * finv a = fone := fg_ext (red_inv a.1)
theorem finv_cl (a b : FG) : finv a * (a * b) = b := by rw [← fmul_assoc, finv_mul, fone_mul]
theorem fmul_cl (a b : FG) : a * (finv a * b) = b := by rw [← fmul_assoc, fmul_inv, fone_mul]
theorem finv_inv (a : FG) : finv (finv a) = a := fg_ext (iv_iv a.1)
theorem inv_uniq {a b : FG} (h : a * b = fone) : a = finv b := by
  have := congrArg (· * finv b) h
  simp only [fmul_assoc, fmul_inv, fmul_one, fone_mul] at this
  exact this
theorem finv_rev (a b : FG) : finv (a * b) = finv b * finv a := (inv_uniq (by
  rw [fmul_assoc, finv_cl, finv_mul])).symm
theorem finv_one : finv fone = fone := rfl
theorem fg_iv (u : List Int) : fg (iv u) = finv (fg u) := inv_uniq (by
  rw [← fg_app]
  exact fg_ext (red_inv' u))
theorem fg_nil : fg [] = fone := rfl
theorem fg_eq {u v : List Int} : fg u = fg v ↔ red u = red v := ⟨fun h => congrArg (·.1) h, fun h => fg_ext h⟩
theorem rep_app (w : List Int) : ∀ a b : Nat, rep w (a + b) = rep w a ++ rep w b
  | 0, b => by rw [Nat.zero_add, rep_zero, List.nil_append]
  | a + 1, b => by rw [show a + 1 + b = a + b + 1 by omega, rep_succ, rep_succ, rep_app w a b, List.append_assoc]
theorem len_rep (w : List Int) (m : Nat) : (rep w m).length = m * w.length := rep_len w m
theorem iv_rep (w : List Int) : ∀ m, iv (rep w m) = rep (iv w) m
  | 0 => rfl
  | m + 1 => by rw [rep_succ, iv_app, iv_rep w m, ← rep_succ']
theorem comm_at {c v : List Int} (h : c ++ v = v ++ c) (hc : 0 < c.length) : ∀ i, i < v.length → v[i]? = c[i % c.length]? := by
  intro i
  induction i using Nat.strongRecOn with
  | ind i ih =>
    intro hi
    have e : (c ++ v)[i]? = (v ++ c)[i]? := by rw [h]
    rw [List.getElem?_append_left (l₁ := v) hi] at e
    rcases Nat.lt_or_ge i c.length with hl | hl
    · rw [List.getElem?_append_left hl] at e
      rw [← e, Nat.mod_eq_of_lt hl]
    · rw [List.getElem?_append_right hl] at e
      rw [← e, ih (i - c.length) (by omega) (by omega), ← Nat.mod_eq_sub_mod hl]
theorem comm_pre {c v s : List Int} (hv : c ++ v = v ++ c) (hs : c ++ s = s ++ c) (hc : 0 < c.length) (hl : s.length ≤ v.length) : ∃ t, v = s ++ t ∧ c ++ t = t ++ c := by
  have e : s = v.take s.length := by
    apply List.ext_getElem?
    intro i
    rw [List.getElem?_take]
    by_cases hi : i < s.length
    · rw [if_pos hi, comm_at hs hc i hi, comm_at hv hc i (by omega)]
    · rw [if_neg hi]
      exact List.getElem?_eq_none_iff.mpr (by omega)
  have e2 : v = s ++ v.drop s.length := by
    have := (List.take_append_drop s.length v).symm
    rw [← e] at this
    exact this
  refine ⟨v.drop s.length, e2, ?_⟩
  have h3 : s ++ (c ++ v.drop s.length) = s ++ (v.drop s.length ++ c) := by
    rw [← List.append_assoc, ← hs, List.append_assoc, ← e2, hv, ← List.append_assoc s, ← e2]
  exact List.append_cancel_left h3
theorem comm_div {c s : List Int} (hs : c ++ s = s ++ c) (hc : 0 < c.length) (h0 : 0 < s.length) : ∀ (n : Nat) (v : List Int), v.length = n → c ++ v = v ++ c → ∃ (k : Nat) (t : List Int), v = rep s k ++ t ∧ t.length < s.length ∧ c ++ t = t ++ c := by
  intro n
  induction n using Nat.strongRecOn with
  | ind n ih =>
    intro v hn hv
    rcases Nat.lt_or_ge v.length s.length with hl | hl
    · exact ⟨0, v, rfl, hl, hv⟩
    · obtain ⟨t, e, ht⟩ := comm_pre hv hs hc hl
      have hlen : v.length = s.length + t.length := by rw [e, List.length_append]
      obtain ⟨k, t', e', hl', ht'⟩ := ih t.length (by omega) t rfl ht
      exact ⟨k + 1, t', by rw [e, e', rep_succ, List.append_assoc], hl', ht'⟩
theorem rep_comm (r : List Int) (m : Nat) : rep r m ++ r = r ++ rep r m := by rw [← rep_succ, ← rep_succ']
def DDz (w : List Int) (p : Nat) : Prop := w.length % p = 0 ∧ rep (w.take p) (w.length / p) = w
/-- what goes with a walk is its root done some times -/
theorem comm_root {c v : List Int} {p : Nat} (p1 : 1 ≤ p) (p2 : p ≤ c.length) (hd : DDz c p) (hmin : ∀ q, 1 ≤ q → q < p → ¬ DDz c q) (hv : c ++ v = v ++ c) : ∃ k, v = rep (c.take p) k := by
  have hc : 0 < c.length := by omega
  have lr : (c.take p).length = p := by rw [List.length_take]; omega
  have hr : c ++ c.take p = c.take p ++ c := by
    have := rep_comm (c.take p) (c.length / p)
    rw [hd.2] at this
    exact this
  have small : ∀ (n : Nat) (t : List Int), t.length = n → n < p → c ++ t = t ++ c → n = 0 := by
    intro n
    induction n using Nat.strongRecOn with
    | ind n ih =>
      intro t hn hlt ht
      rcases Nat.eq_zero_or_pos n with h0 | h0
      · exact h0
      · exfalso
        obtain ⟨k, t', e, hl, ht'⟩ := comm_div ht hc (by omega) c.length c rfl rfl
        have h0' := ih t'.length (by omega) t' rfl (by omega) ht'
        have e0 : t' = [] := List.length_eq_zero_iff.mp h0'
        rw [e0, List.append_nil] at e
        have hlen : c.length = k * n := by
          have := congrArg List.length e
          rw [len_rep, hn] at this
          exact this
        have hk : 0 < k := by
          rcases Nat.eq_zero_or_pos k with z | z
          · rw [z, Nat.zero_mul] at hlen
            omega
          · exact z
        have et : c.take n = t := by
          obtain ⟨k', rfl⟩ : ∃ k', k = k' + 1 := ⟨k - 1, by omega⟩
          rw [e, rep_succ, ← hn, List.take_left']
          rfl
        refine hmin n h0 hlt ⟨by rw [hlen]; exact Nat.mul_mod_left k n, ?_⟩
        rw [et, hlen, Nat.mul_div_cancel _ h0, ← e]
  obtain ⟨k, t, e, hl, ht⟩ := comm_div hr hc (by omega) v.length v rfl hv
  have := small t.length t rfl (by omega) ht
  have e0 : t = [] := List.length_eq_zero_iff.mp this
  exact ⟨k, by rw [e, e0, List.append_nil]⟩
theorem fl_full : ∀ (w s : List Int), (fl s w).length = s.length + w.length → fl s w = w.reverse ++ s
  | [], s, _ => rfl
  | x :: w, s, h => by
    have e : fl s (x :: w) = fl (psh s x) w := rfl
    rw [e] at h ⊢
    cases s with
    | nil =>
      rw [fl_full w _ (by rw [h]; simp [psh]; omega), List.reverse_cons, List.append_assoc]
      rfl
    | cons y t =>
      by_cases hy : y = -x
      · have e2 : psh (y :: t) x = t := if_pos hy
        rw [e2] at h
        have := fl_len w t
        simp only [List.length_cons] at h
        omega
      · have e2 : psh (y :: t) x = x :: y :: t := if_neg hy
        rw [e2] at h ⊢
        rw [fl_full w _ (by rw [h]; simp only [List.length_cons]; omega), List.reverse_cons, List.append_assoc]
        rfl
theorem red_full {w : List Int} (h : (red w).length = w.length) : red w = w := by
  have h2 : (fl [] w).length = ([] : List Int).length + w.length := by
    have : (red w).length = (fl [] w).length := List.length_reverse
    rw [← this, h]
    simp
  show (fl [] w).reverse = w
  rw [fl_full w [] h2, List.append_nil, List.reverse_reverse]
theorem gd_glue3 : ∀ {a m b : List Int}, m ≠ [] → Gd (a ++ m) → Gd (m ++ b) → Gd (a ++ m ++ b)
  | [], m, b, hm, _, h2 => h2
  | [x], m, b, hm, h1, h2 => by
    cases m with
    | nil => exact absurd rfl hm
    | cons y t => exact ⟨h1.1, h2⟩
  | x :: x' :: a, m, b, hm, h1, h2 => ⟨h1.1, gd_glue3 (a := x' :: a) hm (gd_tail h1) h2⟩
/-- a walk round and round -/
structure Cy (c : List Int) : Prop where
  ne : c ≠ []
  gd : Gd (c ++ c)
theorem ends {c : List Int} (h : c ≠ []) : (∃ x t, c = x :: t) ∧ ∃ b y, c = b ++ [y] := by
  refine ⟨?_, c.dropLast, c.getLast h, (List.dropLast_concat_getLast h).symm⟩
  cases c with
  | nil => exact absurd rfl h
  | cons x t => exact ⟨x, t, rfl⟩
theorem gd_touch {b t : List Int} {x y : Int} (h : Gd ((b ++ [y]) ++ x :: t)) : x ≠ -y := by
  rw [List.append_assoc] at h
  have := gd_suf (a := b) h
  exact this.1
theorem gd_meet {a b u t : List Int} {x y : Int} (ea : a = b ++ [y]) (g : Gd a) (eu : u = x :: t) (g2 : Gd u) (h : x ≠ -y) : Gd (a ++ u) := by
  subst ea eu
  rw [List.append_assoc]
  exact gd_join h g2 g
theorem ctr {c v : List Int} (hc : Cy c) (gv : Gd v) (h : red (c ++ v) = red (v ++ c)) : c ++ v = v ++ c ∨ iv c ++ v = v ++ iv c := by
  cases v with
  | nil => exact .inl (by simp)
  | cons a v =>
    obtain ⟨⟨x, c', ex⟩, b, y, ey⟩ := ends hc.ne
    have gc : Gd c := gd_pre hc.gd
    by_cases ha : a = -y
    · right
      have hxy : x ≠ -y := by
        have := hc.gd
        rw [show c ++ c = (b ++ [y]) ++ x :: c' by rw [← ey, ← ex]] at this
        exact gd_touch this
      have ei : iv c = iv c' ++ [-x] := by rw [ex, iv_cons]
      have g : Gd (iv c ++ a :: v) := gd_meet ei (gd_iv gc) rfl gv (by omega)
      have h2 : red (iv c ++ a :: v) = red ((a :: v) ++ iv c) := by
        have h1 : fg c * fg (a :: v) = fg (a :: v) * fg c := by
          rw [← fg_app, ← fg_app]
          exact fg_eq.mpr h
        refine fg_eq.mp ?_
        rw [fg_app, fg_app, fg_iv]
        have := congrArg (fun z => finv (fg c) * z * finv (fg c)) h1
        simp only [fmul_assoc, finv_cl, fmul_inv, fmul_one] at this
        exact this.symm
      rw [red_of g] at h2
      have := red_full (w := (a :: v) ++ iv c) (by rw [← h2, List.length_append, List.length_append]; omega)
      rw [this] at h2
      exact h2
    · left
      have g : Gd (c ++ a :: v) := gd_meet ey gc rfl gv ha
      rw [red_of g] at h
      have := red_full (w := (a :: v) ++ c) (by rw [← h, List.length_append, List.length_append]; omega)
      rw [this] at h
      exact h
theorem ddz_iv {c : List Int} {q : Nat} (q1 : 1 ≤ q) (q2 : q ≤ c.length) (h : DDz c q) : (iv c).take q = iv (c.take q) ∧ DDz (iv c) q := by
  have lq : (c.take q).length = q := by rw [List.length_take]; omega
  have e : iv c = rep (iv (c.take q)) (c.length / q) := by rw [← iv_rep, h.2]
  have hk : 0 < c.length / q := Nat.div_pos q2 q1
  have et : (iv c).take q = iv (c.take q) := by
    obtain ⟨k, hk'⟩ : ∃ k, c.length / q = k + 1 := ⟨c.length / q - 1, by omega⟩
    rw [e, hk', rep_succ, List.take_left' (by rw [iv_len, lq])]
  exact ⟨et, by rw [iv_len]; exact h.1, by rw [et, iv_len, ← e]⟩
/-- p is the size of the root of the round walk c -/
structure RootAt (c : List Int) (p : Nat) : Prop where
  p1 : 1 ≤ p
  p2 : p ≤ c.length
  dd : DDz c p
  mn : ∀ q, 1 ≤ q → q < p → ¬ DDz c q
theorem RootAt.iv {c : List Int} {p : Nat} (h : RootAt c p) : RootAt (iv c) p where
  p1 := h.p1
  p2 := by rw [iv_len]; exact h.p2
  dd := (ddz_iv h.p1 h.p2 h.dd).2
  mn := fun q q1 q2 z => by
    have := (ddz_iv (c := Z.iv c) q1 (by rw [iv_len]; have := h.p2; omega) z).2
    rw [iv_iv] at this
    exact h.mn q q1 q2 this
theorem ctr_root {c v : List Int} {p : Nat} (hc : Cy c) (hp : RootAt c p) (gv : Gd v) (h : red (c ++ v) = red (v ++ c)) : ∃ k, v = rep (c.take p) k ∨ v = rep (iv (c.take p)) k := by
  rcases ctr hc gv h with e | e
  · obtain ⟨k, hk⟩ := comm_root hp.p1 hp.p2 hp.dd hp.mn e
    exact ⟨k, .inl hk⟩
  · obtain ⟨k, hk⟩ := comm_root hp.iv.p1 hp.iv.p2 hp.iv.dd hp.iv.mn e
    rw [(ddz_iv hp.p1 hp.p2 hp.dd).1] at hk
    exact ⟨k, .inr hk⟩
/-- lead, round walk, shift, the other one's lead -/
structure Tw (l c g : List Int) (s p : Nat) : Prop where
  cy : Cy c
  root : RootAt c p
  sp : s < p
  one : Gd (l ++ c ++ iv l)
  two : Gd (g ++ (c.drop s ++ c.take s) ++ iv g)
def xk (l v c g : List Int) (s : Nat) : List Int := red (l ++ v ++ c.take s ++ iv g)
section
variable {l c g : List Int} {s p : Nat}
theorem turns_form (T : Tw l c g s p) {w : List Int} (gw : Gd w) (h : red (iv w ++ (l ++ c ++ iv l) ++ w) = g ++ (c.drop s ++ c.take s) ++ iv g) : ∃ k, w = xk l (rep (c.take p) k) c g s ∨ w = xk l (rep (iv (c.take p)) k) c g s := by
  have hf : fg (iv w ++ (l ++ c ++ iv l) ++ w) = fg (g ++ (c.drop s ++ c.take s) ++ iv g) := fg_eq.mpr (by rw [h, red_of T.two])
  have ec : fg c = fg (c.take s) * fg (c.drop s) := by rw [← fg_app, List.take_append_drop]
  simp only [fg_app, fg_iv, fmul_assoc] at hf
  obtain ⟨V, hV⟩ : ∃ V : FG, V = finv (fg l) * (fg w * (fg g * finv (fg (c.take s)))) := ⟨_, rfl⟩
  have hW : fg w = fg l * (V * (fg (c.take s) * finv (fg g))) := by
    rw [hV]
    simp only [fmul_assoc, finv_cl, fmul_cl, fmul_inv, fmul_one]
  have hcv : fg c * V = V * fg c := by
    have := congrArg (fun z => finv (fg l) * (fg w * (z * (fg g * finv (fg (c.take s)))))) hf
    simp only [fmul_assoc, finv_cl, fmul_cl, fmul_inv, fmul_one, finv_mul] at this
    rw [hV]
    simp only [fmul_assoc]
    rw [this]
    congr 2
    rw [ec]
    simp only [fmul_assoc, finv_cl, fmul_cl]
  have h2 : red (c ++ V.1) = red (V.1 ++ c) := fg_eq.mp (by rw [fg_app, fg_app, fg_self]; exact hcv)
  obtain ⟨k, hk⟩ := ctr_root T.cy T.root V.2 h2
  have back : ∀ v, V.1 = v → w = xk l v c g s := fun v e => by
    have : fg w = fg (l ++ v ++ c.take s ++ iv g) := by
      rw [hW, ← fg_self V, e]
      simp only [fg_app, fg_iv, fmul_assoc]
    have := fg_eq.mp this
    rw [red_of gw] at this
    exact this
  exact ⟨k, hk.elim (fun e => .inl (back _ e)) fun e => .inr (back _ e)⟩
theorem rep_goes (h : RootAt c p) (k : Nat) : c ++ rep (c.take p) k = rep (c.take p) k ++ c := by
  have e := h.dd.2
  rw [← e]
  have : (rep (c.take p) (c.length / p)).take p = c.take p := by rw [e]
  rw [this, ← rep_app, ← rep_app, Nat.add_comm]
theorem turns_of (T : Tw l c g s p) {v : List Int} (hv : fg c * fg v = fg v * fg c) : red (iv (xk l v c g s) ++ (l ++ c ++ iv l) ++ xk l v c g s) = g ++ (c.drop s ++ c.take s) ++ iv g := by
  have ex : fg (xk l v c g s) = fg l * (fg v * (fg (c.take s) * finv (fg g))) := by
    have : fg (xk l v c g s) = fg (l ++ v ++ c.take s ++ iv g) := fg_eq.mpr (red_red _)
    rw [this]
    simp only [fg_app, fg_iv, fmul_assoc]
  have ec : fg c = fg (c.take s) * fg (c.drop s) := by rw [← fg_app, List.take_append_drop]
  have : fg (iv (xk l v c g s) ++ (l ++ c ++ iv l) ++ xk l v c g s) = fg (g ++ (c.drop s ++ c.take s) ++ iv g) := by
    simp only [fg_app, fg_iv, ex, finv_rev, finv_inv, fmul_assoc, finv_cl, fmul_cl]
    have e2 : fg c * (fg v * (fg (c.take s) * finv (fg g))) = fg v * (fg c * (fg (c.take s) * finv (fg g))) := by rw [← fmul_assoc, hv, fmul_assoc]
    rw [e2, finv_cl, ec]
    simp only [fmul_assoc, finv_cl, fmul_cl]
  have := fg_eq.mp this
  rw [red_of T.two] at this
  exact this
theorem goes_pos (h : RootAt c p) (k : Nat) : fg c * fg (rep (c.take p) k) = fg (rep (c.take p) k) * fg c := by
  rw [← fg_app, ← fg_app, rep_goes h]
theorem goes_neg (h : RootAt c p) (k : Nat) : fg c * fg (rep (iv (c.take p)) k) = fg (rep (iv (c.take p)) k) * fg c := by
  have e := goes_pos h k
  rw [← iv_rep, fg_iv]
  have := congrArg (fun z => finv (fg (rep (c.take p) k)) * (z * finv (fg (rep (c.take p) k)))) e
  simp only [fmul_assoc, finv_cl, fmul_inv, fmul_one] at this
  exact this.symm
end
theorem gd_repZ {r : List Int} (h : Gd (r ++ r)) (h0 : r ≠ []) : ∀ k, Gd (rep r k)
  | 0 => gd_nil
  | 1 => by
    rw [rep_succ, rep_zero, List.append_nil]
    exact gd_pre h
  | k + 2 => by
    rw [rep_succ, rep_succ, ← List.append_assoc]
    exact gd_glue3 h0 h (by rw [← rep_succ]; exact gd_repZ h h0 (k + 1))
theorem gd_lrep {l r : List Int} (hl : Gd (l ++ r)) (h : Gd (r ++ r)) (h0 : r ≠ []) (k : Nat) : Gd (l ++ rep r (k + 1)) := by
  rw [rep_succ, ← List.append_assoc]
  exact gd_glue3 h0 hl (by rw [← rep_succ]; exact gd_repZ h h0 _)
theorem gd_lad {l r y z e : List Int} (hl : Gd (l ++ r)) (h : Gd (r ++ r)) (er : r = y ++ z) (hy : y ≠ []) (he : Gd (y ++ e)) (k : Nat) : Gd (l ++ rep r k ++ y ++ e) := by
  have h0 : r ≠ [] := fun q => hy (by rw [er] at q; exact (List.append_eq_nil_iff.mp q).1)
  refine gd_glue3 hy ?_ he
  have := gd_lrep hl h h0 k
  rw [rep_succ', ← List.append_assoc] at this
  rw [er, ← List.append_assoc, ← er] at this
  exact gd_pre this
theorem gd_lad0 {l r e : List Int} (hl : Gd (l ++ r)) (h : Gd (r ++ r)) (h0 : r ≠ []) (he : Gd (r ++ e)) (k : Nat) : Gd (l ++ rep r (k + 1) ++ e) := by
  have := gd_lrep hl h h0 k
  rw [rep_succ', ← List.append_assoc] at this ⊢
  exact gd_glue3 h0 this he
section
variable {l c g : List Int} {s p : Nat}
theorem root_split (h : RootAt c p) : ∃ m, c = rep (c.take p) (m + 1) := by
  have hk : 0 < c.length / p := Nat.div_pos h.p2 h.p1
  exact ⟨c.length / p - 1, by rw [show c.length / p - 1 + 1 = c.length / p by omega]; exact h.dd.2.symm⟩
theorem root_len (h : RootAt c p) : (c.take p).length = p := by
  have := h.p2
  rw [List.length_take]
  omega
theorem root_ne (h : RootAt c p) : c.take p ≠ [] := fun z => by
  have h1 := root_len h
  rw [z] at h1
  have h2 := h.p1
  simp at h1
  omega
theorem root_rr (T : Tw l c g s p) : Gd (c.take p ++ c.take p) := by
  obtain ⟨m, e⟩ := root_split T.root
  have h := T.cy.gd
  have e1 : c ++ c = rep (c.take p) m ++ ((c.take p ++ c.take p) ++ rep (c.take p) m) := by
    have a : c = rep (c.take p) m ++ c.take p := by rw [← rep_succ', ← e]
    have b : c = c.take p ++ rep (c.take p) m := by rw [← rep_succ, ← e]
    calc c ++ c = (rep (c.take p) m ++ c.take p) ++ (c.take p ++ rep (c.take p) m) := by rw [← a, ← b]
      _ = _ := by simp only [List.append_assoc]
  rw [e1] at h
  exact gd_pre (gd_suf h)
theorem root_l (T : Tw l c g s p) : Gd (l ++ c.take p) := by
  have h : Gd (l ++ c) := gd_pre T.one
  rw [← List.take_append_drop p c, ← List.append_assoc] at h
  exact gd_pre h
theorem root_l' (T : Tw l c g s p) : Gd (l ++ iv (c.take p)) := by
  have h := T.one
  rw [List.append_assoc] at h
  have h := gd_suf h
  obtain ⟨m, e⟩ := root_split T.root
  have a : c = rep (c.take p) m ++ c.take p := by rw [← rep_succ', ← e]
  rw [show c ++ iv l = rep (c.take p) m ++ (c.take p ++ iv l) by rw [← List.append_assoc, ← a]] at h
  have := gd_iv (gd_suf h)
  rw [iv_app, iv_iv] at this
  exact this
theorem take_root (T : Tw l c g s p) : c.take p = c.take s ++ (c.take p).drop s := by
  have : c.take s = (c.take p).take s := by rw [List.take_take, Nat.min_eq_left (Nat.le_of_lt T.sp)]
  rw [this, List.take_append_drop]
theorem z_len (T : Tw l c g s p) : ((c.take p).drop s).length = p - s := by rw [List.length_drop, root_len T.root]
theorem y_len (T : Tw l c g s p) : (c.take s).length = s := by
  have := T.sp
  have := T.root.p2
  rw [List.length_take]
  omega
theorem gz (T : Tw l c g s p) : Gd (iv ((c.take p).drop s) ++ iv g) := by
  have h := gd_pre T.two
  have e : c.drop s = (c.take p).drop s ++ c.drop p := by
    have h1 : (c.take p ++ c.drop p).drop s = (c.take p).drop s ++ c.drop p := by
      rw [List.drop_append_of_le_length (by rw [root_len T.root]; exact Nat.le_of_lt T.sp)]
    rw [List.take_append_drop] at h1
    exact h1
  rw [e, List.append_assoc, ← List.append_assoc] at h
  have := gd_iv (gd_pre h)
  rw [iv_app] at this
  exact this
theorem len_x0 (T : Tw l c g s p) : (xk l (rep (c.take p) 0) c g s).length ≤ l.length + s + g.length := by
  have := red_len (l ++ rep (c.take p) 0 ++ c.take s ++ iv g)
  simp only [List.length_append, rep_zero, List.length_nil, iv_len, y_len T] at this
  show (red _).length ≤ _
  simp only [rep_zero]
  omega
theorem len_pos (T : Tw l c g s p) (k : Nat) : (xk l (rep (c.take p) (k + 1)) c g s).length = l.length + (k + 1) * p + s + g.length := by
  have gd : Gd (l ++ rep (c.take p) (k + 1) ++ c.take s ++ iv g) := by
    have ht := T.two
    rw [List.append_assoc] at ht
    have ht := gd_suf ht
    rcases Nat.eq_zero_or_pos s with h0 | h0
    · have ey : c.take s = [] := by rw [h0]; rfl
      rw [ey, List.append_nil]
      refine gd_lad0 (root_l T) (root_rr T) (root_ne T.root) ?_ k
      have ec : c.drop s ++ c.take s = c := by rw [h0]; simp
      rw [ec] at ht
      obtain ⟨m, e⟩ := root_split T.root
      have a : c = rep (c.take p) m ++ c.take p := by rw [← rep_succ', ← e]
      rw [show c ++ iv g = rep (c.take p) m ++ (c.take p ++ iv g) by rw [← List.append_assoc, ← a]] at ht
      exact gd_suf ht
    · refine gd_lad (root_l T) (root_rr T) (take_root T) (fun z => ?_) ?_ (k + 1)
      · have := y_len T
        rw [z] at this
        simp at this
        omega
      · rw [List.append_assoc] at ht
        exact gd_suf ht
  have e : xk l (rep (c.take p) (k + 1)) c g s = _ := red_of gd
  rw [e]
  simp only [List.length_append, iv_len, y_len T, len_rep, root_len T.root]
theorem len_neg (T : Tw l c g s p) (k : Nat) : (xk l (rep (iv (c.take p)) (k + 1)) c g s).length = l.length + k * p + (p - s) + g.length := by
  have er := take_root T
  have e1 : iv (c.take p) = iv ((c.take p).drop s) ++ iv (c.take s) := by
    conv => lhs; rw [er]
    rw [iv_app]
  have gr : Gd (iv (c.take p) ++ iv (c.take p)) := by
    rw [← iv_app]
    exact gd_iv (root_rr T)
  have hz : iv ((c.take p).drop s) ≠ [] := fun z => by
    have h1 := congrArg List.length z
    rw [iv_len, z_len T] at h1
    have h2 := T.sp
    simp at h1
    omega
  have gd : Gd (l ++ rep (iv (c.take p)) k ++ iv ((c.take p).drop s) ++ iv g) := gd_lad (root_l' T) gr e1 hz (gz T) k
  have e2 : fg (l ++ rep (iv (c.take p)) (k + 1) ++ c.take s ++ iv g) = fg (l ++ rep (iv (c.take p)) k ++ iv ((c.take p).drop s) ++ iv g) := by
    rw [rep_succ']
    have e3 : fg (iv (c.take p)) = finv (fg ((c.take p).drop s)) * finv (fg (c.take s)) := by rw [e1, fg_app, fg_iv, fg_iv]
    rw [fg_app, fg_app, fg_app, fg_app, e3]
    simp only [fg_app, fg_iv, fmul_assoc, finv_cl]
  have e : xk l (rep (iv (c.take p)) (k + 1)) c g s = _ := (fg_eq.mp e2).trans (red_of gd)
  rw [e]
  simp only [List.length_append, iv_len, z_len T, len_rep, root_len T.root]
end
end Z
namespace Z
open PySem PySem.Spec L2
theorem ltL_irr : ∀ a : List Int, ltL ltI a a = false
  | [] => rfl
  | x :: a => by
    show (if x = x then ltL ltI a a else ltI x x) = false
    rw [if_pos rfl]
    exact ltL_irr a
theorem ltL_tr : ∀ {a b c : List Int}, ltL ltI a b = true → ltL ltI b c = true → ltL ltI a c = true
  | [], [], _, h, _ => by cases h
  | [], _ :: _, [], _, h2 => by cases h2
  | [], _ :: _, _ :: _, _, _ => rfl
  | _ :: _, [], _, h, _ => by cases h
  | _ :: _, _ :: _, [], _, h2 => by cases h2
  | x :: a, y :: b, z :: c, h1, h2 => by
    have h1 : (if x = y then ltL ltI a b else ltI x y) = true := h1
    have h2 : (if y = z then ltL ltI b c else ltI y z) = true := h2
    show (if x = z then ltL ltI a c else ltI x z) = true
    by_cases e1 : x = y
    · subst e1
      rw [if_pos rfl] at h1
      by_cases e2 : x = z
      · rw [if_pos e2] at h2 ⊢
        exact ltL_tr h1 h2
      · rw [if_neg e2] at h2 ⊢
        exact h2
    · rw [if_neg e1] at h1
      have h1' : x < y := of_decide_eq_true h1
      by_cases e2 : y = z
      · subst e2
        rw [if_neg e1]
        exact h1
      · rw [if_neg e2] at h2
        have h2' : y < z := of_decide_eq_true h2
        rw [if_neg (by omega)]
        exact decide_eq_true (by omega)
theorem ltL_tri : ∀ {a b : List Int}, ltL ltI a b = false → ltL ltI b a = false → a = b
  | [], [], _, _ => rfl
  | [], _ :: _, h, _ => by cases h
  | _ :: _, [], _, h => by cases h
  | x :: a, y :: b, h1, h2 => by
    have h1 : (if x = y then ltL ltI a b else ltI x y) = false := h1
    have h2 : (if y = x then ltL ltI b a else ltI y x) = false := h2
    by_cases e : x = y
    · subst e
      rw [if_pos rfl] at h1 h2
      rw [ltL_tri h1 h2]
    · rw [if_neg e] at h1
      rw [if_neg (Ne.symm e)] at h2
      have h1' := of_decide_eq_false h1
      have h2' := of_decide_eq_false h2
      omega
theorem ltL_add (d : Int) : ∀ a b : List Int, ltL ltI (a.map (· + d)) (b.map (· + d)) = ltL ltI a b
  | [], [] => rfl
  | [], _ :: _ => rfl
  | _ :: _, [] => rfl
  | x :: a, y :: b => by
    show (if x + d = y + d then ltL ltI (a.map (· + d)) (b.map (· + d)) else ltI (x + d) (y + d)) = (if x = y then ltL ltI a b else ltI x y)
    rw [ltL_add d a b]
    by_cases e : x = y
    · rw [if_pos e, if_pos (by omega)]
    · rw [if_neg e, if_neg (by omega)]
      exact decide_eq_decide.mpr (by omega)
def cdP (x : Int) : Int := if 0 < x then 2 * x - 2 else (-2) * x - 1
def wkey (w : List Int) : Int × List Int := ((w.length : Int), w.map cdP)
def wlt (a b : List Int) : Bool := ltP2 ltI (ltL ltI) (wkey a) (wkey b)
theorem wlt_eq (a b : List Int) : wlt a b = if a.length = b.length then ltL ltI (a.map cdP) (b.map cdP) else decide (a.length < b.length) := by
  show (if (a.length : Int) = (b.length : Int) then ltL ltI (a.map cdP) (b.map cdP) else ltI (a.length : Int) (b.length : Int)) = _
  by_cases e : a.length = b.length
  · rw [if_pos e, if_pos (by omega)]
  · rw [if_neg e, if_neg (by omega)]
    exact decide_eq_decide.mpr (by omega)
theorem wlt_irr (a : List Int) : wlt a a = false := by
  rw [wlt_eq, if_pos rfl]
  exact ltL_irr _
theorem wlt_tr {a b c : List Int} (h1 : wlt a b = true) (h2 : wlt b c = true) : wlt a c = true := by
  rw [wlt_eq] at *
  by_cases e1 : a.length = b.length
  · rw [if_pos e1] at h1
    by_cases e2 : b.length = c.length
    · rw [if_pos e2] at h2
      rw [if_pos (e1.trans e2)]
      exact ltL_tr h1 h2
    · rw [if_neg e2] at h2
      rw [if_neg (by omega), e1]
      exact h2
  · rw [if_neg e1] at h1
    have h1' := of_decide_eq_true h1
    by_cases e2 : b.length = c.length
    · rw [if_neg (by omega), ← e2]
      exact h1
    · rw [if_neg e2] at h2
      have h2' := of_decide_eq_true h2
      rw [if_neg (by omega)]
      exact decide_eq_true (by omega)
theorem cdP_inj {x y : Int} (hx : x ≠ 0) (hy : y ≠ 0) (h : cdP x = cdP y) : x = y := by
  unfold cdP at h
  split at h <;> split at h <;> omega
theorem map_cd_inj : ∀ {a b : List Int}, (∀ x ∈ a, x ≠ 0) → (∀ x ∈ b, x ≠ 0) → a.map cdP = b.map cdP → a = b
  | [], [], _, _, _ => rfl
  | [], _ :: _, _, _, h => by cases h
  | _ :: _, [], _, _, h => by cases h
  | x :: a, y :: b, ha, hb, h => by
    simp only [List.map_cons, List.cons.injEq] at h
    rw [cdP_inj (ha x List.mem_cons_self) (hb y List.mem_cons_self) h.1, map_cd_inj (fun z hz => ha z (List.mem_cons_of_mem _ hz)) (fun z hz => hb z (List.mem_cons_of_mem _ hz)) h.2]
theorem wlt_tri {a b : List Int} (ha : ∀ x ∈ a, x ≠ 0) (hb : ∀ x ∈ b, x ≠ 0) (h1 : wlt a b = false) (h2 : wlt b a = false) : a = b := by
  rw [wlt_eq] at h1 h2
  by_cases e : a.length = b.length
  · rw [if_pos e] at h1
    rw [if_pos e.symm] at h2
    exact map_cd_inj ha hb (ltL_tri h1 h2)
  · rw [if_neg e] at h1
    rw [if_neg (Ne.symm e)] at h2
    have := of_decide_eq_false h1
    have := of_decide_eq_false h2
    omega
theorem wlt_len {a b : List Int} (h : a.length < b.length) : wlt a b = true := by
  rw [wlt_eq, if_neg (by omega)]
  exact decide_eq_true h
theorem best_least {bt : Nat → Nat → Bool} (tr : ∀ i j k, bt i j = true → bt j k = true → bt i k = true) (ir : ∀ i, bt i i = false) : ∀ k, argBest bt k ≤ k ∧ ∀ j, j ≤ k → bt j (argBest bt k) = false
  | 0 => ⟨Nat.le_refl 0, fun j hj => by
    have : j = 0 := by omega
    subst this
    exact ir 0⟩
  | k + 1 => by
    obtain ⟨h1, h2⟩ := best_least tr ir k
    show (if bt (k + 1) (argBest bt k) = true then k + 1 else argBest bt k) ≤ k + 1 ∧ ∀ j, j ≤ k + 1 → bt j (if bt (k + 1) (argBest bt k) = true then k + 1 else argBest bt k) = false
    by_cases hb : bt (k + 1) (argBest bt k) = true
    · rw [if_pos hb]
      refine ⟨Nat.le_refl _, fun j hj => ?_⟩
      rcases Nat.lt_or_ge j (k + 1) with hl | hl
      · cases z : bt j (k + 1) with
        | false => rfl
        | true =>
          have := tr _ _ _ z hb
          rw [h2 j (by omega)] at this
          cases this
      · rw [show j = k + 1 by omega]
        exact ir _
    · rw [if_neg hb]
      refine ⟨by omega, fun j hj => ?_⟩
      rcases Nat.lt_or_ge j (k + 1) with hl | hl
      · exact h2 j (by omega)
      · rw [show j = k + 1 by omega]
        exact Bool.eq_false_iff.mpr hb
theorem keysO_map {α β : Type} {f : α → Option β} {key : α → β} : ∀ {xs : List α}, (∀ x ∈ xs, f x = some (key x)) → keysO f xs = some (xs.map key)
  | [], _ => rfl
  | x :: t, h => by
    unfold keysO
    rw [h x List.mem_cons_self, keysO_map (fun y hy => h y (List.mem_cons_of_mem _ hy))]
    rfl
theorem minKO_ok {α β : Type} {f : α → Option β} {key : α → β} {lt : β → β → Bool} {xs : List α} (hf : ∀ x ∈ xs, f x = some (key x)) (tr : ∀ a b c : β, lt a b = true → lt b c = true → lt a c = true) (ir : ∀ a : β, lt a a = false) (hne : xs ≠ []) :
    ∃ r, minKO f lt xs = some r ∧ r ∈ xs ∧ ∀ x ∈ xs, lt (key x) (key r) = false := by
  cases xs with
  | nil => exact absurd rfl hne
  | cons x0 t =>
    obtain ⟨h1, h2⟩ := best_least (bt := fun i j => lt (((x0 :: t).map key).getD i (key x0)) (((x0 :: t).map key).getD j (key x0))) (fun i j k => tr _ _ _) (fun i => ir _) ((x0 :: t).length - 1)
    obtain ⟨b, hb⟩ : ∃ b, b = argBest (fun i j => lt (((x0 :: t).map key).getD i (key x0)) (((x0 :: t).map key).getD j (key x0))) ((x0 :: t).length - 1) := ⟨_, rfl⟩
    rw [← hb] at h1 h2
    have hlen : b < (x0 :: t).length := by
      have : (x0 :: t).length = t.length + 1 := rfl
      omega
    have gk : ∀ (i : Nat) (x : α), (x0 :: t)[i]? = some x → ((x0 :: t).map key).getD i (key x0) = key x := fun i x e => by
      rw [List.getD_eq_getElem?_getD, List.getElem?_map, e]
      rfl
    refine ⟨(x0 :: t)[b], ?_, List.getElem_mem hlen, fun x hx => ?_⟩
    · unfold minKO
      rw [keysO_map hf]
      show (x0 :: t)[argBest (fun i j => lt (((x0 :: t).map key).getD i (key x0)) (((x0 :: t).map key).getD j (key x0))) ((x0 :: t).length - 1)]? = _
      rw [← hb]
      exact List.getElem?_eq_getElem hlen
    · obtain ⟨i, hi⟩ := List.getElem?_of_mem hx
      have hil := (List.getElem?_eq_some_iff.mp hi).1
      have := h2 i (by have : (x0 :: t).length = t.length + 1 := rfl; omega)
      rw [gk i x hi, gk b _ (List.getElem?_eq_getElem hlen)] at this
      exact this
theorem red_nz {w : List Int} (h : ∀ x ∈ w, x ≠ 0) : ∀ x ∈ red w, x ≠ 0 := red_mem h
section
variable {l c g : List Int} {s p : Nat}
theorem least_turn (T : Tw l c g s p) {f : List Int} (h0 : wlt (xk l (rep (c.take p) 0) c g s) f = false) (h1 : wlt (xk l (rep (iv (c.take p)) 1) c g s) f = false) (nf : ∀ x ∈ f, x ≠ 0) {w : List Int} (nw : ∀ x ∈ w, x ≠ 0) (gw : Gd w)
    (h : red (iv w ++ (l ++ c ++ iv l) ++ w) = g ++ (c.drop s ++ c.take s) ++ iv g) : w = f ∨ wlt f w = true := by
  have go : ∀ a : List Int, wlt a f = false → (w = a ∨ a.length < w.length) → w = f ∨ wlt f w = true := fun a ha hw => by
    rcases hw with rfl | hw
    · cases z : wlt f w with
      | true => exact .inr rfl
      | false => exact .inl (wlt_tri nw nf ha z)
    · cases z : wlt f w with
      | true => exact .inr rfl
      | false =>
        cases z2 : wlt w f with
        | false => exact .inl (wlt_tri nw nf z2 z)
        | true =>
          have := wlt_tr (wlt_len hw) z2
          rw [ha] at this
          cases this
  have hp := T.root.p1
  obtain ⟨k, e | e⟩ := turns_form T gw h
  · cases k with
    | zero => exact go _ h0 (.inl e)
    | succ k =>
      refine go _ h0 (.inr ?_)
      have a := len_x0 T
      rw [e, len_pos T k]
      have : p ≤ (k + 1) * p := Nat.le_mul_of_pos_left p (Nat.succ_pos k)
      omega
  · cases k with
    | zero => exact go _ h0 (.inl e)
    | succ k =>
      cases k with
      | zero => exact go _ h1 (.inl e)
      | succ k =>
        refine go _ h1 (.inr ?_)
        rw [e, len_neg T (k + 1), len_neg T 0]
        have : p ≤ (k + 1) * p := Nat.le_mul_of_pos_left p (Nat.succ_pos k)
        omega
end
end Z
namespace Z
open PySem PySem.Spec L2
/-- three cells, of which so many draws were made at most -/
def Pot (n : Nat) (w : List Int) : Prop := ∃ a b c : Int, w = [a, b, c] ∧ 0 ≤ a ∧ 0 ≤ b ∧ b < 2 ^ 100 ∧ 0 ≤ c ∧ c ≤ n
theorem Pot.mono {n m : Nat} {w : List Int} (h : Pot n w) (hm : n ≤ m) : Pot m w := by
  obtain ⟨a, b, c, e, h1, h2, h3, h4, h5⟩ := h
  exact ⟨a, b, c, e, h1, h2, h3, h4, by omega⟩
def stL (L : Int) : List Int := (range' 1 (L + 1)).flatMap fun l => [l, -l]
theorem nodup_le {α : Type} [DecidableEq α] : ∀ (l k : List α), l.Nodup → (∀ x ∈ l, x ∈ k) → l.length ≤ k.length
  | [], _, _, _ => Nat.zero_le _
  | x :: l, k, h, hs => by
    have hx := hs x List.mem_cons_self
    have h2 := List.nodup_cons.mp h
    have := nodup_le l (k.erase x) h2.2 (fun y hy => (List.mem_erase_of_ne (fun e => h2.1 (by rw [← e]; exact hy))).mpr (hs y (List.mem_cons_of_mem _ hy)))
    rw [List.length_erase_of_mem hx] at this
    have := List.length_pos_of_mem hx
    rw [List.length_cons]
    omega
section
variable {κ β : Type} [DecidableEq κ]
theorem dGet_nil (k : κ) : dGet ([] : List (κ × β)) k = none := rfl
theorem dGet_cons (p : κ × β) (d : List (κ × β)) (k : κ) : dGet (p :: d) k = if p.1 = k then some p.2 else dGet d k := by
  unfold dGet
  rw [List.find?_cons]
  by_cases h : p.1 = k
  · simp [h]
  · simp [h]
theorem dGet_mem : ∀ {d : List (κ × β)} {k : κ} {v : β}, dGet d k = some v → (k, v) ∈ d
  | [], _, _, h => by cases h
  | p :: d, k, v, h => by
    rw [dGet_cons] at h
    by_cases e : p.1 = k
    · rw [if_pos e] at h
      cases h
      subst e
      exact List.mem_cons_self
    · rw [if_neg e] at h
      exact List.mem_cons_of_mem _ (dGet_mem h)
theorem dGet_key_mem {d : List (κ × β)} {k : κ} : (dGet d k).isSome = true ↔ k ∈ d.map Prod.fst := by
  constructor
  · intro h
    obtain ⟨v, hv⟩ := Option.isSome_iff_exists.mp h
    exact List.mem_map.mpr ⟨_, dGet_mem hv, rfl⟩
  · intro h
    induction d with
    | nil => cases h
    | cons p d ih =>
      rw [dGet_cons]
      by_cases e : p.1 = k
      · rw [if_pos e]; rfl
      · rw [if_neg e]
        rw [List.map_cons] at h
        rcases List.mem_cons.mp h with h | h
        · exact absurd h.symm e
        · exact ih h
theorem dGet_set (k : κ) (v : β) (k' : κ) : ∀ d : List (κ × β), dGet (d.map fun kv => if kv.1 = k then (kv.1, v) else kv) k' = if k = k' then (dGet d k).map (fun _ => v) else dGet d k'
  | [] => by by_cases h : k = k' <;> simp [h, dGet_nil]
  | p :: d => by
    rw [List.map_cons, dGet_cons, dGet_set k v k' d, dGet_cons, dGet_cons]
    by_cases h1 : p.1 = k
    · by_cases h2 : k = k'
      · subst h2; simp [h1]
      · have h3 : ¬ p.1 = k' := fun e => h2 (h1.symm.trans e)
        simp [h1, h2]
    · by_cases h2 : k = k'
      · subst h2; simp [h1]
      · simp [h1, h2]
theorem dGet_snoc (k : κ) (v : β) (k' : κ) : ∀ d : List (κ × β), dGet (d ++ [(k, v)]) k' = (dGet d k').or (if k = k' then some v else none)
  | [] => by rw [List.nil_append, dGet_cons]; rfl
  | p :: d => by
    rw [List.cons_append, dGet_cons, dGet_cons, dGet_snoc k v k' d]
    by_cases h : p.1 = k' <;> simp [h]
theorem any_key (d : List (κ × β)) (k : κ) : (d.any fun kv => decide (kv.1 = k)) = (dGet d k).isSome := by
  induction d with
  | nil => rfl
  | cons p d ih =>
    rw [List.any_cons, dGet_cons, ih]
    by_cases h : p.1 = k <;> simp [h]
theorem dGet_put (d : List (κ × β)) (k : κ) (v : β) (k' : κ) : dGet (dPut d k v) k' = if k = k' then some v else dGet d k' := by
  unfold dPut
  rw [any_key]
  by_cases h : (dGet d k).isSome = true
  · rw [if_pos h, dGet_set]
    obtain ⟨w, hw⟩ := Option.isSome_iff_exists.mp h
    rw [hw]
    rfl
  · rw [if_neg h, dGet_snoc]
    by_cases e : k = k'
    · subst e
      have : dGet d k = none := by simpa using h
      simp [this]
    · simp [e]
theorem dPut_keys (d : List (κ × β)) (k : κ) (v : β) : (dPut d k v).map Prod.fst = if (dGet d k).isSome = true then d.map Prod.fst else d.map Prod.fst ++ [k] := by
  unfold dPut
  rw [any_key]
  by_cases h : (dGet d k).isSome = true
  · rw [if_pos h, if_pos h, List.map_map]
    refine List.map_congr_left fun p _ => ?_
    show (if p.1 = k then (p.1, v) else p).1 = p.1
    split <;> rfl
  · rw [if_neg h, if_neg h, List.map_append]
    rfl
theorem dPut_nd {d : List (κ × β)} (h : (d.map Prod.fst).Nodup) (k : κ) (v : β) : ((dPut d k v).map Prod.fst).Nodup := by
  rw [dPut_keys]
  split
  · exact h
  · rename_i hn
    rw [List.nodup_append]
    refine ⟨h, by simp, fun a ha b hb => ?_⟩
    rw [List.mem_singleton.mp hb]
    exact fun e => hn (dGet_key_mem.mpr (e ▸ ha))
end
abbrev Dd := List (List (Int × Int))
def row (D : Dd) (a : Int) : List (Int × Int) := D.getD a.toNat []
def go (D : Dd) (a s : Int) : Option Int := dGet (row D a) s
theorem getD_set' {α : Type} (l : List α) (i j : Nat) (x d : α) (h : i < l.length) : (l.set i x).getD j d = if i = j then x else l.getD j d := by
  rw [List.getD_eq_getElem?_getD, List.getElem?_set, List.getD_eq_getElem?_getD]
  by_cases e : i = j
  · rw [if_pos e, if_pos e, if_pos h]; rfl
  · rw [if_neg e, if_neg e]
theorem setI_nn {α : Type} {xs : List α} {a : Int} (h0 : 0 ≤ a) (h : a < xs.length) (x : α) : setI xs a x = xs.set a.toNat x := by
  unfold setI ixD ixN
  rw [if_pos h0, if_pos (by omega)]
  rfl
theorem row_set {D : Dd} {a b : Int} (h0 : 0 ≤ a) (h : a < D.length) (hb : 0 ≤ b) (d : List (Int × Int)) : row (setI D a d) b = if a = b then d else row D b := by
  unfold row
  rw [setI_nn h0 h, getD_set' _ _ _ _ _ (by omega)]
  by_cases e : a = b
  · rw [if_pos e, if_pos (by omega)]
  · rw [if_neg e, if_neg (by omega)]
theorem row_mem {D : Dd} {a : Int} (h0 : 0 ≤ a) (h : a < D.length) : row D a ∈ D := by
  have hl : a.toNat < D.length := by omega
  unfold row
  rw [List.getD_eq_getElem?_getD, List.getElem?_eq_getElem hl]
  exact List.getElem_mem hl
def putD (D : Dd) (a s b : Int) : Dd := setI (setI D a (dPut (row D a) s b)) b (dPut (row (setI D a (dPut (row D a) s b)) b) (-s) a)
theorem putD_len (D : Dd) (a s b : Int) : (putD D a s b).length = D.length := by unfold putD; rw [setI_len, setI_len]
section
variable {D : Dd} {a b s : Int} (a0 : 0 ≤ a) (a1 : a < D.length) (b0 : 0 ≤ b) (b1 : b < D.length) (hs : s ≠ 0)
include a0 a1 b0 b1 hs
theorem go_put {x : Int} (hx : 0 ≤ x) (t : Int) : go (putD D a s b) x t = if x = b ∧ t = -s then some a else if x = a ∧ t = s then some b else go D x t := by
  unfold go putD
  rw [row_set b0 (by rw [setI_len]; exact b1) hx]
  by_cases hb : b = x
  · subst hb
    rw [if_pos rfl, dGet_put]
    by_cases ht : -s = t
    · rw [if_pos ht, if_pos ⟨rfl, ht.symm⟩]
    · rw [if_neg ht, if_neg (fun z => ht z.2.symm), row_set a0 a1 b0]
      by_cases ha : a = b
      · subst ha
        rw [if_pos rfl, dGet_put]
        by_cases e : s = t
        · rw [if_pos e, if_pos ⟨rfl, e.symm⟩]
        · rw [if_neg e, if_neg (fun z => e z.2.symm)]
      · rw [if_neg ha, if_neg (fun z => ha z.1.symm)]
  · rw [if_neg hb, if_neg (fun z => hb z.1.symm), row_set a0 a1 hx]
    by_cases ha : a = x
    · subst ha
      rw [if_pos rfl, dGet_put]
      by_cases e : s = t
      · rw [if_pos e, if_pos ⟨rfl, e.symm⟩]
      · rw [if_neg e, if_neg (fun z => e z.2.symm)]
    · rw [if_neg ha, if_neg (fun z => ha z.1.symm)]
end
/-- doors that lead there and back -/
structure Dr (L : Int) (n : Nat) (D : Dd) : Prop where
  len : D.length = n
  nd : ∀ d ∈ D, (d.map Prod.fst).Nodup
  ok : ∀ a s b, 0 ≤ a → go D a s = some b → 0 ≤ b ∧ b < n ∧ Sok L s ∧ go D b (-s) = some a
theorem Dr.nil (L : Int) (n : Nat) {D : Dd} (h : D = List.replicate n []) : Dr L n D := by
  subst h
  refine ⟨List.length_replicate, fun d hd => ?_, fun a s b h0 h => ?_⟩
  · rw [(List.mem_replicate.mp hd).2]
    simp
  · have hr : row (List.replicate n []) a = [] := by
      unfold row
      rw [List.getD_eq_getElem?_getD, List.getElem?_replicate]
      split <;> rfl
    unfold go at h
    rw [hr] at h
    cases h
theorem Dr.put {L : Int} {n : Nat} {D : Dd} (h : Dr L n D) {a s b : Int} (a0 : 0 ≤ a) (a1 : a < n) (b0 : 0 ≤ b) (b1 : b < n) (hs : Sok L s) (f1 : go D a s = none) (f2 : go D b (-s) = none) : Dr L n (putD D a s b) := by
  have a1' : a < D.length := by rw [h.len]; exact a1
  have b1' : b < D.length := by rw [h.len]; exact b1
  have hz := hs.1
  refine ⟨by rw [putD_len]; exact h.len, fun d hd => ?_, fun x t y hx hy => ?_⟩
  · unfold putD at hd
    rcases List.mem_or_eq_of_mem_set hd with hd | rfl
    · rcases List.mem_or_eq_of_mem_set hd with hd | rfl
      · exact h.nd d hd
      · exact dPut_nd (h.nd _ (row_mem a0 a1')) _ _
    · refine dPut_nd ?_ _ _
      rw [row_set a0 a1' b0]
      split
      · exact dPut_nd (h.nd _ (row_mem a0 a1')) _ _
      · exact h.nd _ (row_mem b0 b1')
  · rw [go_put a0 a1' b0 b1' hz hx] at hy
    by_cases e1 : x = b ∧ t = -s
    · rw [if_pos e1] at hy
      cases hy
      refine ⟨a0, a1, by rw [e1.2]; exact hs.neg, ?_⟩
      rw [go_put a0 a1' b0 b1' hz a0, if_neg (fun z => by omega), if_pos ⟨rfl, by omega⟩, e1.1]
    · rw [if_neg e1] at hy
      by_cases e2 : x = a ∧ t = s
      · rw [if_pos e2] at hy
        cases hy
        refine ⟨b0, b1, by rw [e2.2]; exact hs, ?_⟩
        rw [go_put a0 a1' b0 b1' hz b0, if_pos ⟨rfl, by omega⟩, e2.1]
      · rw [if_neg e2] at hy
        obtain ⟨y0, y1, ht, hb⟩ := h.ok x t y hx hy
        refine ⟨y0, y1, ht, ?_⟩
        rw [go_put a0 a1' b0 b1' hz y0, if_neg, if_neg]
        · exact hb
        · rintro ⟨rfl, e⟩
          rw [e, f1] at hb
          cases hb
        · rintro ⟨rfl, e⟩
          rw [e, f2] at hb
          cases hb
end Z
namespace Z
open PySem PySem.Spec L2
theorem idx_get {α : Type} {xs : List α} {v : Int} (h0 : 0 ≤ v) (h : v < xs.length) : ∃ x, idx xs v = some x ∧ xs[v.toNat]? = some x := by
  have hl : v.toNat < xs.length := by omega
  exact ⟨xs[v.toNat], idx_of h0 (List.getElem?_eq_getElem hl), List.getElem?_eq_getElem hl⟩
end Z
namespace Z
open PySem PySem.Spec L2
/-- ways laid there and back -/
def WyR (L c : Int) (W : List (Tri Int Int Int)) : Prop := ∀ t ∈ W, 0 ≤ t.a ∧ t.a < c ∧ 0 ≤ t.c ∧ t.c < c ∧ Sok L t.b ∧ Tri.mk t.c (-t.b) t.a ∈ W
theorem WyR.mono {L c d : Int} {W : List (Tri Int Int Int)} (h : WyR L c W) (hc : c ≤ d) : WyR L d W := fun t ht => by
  obtain ⟨a, b, e, f, g, i⟩ := h t ht
  exact ⟨a, by omega, e, by omega, g, i⟩
theorem WyR.app {L c : Int} {W : List (Tri Int Int Int)} (h : WyR L c W) {a s b : Int} (a0 : 0 ≤ a) (a1 : a < c) (b0 : 0 ≤ b) (b1 : b < c) (hs : Sok L s) : WyR L c (W ++ [Tri.mk a s b] ++ [Tri.mk b (-s) a]) := fun t ht => by
  rcases List.mem_append.mp ht with ht | ht
  · rcases List.mem_append.mp ht with ht | ht
    · obtain ⟨h1, h2, h3, h4, h5, h6⟩ := h t ht
      exact ⟨h1, h2, h3, h4, h5, List.mem_append_left _ (List.mem_append_left _ h6)⟩
    · rw [List.mem_singleton.mp ht]
      exact ⟨a0, a1, b0, b1, hs, List.mem_append_right _ (List.mem_singleton.mpr rfl)⟩
  · rw [List.mem_singleton.mp ht]
    refine ⟨b0, b1, a0, a1, hs.neg, List.mem_append_left _ (List.mem_append_right _ ?_)⟩
    show Tri.mk a (- -s) b ∈ _
    rw [Int.neg_neg]
    exact List.mem_singleton.mpr rfl
end Z
namespace Z
open PySem PySem.Spec L2
def vis (o : List Int) (g : Int) : List Int := if g ∈ o then o else o ++ [g]
end Z
namespace Z
open PySem PySem.Spec L2
def cell (rows : List (List Int)) (a l : Int) : Int := (rows.getD a.toNat []).getD l.toNat (-1)
theorem cell_out {rows : List (List Int)} {a l : Int} (h : rows.length ≤ a.toNat ∨ ∀ r, rows[a.toNat]? = some r → r.length ≤ l.toNat) : cell rows a l = -1 := by
  unfold cell
  rw [List.getD_eq_getElem?_getD, List.getD_eq_getElem?_getD]
  rcases h with h | h
  · rw [List.getElem?_eq_none_iff.mpr h]
    rfl
  · cases e : rows[a.toNat]? with
    | none => rfl
    | some r =>
      show (r[l.toNat]?).getD (-1) = -1
      rw [List.getElem?_eq_none_iff.mpr (h r e)]
      rfl
/-- rows in their bounds -/
structure Reg (L : Int) (rows : List (List Int)) : Prop where
  l1 : 1 ≤ L
  l4 : L ≤ 4
  rl : ∀ r ∈ rows, r.length = L.toNat
  rb : ∀ r ∈ rows, ∀ x ∈ r, -1 ≤ x ∧ x < rows.length
  one : ∀ a b l k : Int, 0 ≤ a → 0 ≤ b → 0 ≤ k → cell rows a l = k → cell rows b l = k → a = b
structure Lay (L : Int) (rows : List (List Int)) (r c : Nat) (D : Dd) : Prop where
  dr : Dr L rows.length D
  rep : ∀ x l y, 0 ≤ x → 0 < l → (go D x l = some y ↔ 0 ≤ y ∧ cell rows x (l - 1) = y ∧ (x < r ∨ (x = r ∧ l - 1 < c)))
theorem Lay.row {L : Int} {rows : List (List Int)} (R : Reg L rows) {r : Nat} {D : Dd} (h : Lay L rows r L.toNat D) : Lay L rows (r + 1) 0 D := by
  refine ⟨h.dr, fun x l y hx hl => ?_⟩
  rw [h.rep x l y hx hl]
  constructor
  · rintro ⟨z1, z2, z3⟩; exact ⟨z1, z2, by omega⟩
  · rintro ⟨z1, z2, z3⟩
    refine ⟨z1, z2, ?_⟩
    by_cases e : l - 1 < L.toNat
    · omega
    · have : cell rows x (l - 1) = -1 := cell_out (.inr fun r' hr' => by rw [R.rl r' (List.mem_of_getElem? hr')]; omega)
      omega
theorem Lay.all {L : Int} {rows : List (List Int)} {D : Dd} (h : Lay L rows rows.length 0 D) (x l y : Int) (hx : 0 ≤ x) (hl : 0 < l) : go D x l = some y ↔ 0 ≤ y ∧ cell rows x (l - 1) = y := by
  rw [h.rep x l y hx hl]
  constructor
  · rintro ⟨z1, z2, _⟩; exact ⟨z1, z2⟩
  · rintro ⟨z1, z2⟩
    refine ⟨z1, z2, ?_⟩
    by_cases e : x < rows.length
    · exact .inl e
    · have : cell rows x (l - 1) = -1 := cell_out (.inl (by omega))
      omega
theorem Lay.nil {L : Int} {rows : List (List Int)} : Lay L rows 0 0 (List.replicate rows.length []) := by
  have hd := Dr.nil L rows.length (D := List.replicate rows.length []) rfl
  refine ⟨hd, fun x l y hx hl => ?_⟩
  have hr : Z.row (List.replicate rows.length []) x = [] := by
    unfold Z.row
    rw [List.getD_eq_getElem?_getD, List.getElem?_replicate]
    split <;> rfl
  unfold go
  rw [hr]
  constructor
  · intro z; cases z
  · rintro ⟨_, _, z⟩; omega
end Z
namespace Z
open PySem PySem.Spec L2
end Z
namespace Z
open PySem PySem.Spec L2
end Z
namespace Z
open PySem PySem.Spec L2
theorem pairs_len {α β : Type} (E : List β) : ∀ l : List α, (l.flatMap fun b => E.map fun e => (b, e)).length = l.length * E.length
  | [] => by simp
  | x :: l => by
    rw [List.flatMap_cons, List.length_append, List.length_map, pairs_len E l, List.length_cons, Nat.add_mul, Nat.one_mul]
    omega
/-- the places of such a table -/
def PlOk (n : Nat) (w : List ((Int × Int) × Int)) : Prop := (w.map Prod.fst).Nodup ∧ ∀ k ∈ w.map Prod.fst, 0 ≤ k.1 ∧ k.1 < n ∧ -4 ≤ k.2 ∧ k.2 ≤ 4
theorem PlOk.len {n : Nat} {w : List ((Int × Int) × Int)} (h : PlOk n w) : w.length ≤ n * 9 := by
  have := nodup_le (w.map Prod.fst) ((range' 0 (n : Int)).flatMap fun b => [0, 1, -1, 2, -2, 3, -3, 4, (-4 : Int)].map fun e => (b, e)) h.1 fun k hk => by
    obtain ⟨h1, h2, h3, h4⟩ := h.2 k hk
    refine List.mem_flatMap.mpr ⟨k.1, ?_, List.mem_map.mpr ⟨k.2, ?_, rfl⟩⟩
    · unfold range'
      exact List.mem_map.mpr ⟨k.1.toNat, List.mem_range.mpr (by omega), by omega⟩
    · simp only [List.mem_cons, List.not_mem_nil, or_false]
      omega
  rw [List.length_map, pairs_len, rng_len] at this
  simp only [List.length_cons, List.length_nil] at this
  omega
theorem PlOk.put {n : Nat} {w : List ((Int × Int) × Int)} (h : PlOk n w) {k : Int × Int} (v : Int) (hk : 0 ≤ k.1 ∧ k.1 < n ∧ -4 ≤ k.2 ∧ k.2 ≤ 4) : PlOk n (dPut w k v) := by
  refine ⟨dPut_nd h.1 k v, fun x hx => ?_⟩
  rw [dPut_keys] at hx
  split at hx
  · exact h.2 x hx
  · rcases List.mem_append.mp hx with hx | hx
    · exact h.2 x hx
    · rw [List.mem_singleton.mp hx]; exact hk
end Z
namespace Z
open PySem PySem.Spec L2
end Z
namespace Z
open PySem PySem.Spec L2
/-- the steps that may be gone, in their order, and whither -/
def ext (L : Int) (D : Dd) (a s : Int) : List (Int × Int) := (stL L).filterMap fun t => if t = -s then none else (go D a t).map fun b => (t, b)
end Z
namespace Z
open PySem PySem.Spec L2
end Z
namespace Z
open PySem PySem.Spec L2
end Z
namespace Z
open PySem PySem.Spec L2
end Z
namespace Z
open PySem PySem.Spec L2
def Q_parted (walk : (List Int)) : Option ((List Int) × (List Int)) :=
  ((wh (fun (s1 : (Int × Int)) => ((if (decide (1 < (s1.2 - s1.1))) = true then ((idx walk s1.1).bind fun t3 => (idx walk (s1.2 - 1)).bind fun t4 => some (decide (t3 = (-t4)))) else some false).bind fun t5 => some t5)) (fun (s1 : (Int × Int)) => (some (Step.go ((s1.1 + 1), (s1.2 - 1))) : Option (Step ((List Int) × (List Int)) (Int × Int)))) 1000 (0, (walk.length : Int))).bind fun f2o => Sum.elim (fun r8 => none) (fun f2 => some ((cut walk none (some f2.1)), (cut walk (some f2.1) (some f2.2)))) f2o)
def ck (w : List Int) : Nat := min (cp w (iv w)) (w.length / 2)
def coreS (w : List Int) : List Int × List Int := (w.take (ck w), (w.drop (ck w)).take (w.length - 2 * ck w))
theorem part_test {w : List Int} {b : Nat} (hb : b ≤ ck w) : ((if (decide (1 < (((w.length : Int) - (b : Int)) - (b : Int)))) = true then ((idx w (b : Int)).bind fun t3 => (idx w (((w.length : Int) - (b : Int)) - 1)).bind fun t4 => some (decide (t3 = (-t4)))) else some false).bind fun t5 => some t5) = some (decide (b < ck w)) := by
  have hk : ck w ≤ cp w (iv w) ∧ ck w ≤ w.length / 2 := ⟨Nat.min_le_left _ _, Nat.min_le_right _ _⟩
  by_cases h1 : (1 : Int) < ((w.length : Int) - (b : Int)) - (b : Int)
  · rw [if_pos (decide_eq_true h1), idx_getD (by omega) (by omega), idx_getD (by omega) (by omega)]
    simp only [Option.bind_some, Int.toNat_natCast]
    rw [show (((w.length : Int) - (b : Int)) - 1).toNat = w.length - 1 - b by omega, ← iv_get (show b < w.length by omega)]
    refine congrArg some (decide_eq_decide.mpr ⟨fun z => ?_, fun z => cp_at (by omega)⟩)
    by_cases hc : b < cp w (iv w)
    · exact Nat.lt_min.mpr ⟨hc, by omega⟩
    · have e : b = cp w (iv w) := by omega
      subst e
      exact absurd z (cp_end (by omega) (by rw [iv_len]; omega))
  · rw [if_neg (by simpa using h1)]
    have : ¬ b < ck w := by omega
    rw [decide_eq_false this]
    rfl
theorem part_wh {w : List Int} : ∀ (n b : Nat), b ≤ ck w → ck w - b < n → wh (fun (s1 : (Int × Int)) => ((if (decide (1 < (s1.2 - s1.1))) = true then ((idx w s1.1).bind fun t3 => (idx w (s1.2 - 1)).bind fun t4 => some (decide (t3 = (-t4)))) else some false).bind fun t5 => some t5)) (fun (s1 : (Int × Int)) => (some (Step.go ((s1.1 + 1), (s1.2 - 1))) : Option (Step ((List Int) × (List Int)) (Int × Int)))) n ((b : Int), (w.length : Int) - (b : Int)) = some (.inr ((ck w : Int), (w.length : Int) - (ck w : Int)))
  | 0, _, _, h => absurd h (Nat.not_lt_zero _)
  | n + 1, b, hb, h => by
    unfold wh
    refine bindS (part_test hb) ?_
    by_cases hlt : b < ck w
    · rw [if_pos (decide_eq_true hlt)]
      show wh _ _ n ((b : Int) + 1, (w.length : Int) - (b : Int) - 1) = _
      have := part_wh n (b + 1) hlt (by omega)
      rw [show ((b + 1 : Nat) : Int) = (b : Int) + 1 by omega, show (w.length : Int) - ((b : Int) + 1) = (w.length : Int) - (b : Int) - 1 by omega] at this
      exact this
    · rw [if_neg (by simpa using hlt)]
      have e : b = ck w := by omega
      rw [e]
theorem parted_ok {w : List Int} (h : w.length ≤ 1800) : Q_parted w = some (coreS w) := by
  have hk : ck w ≤ w.length / 2 := Nat.min_le_right _ _
  unfold Q_parted
  refine bindS (part_wh 1000 0 (Nat.zero_le _) (by omega)) ?_
  show some (cut w none (some (ck w : Int)), cut w (some (ck w : Int)) (some ((w.length : Int) - (ck w : Int)))) = _
  rw [cut_to _ (by omega), cut_mid _ (by omega) (by omega) (by omega) (by omega), Int.toNat_natCast, show ((w.length : Int) - (ck w : Int)).toNat - ck w = w.length - 2 * ck w by omega]
  rfl
theorem ck_gd {w : List Int} (g : Gd w) : min (((w.length : Int) + 1) / 2 - 1).toNat (cp w (iv w)) = ck w := by
  unfold ck
  by_cases hc : w.length / 2 ≤ cp w (iv w) ∧ w.length % 2 = 0 ∧ 0 < w.length
  · exfalso
    obtain ⟨h1, h2, h3⟩ := hc
    have e := cp_at (u := w) (v := iv w) (i := w.length / 2 - 1) (by omega)
    rw [iv_get (by omega)] at e
    refine gd_at g (i := w.length / 2 - 1) (by omega) ?_
    rw [e, show w.length - 1 - (w.length / 2 - 1) = w.length / 2 - 1 + 1 by omega]
  · omega
theorem gd_stick {a b : List Int} {x y : Int} {t : List Int} (ea : a = b ++ [y]) (g : Gd a) {u : List Int} (eu : u = x :: t) (g2 : Gd u) (h : x ≠ -y) : Gd (a ++ u) := by
  subst ea eu
  rw [List.append_assoc]
  exact gd_join h g2 g
theorem core_parts {w : List Int} (g : Gd w) (h0 : ∀ x ∈ w, x ≠ 0) (hne : w ≠ []) : w = (coreS w).1 ++ (coreS w).2 ++ iv (coreS w).1 ∧ (coreS w).2 ≠ [] ∧ Gd ((coreS w).2 ++ (coreS w).2) ∧ (coreS w).1.length = ck w ∧ (coreS w).2.length = w.length - 2 * ck w ∧ 2 * ck w < w.length := by
  have hl : 0 < w.length := by
    cases w with
    | nil => exact absurd rfl hne
    | cons _ _ => exact Nat.succ_pos _
  have hk := ck_gd g
  have hcp := (cp_le w (iv w)).1
  have h2 : 2 * ck w < w.length := by omega
  have hk2 : ck w ≤ cp w (iv w) := Nat.min_le_left _ _
  have e1 : (coreS w).1 = w.take (ck w) := rfl
  have e2 : (coreS w).2 = (w.drop (ck w)).take (w.length - 2 * ck w) := rfl
  have l1 : (coreS w).1.length = ck w := by rw [e1, List.length_take]; omega
  have l2 : (coreS w).2.length = w.length - 2 * ck w := by rw [e2, List.length_take, List.length_drop]; omega
  have e3 : iv (coreS w).1 = w.drop (w.length - ck w) := by
    have := (cp_take (u := w) (v := iv w) (s := ck w) (by omega) (by rw [iv_len]; omega)).mpr hk2
    rw [e1, this, ← iv_take, iv_iv]
  have e4 : w = (coreS w).1 ++ (coreS w).2 ++ iv (coreS w).1 := by
    rw [e3, e1, e2, List.append_assoc]
    have : w.drop (w.length - ck w) = (w.drop (ck w)).drop (w.length - 2 * ck w) := by
      rw [List.drop_drop, show ck w + (w.length - 2 * ck w) = w.length - ck w by omega]
    rw [this, List.take_append_drop, List.take_append_drop]
  refine ⟨e4, fun z => ?_, ?_, l1, l2, h2⟩
  · rw [z] at l2
    simp at l2
    omega
  have gm : Gd (coreS w).2 := by
    have g' := g
    rw [e4] at g'
    exact gd_suf (gd_pre g')
  have hm : 0 < (coreS w).2.length := by omega
  obtain ⟨x, t, ex⟩ : ∃ x t, (coreS w).2 = x :: t := by
    cases e : (coreS w).2 with
    | nil => rw [e] at hm; exact absurd hm (Nat.lt_irrefl 0)
    | cons x t => exact ⟨x, t, rfl⟩
  obtain ⟨b, y, ey⟩ : ∃ b y, (coreS w).2 = b ++ [y] := ⟨(coreS w).2.dropLast, (coreS w).2.getLast (by intro z; rw [z] at hm; exact absurd hm (Nat.lt_irrefl 0)), (List.dropLast_concat_getLast _).symm⟩
  have gx : x = w.getD (ck w) 0 := by
    have : (coreS w).2[0]? = w[ck w]? := by rw [e2, List.getElem?_take, if_pos (by omega), List.getElem?_drop]; rfl
    rw [ex] at this
    rw [List.getD_eq_getElem?_getD, ← this]
    rfl
  have gy : y = w.getD (w.length - 1 - ck w) 0 := by
    have : (coreS w).2[w.length - 2 * ck w - 1]? = w[w.length - 1 - ck w]? := by
      rw [e2, List.getElem?_take, if_pos (by omega), List.getElem?_drop, show ck w + (w.length - 2 * ck w - 1) = w.length - 1 - ck w by omega]
    have lb : b.length = w.length - 2 * ck w - 1 := by
      have := congrArg List.length ey
      rw [List.length_append, l2] at this
      have h1 : [y].length = 1 := rfl
      omega
    rw [ey, ← lb, List.getElem?_append_right (Nat.le_refl _), Nat.sub_self] at this
    rw [List.getD_eq_getElem?_getD, ← this]
    rfl
  refine gd_stick ey gm ex gm ?_
  by_cases hc : ck w = cp w (iv w)
  · have := cp_end (u := w) (v := iv w) (by omega) (by rw [iv_len]; omega)
    rw [← hc, iv_get (by omega), ← gx, ← gy] at this
    exact this
  · have h3 : ck w = w.length / 2 := by
      have : ck w = min (cp w (iv w)) (w.length / 2) := rfl
      omega
    have h4 : w.length - 1 - ck w = ck w := by omega
    rw [h4, ← gx] at gy
    rw [gy]
    have := h0 x (by rw [e4, ex]; simp)
    omega
end Z
namespace Z
open PySem PySem.Spec L2
def rot1 : List Int → List Int
  | [] => []
  | x :: t => t ++ [x]
def rotN (a : List Int) : Nat → List Int
  | 0 => a
  | n + 1 => rot1 (rotN a n)
theorem rotN_add (a : List Int) (m : Nat) : ∀ n, rotN a (m + n) = rotN (rotN a m) n
  | 0 => rfl
  | n + 1 => by
    show rot1 (rotN a (m + n)) = rot1 (rotN (rotN a m) n)
    rw [rotN_add a m n]
theorem rot1_len (a : List Int) : (rot1 a).length = a.length := by
  cases a with
  | nil => rfl
  | cons x t => simp [rot1]
theorem rotN_len (a : List Int) : ∀ n, (rotN a n).length = a.length
  | 0 => rfl
  | n + 1 => (rot1_len _).trans (rotN_len a n)
theorem rotN_eq (a : List Int) : ∀ i, i ≤ a.length → rotN a i = a.drop i ++ a.take i
  | 0, _ => by simp [rotN]
  | i + 1, h => by
    show rot1 (rotN a i) = _
    rw [rotN_eq a i (by omega)]
    have e : a.drop i = a[i] :: a.drop (i + 1) := List.drop_eq_getElem_cons (by omega)
    rw [e]
    show (a.drop (i + 1) ++ a.take i) ++ [a[i]] = _
    rw [List.append_assoc, ← List.take_succ_eq_append_getElem (by omega)]
theorem rotN_full (a : List Int) : rotN a a.length = a := by
  rw [rotN_eq a _ (Nat.le_refl _)]
  simp
theorem rotN_times (a : List Int) : ∀ q, rotN a (q * a.length) = a
  | 0 => by rw [Nat.zero_mul]; rfl
  | q + 1 => by
    rw [Nat.add_mul, Nat.one_mul, rotN_add, rotN_times a q, rotN_full]
theorem rotN_mod (a : List Int) (n : Nat) : rotN a n = rotN a (n % a.length) := by
  have : n = n / a.length * a.length + n % a.length := by
    have := Nat.div_add_mod n a.length
    rw [Nat.mul_comm] at this
    exact this.symm
  conv => lhs; rw [this, rotN_add, rotN_times]
/-- all of them -/
def rots (a : List Int) : List (List Int) := (List.range a.length).map fun i => a.drop i ++ a.take i
theorem mem_rots {a x : List Int} (h : a ≠ []) : x ∈ rots a ↔ ∃ n, x = rotN a n := by
  have hl : 0 < a.length := List.length_pos_iff.mpr h
  constructor
  · intro hx
    obtain ⟨i, hi, rfl⟩ := List.mem_map.mp hx
    exact ⟨i, (rotN_eq a i (Nat.le_of_lt (List.mem_range.mp hi))).symm⟩
  · rintro ⟨n, rfl⟩
    rw [rotN_mod]
    have hm := Nat.mod_lt n hl
    exact List.mem_map.mpr ⟨n % a.length, List.mem_range.mpr hm, (rotN_eq a _ (Nat.le_of_lt hm)).symm⟩
theorem rotN_back (a : List Int) (n : Nat) : ∃ m, rotN (rotN a n) m = a := by
  rcases Nat.eq_zero_or_pos a.length with h | h
  · have : a = [] := List.length_eq_zero_iff.mp h
    subst this
    refine ⟨0, ?_⟩
    have := rotN_len [] n
    exact List.length_eq_zero_iff.mp this
  · refine ⟨n * (a.length - 1), ?_⟩
    have e : n + n * (a.length - 1) = n * a.length := by
      obtain ⟨k, hk⟩ : ∃ k, a.length = k + 1 := ⟨a.length - 1, by omega⟩
      rw [hk, Nat.add_sub_cancel, Nat.mul_add, Nat.mul_one, Nat.add_comm]
    rw [← rotN_add, e, rotN_times]
theorem cy_rot1 {a : List Int} (h : Cy a) : Cy (rot1 a) := by
  obtain ⟨⟨x, t, e⟩, _⟩ := ends h.ne
  subst e
  refine ⟨by simp [rot1], ?_⟩
  have g := gd_repZ h.gd h.ne 3
  rw [rep_succ, rep_succ, rep_succ, rep_zero, List.append_nil] at g
  have e2 : (x :: t) ++ ((x :: t) ++ (x :: t)) = [x] ++ (((t ++ [x]) ++ (t ++ [x])) ++ t) := by simp
  rw [e2] at g
  exact gd_pre (gd_suf g)
theorem cy_rotN {a : List Int} (h : Cy a) : ∀ n, Cy (rotN a n)
  | 0 => h
  | n + 1 => cy_rot1 (cy_rotN h n)
/-- lead, round walk, the lead's way back -/
structure Dec (u a m : List Int) : Prop where
  gd : Gd u
  eq : u = a ++ m ++ iv a
  cy : Cy m
theorem dec_gd {a m : List Int} (g : Gd (a ++ m ++ iv a)) (h : Cy m) : Dec (a ++ m ++ iv a) a m := ⟨g, rfl, h⟩
theorem dec_step {u a m : List Int} (h : Dec u a m) (x : Int) : ∃ a2 m2 n, Dec (red ([-x] ++ u ++ [x])) a2 m2 ∧ m2 = rotN m n := by
  obtain ⟨gu, rfl, cy⟩ := h
  have fx : fg [-x] = finv (fg [x]) := by rw [← fg_iv]; rfl
  cases a with
  | cons y a =>
    have gw : Gd (a ++ m ++ iv a) := by
      have e : (y :: a) ++ m ++ iv (y :: a) = [y] ++ ((a ++ m ++ iv a) ++ [-y]) := by rw [iv_cons]; simp
      rw [e] at gu
      exact gd_pre (gd_suf gu)
    by_cases hy : y = x
    · subst hy
      have e : red ([-y] ++ ((y :: a) ++ m ++ iv (y :: a)) ++ [y]) = a ++ m ++ iv a := by
        have : fg ([-y] ++ ((y :: a) ++ m ++ iv (y :: a)) ++ [y]) = fg (a ++ m ++ iv a) := by
          have e1 : (y :: a) ++ m ++ iv (y :: a) = [y] ++ ((a ++ m ++ iv a) ++ [-y]) := by rw [iv_cons]; simp
          rw [e1, fg_app, fg_app, fg_app, fg_app, fx]
          simp only [fmul_assoc, finv_cl, finv_mul, fmul_one]
        rw [fg_eq.mp this, red_of gw]
      exact ⟨a, m, 0, by rw [e]; exact dec_gd gw cy, rfl⟩
    · have g : Gd ([-x] ++ ((y :: a) ++ m ++ iv (y :: a)) ++ [x]) := by
        have g1 : Gd ([-x] ++ ((y :: a) ++ m ++ iv (y :: a))) := gd_meet (b := []) (y := -x) rfl trivial (x := y) (t := a ++ m ++ iv (y :: a)) (by simp) gu (by omega)
        exact gd_meet (b := [-x] ++ ((y :: a) ++ m ++ iv a)) (y := -y) (by rw [iv_cons]; simp) g1 (x := x) (t := []) rfl trivial (by omega)
      refine ⟨-x :: y :: a, m, 0, ?_, rfl⟩
      rw [red_of g]
      have e : [-x] ++ ((y :: a) ++ m ++ iv (y :: a)) ++ [x] = (-x :: y :: a) ++ m ++ iv (-x :: y :: a) := by
        rw [iv_cons (-x), show -(-x) = x by omega]
        simp
      rw [e] at g ⊢
      exact dec_gd g cy
  | nil =>
    have ei : iv ([] : List Int) = [] := rfl
    rw [ei, List.nil_append, List.append_nil] at gu ⊢
    obtain ⟨⟨z, t, ez⟩, b, e, eb⟩ := ends cy.ne
    by_cases hz : z = x
    · subst hz
      have c2 := cy_rot1 cy
      have er : rot1 m = t ++ [z] := by rw [ez]; rfl
      have e3 : red ([-z] ++ m ++ [z]) = t ++ [z] := by
        have : fg ([-z] ++ m ++ [z]) = fg (t ++ [z]) := by
          rw [ez, show z :: t = [z] ++ t from rfl, fg_app, fg_app, fg_app, fg_app, fx]
          simp only [fmul_assoc, finv_cl]
        rw [fg_eq.mp this, red_of (by rw [← er]; exact gd_pre c2.gd)]
      refine ⟨[], rot1 m, 1, ?_, rfl⟩
      rw [e3, ← er]
      have := dec_gd (a := []) (m := rot1 m) (by rw [ei]; simp only [List.nil_append, List.append_nil]; exact gd_pre c2.gd) c2
      rw [ei, List.nil_append, List.append_nil] at this
      exact this
    · by_cases he : e = -x
      · subst he
        have er : rot1 (-x :: b) = m := by rw [eb]; rfl
        obtain ⟨n, hn⟩ := rotN_back (-x :: b) 1
        have hn : rotN m n = -x :: b := by
          rw [← hn]
          show rotN m n = rotN (rot1 (-x :: b)) n
          rw [er]
        have c2 : Cy (-x :: b) := hn ▸ cy_rotN cy n
        have e3 : red ([-x] ++ m ++ [x]) = -x :: b := by
          have : fg ([-x] ++ m ++ [x]) = fg (-x :: b) := by
            rw [eb, show -x :: b = [-x] ++ b from rfl, fg_app, fg_app, fg_app, fg_app, fx]
            simp only [fmul_assoc, finv_mul, fmul_one]
          rw [fg_eq.mp this, red_of (gd_pre c2.gd)]
        refine ⟨[], -x :: b, n, ?_, hn.symm⟩
        rw [e3]
        have := dec_gd (a := []) (m := -x :: b) (by rw [ei]; simp only [List.nil_append, List.append_nil]; exact gd_pre c2.gd) c2
        rw [ei, List.nil_append, List.append_nil] at this
        exact this
      · have g : Gd ([-x] ++ m ++ [x]) := by
          have g1 : Gd ([-x] ++ m) := gd_meet (b := []) (y := -x) rfl trivial ez (gd_pre cy.gd) (by omega)
          exact gd_meet (b := [-x] ++ b) (y := e) (by rw [eb]; simp) g1 (x := x) (t := []) rfl trivial (by omega)
        refine ⟨[-x], m, 0, ?_, rfl⟩
        rw [red_of g]
        have e3 : [-x] ++ m ++ [x] = [-x] ++ m ++ iv [-x] := by
          show _ = [-x] ++ m ++ [-(-x)]
          rw [show -(-x) = x by omega]
        rw [e3] at g ⊢
        exact dec_gd g cy
theorem dec_conj : ∀ (w : List Int) {u a m : List Int}, Dec u a m → ∃ a2 m2 n, Dec (red (iv w ++ u ++ w)) a2 m2 ∧ m2 = rotN m n
  | [], u, a, m, h => ⟨a, m, 0, by
      show Dec (red ([] ++ u ++ [])) a m
      rw [List.nil_append, List.append_nil, red_of h.gd]
      exact h, rfl⟩
  | x :: w, u, a, m, h => by
    obtain ⟨a2, m2, n, h2, e2⟩ := dec_step h x
    obtain ⟨a3, m3, k, h3, e3⟩ := dec_conj w h2
    refine ⟨a3, m3, n + k, ?_, by rw [e3, e2, rotN_add]⟩
    have : red (iv (x :: w) ++ u ++ x :: w) = red (iv w ++ red ([-x] ++ u ++ [x]) ++ w) := by
      refine fg_eq.mp ?_
      have e4 : fg (red ([-x] ++ u ++ [x])) = fg ([-x] ++ u ++ [x]) := fg_eq.mpr (red_red _)
      rw [iv_cons, show x :: w = [x] ++ w from rfl]
      simp only [fg_app, fmul_assoc] at e4 ⊢
      rw [e4]
      simp only [fmul_assoc]
    rw [this]
    exact h3
theorem dec_le {u a m b n : List Int} (h1 : Dec u a m) (h2 : Dec u b n) : b.length ≤ a.length := by
  rcases Nat.lt_or_ge a.length b.length with hl | hl
  · exfalso
    have e : a ++ m ++ iv a = b ++ n ++ iv b := h1.eq.symm.trans h2.eq
    have ea : a = b.take a.length := by
      have := congrArg (List.take a.length) e
      rw [List.append_assoc, List.append_assoc, List.take_left' rfl, List.take_append_of_le_length (Nat.le_of_lt hl)] at this
      exact this
    obtain ⟨x, b', eb⟩ : ∃ x b', b = a ++ x :: b' := by
      have h3 := (List.take_append_drop a.length b).symm
      rw [← ea] at h3
      cases hd : b.drop a.length with
      | nil =>
        have := congrArg List.length hd
        rw [List.length_drop] at this
        simp at this
        omega
      | cons x b' => exact ⟨x, b', by rw [hd] at h3; exact h3⟩
    have em : m = (x :: b' ++ n ++ iv b') ++ [-x] := by
      have e2 : a ++ (m ++ iv a) = a ++ (((x :: b' ++ n ++ iv b') ++ [-x]) ++ iv a) := by
        rw [← List.append_assoc, e, eb, iv_app, iv_cons]
        simp
      exact List.append_cancel_right (List.append_cancel_left e2)
    have g := h1.cy.gd
    have e3 : m ++ m = ((x :: b' ++ n ++ iv b') ++ [-x]) ++ x :: (b' ++ n ++ iv b' ++ [-x]) := by
      conv => lhs; rw [em]
      simp
    rw [e3] at g
    have := gd_touch g
    omega
  · exact hl
theorem dec_uniq {u a m b n : List Int} (h1 : Dec u a m) (h2 : Dec u b n) : a = b ∧ m = n := by
  have hl : a.length = b.length := Nat.le_antisymm (dec_le h2 h1) (dec_le h1 h2)
  have e : a ++ (m ++ iv a) = b ++ (n ++ iv b) := by rw [← List.append_assoc, ← List.append_assoc]; exact h1.eq.symm.trans h2.eq
  obtain ⟨e1, e2⟩ := List.append_inj e hl
  subst e1
  exact ⟨rfl, List.append_cancel_right e2⟩
theorem dec_core {u : List Int} (g : Gd u) (nz : ∀ x ∈ u, x ≠ 0) (hne : u ≠ []) : Dec u (coreS u).1 (coreS u).2 := by
  obtain ⟨h1, h2, h3, _⟩ := core_parts g nz hne
  exact ⟨g, h1, h2, h3⟩
/-- the round walk of what a walk is turned into -/
theorem core_conj {u w : List Int} (g : Gd u) (nu : ∀ x ∈ u, x ≠ 0) (nw : ∀ x ∈ w, x ≠ 0) (hne : u ≠ []) : red (iv w ++ u ++ w) ≠ [] ∧ ∃ n, (coreS (red (iv w ++ u ++ w))).2 = rotN (coreS u).2 n := by
  obtain ⟨a2, m2, n, h, e⟩ := dec_conj w (dec_core g nu hne)
  have nv : ∀ x ∈ red (iv w ++ u ++ w), x ≠ 0 := red_nz fun x hx => by
    rcases List.mem_append.mp hx with hx | hx
    · rcases List.mem_append.mp hx with hx | hx
      · obtain ⟨y, hy, rfl⟩ := List.mem_map.mp hx
        have := nw y (List.mem_reverse.mp hy)
        omega
      · exact nu x hx
    · exact nw x hx
  have hne2 : red (iv w ++ u ++ w) ≠ [] := fun z => by
    have := h.eq
    rw [z] at this
    have := congrArg List.length this
    simp only [List.length_append, List.length_nil] at this
    have h3 : m2.length ≠ 0 := fun q => h.cy.ne (List.length_eq_zero_iff.mp q)
    omega
  exact ⟨hne2, n, by rw [(dec_uniq (dec_core h.gd nv hne2) h).2, e]⟩
end Z
namespace Z
open PySem PySem.Spec L2
def fpow (x : FG) : Nat → FG
  | 0 => fone
  | n + 1 => fpow x n * x
theorem fpow_comm (x : FG) : ∀ n, x * fpow x n = fpow x n * x
  | 0 => by rw [fpow, fmul_one, fone_mul]
  | n + 1 => by rw [fpow, ← fmul_assoc, fpow_comm x n]
theorem fpow_add (x : FG) (a : Nat) : ∀ b, fpow x (a + b) = fpow x a * fpow x b
  | 0 => by rw [Nat.add_zero, fpow, fmul_one]
  | b + 1 => by
    show fpow x (a + b) * x = fpow x a * (fpow x b * x)
    rw [fpow_add x a b, fmul_assoc]
theorem fpow_mul (x : FG) (a : Nat) : ∀ b, fpow (fpow x a) b = fpow x (a * b)
  | 0 => rfl
  | b + 1 => by
    rw [fpow, fpow_mul x a b, Nat.mul_add, Nat.mul_one, fpow_add]
theorem fpow_conj (x w : FG) : ∀ n, fpow (finv w * (x * w)) n = finv w * (fpow x n * w)
  | 0 => by simp only [fpow, fone_mul, finv_mul]
  | n + 1 => by
    rw [fpow, fpow_conj x w n, fpow]
    simp only [fmul_assoc, fmul_cl]
theorem fpow_inv (x : FG) : ∀ n, fpow (finv x) n = finv (fpow x n)
  | 0 => by rw [fpow, fpow, finv_one]
  | n + 1 => by rw [fpow, fpow_inv x n, fpow, ← fpow_comm, finv_rev]
theorem fpow_one : ∀ n, fpow fone n = fone
  | 0 => rfl
  | n + 1 => by rw [fpow, fpow_one n, fone_mul]
theorem fg_rep (w : List Int) : ∀ n, fg (rep w n) = fpow (fg w) n
  | 0 => rfl
  | n + 1 => by rw [rep_succ', fg_app, fg_rep w n, fpow]
def zp (x : FG) (t : Int) : FG := if t < 0 then finv (fpow x t.natAbs) else fpow x t.natAbs
theorem zp_nat (x : FG) (n : Nat) : zp x n = fpow x n := by
  unfold zp
  rw [if_neg (by omega)]
  rfl
theorem zp_neg (x : FG) (n : Nat) : zp x (-(n : Int)) = finv (fpow x n) := by
  unfold zp
  by_cases h : n = 0
  · subst h
    rfl
  · rw [if_pos (by omega)]
    congr 2
    omega
theorem int_cases (t : Int) : (∃ n : Nat, t = n) ∨ ∃ n : Nat, t = -(n : Int) := by
  rcases Int.lt_or_le t 0 with h | h
  · exact .inr ⟨t.natAbs, by omega⟩
  · exact .inl ⟨t.natAbs, by omega⟩
theorem fpow_sub (x : FG) {a b : Nat} (h : b ≤ a) : fpow x a * finv (fpow x b) = fpow x (a - b) ∧ finv (fpow x b) * fpow x a = fpow x (a - b) := by
  have e1 : a = (a - b) + b := by omega
  have e2 : a = b + (a - b) := by omega
  constructor
  · conv => lhs; rw [e1, fpow_add]
    rw [fmul_assoc, fmul_inv, fmul_one]
  · conv => lhs; rw [e2, fpow_add]
    rw [finv_cl]
theorem zp_add (x : FG) (a b : Int) : zp x (a + b) = zp x a * zp x b := by
  rcases int_cases a with ⟨m, rfl⟩ | ⟨m, rfl⟩ <;> rcases int_cases b with ⟨n, rfl⟩ | ⟨n, rfl⟩
  · rw [show (m : Int) + (n : Int) = ((m + n : Nat) : Int) by omega, zp_nat, zp_nat, zp_nat, fpow_add]
  · rw [zp_nat, zp_neg]
    rcases Nat.le_total n m with h | h
    · rw [show (m : Int) + -(n : Int) = ((m - n : Nat) : Int) by omega, zp_nat, (fpow_sub x h).1]
    · rw [show (m : Int) + -(n : Int) = -((n - m : Nat) : Int) by omega, zp_neg, ← (fpow_sub x h).1, finv_rev, finv_inv]
  · rw [zp_nat, zp_neg]
    rcases Nat.le_total m n with h | h
    · rw [show -(m : Int) + (n : Int) = ((n - m : Nat) : Int) by omega, zp_nat, (fpow_sub x h).2]
    · rw [show -(m : Int) + (n : Int) = -((m - n : Nat) : Int) by omega, zp_neg, ← (fpow_sub x h).2, finv_rev, finv_inv]
  · rw [show -(m : Int) + -(n : Int) = -((n + m : Nat) : Int) by omega, zp_neg, zp_neg, zp_neg, fpow_add, finv_rev]
theorem zp_inv (x : FG) (a : Int) : zp x (-a) = finv (zp x a) := by
  rcases int_cases a with ⟨m, rfl⟩ | ⟨m, rfl⟩
  · rw [zp_neg, zp_nat]
  · rw [Int.neg_neg, zp_nat, zp_neg, finv_inv]
theorem zp_mul (x : FG) (a b : Int) : zp (zp x a) b = zp x (a * b) := by
  rcases int_cases a with ⟨m, rfl⟩ | ⟨m, rfl⟩ <;> rcases int_cases b with ⟨n, rfl⟩ | ⟨n, rfl⟩
  · rw [zp_nat, zp_nat, fpow_mul, ← Int.natCast_mul, zp_nat]
  · rw [zp_nat, zp_neg, fpow_mul, Int.mul_neg, ← Int.natCast_mul, zp_neg]
  · rw [zp_neg, zp_nat, fpow_inv, fpow_mul, Int.neg_mul, ← Int.natCast_mul, zp_neg]
  · rw [zp_neg, zp_neg, fpow_inv, fpow_mul, Int.neg_mul_neg, ← Int.natCast_mul, zp_nat, finv_inv]
theorem zp_conj (x w : FG) (t : Int) : zp (finv w * (x * w)) t = finv w * (zp x t * w) := by
  rcases int_cases t with ⟨m, rfl⟩ | ⟨m, rfl⟩
  · rw [zp_nat, zp_nat, fpow_conj]
  · rw [zp_neg, zp_neg, fpow_conj, finv_rev, finv_rev, finv_inv, fmul_assoc]
theorem zp_one (t : Int) : zp fone t = fone := by
  unfold zp
  rw [fpow_one, finv_one]
  split <;> rfl
/-- a walk done so many times -/
def pw (u : List Int) (t : Int) : List Int := red (rep (if t < 0 then iv u else u) t.natAbs)
theorem fg_pw (u : List Int) (t : Int) : fg (pw u t) = zp (fg u) t := by
  have : fg (pw u t) = fg (rep (if t < 0 then iv u else u) t.natAbs) := fg_eq.mpr (red_red _)
  rw [this, fg_rep]
  unfold zp
  split
  · rw [fg_iv, fpow_inv]
  · rfl
theorem fg_inj {u v : List Int} (gu : Gd u) (gv : Gd v) (h : fg u = fg v) : u = v := by
  have := fg_eq.mp h
  rw [red_of gu, red_of gv] at this
  exact this
theorem rep_shift (x : Int) (t : List Int) : ∀ k, rep (x :: t) k ++ [x] = [x] ++ rep (t ++ [x]) k
  | 0 => rfl
  | k + 1 => by
    rw [rep_succ, List.append_assoc, rep_shift x t k, rep_succ]
    simp
theorem rot1_rep (z : List Int) (k : Nat) : rot1 (rep z (k + 1)) = rep (rot1 z) (k + 1) := by
  cases z with
  | nil =>
    have : ∀ n, rep [] n = [] := fun n => List.length_eq_zero_iff.mp (by rw [len_rep]; simp)
    rw [this]
    show [] = rep [] (k + 1)
    rw [this]
  | cons x t =>
    show rot1 (rep (x :: t) (k + 1)) = rep (t ++ [x]) (k + 1)
    rw [rep_succ, rep_succ]
    show (t ++ rep (x :: t) k) ++ [x] = _
    rw [List.append_assoc, rep_shift]
    simp
theorem rotN_rep (z : List Int) (k : Nat) : ∀ j, rotN (rep z (k + 1)) j = rep (rotN z j) (k + 1)
  | 0 => rfl
  | j + 1 => by
    show rot1 (rotN (rep z (k + 1)) j) = rep (rot1 (rotN z j)) (k + 1)
    rw [rotN_rep z k j, rot1_rep]
/-- no walk done often -/
def Pm (r : List Int) : Prop := RootAt r r.length
theorem pm_ne {r : List Int} (h : Pm r) : r ≠ [] := fun z => by
  have := h.p1
  rw [z] at this
  exact absurd this (by decide)
theorem ddz_rep {z : List Int} {k : Nat} (h : 0 < z.length) : DDz (rep z (k + 1)) z.length ∧ (rep z (k + 1)).take z.length = z := by
  have e : (rep z (k + 1)).take z.length = z := by rw [rep_succ, List.take_left' rfl]
  refine ⟨⟨by rw [len_rep]; exact Nat.mul_mod_left _ _, ?_⟩, e⟩
  rw [e, len_rep, Nat.mul_div_cancel _ h]
theorem exists_root : ∀ (n : Nat) (c : List Int), (∃ q, 1 ≤ q ∧ q ≤ n ∧ q ≤ c.length ∧ DDz c q) → ∃ p, RootAt c p
  | 0, c, ⟨q, a, b, _⟩ => by omega
  | n + 1, c, h => by
    rcases Classical.em (∃ q, 1 ≤ q ∧ q ≤ n ∧ q ≤ c.length ∧ DDz c q) with e | e
    · exact exists_root n c e
    · obtain ⟨q, a, b, d, f⟩ := h
      refine ⟨q, a, d, f, fun q' a' b' f' => e ⟨q', a', by omega, by omega, f'⟩⟩
theorem root_of {c : List Int} (h : c ≠ []) : ∃ p, RootAt c p := by
  have hl : 0 < c.length := List.length_pos_iff.mpr h
  refine exists_root c.length c ⟨c.length, hl, Nat.le_refl _, Nat.le_refl _, Nat.mod_self _, ?_⟩
  rw [Nat.div_self hl, List.take_length, rep_succ, rep_zero, List.append_nil]
theorem root_uniq {c : List Int} {p q : Nat} (h : RootAt c p) (k : RootAt c q) : p = q := by
  rcases Nat.lt_trichotomy p q with z | z | z
  · exact absurd h.dd (k.mn p h.p1 z)
  · exact z
  · exact absurd k.dd (h.mn q k.p1 z)
theorem pm_rep {r : List Int} (h : Pm r) (k : Nat) : RootAt (rep r (k + 1)) r.length := by
  have hl : 0 < r.length := h.p1
  have hle : r.length ≤ (rep r (k + 1)).length := by
    rw [len_rep]
    exact Nat.le_mul_of_pos_left _ (Nat.succ_pos k)
  obtain ⟨p, hp⟩ := root_of (c := rep r (k + 1)) (fun z => by rw [z] at hle; have : r.length ≤ 0 := hle; omega)
  obtain ⟨dd, et⟩ := ddz_rep (k := k) hl
  have hcomm : rep r (k + 1) ++ r = r ++ rep r (k + 1) := rep_comm r (k + 1)
  obtain ⟨j, ej⟩ := comm_root hp.p1 hp.p2 hp.dd hp.mn hcomm
  have hpr : p ≤ r.length := by
    rcases Nat.lt_or_ge r.length p with z | z
    · exact absurd dd (hp.mn _ hl z)
    · exact z
  have lz := root_len hp
  have hj : r.length = j * p := by
    have := congrArg List.length ej
    rw [len_rep, lz] at this
    exact this
  obtain ⟨j', rfl⟩ : ∃ j', j = j' + 1 := by
    cases j with
    | zero => rw [Nat.zero_mul] at hj; omega
    | succ j' => exact ⟨j', rfl⟩
  have d2 : DDz r p := by
    have := (ddz_rep (z := (rep r (k + 1)).take p) (k := j') (by rw [lz]; exact hp.p1)).1
    rw [← ej, lz] at this
    exact this
  have : p = r.length := by
    rcases Nat.lt_or_ge p r.length with z | z
    · exact absurd d2 (h.mn p hp.p1 z)
    · omega
  rw [← this]
  exact hp
theorem pm_root {c : List Int} {p : Nat} (h : RootAt c p) : Pm (c.take p) := by
  have l := root_len h
  obtain ⟨m, e⟩ := root_split h
  refine ⟨by rw [l]; exact h.p1, Nat.le_refl _, ?_, fun q q1 q2 d => ?_⟩
  · have := (ddz_rep (z := c.take p) (k := 0) (by rw [l]; exact h.p1)).1
    rw [rep_succ, rep_zero, List.append_nil] at this
    exact this
  · rw [l] at q2
    refine h.mn q q1 q2 ?_
    have e1 : c.take p = rep ((c.take p).take q) ((c.take p).length / q) := d.2.symm
    have hq : 0 < (c.take p).length / q := Nat.div_pos (by rw [l]; omega) q1
    have e2 : c = rep ((c.take p).take q) (((c.take p).length / q) * (m + 1)) := by
      conv => lhs; rw [e, e1]
      have : ∀ (z : List Int) (a b : Nat), rep (rep z a) b = rep z (a * b) := fun z a b => by
        induction b with
        | zero => rfl
        | succ b ih => rw [rep_succ', ih, Nat.mul_add, Nat.mul_one, rep_app]
      exact this _ _ _
    have lq : ((c.take p).take q).length = q := by rw [List.length_take, l]; omega
    obtain ⟨k, hk⟩ : ∃ k, ((c.take p).length / q) * (m + 1) = k + 1 := ⟨((c.take p).length / q) * (m + 1) - 1, by have := Nat.mul_pos hq (show 0 < m + 1 by omega); omega⟩
    rw [hk] at e2
    have := (ddz_rep (z := (c.take p).take q) (k := k) (by rw [lq]; omega)).1
    rw [← e2, lq] at this
    exact this
theorem pm_iv {r : List Int} (h : Pm r) : Pm (iv r) := by
  have := RootAt.iv h
  unfold Pm
  rw [iv_len]
  exact this
theorem pm_rot {r : List Int} (h : Pm r) (n : Nat) : Pm (rotN r n) := by
  have ln := rotN_len r n
  refine ⟨by rw [ln]; exact h.p1, Nat.le_refl _, ?_, fun q q1 q2 d => ?_⟩
  · have := (ddz_rep (z := rotN r n) (k := 0) (by rw [ln]; exact h.p1)).1
    rw [rep_succ, rep_zero, List.append_nil] at this
    exact this
  · rw [ln] at q2
    refine h.mn q q1 q2 ?_
    have hk : 0 < (rotN r n).length / q := Nat.div_pos (by rw [ln]; omega) q1
    obtain ⟨k, ek⟩ : ∃ k, (rotN r n).length / q = k + 1 := ⟨(rotN r n).length / q - 1, by omega⟩
    have e1 : rotN r n = rep ((rotN r n).take q) (k + 1) := by rw [← ek]; exact d.2.symm
    obtain ⟨m, em⟩ := rotN_back r n
    have e2 : r = rep (rotN ((rotN r n).take q) m) (k + 1) := by
      rw [← rotN_rep, ← e1, em]
    have lq : (rotN ((rotN r n).take q) m).length = q := by rw [rotN_len, List.length_take, ln]; omega
    have := (ddz_rep (z := rotN ((rotN r n).take q) m) (k := k) (by rw [lq]; omega)).1
    rw [← e2, lq] at this
    exact this
end Z
namespace Z
open PySem PySem.Spec L2
/-- a walk that is none done often -/
def PR (R : List Int) : Prop := ∃ l r, Dec R l r ∧ Pm r
/-- R is the root of u, m times -/
def Rt (u R : List Int) (m : Nat) : Prop := (u = [] ∧ R = [] ∧ m = 0) ∨ (PR R ∧ 1 ≤ m ∧ u = red (rep R m))
theorem fg_red (w : List Int) : fg (red w) = fg w := fg_eq.mpr (red_red _)
theorem dec_ends {u l c : List Int} (h : Dec u l c) : Gd (l ++ c) ∧ Gd (c ++ iv l) := by
  have g := h.gd
  rw [h.eq] at g
  exact ⟨gd_pre g, by rw [List.append_assoc] at g; exact gd_suf g⟩
theorem dec_pow {R l r : List Int} (h : Dec R l r) (k : Nat) : Dec (red (rep R (k + 1))) l (rep r (k + 1)) := by
  obtain ⟨g1, g2⟩ := dec_ends h
  have g := gd_lad0 g1 h.cy.gd h.cy.ne g2 k
  have e : fg (rep R (k + 1)) = fg (l ++ rep r (k + 1) ++ iv l) := by
    rw [fg_rep, h.eq]
    simp only [fg_app, fg_iv, fg_rep]
    have := fpow_conj (fg r) (finv (fg l)) (k + 1)
    rw [finv_inv, ← fmul_assoc, ← fmul_assoc] at this
    exact this
  have e2 : red (rep R (k + 1)) = l ++ rep r (k + 1) ++ iv l := by
    rw [fg_eq.mp e, red_of g]
  rw [e2]
  refine ⟨g, rfl, fun z => ?_, ?_⟩
  · have h1 := congrArg List.length z
    rw [len_rep] at h1
    have hr := List.length_pos_iff.mpr h.cy.ne
    have h2 : 0 < (k + 1) * r.length := Nat.mul_pos (Nat.succ_pos k) hr
    rw [h1] at h2
    exact absurd h2 (by simp)
  · rw [← rep_app]
    exact gd_repZ h.cy.gd h.cy.ne _
theorem pr_pow_ne {R : List Int} {m : Nat} (h : PR R) (hm : 1 ≤ m) : red (rep R m) ≠ [] := fun z => by
  obtain ⟨l, r, d, p⟩ := h
  obtain ⟨k, rfl⟩ : ∃ k, m = k + 1 := ⟨m - 1, by omega⟩
  have d2 := dec_pow d k
  have := d2.eq
  rw [z] at this
  have := congrArg List.length this
  simp only [List.length_append, List.length_nil] at this
  have h3 : (rep r (k + 1)).length ≠ 0 := fun q => d2.cy.ne (List.length_eq_zero_iff.mp q)
  omega
theorem rt_nil {u R : List Int} {m : Nat} (h : Rt u R m) : u = [] ↔ R = [] := by
  rcases h with ⟨a, b, _⟩ | ⟨p, hm, e⟩
  · exact ⟨fun _ => b, fun _ => a⟩
  · constructor
    · intro z
      rw [e] at z
      exact absurd z (pr_pow_ne p hm)
    · intro z
      obtain ⟨l, r, d, pm⟩ := p
      have := d.eq
      rw [z] at this
      have := congrArg List.length this
      simp only [List.length_append, List.length_nil] at this
      exact absurd (List.length_eq_zero_iff.mp (by omega)) (pm_ne pm)
theorem rt_uniq {u R S : List Int} {m k : Nat} (h : Rt u R m) (h' : Rt u S k) : R = S ∧ m = k := by
  rcases h with ⟨a, b, c⟩ | ⟨p, hm, e⟩
  · rcases h' with ⟨_, b', c'⟩ | ⟨p', hm', e'⟩
    · exact ⟨b.trans b'.symm, c.trans c'.symm⟩
    · exact absurd (e'.symm.trans a) (pr_pow_ne p' hm')
  · rcases h' with ⟨a', _, _⟩ | ⟨p', hm', e'⟩
    · exact absurd (e.symm.trans a') (pr_pow_ne p hm)
    · obtain ⟨l, r, d, pm⟩ := p
      obtain ⟨l', r', d', pm'⟩ := p'
      obtain ⟨i, rfl⟩ : ∃ i, m = i + 1 := ⟨m - 1, by omega⟩
      obtain ⟨j, rfl⟩ : ∃ j, k = j + 1 := ⟨k - 1, by omega⟩
      have d2 := dec_pow d i
      have d3 := dec_pow d' j
      rw [← e] at d2
      rw [← e'] at d3
      obtain ⟨e1, e2⟩ := dec_uniq d2 d3
      have h1 := pm_rep pm i
      have h2 := pm_rep pm' j
      rw [e2] at h1
      have hl := root_uniq h1 h2
      have er : r = r' := by
        have a := (ddz_rep (z := r) (k := i) pm.p1).2
        have b := (ddz_rep (z := r') (k := j) pm'.p1).2
        rw [e2, hl] at a
        exact a.symm.trans b
      have hij : (i + 1) * r.length = (j + 1) * r.length := by
        have := congrArg List.length e2
        rw [len_rep, len_rep, ← hl] at this
        exact this
      refine ⟨?_, Nat.eq_of_mul_eq_mul_right pm.p1 hij⟩
      rw [d.eq, d'.eq, e1, er]
theorem rt_pow {u R : List Int} {m t : Nat} (h : Rt u R m) (ht : 1 ≤ t) : Rt (red (rep u t)) R (m * t) := by
  rcases h with ⟨a, b, c⟩ | ⟨p, hm, e⟩
  · refine .inl ⟨?_, b, by rw [c, Nat.zero_mul]⟩
    have : rep u t = [] := List.length_eq_zero_iff.mp (by rw [len_rep, a]; simp)
    rw [this]
    rfl
  · refine .inr ⟨p, Nat.mul_pos hm ht, ?_⟩
    refine fg_eq.mp ?_
    rw [fg_rep, fg_rep, e, fg_red, fg_rep, fpow_mul]
theorem pmr_iv {R : List Int} (h : PR R) : PR (iv R) := by
  obtain ⟨l, r, d, p⟩ := h
  refine ⟨l, iv r, ⟨gd_iv d.gd, ?_, fun z => ?_, ?_⟩, pm_iv p⟩
  · conv => lhs; rw [d.eq]
    rw [iv_app, iv_app, iv_iv, List.append_assoc]
  · have := congrArg List.length z
    rw [iv_len] at this
    exact d.cy.ne (List.length_eq_zero_iff.mp this)
  · rw [← iv_app]
    exact gd_iv d.cy.gd
theorem rt_inv {u R : List Int} {m : Nat} (gu : Gd u) (h : Rt u R m) : Rt (iv u) (iv R) m := by
  rcases h with ⟨a, b, c⟩ | ⟨p, hm, e⟩
  · exact .inl ⟨by rw [a]; rfl, by rw [b]; rfl, c⟩
  · refine .inr ⟨pmr_iv p, hm, ?_⟩
    refine fg_inj (gd_iv gu) (red_gd _) ?_
    rw [fg_red, fg_rep, fg_iv, fg_iv, fpow_inv, e, fg_red, fg_rep]
theorem rt_conj {u R : List Int} {m : Nat} (h : Rt u R m) (w : List Int) : Rt (red (iv w ++ u ++ w)) (red (iv w ++ R ++ w)) m := by
  rcases h with ⟨a, b, c⟩ | ⟨p, hm, e⟩
  · have : red (iv w ++ [] ++ w) = [] := by
      rw [List.append_nil]
      exact red_inv' w
    exact .inl ⟨by rw [a, this], by rw [b, this], c⟩
  · obtain ⟨l, r, d, pm⟩ := p
    obtain ⟨a2, m2, n, d2, e2⟩ := dec_conj w d
    refine .inr ⟨⟨a2, m2, d2, e2 ▸ pm_rot pm n⟩, hm, ?_⟩
    refine fg_eq.mp ?_
    rw [fg_rep, fg_red]
    simp only [fg_app, fg_iv]
    rw [fmul_assoc, fmul_assoc, fpow_conj, e, fg_red, fg_rep]
theorem rt_comm {u v R S : List Int} {m k : Nat} (gv : Gd v) (hu : u ≠ []) (hv : v ≠ []) (h : Rt u R m) (h' : Rt v S k) (hc : fg u * fg v = fg v * fg u) : R = S ∨ R = iv S := by
  rcases h with ⟨a, _, _⟩ | ⟨p, hm, e⟩
  · exact absurd a hu
  · have hpr := p
    obtain ⟨l, r, d, pm⟩ := p
    obtain ⟨i, rfl⟩ : ∃ i, m = i + 1 := ⟨m - 1, by omega⟩
    have d2 := dec_pow d i
    rw [← e] at d2
    have hroot := pm_rep pm i
    obtain ⟨V, hV⟩ : ∃ V : FG, V = finv (fg l) * (fg v * fg l) := ⟨_, rfl⟩
    have eu : fg u = fg l * (fg (rep r (i + 1)) * finv (fg l)) := by
      rw [d2.eq]
      simp only [fg_app, fg_iv, fmul_assoc]
    have hcv : fg (rep r (i + 1)) * V = V * fg (rep r (i + 1)) := by
      have := congrArg (fun z => finv (fg l) * (z * fg l)) hc
      rw [eu] at this
      simp only [fmul_assoc, finv_cl, fmul_cl, finv_mul, fmul_one] at this
      rw [hV]
      simp only [fmul_assoc]
      exact this
    have h2 : red (rep r (i + 1) ++ V.1) = red (V.1 ++ rep r (i + 1)) := fg_eq.mp (by rw [fg_app, fg_app, fg_self]; exact hcv)
    obtain ⟨q, hq⟩ := ctr_root d2.cy hroot V.2 h2
    rw [(ddz_rep (z := r) (k := i) pm.p1).2] at hq
    have eR : fg R = fg l * (fg r * finv (fg l)) := by
      rw [d.eq]
      simp only [fg_app, fg_iv, fmul_assoc]
    have ev : fg v = fg l * (V * finv (fg l)) := by
      rw [hV]
      simp only [fmul_assoc, fmul_cl, fmul_inv, fmul_one]
    have conj : ∀ x : FG, fpow (fg l * (x * finv (fg l))) q = fg l * (fpow x q * finv (fg l)) := fun x => by
      have := fpow_conj x (finv (fg l)) q
      rw [finv_inv] at this
      exact this
    have q1 : ∀ T, v = red (rep T q) → 1 ≤ q := fun T z => by
      rcases Nat.eq_zero_or_pos q with z2 | z2
      · rw [z2] at z
        exact absurd z hv
      · exact z2
    rcases hq with hq | hq
    · have e3 : v = red (rep R q) := by
        refine fg_inj gv (red_gd _) ?_
        rw [fg_red, fg_rep, eR, conj, ev, ← fg_self V, hq, fg_rep]
      exact .inl (rt_uniq (.inr ⟨hpr, q1 R e3, e3⟩) h').1
    · have e3 : v = red (rep (iv R) q) := by
        refine fg_inj gv (red_gd _) ?_
        rw [fg_red, fg_rep, fg_iv, eR, finv_rev, finv_rev, finv_inv, fmul_assoc, conj, ev, ← fg_self V, hq, fg_rep, fg_iv]
      have := (rt_uniq (.inr ⟨pmr_iv hpr, q1 _ e3, e3⟩) h').1
      exact .inr (by rw [← this, iv_iv])
theorem rt_ex {u : List Int} (gu : Gd u) (nu : ∀ x ∈ u, x ≠ 0) (hne : u ≠ []) {p : Nat} (hp : RootAt (coreS u).2 p) : Rt u ((coreS u).1 ++ (coreS u).2.take p ++ iv (coreS u).1) ((coreS u).2.length / p) := by
  have d := dec_core gu nu hne
  have one : Gd ((coreS u).1 ++ (coreS u).2 ++ iv (coreS u).1) := by rw [← d.eq]; exact gu
  have T : Tw (coreS u).1 (coreS u).2 (coreS u).1 0 p := ⟨d.cy, hp, hp.p1, one, by simpa using one⟩
  have ge : Gd ((coreS u).2.take p ++ iv (coreS u).1) := by
    have := gd_iv (root_l' T)
    rw [iv_app, iv_iv] at this
    exact this
  have dR : Dec ((coreS u).1 ++ (coreS u).2.take p ++ iv (coreS u).1) (coreS u).1 ((coreS u).2.take p) := ⟨gd_glue3 (root_ne hp) (root_l T) ge, rfl, root_ne hp, root_rr T⟩
  have hk : 0 < (coreS u).2.length / p := Nat.div_pos hp.p2 hp.p1
  refine .inr ⟨⟨_, _, dR, pm_root hp⟩, hk, ?_⟩
  obtain ⟨k, hk'⟩ : ∃ k, (coreS u).2.length / p = k + 1 := ⟨(coreS u).2.length / p - 1, by omega⟩
  have d2 := dec_pow dR k
  rw [hk', d2.eq, ← hk', hp.dd.2]
  exact d.eq
theorem rt_exists {u : List Int} (gu : Gd u) (nu : ∀ x ∈ u, x ≠ 0) : ∃ R m, Rt u R m := by
  by_cases h : u = []
  · exact ⟨[], 0, .inl ⟨h, rfl, rfl⟩⟩
  · obtain ⟨p, hp⟩ := root_of (dec_core gu nu h).cy.ne
    exact ⟨_, _, rt_ex gu nu h hp⟩
theorem rt_gd {u R : List Int} {m : Nat} (h : Rt u R m) : Gd R := by
  rcases h with ⟨_, b, _⟩ | ⟨⟨l, r, d, _⟩, _, _⟩
  · rw [b]; trivial
  · exact d.gd
theorem rt_self {u R : List Int} {m : Nat} (h : Rt u R m) : u = red (rep R m) := by
  rcases h with ⟨a, b, c⟩ | ⟨_, _, e⟩
  · rw [a, c]; rfl
  · exact e
theorem pow_inj {x y : List Int} (gx : Gd x) (gy : Gd y) (nx : ∀ z ∈ x, z ≠ 0) (ny : ∀ z ∈ y, z ≠ 0) {t : Nat} (ht : 1 ≤ t) (h : fpow (fg x) t = fpow (fg y) t) : x = y := by
  obtain ⟨R, m, h1⟩ := rt_exists gx nx
  obtain ⟨S, k, h2⟩ := rt_exists gy ny
  have e : red (rep x t) = red (rep y t) := fg_eq.mp (by rw [fg_rep, fg_rep, h])
  have a := rt_pow h1 ht
  have b := rt_pow h2 ht
  rw [e] at a
  obtain ⟨e1, e2⟩ := rt_uniq a b
  have : m = k := Nat.eq_of_mul_eq_mul_right ht e2
  rw [rt_self h1, rt_self h2, e1, this]
theorem rt_pw {u R : List Int} {m : Nat} {t : Int} (gu : Gd u) (h : Rt u R m) (ht : t ≠ 0) : Rt (pw u t) (if t < 0 then iv R else R) (m * t.natAbs) := by
  unfold pw
  by_cases hn : t < 0
  · rw [if_pos hn, if_pos hn]
    exact rt_pow (rt_inv gu h) (by omega)
  · rw [if_neg hn, if_neg hn]
    exact rt_pow h (by omega)
end Z
namespace L51
open PySem PySem.Spec L2 Z
theorem straight_eq (w : List Int) : m_p_straightened w = straightM w := rfl
theorem take_eq (w : List Int) (m : Int) : m_l_take w m = takeM w m := rfl
theorem well_eq (w : List Int) (m : Int) : m_l_well w m = wellM w m := rfl
theorem walk_eq (w : List Int) (l m : Int) : m_l_walk w l m = walkM w l m := rfl
theorem big : sizeLine = 16777216 := by decide
structure Wk (n : Nat) (w : List Int) : Prop where
  ok : ∀ x ∈ w, Sok 4 x
  len : w.length ≤ n
theorem Wk.red {n : Nat} {w : List Int} (h : Wk n w) : Wk n (red w) := ⟨red_mem h.ok, Nat.le_trans (red_len w) h.len⟩
theorem Wk.iv {n : Nat} {w : List Int} (h : Wk n w) : Wk n (iv w) := ⟨fun x hx => by
  obtain ⟨y, hy, rfl⟩ := List.mem_map.mp hx
  exact (h.ok y (List.mem_reverse.mp hy)).neg, by rw [iv_len]; exact h.len⟩
theorem Wk.mono {n m : Nat} {w : List Int} (h : Wk n w) (k : n ≤ m) : Wk m w := ⟨h.ok, Nat.le_trans h.len k⟩
theorem Wk.nil {n : Nat} : Wk n [] := ⟨(fun _ z => nomatch z), Nat.zero_le _⟩
theorem Wk.app {n m : Nat} {u v : List Int} (h : Wk n u) (k : Wk m v) : Wk (n + m) (u ++ v) := ⟨fun x hx => (List.mem_append.mp hx).elim (h.ok x) (k.ok x), by have := h.len; have := k.len; rw [List.length_append]; omega⟩
theorem step_ok {x : Int} (h : Sok 4 x) : m_p_is_step x 4 = some true := by
  have a : 1 ≤ absI x ∧ absI x ≤ 4 := by
    obtain ⟨h1, h2, h3⟩ := h
    unfold absI
    split <;> constructor <;> omega
  unfold m_p_is_step m_p_is_integer
  simp [a.1, a.2]
theorem need_ok {n : Nat} {w : List Int} (h : Wk n w) (hn : n ≤ 10000) : m_p_need_walk w 4 = some () := by
  have hl : w.length < sizeLine := by
    have := h.len
    rw [big]
    omega
  have e : m_p_is_a_walk w 4 = some true := by
    unfold m_p_is_a_walk
    rw [if_pos rfl, lcO_some (fun _ => true) hl (fun x hx => by rw [step_ok (h.ok x hx)]; rfl)]
    simp
  unfold m_p_need_walk
  rw [e]
  rfl
theorem str_ok {n : Nat} {w : List Int} (h : Wk n w) (hn : n ≤ 100000) : m_p_straightened w = some (red w) := by
  rw [straight_eq]
  refine straight_ok ?_
  have := h.len
  rw [big]
  omega
theorem tback_ok {w : List Int} (h : w.length ≤ 100000) : m_p_turned_back w = some (iv w) := by
  unfold m_p_turned_back
  rw [lcT_some _ (by rw [List.length_reverse, big]; omega)]
  rfl
theorem parted_okL {w : List Int} (h : w.length ≤ 1800) : m_p_parted w = some (coreS w) := parted_ok h
theorem rep_ok {w : List Int} {m : Int} (h0 : 0 ≤ m) (h1 : m ≤ 1000) (h : w.length ≤ 1000) : repT w m = some (rep w m.toNat) := by
  unfold repT
  rw [if_pos ⟨by omega, h1, h⟩]
  rfl
theorem least_ok {w : List Int} (h : w.length ≤ 1000) (hne : w ≠ []) : ∃ p : Nat, 1 ≤ p ∧ p ≤ w.length ∧ DDz w p ∧ (∀ q, 1 ≤ q → q < p → ¬ DDz w q) ∧ m_p_least_part w = some (w.take p) := by
  have hpos : 0 < w.length := List.length_pos_iff.mpr hne
  unfold m_p_least_part
  rw [rngO_ok (by omega)]
  have key := lpR_mix (f := (fun (s2 : Unit) (part_3 : Int) => (((modO (w.length : Int) part_3).bind fun t7 => (if (decide (t7 = 0)) = true then ((fdivO (w.length : Int) part_3).bind fun t8 => (repT (cut w none (some part_3)) t8).bind fun t9 => some (decide (t9 = w))) else some false).bind fun t10 => (if t10 = true then some (Step.ret (cut w none (some part_3))) else some (Step.go ()))) : Option (Step (List Int) Unit))))
    (fun (r : List Int) => ∃ p : Nat, 1 ≤ p ∧ p ≤ w.length ∧ DDz w p ∧ (∀ q, 1 ≤ q → q < p → ¬ DDz w q) ∧ r = w.take p) (xs := range' 1 ((w.length : Int) + 1)) (fun i (_ : Unit) => ∀ q, 1 ≤ q → q ≤ i → ¬ DDz w q) (fun i x s hx hs => by
    obtain ⟨ex, hi⟩ := rng_at hx
    have ex2 : x = ((i + 1 : Nat) : Int) := by omega
    have m1 : modO (w.length : Int) x = some ((w.length % (i + 1) : Nat) : Int) := by
      unfold modO
      rw [if_pos (by omega), ex2]
      rfl
    have m2 : fdivO (w.length : Int) x = some ((w.length / (i + 1) : Nat) : Int) := by
      unfold fdivO
      rw [if_pos ⟨by omega, Nat.lt_trans (log2_int (k := 64) (by omega) (by omega) (by decide)) (by decide)⟩, ex2]
      rfl
    have c2 : cut w none (some x) = w.take (i + 1) := by
      rw [cut_to _ (by omega), show x.toNat = i + 1 by omega]
    have hd : w.length / (i + 1) ≤ w.length := Nat.div_le_self _ _
    have m3 : repT (w.take (i + 1)) ((w.length / (i + 1) : Nat) : Int) = some (rep (w.take (i + 1)) (w.length / (i + 1))) := rep_ok (Int.natCast_nonneg _) (by exact_mod_cast (show w.length / (i + 1) ≤ 1000 by omega)) (by rw [List.length_take]; omega)
    have m4 : (if (decide (((w.length % (i + 1) : Nat) : Int) = 0)) = true then ((fdivO (w.length : Int) x).bind fun t8 => (repT (cut w none (some x)) t8).bind fun t9 => some (decide (t9 = w))) else some false) = some (decide (w.length % (i + 1) = 0 ∧ rep (w.take (i + 1)) (w.length / (i + 1)) = w)) := by
      by_cases hz : w.length % (i + 1) = 0
      · rw [if_pos (decide_eq_true (by omega))]
        refine bindS m2 ?_
        rw [c2]
        refine bindS m3 (congrArg some (decide_eq_decide.mpr ⟨fun z => ⟨hz, z⟩, fun z => z.2⟩))
      · rw [if_neg (by rw [decide_eq_true_eq]; omega), decide_eq_false (fun z => hz z.1)]
    by_cases hq : w.length % (i + 1) = 0 ∧ rep (w.take (i + 1)) (w.length / (i + 1)) = w
    · refine .inr ⟨w.take (i + 1), bindS m1 (bindS m4 ?_), i + 1, by omega, by omega, hq, fun q h1 h2 => hs q h1 (by omega), rfl⟩
      rw [if_pos (decide_eq_true hq), c2]
    · refine .inl ⟨(), bindS m1 (bindS m4 ?_), fun q h1 h2 => ?_⟩
      · rw [if_neg (by rw [decide_eq_true_eq]; exact hq)]
      · rcases Nat.lt_or_ge i q with hl | hl
        · have e : q = i + 1 := by omega
          subst e
          exact hq
        · exact hs q h1 hl) (s0 := ()) (fun q h1 h2 => by omega)
  rcases key with ⟨_, _, hno⟩ | ⟨r, e, p, h1, h2, h3, h4, h5⟩
  · exfalso
    refine hno w.length hpos (by rw [rng_len]; omega) ⟨Nat.mod_self _, ?_⟩
    rw [Nat.div_self hpos, List.take_length, rep_one]
  · refine ⟨p, h1, h2, h3, h4, ?_⟩
    refine (bindS rfl (bindS e ?_))
    show some r = _
    rw [h5]
end L51
namespace L51
open PySem PySem.Spec L2 Z
theorem stepo_ok (x : Int) : m_p_step_order x = some (cdP x) := by
  unfold m_p_step_order cdP
  by_cases h : 0 < x
  · rw [if_pos (decide_eq_true h), if_pos h]
  · rw [if_neg (by rw [decide_eq_true_eq]; exact h), if_neg h]
theorem key_ok {w : List Int} (h : w.length ≤ 100000) : m_p_walk_key w = some (wkey w) := by
  unfold m_p_walk_key
  rw [lcO_some cdP (by rw [big]; omega) (fun x _ => by rw [stepo_ok]; rfl)]
  rfl
def lkey (w : List Int) : Int × List Int := ((w.length : Int), w.map fun s => (2 * absI s) + (if (decide (s < 0)) = true then 1 else 0))
theorem lkey_ok {w : List Int} (h : w.length ≤ 100000) : m_l_key w = some (lkey w) := by
  unfold m_l_key
  rw [lcT_some _ (by rw [big]; omega)]
  rfl
theorem lkey_eq {w : List Int} (h : ∀ x ∈ w, x ≠ 0) : lkey w = ((w.length : Int), (w.map cdP).map (· + 2)) := by
  unfold lkey
  rw [List.map_map]
  congr 1
  refine List.map_congr_left fun x hx => ?_
  have hx := h x hx
  show 2 * absI x + (if (decide (x < 0)) = true then 1 else 0) = cdP x + 2
  unfold absI cdP
  by_cases h0 : x < 0
  · rw [if_pos h0, if_pos (decide_eq_true h0), if_neg (by omega)]
    omega
  · rw [if_neg h0, if_neg (by rw [decide_eq_true_eq]; exact h0), if_pos (by omega)]
    omega
theorem llt_eq {a b : List Int} (ha : ∀ x ∈ a, x ≠ 0) (hb : ∀ x ∈ b, x ≠ 0) : ltP2 ltI (ltL ltI) (lkey a) (lkey b) = wlt a b := by
  rw [lkey_eq ha, lkey_eq hb]
  show (if (a.length : Int) = (b.length : Int) then ltL ltI ((a.map cdP).map (· + 2)) ((b.map cdP).map (· + 2)) else ltI (a.length : Int) (b.length : Int)) = _
  rw [ltL_add]
  rfl
theorem kt_tr : ∀ a b c : Int × List Int, ltP2 ltI (ltL ltI) a b = true → ltP2 ltI (ltL ltI) b c = true → ltP2 ltI (ltL ltI) a c = true := fun a b c h1 h2 => by
  unfold ltP2 at *
  by_cases e1 : a.1 = b.1
  · rw [if_pos e1] at h1
    by_cases e2 : b.1 = c.1
    · rw [if_pos e2] at h2
      rw [if_pos (e1.trans e2)]
      exact ltL_tr h1 h2
    · rw [if_neg e2] at h2
      rw [if_neg (by omega), e1]
      exact h2
  · rw [if_neg e1] at h1
    have h1' : a.1 < b.1 := of_decide_eq_true h1
    by_cases e2 : b.1 = c.1
    · rw [if_neg (by omega), ← e2]
      exact h1
    · rw [if_neg e2] at h2
      have h2' : b.1 < c.1 := of_decide_eq_true h2
      rw [if_neg (by omega)]
      exact decide_eq_true (by omega)
theorem kt_irr : ∀ a : Int × List Int, ltP2 ltI (ltL ltI) a a = false := fun a => by
  unfold ltP2
  rw [if_pos rfl]
  exact ltL_irr _
def shF (around wanted : List Int) : Unit → Int → Option (Step (Option Int) Unit) := (fun (s2 : Unit) (at_3 : Int) => (((catO (α := Int) (cut around (some at_3) none) (cut around none (some at_3))).bind fun t7 => (if (decide (t7 = wanted)) = true then some (Step.ret (some at_3)) else some (Step.go ()))) : Option (Step (Option Int) Unit)))
theorem shift_eq (around wanted : List Int) : m_p_shift_onto around wanted = (if (!decide ((around.length : Int) = (wanted.length : Int))) = true then some none else ((rngO 0 (around.length : Int)).bind fun t1 => ((lpR (shF around wanted) t1 ()).bind fun f4o => Sum.elim (fun r9 => some r9) (fun f4 => some none) f4o))) := rfl
theorem rot_cat {c : List Int} {x : Int} (h : c.length ≤ 100000) (h0 : 0 ≤ x) : catO (α := Int) (cut c (some x) none) (cut c none (some x)) = some (c.drop x.toNat ++ c.take x.toNat) := by
  rw [cut_from _ h0, cut_to _ h0, cat_ok (by rw [List.length_drop, List.length_take, big]; omega)]
theorem shift_ok {c d : List Int} (h : c.length ≤ 100000) : (m_p_shift_onto c d = some none ∧ d ∉ rots c) ∨ ∃ s : Nat, m_p_shift_onto c d = some (some (s : Int)) ∧ s < c.length ∧ d = c.drop s ++ c.take s ∧ ∀ i, i < s → c.drop i ++ c.take i ≠ d := by
  rw [shift_eq]
  by_cases hl : c.length = d.length
  · rw [if_neg (by simp [hl])]
    rw [rngO_ok (by omega)]
    have key := lpR_mix (f := shF c d) (fun (r : Option Int) => ∃ s : Nat, r = some (s : Int) ∧ s < c.length ∧ d = c.drop s ++ c.take s ∧ ∀ i, i < s → c.drop i ++ c.take i ≠ d) (xs := range' 0 (c.length : Int))
      (fun i (_ : Unit) => ∀ j, j < i → c.drop j ++ c.take j ≠ d) (fun i x s hx hs => by
      obtain ⟨ex, hi⟩ := rng_at hx
      have ex2 : x = (i : Int) := by omega
      have e1 := rot_cat (c := c) (x := x) h (by omega)
      rw [ex2, Int.toNat_natCast] at e1
      by_cases hq : c.drop i ++ c.take i = d
      · refine .inr ⟨some x, ?_, i, by rw [ex2], by omega, hq.symm, hs⟩
        show (catO (α := Int) (cut c (some x) none) (cut c none (some x))).bind _ = _
        rw [ex2, e1]
        exact if_pos (decide_eq_true hq)
      · refine .inl ⟨(), ?_, fun j hj => ?_⟩
        · show (catO (α := Int) (cut c (some x) none) (cut c none (some x))).bind _ = _
          rw [ex2, e1]
          exact if_neg (by rw [decide_eq_true_eq]; exact hq)
        · rcases Nat.lt_or_ge j i with hl | hl
          · exact hs j hl
          · rw [show j = i by omega]
            exact hq) (s0 := ()) (fun j hj => by omega)
    rcases key with ⟨_, e, hno⟩ | ⟨r, e, s, rfl, h1, h2, h3⟩
    · refine .inl ⟨bindS rfl (bindS e rfl), fun hm => ?_⟩
      obtain ⟨i, hi, e2⟩ := List.mem_map.mp hm
      exact hno i (by rw [rng_len]; have := List.mem_range.mp hi; omega) e2
    · exact .inr ⟨s, bindS rfl (bindS e rfl), h1, h2, h3⟩
  · rw [if_pos (by simp; omega)]
    refine .inl ⟨rfl, fun hm => ?_⟩
    obtain ⟨i, hi, e2⟩ := List.mem_map.mp hm
    have := congrArg List.length e2
    rw [List.length_append, List.length_drop, List.length_take] at this
    have := List.mem_range.mp hi
    omega
end L51
namespace L51
open PySem PySem.Spec L2 Z
theorem Wk.nz {n : Nat} {w : List Int} (h : Wk n w) : ∀ x ∈ w, x ≠ 0 := fun x hx => (h.ok x hx).1
theorem core_lens (u : List Int) : (coreS u).1.length ≤ u.length ∧ (coreS u).2.length ≤ u.length := by
  constructor
  · show (u.take (ck u)).length ≤ _
    rw [List.length_take]
    omega
  · show ((u.drop (ck u)).take (u.length - 2 * ck u)).length ≤ _
    rw [List.length_take, List.length_drop]
    omega
theorem core_sum {u : List Int} (g : Gd u) (nu : ∀ x ∈ u, x ≠ 0) (hne : u ≠ []) : 2 * (coreS u).1.length + (coreS u).2.length = u.length := by
  have := congrArg List.length (dec_core g nu hne).eq
  rw [List.length_append, List.length_append, iv_len] at this
  omega
theorem core_ne {u : List Int} (g : Gd u) (nu : ∀ x ∈ u, x ≠ 0) : (coreS u).2 = [] ↔ u = [] := by
  constructor
  · intro h
    rcases Classical.em (u = []) with e | e
    · exact e
    · exact absurd h (dec_core g nu e).cy.ne
  · rintro rfl
    rfl
theorem shift_lt {c : List Int} {s p : Nat} (h : RootAt c p) (hs : s < c.length) (hmin : ∀ i, i < s → c.drop i ++ c.take i ≠ c.drop s ++ c.take s) : s < p := by
  rcases Nat.lt_or_ge s p with hl | hl
  · exact hl
  · exfalso
    obtain ⟨m, e⟩ := root_split h
    have e1 : rotN c p = c := by
      rw [rotN_eq c p h.p2]
      have hd : c.drop p = rep (c.take p) m := by
        have e2 : c = c.take p ++ rep (c.take p) m := by rw [← rep_succ, ← e]
        have e3 := congrArg (List.drop p) e2
        rw [List.drop_left' (root_len h)] at e3
        exact e3
      rw [hd, ← rep_succ', ← e]
    have h1 := h.p1
    refine hmin (s - p) (by omega) ?_
    rw [← rotN_eq c _ (by omega), ← rotN_eq c _ (by omega)]
    have e4 : s = p + (s - p) := by omega
    conv => rhs; rw [e4]
    rw [rotN_add, e1]
def toF (t4 t6 : List Int × List Int) (shift8 : Int) (t9 : List Int) : List (List Int) → Int → Option (List (List Int)) := (fun (s12 : (List (List Int))) (times13 : Int) => ((repT t9 times13).bind fun t17 => (catO (α := Int) t4.1 t17).bind fun t18 => (catO (α := Int) t18 (cut t4.2 none (some shift8))).bind fun t19 => (m_p_turned_back t6.1).bind fun t20 => (catO (α := Int) t19 t20).bind fun t21 => (m_p_straightened t21).bind fun t22 => (appO s12 t22).bind fun t23 => ((m_p_turned_back t9).bind fun t24 => (repT t24 times13).bind fun t25 => (catO (α := Int) t4.1 t25).bind fun t26 => (catO (α := Int) t26 (cut t4.2 none (some shift8))).bind fun t27 => (m_p_turned_back t6.1).bind fun t28 => (catO (α := Int) t27 t28).bind fun t29 => (m_p_straightened t29).bind fun t30 => (appO t23 t30).bind fun t31 => some t31)))
theorem onto_eq (one other : List Int) : m_p_turned_onto one other = ((m_p_need_walk one 4).bind fun t1 => ((m_p_need_walk other 4).bind fun t2 => ((m_p_straightened one).bind fun t3 => (m_p_parted t3).bind fun t4 => ((m_p_straightened other).bind fun t5 => (m_p_parted t5).bind fun t6 => (if ((decide (t4.2 = ([] : (List Int)))) && (decide (t6.2 = ([] : (List Int))))) = true then some (some ([] : (List Int))) else ((m_p_shift_onto t4.2 t6.2).bind fun t7 => (match t7 with | none => (some none) | some shift8 => (((m_p_least_part t4.2).bind fun t9 => ((rngO 0 3).bind fun t11 => ((lp (toF t4 t6 shift8 t9) t11 ([] : (List (List Int)))).bind fun f14 => ((minKO m_p_walk_key (ltP2 ltI (ltL ltI)) f14).bind fun t33 => some (some t33))))))))))))) := rfl
theorem toF_ok {l c g r : List Int} {s : Nat} {d : List Int} {S : List (List Int)} {i : Nat} (hl : l.length ≤ 450) (hc : c.length ≤ 450) (hg : g.length ≤ 450) (hr : r.length ≤ 450) (hi : i ≤ 2) (hS : S.length ≤ 100) :
    toF (l, c) (g, d) (s : Int) r S (i : Int) = some (S ++ [xk l (rep r i) c g s] ++ [xk l (rep (iv r) i) c g s]) := by
  have r1 : repT r (i : Int) = some (rep r i) := by
    rw [rep_ok (by omega) (by omega) (by omega), Int.toNat_natCast]
  have r2 : repT (iv r) (i : Int) = some (rep (iv r) i) := by
    rw [rep_ok (by omega) (by omega) (by rw [iv_len]; omega), Int.toNat_natCast]
  have n1 : (rep r i).length ≤ 900 := by
    rw [len_rep]
    exact Nat.le_trans (Nat.mul_le_mul hi hr) (by omega)
  have n2 : (rep (iv r) i).length ≤ 900 := by
    rw [len_rep, iv_len]
    exact Nat.le_trans (Nat.mul_le_mul hi hr) (by omega)
  have n3 : (c.take s).length ≤ 450 := by
    rw [List.length_take]
    omega
  have ct : cut c none (some (s : Int)) = c.take s := by rw [cut_to _ (by omega), Int.toNat_natCast]
  have tb : m_p_turned_back g = some (iv g) := tback_ok (by omega)
  have tr : m_p_turned_back r = some (iv r) := tback_ok (by omega)
  have gl := iv_len g
  have piece : ∀ v : List Int, v.length ≤ 900 → catO (α := Int) l v = some (l ++ v) ∧ catO (α := Int) (l ++ v) (c.take s) = some (l ++ v ++ c.take s) ∧ catO (α := Int) (l ++ v ++ c.take s) (iv g) = some (l ++ v ++ c.take s ++ iv g) ∧ m_p_straightened (l ++ v ++ c.take s ++ iv g) = some (xk l v c g s) := fun v hv => by
    refine ⟨cat_ok (by rw [big]; omega), cat_ok (by rw [List.length_append, big]; omega), cat_ok (by rw [List.length_append, List.length_append, big]; omega), ?_⟩
    rw [straight_eq]
    refine straight_ok ?_
    rw [List.length_append, List.length_append, List.length_append, big]
    omega
  obtain ⟨a1, a2, a3, a4⟩ := piece _ n1
  obtain ⟨b1, b2, b3, b4⟩ := piece _ n2
  unfold toF
  simp only [ct]
  refine bindS r1 (bindS a1 (bindS a2 (bindS tb (bindS a3 (bindS a4 (bindS (app_ok (by rw [big]; omega)) ?_))))))
  exact bindS tr (bindS r2 (bindS b1 (bindS b2 (bindS tb (bindS b3 (bindS b4 (bindS (app_ok (by rw [List.length_append, big]; show S.length + 1 < _; omega)) rfl)))))))
/-- what turned_onto tells -/
structure Told (u v f : List Int) (s p : Nat) : Prop where
  tw : Tw (coreS u).1 (coreS u).2 (coreS v).1 s p
  eq : (coreS v).2 = (coreS u).2.drop s ++ (coreS u).2.take s
  u0 : u = (coreS u).1 ++ (coreS u).2 ++ iv (coreS u).1
  v0 : v = (coreS v).1 ++ ((coreS u).2.drop s ++ (coreS u).2.take s) ++ iv (coreS v).1
  form : ∃ k, f = xk (coreS u).1 (rep ((coreS u).2.take p) k) (coreS u).2 (coreS v).1 s ∨ f = xk (coreS u).1 (rep (iv ((coreS u).2.take p)) k) (coreS u).2 (coreS v).1 s
  le0 : wlt (xk (coreS u).1 (rep ((coreS u).2.take p) 0) (coreS u).2 (coreS v).1 s) f = false
  le1 : wlt (xk (coreS u).1 (rep (iv ((coreS u).2.take p)) 1) (coreS u).2 (coreS v).1 s) f = false
theorem onto_ok {n m : Nat} {one other : List Int} (h : Wk n one) (k : Wk m other) (hn : n ≤ 450) (hm : m ≤ 450) :
    (red one = [] ∧ red other = [] ∧ m_p_turned_onto one other = some (some [])) ∨
    (¬ (red one = [] ∧ red other = []) ∧ (coreS (red other)).2 ∉ rots (coreS (red one)).2 ∧ m_p_turned_onto one other = some none) ∨
    (red one ≠ [] ∧ red other ≠ [] ∧ ∃ s p f, Told (red one) (red other) f s p ∧ m_p_turned_onto one other = some (some f)) := by
  have wu := h.red
  have wv := k.red
  have gu := red_gd one
  have gv := red_gd other
  obtain ⟨u, hu⟩ : ∃ u, u = red one := ⟨_, rfl⟩
  obtain ⟨v, hv⟩ : ∃ v, v = red other := ⟨_, rfl⟩
  rw [← hu] at wu gu ⊢
  rw [← hv] at wv gv ⊢
  have nu := wu.nz
  have nv := wv.nz
  have lu := wu.len
  have lv := wv.len
  have cu := core_lens u
  have cv := core_lens v
  have begin_ : ∀ R, (if ((decide ((coreS u).2 = ([] : (List Int)))) && (decide ((coreS v).2 = ([] : (List Int))))) = true then some (some ([] : (List Int))) else ((m_p_shift_onto (coreS u).2 (coreS v).2).bind fun t7 => (match t7 with | none => (some none) | some shift8 => (((m_p_least_part (coreS u).2).bind fun t9 => ((rngO 0 3).bind fun t11 => ((lp (toF (coreS u) (coreS v) shift8 t9) t11 ([] : (List (List Int)))).bind fun f14 => ((minKO m_p_walk_key (ltP2 ltI (ltL ltI)) f14).bind fun t33 => some (some t33))))))))) = R → m_p_turned_onto one other = R := fun R hR => by
    rw [onto_eq]
    refine bindS (need_ok h (by omega)) (bindS (need_ok k (by omega)) (bindS (a := u) (by rw [hu]; exact str_ok h (by omega)) (bindS (parted_okL (by omega)) (bindS (a := v) (by rw [hv]; exact str_ok k (by omega)) (bindS (parted_okL (by omega)) hR)))))
  by_cases h0 : u = [] ∧ v = []
  · refine .inl ⟨h0.1, h0.2, begin_ _ ?_⟩
    rw [if_pos]
    rw [h0.1, h0.2]
    rfl
  · have hif : ¬ ((decide ((coreS u).2 = ([] : (List Int)))) && (decide ((coreS v).2 = ([] : (List Int))))) = true := by
      rw [Bool.and_eq_true, decide_eq_true_eq, decide_eq_true_eq, core_ne gu nu, core_ne gv nv]
      exact h0
    rcases shift_ok (c := (coreS u).2) (d := (coreS v).2) (by omega) with ⟨e, hno⟩ | ⟨s, e, hs, hd, hmin⟩
    · refine .inr (.inl ⟨h0, hno, begin_ _ ?_⟩)
      rw [if_neg hif]
      exact bindS e rfl
    · have hcu : (coreS u).2 ≠ [] := fun z => by rw [z] at hs; cases hs
      have hu0 : u ≠ [] := fun z => hcu ((core_ne gu nu).mpr z)
      have hcv : (coreS v).2 ≠ [] := fun z => by
        rw [z] at hd
        have := congrArg List.length hd
        rw [List.length_append, List.length_drop, List.length_take] at this
        simp at this
        omega
      have hv0 : v ≠ [] := fun z => hcv ((core_ne gv nv).mpr z)
      obtain ⟨p, p1, p2, dd, mn, ep⟩ := least_ok (w := (coreS u).2) (by omega) hcu
      have root : RootAt (coreS u).2 p := ⟨p1, p2, dd, mn⟩
      have sp : s < p := shift_lt root hs (fun i hi => by rw [← hd]; exact hmin i hi)
      have du := dec_core gu nu hu0
      have dv := dec_core gv nv hv0
      have v0 : v = (coreS v).1 ++ ((coreS u).2.drop s ++ (coreS u).2.take s) ++ iv (coreS v).1 := by rw [← hd]; exact dv.eq
      have tw : Tw (coreS u).1 (coreS u).2 (coreS v).1 s p := ⟨du.cy, root, sp, by rw [← du.eq]; exact gu, by rw [← v0]; exact gv⟩
      have rl := root_len root
      have l1 := cu.1
      have l2 := cu.2
      have l3 := cv.1
      have tl : ∀ (S : List (List Int)) (i : Nat), i ≤ 2 → S.length ≤ 100 → toF (coreS u) (coreS v) (s : Int) ((coreS u).2.take p) S (i : Int) = some (S ++ [xk (coreS u).1 (rep ((coreS u).2.take p) i) (coreS u).2 (coreS v).1 s] ++ [xk (coreS u).1 (rep (iv ((coreS u).2.take p)) i) (coreS u).2 (coreS v).1 s]) := fun S i hi hS => toF_ok (l := (coreS u).1) (c := (coreS u).2) (g := (coreS v).1) (r := (coreS u).2.take p) (s := s) (d := (coreS v).2) (S := S) (i := i) (by omega) (by omega) (by omega) (by omega) hi hS
      obtain ⟨X, hX⟩ : ∃ X : Nat → List Int, X = fun i => xk (coreS u).1 (rep ((coreS u).2.take p) i) (coreS u).2 (coreS v).1 s := ⟨_, rfl⟩
      obtain ⟨Y, hY⟩ : ∃ Y : Nat → List Int, Y = fun i => xk (coreS u).1 (rep (iv ((coreS u).2.take p)) i) (coreS u).2 (coreS v).1 s := ⟨_, rfl⟩
      have elp : lp (toF (coreS u) (coreS v) (s : Int) ((coreS u).2.take p)) [0, 1, 2] [] = some [X 0, Y 0, X 1, Y 1, X 2, Y 2] := by
        rw [hX, hY]
        refine bindS (tl [] 0 (by omega) (by simp)) (bindS (tl _ 1 (by omega) (by simp)) (bindS (tl _ 2 (by omega) (by simp)) rfl))
      have lx : ∀ x ∈ [X 0, Y 0, X 1, Y 1, X 2, Y 2], x.length ≤ 100000 := fun x hx => by
        have bound : ∀ w : List Int, w.length ≤ 900 → (xk (coreS u).1 w (coreS u).2 (coreS v).1 s).length ≤ 100000 := fun w hw => by
          have := red_len ((coreS u).1 ++ w ++ (coreS u).2.take s ++ iv (coreS v).1)
          simp only [List.length_append, iv_len, List.length_take] at this
          show (red _).length ≤ _
          omega
        have b1 : ∀ i, i ≤ 2 → (rep ((coreS u).2.take p) i).length ≤ 900 := fun i hi => by
          rw [len_rep, rl]
          exact Nat.le_trans (Nat.mul_le_mul hi (show p ≤ 450 by omega)) (by omega)
        have b2 : ∀ i, i ≤ 2 → (rep (iv ((coreS u).2.take p)) i).length ≤ 900 := fun i hi => by
          rw [len_rep, iv_len, rl]
          exact Nat.le_trans (Nat.mul_le_mul hi (show p ≤ 450 by omega)) (by omega)
        simp only [List.mem_cons, List.not_mem_nil, or_false] at hx
        rw [hX, hY] at hx
        rcases hx with rfl | rfl | rfl | rfl | rfl | rfl
        · exact bound _ (b1 0 (by omega))
        · exact bound _ (b2 0 (by omega))
        · exact bound _ (b1 1 (by omega))
        · exact bound _ (b2 1 (by omega))
        · exact bound _ (b1 2 (by omega))
        · exact bound _ (b2 2 (by omega))
      obtain ⟨f, ef, mf, lf⟩ := minKO_ok (f := m_p_walk_key) (key := wkey) (lt := ltP2 ltI (ltL ltI)) (xs := [X 0, Y 0, X 1, Y 1, X 2, Y 2]) (fun x hx => key_ok (lx x hx)) kt_tr kt_irr (by simp)
      refine .inr (.inr ⟨hu0, hv0, s, p, f, ⟨tw, hd, du.eq, v0, ?_, ?_, ?_⟩, begin_ _ ?_⟩)
      · simp only [List.mem_cons, List.not_mem_nil, or_false] at mf
        rw [hX, hY] at mf
        rcases mf with rfl | rfl | rfl | rfl | rfl | rfl
        · exact ⟨0, .inl rfl⟩
        · exact ⟨0, .inr rfl⟩
        · exact ⟨1, .inl rfl⟩
        · exact ⟨1, .inr rfl⟩
        · exact ⟨2, .inl rfl⟩
        · exact ⟨2, .inr rfl⟩
      · have := lf (X 0) (by simp)
        rw [hX] at this
        exact this
      · have := lf (Y 1) (by simp)
        rw [hY] at this
        exact this
      · rw [if_neg hif]
        exact bindS e (bindS ep (bindS (a := [0, 1, 2]) rfl (bindS elp (bindS ef rfl))))
section
variable {u v f : List Int} {s p : Nat}
theorem told_turn (T : Told u v f s p) : red (iv f ++ u ++ f) = v := by
  obtain ⟨k, e | e⟩ := T.form
  · have := turns_of T.tw (goes_pos T.tw.root k)
    rw [← e, ← T.u0, ← T.v0] at this
    exact this
  · have := turns_of T.tw (goes_neg T.tw.root k)
    rw [← e, ← T.u0, ← T.v0] at this
    exact this
theorem told_gd (T : Told u v f s p) : Gd f := by
  obtain ⟨k, rfl | rfl⟩ := T.form
  · exact red_gd _
  · exact red_gd _
theorem told_nz (T : Told u v f s p) (nu : ∀ x ∈ u, x ≠ 0) (nv : ∀ x ∈ v, x ≠ 0) : ∀ x ∈ f, x ≠ 0 := by
  have nl : ∀ x ∈ (coreS u).1, x ≠ 0 := fun x hx => nu x (by rw [T.u0]; simp [hx])
  have nc : ∀ x ∈ (coreS u).2, x ≠ 0 := fun x hx => nu x (by rw [T.u0]; simp [hx])
  have ng : ∀ x ∈ (coreS v).1, x ≠ 0 := fun x hx => nv x (by rw [T.v0]; simp [hx])
  have niv : ∀ {w : List Int}, (∀ x ∈ w, x ≠ 0) → ∀ x ∈ iv w, x ≠ 0 := fun {w} h x hx => by
    obtain ⟨y, hy, rfl⟩ := List.mem_map.mp hx
    have := h y (List.mem_reverse.mp hy)
    omega
  have nr : ∀ x ∈ (coreS u).2.take p, x ≠ 0 := fun x hx => nc x (List.mem_of_mem_take hx)
  have all : ∀ w : List Int, (∀ x ∈ w, x ≠ 0) → ∀ x ∈ xk (coreS u).1 w (coreS u).2 (coreS v).1 s, x ≠ 0 := fun w hw => red_nz fun x hx => by
    rcases List.mem_append.mp hx with hx | hx
    · rcases List.mem_append.mp hx with hx | hx
      · rcases List.mem_append.mp hx with hx | hx
        · exact nl x hx
        · exact hw x hx
      · exact nc x (List.mem_of_mem_take hx)
    · exact niv ng x hx
  obtain ⟨k, rfl | rfl⟩ := T.form
  · exact all _ fun x hx => nr x (flat_mem hx)
  · exact all _ fun x hx => niv nr x (flat_mem hx)
theorem told_len (T : Told u v f s p) : f.length ≤ u.length + v.length := by
  have h1 : f.length ≤ (xk (coreS u).1 (rep ((coreS u).2.take p) 0) (coreS u).2 (coreS v).1 s).length := by
    rcases Nat.lt_or_ge (xk (coreS u).1 (rep ((coreS u).2.take p) 0) (coreS u).2 (coreS v).1 s).length f.length with h | h
    · have := wlt_len h
      rw [T.le0] at this
      cases this
    · exact h
  have h2 := len_x0 T.tw
  have h3 := congrArg List.length T.u0
  have h4 := congrArg List.length T.v0
  simp only [List.length_append, iv_len] at h3 h4
  have := T.tw.sp
  have := T.tw.root.p2
  omega
theorem told_least (T : Told u v f s p) (nu : ∀ x ∈ u, x ≠ 0) (nv : ∀ x ∈ v, x ≠ 0) {w : List Int} (nw : ∀ x ∈ w, x ≠ 0) (gw : Gd w) (h : red (iv w ++ u ++ w) = v) : w = f ∨ wlt f w = true :=
  least_turn T.tw T.le0 T.le1 (told_nz T nu nv) nw gw (by rw [← T.u0, ← T.v0]; exact h)
end
structure IsL (c r : List Int) : Prop where
  nil : c = [] → r = []
  mem : c ≠ [] → r ∈ rots c
  le : ∀ x ∈ rots c, wlt x r = false
theorem rots_nz {c x : List Int} (nc : ∀ y ∈ c, y ≠ 0) (h : x ∈ rots c) : ∀ y ∈ x, y ≠ 0 := by
  obtain ⟨i, _, rfl⟩ := List.mem_map.mp h
  exact fun y hy => (List.mem_append.mp hy).elim (fun z => nc y (List.mem_of_mem_drop z)) fun z => nc y (List.mem_of_mem_take z)
theorem rots_len {c x : List Int} (h : x ∈ rots c) : x.length = c.length := by
  obtain ⟨i, hi, rfl⟩ := List.mem_map.mp h
  have := List.mem_range.mp hi
  rw [List.length_append, List.length_drop, List.length_take]
  omega
theorem isl_uniq {c r r' : List Int} {n : Nat} (nc : ∀ y ∈ c, y ≠ 0) (h : IsL c r) (h' : IsL (rotN c n) r') : r = r' := by
  by_cases hc : c = []
  · have : rotN c n = [] := List.length_eq_zero_iff.mp (by rw [rotN_len, hc]; rfl)
    rw [h.nil hc, h'.nil this]
  · have hc' : rotN c n ≠ [] := fun z => hc (List.length_eq_zero_iff.mp (by rw [← rotN_len c n, z]; rfl))
    have m1 := h.mem hc
    have m2 := h'.mem hc'
    obtain ⟨k, ek⟩ := (mem_rots hc).mp m1
    obtain ⟨k', ek'⟩ := (mem_rots hc').mp m2
    obtain ⟨q, eq⟩ := rotN_back c n
    have a : r ∈ rots (rotN c n) := (mem_rots hc').mpr ⟨q + k, by rw [rotN_add, eq, ek]⟩
    have b : r' ∈ rots c := (mem_rots hc).mpr ⟨n + k', by rw [rotN_add, ek']⟩
    exact wlt_tri (rots_nz nc m1) (rots_nz nc b) (h'.le r a) (h.le r' b)
theorem minD_ok {f : List Int → Option (Int × List Int)} {key : List Int → Int × List Int} {c : List Int} (hf : ∀ x ∈ rots c, f x = some (key x)) (hlt : ∀ x ∈ rots c, ∀ y ∈ rots c, ltP2 ltI (ltL ltI) (key x) (key y) = wlt x y) :
    ∃ r, minKDO f (ltP2 ltI (ltL ltI)) (rots c) [] = some r ∧ IsL c r := by
  by_cases hc : c = []
  · subst hc
    exact ⟨[], rfl, fun _ => rfl, fun z => absurd rfl z, fun x hx => nomatch hx⟩
  · have hne : rots c ≠ [] := fun z => by
      have := congrArg List.length z
      unfold rots at this
      rw [List.length_map, List.length_range] at this
      exact hc (List.length_eq_zero_iff.mp this)
    obtain ⟨r, e, m, l⟩ := minKO_ok hf kt_tr kt_irr hne
    refine ⟨r, ?_, fun z => absurd z hc, fun _ => m, fun x hx => by rw [← hlt x hx r m]; exact l x hx⟩
    cases hx : rots c with
    | nil => exact absurd hx hne
    | cons x t =>
      rw [hx] at e
      exact e
theorem leastP_ok {n : Nat} {w : List Int} (h : Wk n w) (hn : n ≤ 1000) : ∃ r, m_p_least_turned w = some r ∧ IsL (coreS (red w)).2 r := by
  have wr := h.red
  have cl := (core_lens (red w)).2
  have lr := wr.len
  obtain ⟨r, e, hr⟩ := minD_ok (f := m_p_walk_key) (key := wkey) (c := (coreS (red w)).2) (fun x hx => key_ok (by rw [rots_len hx]; omega)) (fun _ _ _ _ => rfl)
  refine ⟨r, ?_, hr⟩
  unfold m_p_least_turned
  refine bindS (need_ok h (by omega)) (bindS (str_ok h (by omega)) (bindS (parted_okL (by omega)) (bindS (rngO_ok (by omega)) ?_)))
  refine bindS (lcO_some (fun (x : Int) => (coreS (red w)).2.drop x.toNat ++ (coreS (red w)).2.take x.toNat) (by rw [rng_len, big]; omega) (fun x hx => by
    have := (mem_rng hx).1
    rw [rot_cat (by omega) this]
    rfl)) ?_
  have er : List.map (fun (x : Int) => (coreS (red w)).2.drop x.toNat ++ (coreS (red w)).2.take x.toNat) (range' 0 ((coreS (red w)).2.length : Int)) = rots (coreS (red w)).2 := by
    unfold rots range'
    rw [List.map_map, Int.sub_zero, Int.toNat_natCast]
    refine List.map_congr_left fun i _ => ?_
    show (coreS (red w)).2.drop ((0 : Int) + (i : Int)).toNat ++ (coreS (red w)).2.take ((0 : Int) + (i : Int)).toNat = _
    rw [Int.zero_add, Int.toNat_natCast]
  rw [er]
  exact bindS e rfl
theorem core_nz {u : List Int} (nu : ∀ x ∈ u, x ≠ 0) : ∀ x ∈ (coreS u).2, x ≠ 0 := fun x hx => nu x (by
  have : x ∈ (u.drop (ck u)).take (u.length - 2 * ck u) := hx
  exact List.mem_of_mem_drop (List.mem_of_mem_take this))
theorem core_sok {n : Nat} {u : List Int} (h : Wk n u) : Wk n (coreS u).2 := ⟨fun x hx => h.ok x (by
  have : x ∈ (u.drop (ck u)).take (u.length - 2 * ck u) := hx
  exact List.mem_of_mem_drop (List.mem_of_mem_take this)), Nat.le_trans (core_lens u).2 h.len⟩
theorem rots_wk {n : Nat} {c x : List Int} (h : Wk n c) (hx : x ∈ rots c) : Wk n x := ⟨fun y hy => by
  obtain ⟨i, _, rfl⟩ := List.mem_map.mp hx
  exact (List.mem_append.mp hy).elim (fun z => h.ok y (List.mem_of_mem_drop z)) fun z => h.ok y (List.mem_of_mem_take z), by rw [rots_len hx]; exact h.len⟩
theorem rots_cy {c x : List Int} (h : Cy c) (hx : x ∈ rots c) : Cy x ∧ ∃ n, x = rotN c n := by
  obtain ⟨n, e⟩ := (mem_rots h.ne).mp hx
  exact ⟨e ▸ cy_rotN h n, n, e⟩
end L51
namespace L51
open PySem PySem.Spec L2 Z
theorem bool_neg {p : Prop} [Decidable p] (h : p) : (!decide p) = false := by simp [h]
theorem straight_okP {n : Nat} {w : List Int} (h : Wk n w) (hn : n ≤ 10000) : m_p_straight w = some (red w) :=
  bindS (need_ok h hn) (bindS (str_ok h (by omega)) rfl)
theorem behind_ok {n m : Nat} {a b : List Int} (h : Wk n a) (k : Wk m b) (hn : n ≤ 5000) (hm : m ≤ 5000) : m_p_behind a b = some (red (a ++ b)) := by
  have := h.len
  have := k.len
  exact bindS (need_ok h (by omega)) (bindS (need_ok k (by omega)) (bindS (cat_ok (by rw [big]; omega)) (bindS (str_ok (h.app k) (by omega)) rfl)))
theorem back_ok {n : Nat} {w : List Int} (h : Wk n w) (hn : n ≤ 10000) : m_p_back w = some (iv (red w)) := by
  have := h.red.len
  exact bindS (need_ok h hn) (bindS (str_ok h (by omega)) (bindS (tback_ok (by omega)) rfl))
theorem need_num {t : Int} (h1 : -20 ≤ t) (h2 : t ≤ 20) : m_p_need_number t (-20) 20 = some () := by
  unfold m_p_need_number
  rw [if_neg]
  simp
  omega
theorem wk_pw {n : Nat} {u : List Int} {t : Int} (h : Wk n u) (h1 : -20 ≤ t) (h2 : t ≤ 20) : Wk (20 * n) (pw u t) := by
  have wr : ∀ {v : List Int} (k : Nat), Wk n v → k ≤ 20 → Wk (20 * n) (rep v k) := fun {v} k hv hk => ⟨fun x hx => hv.ok x (flat_mem hx), by
    rw [len_rep]
    exact Nat.mul_le_mul hk hv.len⟩
  unfold pw
  split
  · exact (wr _ h.iv (by omega)).red
  · exact (wr _ h (by omega)).red
theorem power_ok {n : Nat} {w : List Int} {t : Int} (h : Wk n w) (hn : n ≤ 1000) (h1 : -20 ≤ t) (h2 : t ≤ 20) : m_p_power w t = some (pw (red w) t) := by
  have wr := h.red
  have lr := wr.len
  have hs : (if (decide (t < 0)) = true then ((m_p_turned_back (red w)).bind fun t4 => some t4) else some (red w) : Option (List Int)) = some (if t < 0 then iv (red w) else red w) := by
    by_cases q : t < 0
    · rw [if_pos (decide_eq_true q), if_pos q]
      exact bindS (tback_ok (by omega)) rfl
    · rw [if_neg (by rw [decide_eq_true_eq]; exact q), if_neg q]
  have ls : (if t < 0 then iv (red w) else red w).length ≤ n := by
    split
    · rw [iv_len]; exact lr
    · exact lr
  have ha : absI t = (t.natAbs : Int) := by
    unfold absI
    split <;> omega
  have hr : repT (if t < 0 then iv (red w) else red w) (absI t) = some (rep (if t < 0 then iv (red w) else red w) t.natAbs) := by
    rw [ha, rep_ok (by omega) (by omega) (by omega), Int.toNat_natCast]
  have lp : (rep (if t < 0 then iv (red w) else red w) t.natAbs).length ≤ 20 * n := by
    rw [len_rep]
    exact Nat.mul_le_mul (by omega) ls
  refine bindS (need_ok h (by omega)) (bindS (need_num h1 h2) (bindS (str_ok h (by omega)) (bindS hs (bindS hr (bindS ?_ rfl)))))
  rw [straight_eq]
  exact straight_ok (by rw [big]; omega)
theorem core_okP {n : Nat} {w : List Int} (h : Wk n w) (hn : n ≤ 1800) : m_p_core w = some (coreS (red w)) := by
  have := h.red.len
  exact bindS (need_ok h (by omega)) (bindS (str_ok h (by omega)) (bindS (parted_okL (by omega)) rfl))
theorem turned_okP {n m : Nat} {x y : List Int} (hx : Wk n x) (hy : Wk m y) (hn : n ≤ 3000) (hm : m ≤ 3000) : m_p_turned x y = some (red (iv y ++ x ++ y)) := by
  have := hx.len
  have := hy.len
  have il := iv_len y
  unfold m_p_turned
  refine bindS (need_ok hx (by omega)) (bindS (need_ok hy (by omega)) (bindS (tback_ok (by omega)) (bindS (cat_ok (by rw [big]; omega)) (bindS (cat_ok (by rw [List.length_append, big]; omega)) (bindS (a := red (iv y ++ x ++ y)) ?_ rfl)))))
  rw [straight_eq]
  refine straight_ok ?_
  rw [List.length_append, List.length_append, big]
  omega
theorem wk_turned {n m : Nat} {x y : List Int} (hx : Wk n x) (hy : Wk m y) : Wk (n + 2 * m) (red (iv y ++ x ++ y)) := ((hy.iv.app hx).app hy).red.mono (by omega)
theorem root_okP {n : Nat} {w : List Int} (h : Wk n w) (hn : n ≤ 1000) : ∃ R m, m_p_root w = some (R, ((m : Nat) : Int)) ∧ Rt (red w) R m ∧ Wk n R ∧ m ≤ n := by
  have wr := h.red
  have lr := wr.len
  have gr := red_gd w
  have cl := core_lens (red w)
  by_cases h0 : red w = []
  · refine ⟨[], 0, ?_, .inl ⟨h0, rfl, rfl⟩, Wk.nil, Nat.zero_le _⟩
    refine bindS (need_ok h (by omega)) (bindS (str_ok h (by omega)) (bindS (parted_okL (by omega)) ?_))
    rw [h0]
    rfl
  · have hc : (coreS (red w)).2 ≠ [] := fun z => h0 ((core_ne gr wr.nz).mp z)
    obtain ⟨p, p1, p2, dd, mn, ep⟩ := least_ok (w := (coreS (red w)).2) (by omega) hc
    have hp : RootAt (coreS (red w)).2 p := ⟨p1, p2, dd, mn⟩
    have lt := root_len hp
    have il := iv_len (coreS (red w)).1
    have sm := core_sum gr wr.nz h0
    have hd : fdivO ((coreS (red w)).2.length : Int) (((coreS (red w)).2.take p).length : Int) = some (((coreS (red w)).2.length / p : Nat) : Int) := by
      unfold fdivO
      rw [if_pos ⟨by omega, Nat.lt_trans (log2_int (k := 64) (by omega) (by omega) (by decide)) (by decide)⟩, lt]
      rfl
    refine ⟨_, _, ?_, rt_ex gr wr.nz h0 hp, ⟨fun x hx => wr.ok x ?_, ?_⟩, ?_⟩
    · refine bindS (need_ok h (by omega)) (bindS (str_ok h (by omega)) (bindS (parted_okL (by omega)) ((if_neg (by rw [decide_eq_true_eq]; exact hc)).trans ?_)))
      exact bindS ep (bindS (cat_ok (by rw [big]; omega)) (bindS (tback_ok (by omega)) (bindS (cat_ok (by rw [List.length_append, big]; omega)) (bindS hd rfl))))
    · have e := (dec_core gr wr.nz h0).eq
      rw [e]
      rcases List.mem_append.mp hx with hx | hx
      · rcases List.mem_append.mp hx with hx | hx
        · simp [hx]
        · have := List.mem_of_mem_take hx
          simp [this]
      · simp [hx]
    · rw [List.length_append, List.length_append, lt]
      omega
    · have : (coreS (red w)).2.length / p ≤ (coreS (red w)).2.length := Nat.div_le_self _ _
      omega
theorem commute_ok {n m : Nat} {a b : List Int} (h : Wk n a) (k : Wk m b) (hn : n ≤ 3000) (hm : m ≤ 3000) : m_p_commute a b = some (decide (red (a ++ b) = red (b ++ a))) := by
  have := h.len
  have := k.len
  exact bindS (need_ok h (by omega)) (bindS (need_ok k (by omega)) (bindS (cat_ok (by rw [big]; omega)) (bindS (str_ok (h.app k) (by omega)) (bindS (cat_ok (by rw [big]; omega)) (bindS (str_ok (k.app h) (by omega)) rfl)))))
theorem go_iff {a b : List Int} : red (a ++ b) = red (b ++ a) ↔ fg a * fg b = fg b * fg a := by
  rw [← fg_eq, fg_app, fg_app]
theorem behindL_ok {n1 n2 n3 : Nat} {a b c : List Int} (ha : Wk n1 a) (hb : Wk n2 b) (hc : Wk n3 c) (h1 : n1 ≤ 100) (h2 : n2 ≤ 100) (h3 : n3 ≤ 100) : m_l_behind a b c = some true := by
  have wab := (ha.app hb).red
  have wbc := (hb.app hc).red
  have e1 : red (red (a ++ b) ++ c) = red (a ++ red (b ++ c)) := by rw [red_appL, red_appR, List.append_assoc]
  have e2 : iv (red (red (a ++ b))) = red (iv (red b) ++ iv (red a)) := by
    refine fg_inj (gd_iv (red_gd _)) (red_gd _) ?_
    simp only [fg_red, fg_iv, fg_app, finv_rev]
  have e3 : iv (red (iv (red a))) = red a := by
    refine fg_inj (gd_iv (red_gd _)) (red_gd _) ?_
    simp only [fg_red, fg_iv, finv_inv]
  have e4 : red (a ++ red (iv (red a) ++ b)) = red b := by
    refine fg_inj (red_gd _) (red_gd _) ?_
    simp only [fg_red, fg_iv, fg_app, fmul_cl]
  have e5 : red (a ++ []) = red a := by rw [List.append_nil]
  have e6 : red (iv c ++ red (a ++ b) ++ c) = red (red (iv c ++ a ++ c) ++ red (iv c ++ b ++ c)) := by
    refine fg_inj (red_gd _) (red_gd _) ?_
    simp only [fg_red, fg_iv, fg_app, fmul_assoc, fmul_cl]
  have sa := straight_okP ha (by omega)
  have sb := straight_okP hb (by omega)
  have ba := back_ok ha (by omega)
  have wia := ha.red.iv
  refine bindS (behind_ok ha hb (by omega) (by omega)) (bindS (behind_ok wab hc (by omega) (by omega)) (bindS (behind_ok hb hc (by omega) (by omega)) (bindS (behind_ok ha wbc (by omega) (by omega)) ((if_neg (by rw [bool_neg e1]; decide)).trans ?_))))
  refine bindS (behind_ok ha hb (by omega) (by omega)) (bindS (back_ok wab (by omega)) (bindS (back_ok hb (by omega)) (bindS ba (bindS (behind_ok hb.red.iv wia (by omega) (by omega)) (bindS (a := false) ((if_neg (by rw [bool_neg e2]; decide)).trans (bindS ba (bindS (back_ok wia (by omega)) (bindS sa (by rw [bool_neg e3]))))) ((if_neg (by decide)).trans ?_))))))
  refine bindS ba (bindS (behind_ok wia hb (by omega) (by omega)) (bindS (behind_ok ha (wia.app hb).red (by omega) (by omega)) (bindS sb (bindS (a := false) ((if_neg (by rw [bool_neg e4]; decide)).trans (bindS (behind_ok ha Wk.nil (n := n1) (m := 0) (by omega) (by omega)) (bindS sa (by rw [bool_neg e5])))) ((if_neg (by decide)).trans ?_)))))
  refine bindS (behind_ok ha hb (by omega) (by omega)) (bindS (turned_okP wab hc (by omega) (by omega)) (bindS (turned_okP ha hc (by omega) (by omega)) (bindS (turned_okP hb hc (by omega) (by omega)) (bindS (behind_ok (wk_turned ha hc) (wk_turned hb hc) (by omega) (by omega)) (congrArg some (decide_eq_true e6))))))
end L51
namespace L51
open PySem PySem.Spec L2 Z
theorem log_sm (n : Nat) (h : n < 2 ^ 64) : n.log2 < 64 := by
  by_cases h0 : n = 0
  · subst h0
    decide
  · exact (Nat.log2_lt h0).mpr h
theorem mul_sm {i j : Int} (h1 : i.natAbs < 2 ^ 64) (h2 : j.natAbs < 2 ^ 64) : mulO i j = some (i * j) := by
  unfold mulO
  have a := log_sm _ h1
  have b := log_sm _ h2
  rw [if_pos (by omega)]
theorem pw_gd (u : List Int) (t : Int) : Gd (pw u t) := red_gd _
theorem addedL_ok {n : Nat} {w : List Int} {a b : Int} (h : Wk n w) (hn : n ≤ 60) (a1 : -20 ≤ a) (a2 : a ≤ 20) (b1 : -20 ≤ b) (b2 : b ≤ 20) : m_l_added w a b = some true := by
  have wu := h.red
  have p1 := power_ok h (by omega) a1 a2
  have p2 := power_ok h (by omega) b1 b2
  have w1 := wk_pw wu a1 a2
  have w2 := wk_pw wu b1 b2
  have g1 := pw_gd (red w) a
  have g2 := pw_gd (red w) b
  refine bindS p1 (bindS p2 ?_)
  by_cases hq : ((decide (400 < ((pw (red w) a).length : Int))) || (decide (400 < ((pw (red w) b).length : Int)))) = true
  · exact if_pos hq
  · rw [if_neg hq]
    have l1 : (pw (red w) a).length ≤ 400 := by
      rw [Bool.or_eq_true, decide_eq_true_eq, decide_eq_true_eq] at hq
      omega
    have l2 : (pw (red w) b).length ≤ 400 := by
      rw [Bool.or_eq_true, decide_eq_true_eq, decide_eq_true_eq] at hq
      omega
    have v1 : Wk 400 (pw (red w) a) := ⟨w1.ok, l1⟩
    have v2 : Wk 400 (pw (red w) b) := ⟨w2.ok, l2⟩
    have e1 : red (pw (red w) a ++ pw (red w) b) = red (pw (red w) b ++ pw (red w) a) := by
      refine fg_eq.mp ?_
      rw [fg_app, fg_app, fg_pw, fg_pw, ← zp_add, ← zp_add, Int.add_comm]
    have bb := behind_ok v1 v2 (by omega) (by omega)
    refine bindS (a := false) ?_ ((if_neg (by decide)).trans ?_)
    · by_cases hs : (decide ((absI (a + b)) ≤ 20)) = true
      · rw [if_pos hs]
        have hs' : -20 ≤ a + b ∧ a + b ≤ 20 := by
          have := of_decide_eq_true hs
          unfold absI at this
          split at this <;> omega
        refine bindS (power_ok h (by omega) hs'.1 hs'.2) (bindS bb (congrArg some (bool_neg ?_)))
        refine fg_inj (pw_gd _ _) (red_gd _) ?_
        rw [fg_red, fg_app, fg_pw, fg_pw, fg_pw, zp_add]
      · exact if_neg hs
    · refine bindS bb (bindS (behind_ok v2 v1 (by omega) (by omega)) (bindS (a := false) ((if_neg (by rw [bool_neg e1]; decide)).trans (bindS (power_ok h (by omega) (by omega) (by omega)) (bindS (back_ok v1 (by omega)) (congrArg some (bool_neg ?_))))) ((if_neg (by decide)).trans ?_)))
      · refine fg_inj (pw_gd _ _) (gd_iv (red_gd _)) ?_
        rw [fg_iv, fg_red, fg_pw, fg_pw, zp_inv]
      · refine bindS (mul_sm (by omega) (by omega)) ?_
        by_cases hs : (decide (20 < (absI (a * b)))) = true
        · rw [if_pos hs]
          rfl
        · rw [if_neg hs]
          have hs' : -20 ≤ a * b ∧ a * b ≤ 20 := by
            have : ¬ 20 < absI (a * b) := fun z => hs (decide_eq_true z)
            unfold absI at this
            split at this <;> omega
          refine bindS (a := true) (bindS (power_ok v1 (by omega) b1 b2) (bindS (mul_sm (by omega) (by omega)) (bindS (power_ok h (by omega) hs'.1 hs'.2) (congrArg some (decide_eq_true ?_))))) rfl
          refine fg_inj (pw_gd _ _) (pw_gd _ _) ?_
          rw [fg_pw, fg_pw, fg_red, fg_pw, zp_mul]
theorem commL_ok {n m : Nat} {a b : List Int} (h : Wk n a) (k : Wk m b) (hn : n ≤ 100) (hm : m ≤ 100) : m_l_commuting a b = some true := by
  obtain ⟨R, i, r1, t1, wR, _⟩ := root_okP h (by omega)
  obtain ⟨S, j, r2, t2, wS, _⟩ := root_okP k (by omega)
  have gR := rt_gd t1
  have gS := rt_gd t2
  obtain ⟨D, hD⟩ : ∃ D : Bool, D = decide (R = [] ∨ S = [] ∨ R = S ∨ R = iv S) := ⟨_, rfl⟩
  have ed : ((if (decide (R = ([] : (List Int)))) = true then some true else ((if (decide (S = ([] : (List Int)))) = true then some true else ((if (decide (R = S)) = true then some true else ((m_p_back S).bind fun t3 => some (decide (R = t3)))).bind fun t4 => some t4)).bind fun t5 => some t5)) : Option Bool) = some D := by
    rw [hD]
    by_cases c1 : R = []
    · rw [if_pos (decide_eq_true c1), decide_eq_true (.inl c1)]
    · rw [if_neg (by rw [decide_eq_true_eq]; exact c1)]
      by_cases c2 : S = []
      · rw [if_pos (decide_eq_true c2), decide_eq_true (.inr (.inl c2))]
        rfl
      · rw [if_neg (by rw [decide_eq_true_eq]; exact c2)]
        by_cases c3 : R = S
        · rw [if_pos (decide_eq_true c3), decide_eq_true (.inr (.inr (.inl c3)))]
          rfl
        · rw [if_neg (by rw [decide_eq_true_eq]; exact c3)]
          have : m_p_back S = some (iv S) := by rw [back_ok wS (by omega), red_of gS]
          rw [this]
          show some (decide (R = iv S)) = _
          exact congrArg some (decide_eq_decide.mpr ⟨fun z => .inr (.inr (.inr z)), fun z => z.elim (fun y => absurd y c1) fun z => z.elim (fun y => absurd y c2) fun z => z.elim (fun y => absurd y c3) id⟩)
  have ea : fg a = fpow (fg R) i := by rw [← fg_red a, rt_self t1, fg_red, fg_rep]
  have eb : fg b = fpow (fg S) j := by rw [← fg_red b, rt_self t2, fg_red, fg_rep]
  have hiff : fg a * fg b = fg b * fg a ↔ (R = [] ∨ S = [] ∨ R = S ∨ R = iv S) := by
    constructor
    · intro hc
      by_cases c1 : red a = []
      · exact .inl ((rt_nil t1).mp c1)
      · by_cases c2 : red b = []
        · exact .inr (.inl ((rt_nil t2).mp c2))
        · exact .inr (.inr (rt_comm (red_gd b) c1 c2 t1 t2 (by rw [fg_red, fg_red]; exact hc)))
    · rintro (z | z | z | z)
      · rw [ea, z, fg_nil, fpow_one, fone_mul, fmul_one]
      · rw [eb, z, fg_nil, fpow_one, fone_mul, fmul_one]
      · rw [ea, eb, z, ← fpow_add, ← fpow_add, Nat.add_comm]
      · rw [ea, eb, z, fg_iv, fpow_inv]
        have e1 := fpow_add (fg S) i j
        have e2 := fpow_add (fg S) j i
        rw [Nat.add_comm, e2] at e1
        have := congrArg (fun q => finv (fpow (fg S) i) * (q * finv (fpow (fg S) i))) e1
        simp only [fmul_assoc, finv_cl, fmul_inv, fmul_one] at this
        exact this
  have c1 : m_p_commute a b = some D := by
    rw [commute_ok h k (by omega) (by omega), hD]
    exact congrArg some (decide_eq_decide.mpr (go_iff.trans hiff))
  have c2 : m_p_commute b a = some D := by
    rw [commute_ok k h (by omega) (by omega), hD]
    exact congrArg some (decide_eq_decide.mpr (go_iff.trans (⟨Eq.symm, Eq.symm⟩ : _ ↔ _) |>.trans hiff))
  have c3 : m_p_commute (iv (red a)) b = some D := by
    rw [commute_ok h.red.iv k (by omega) (by omega), hD]
    refine congrArg some (decide_eq_decide.mpr (go_iff.trans (Iff.trans ?_ hiff)))
    rw [fg_iv, fg_red]
    constructor
    · intro z
      have := congrArg (fun q => fg a * (q * fg a)) z
      simp only [fmul_assoc, fmul_cl, finv_mul, fmul_one] at this
      exact this.symm
    · intro z
      have := congrArg (fun q => finv (fg a) * (q * finv (fg a))) z
      simp only [fmul_assoc, finv_cl, fmul_inv, fmul_one] at this
      exact this.symm
  refine bindS r1 (bindS r2 (bindS ed (bindS c1 (bindS (a := true) ((if_pos (by simp)).trans (bindS c2 (bindS (a := true) ((if_pos (by simp)).trans (bindS (back_ok h (by omega)) (bindS c3 (by simp)))) rfl))) rfl))))
end L51
namespace L51
open PySem PySem.Spec L2 Z
theorem least_conj {u v r r' : List Int} (gu : Gd u) (nu : ∀ x ∈ u, x ≠ 0) (nv : ∀ x ∈ v, x ≠ 0) (h : IsL (coreS u).2 r) (h' : IsL (coreS (red (iv v ++ u ++ v))).2 r') : r' = r := by
  by_cases hu0 : u = []
  · have hd0 : red (iv v ++ u ++ v) = [] := by
      rw [hu0, List.append_nil]
      exact red_inv' v
    rw [hd0] at h'
    rw [h'.nil rfl, h.nil (by rw [hu0]; rfl)]
  · obtain ⟨_, n, en⟩ := core_conj gu nu nv hu0 (w := v)
    rw [en] at h'
    exact (isl_uniq (core_nz nu) h h').symm
/-- the least is round -/
theorem least_cy {u r : List Int} (gu : Gd u) (nu : ∀ x ∈ u, x ≠ 0) (h : IsL (coreS u).2 r) : (r = [] ∧ u = []) ∨ (Cy r ∧ (∀ x ∈ r, x ≠ 0) ∧ Gd r ∧ coreS r = ([], r) ∧ r.length = (coreS u).2.length ∧ ∃ n, r = rotN (coreS u).2 n) := by
  by_cases hc : (coreS u).2 = []
  · exact .inl ⟨h.nil hc, (core_ne gu nu).mp hc⟩
  · have hu0 : u ≠ [] := fun z => hc (by rw [z]; rfl)
    have m := h.mem hc
    obtain ⟨cy, n, en⟩ := rots_cy (dec_core gu nu hu0).cy m
    have nr := rots_nz (core_nz nu) m
    have g : Gd r := gd_pre cy.gd
    have d : Dec r [] r := ⟨g, by show r = [] ++ r ++ []; simp, cy⟩
    obtain ⟨e1, e2⟩ := dec_uniq (dec_core g nr cy.ne) d
    exact .inr ⟨cy, nr, g, Prod.ext e1 e2, rots_len m, n, en⟩
theorem wk_least {n : Nat} {u r : List Int} (h : Wk n u) (hr : IsL (coreS u).2 r) : Wk n r := by
  by_cases hc : (coreS u).2 = []
  · rw [hr.nil hc]
    exact Wk.nil
  · exact rots_wk (core_sok h) (hr.mem hc)
theorem core_wk {n : Nat} {u : List Int} (h : Wk n u) : Wk n (coreS u).1 := ⟨fun x hx => h.ok x (by
  have : x ∈ u.take (ck u) := hx
  exact List.mem_of_mem_take this), Nat.le_trans (core_lens u).1 h.len⟩
theorem rootedL_ok {n m : Nat} {w o : List Int} {t : Int} (h : Wk n w) (k : Wk m o) (hn : n ≤ 60) (hm : m ≤ 30) (t1 : -20 ≤ t) (t2 : t ≤ 20) : m_l_rooted w o t = some true := by
  have wu := h.red
  have gu := red_gd w
  have nu := wu.nz
  obtain ⟨R, q, r1, T, wR, hq⟩ := root_okP h (by omega)
  have gR := rt_gd T
  have wM := wk_turned h k
  have gM : Gd (red (iv o ++ w ++ o)) := red_gd _
  have eM : red (iv o ++ w ++ o) = red (iv o ++ red w ++ o) := by
    refine fg_inj (red_gd _) (red_gd _) ?_
    simp only [fg_red, fg_app]
  have TM : Rt (red (iv o ++ w ++ o)) (red (iv o ++ R ++ o)) q := by
    rw [eM]
    exact rt_conj T o
  obtain ⟨M, hM⟩ : ∃ M, M = red (iv o ++ w ++ o) := ⟨_, rfl⟩
  obtain ⟨R', hR'⟩ : ∃ R', R' = red (iv o ++ R ++ o) := ⟨_, rfl⟩
  have tM : m_p_turned w o = some M := by rw [hM]; exact turned_okP h k (by omega) (by omega)
  have tR : m_p_turned R o = some R' := by rw [hR']; exact turned_okP wR k (by omega) (by omega)
  rw [← hM] at wM gM TM eM
  rw [← hR'] at TM
  have gR' := rt_gd TM
  have wR' : Wk (n + 2 * m) R' := by rw [hR']; exact wk_turned wR k
  have sw := straight_okP h (by omega)
  have hmin : minI (q : Int) 20 = ((min q 20 : Nat) : Int) := by
    unfold minI
    split <;> omega
  obtain ⟨RM, qM, rM, TM2, _, _⟩ := root_okP wM (by omega)
  rw [red_of gM] at TM2
  obtain ⟨f1, f2⟩ := rt_uniq TM2 TM
  rw [f1, f2] at rM
  have pR := power_ok (t := minI (q : Int) 20) wR (by omega) (by rw [hmin]; omega) (by rw [hmin]; omega)
  have wc1 := core_wk wu
  have wc2 := core_sok wu
  have g1 : red (red ((coreS (red w)).1 ++ (coreS (red w)).2) ++ iv (red (coreS (red w)).1)) = red w := by
    by_cases h0 : red w = []
    · rw [h0]
      rfl
    · have e := (dec_core gu nu h0).eq
      refine fg_inj (red_gd _) (red_gd _) ?_
      simp only [fg_red, fg_app, fg_iv]
      have e2 : fg w = fg ((coreS (red w)).1 ++ (coreS (red w)).2 ++ iv (coreS (red w)).1) := by rw [← e, fg_red]
      rw [e2]
      simp only [fg_app, fg_iv]
  have g2 : coreS (red (coreS (red w)).2) = ([], (coreS (red w)).2) := by
    by_cases h0 : red w = []
    · rw [h0]
      rfl
    · have d := dec_core gu nu h0
      have g : Gd (coreS (red w)).2 := gd_pre d.cy.gd
      have d2 : Dec (coreS (red w)).2 [] (coreS (red w)).2 := ⟨g, by simp [show iv ([] : List Int) = [] from rfl], d.cy⟩
      rw [red_of g]
      obtain ⟨e1, e2⟩ := dec_uniq (dec_core g (core_nz nu) d.cy.ne) d2
      exact Prod.ext e1 e2
  obtain ⟨r2, l2, hr2⟩ := leastP_ok wM (by omega)
  rw [red_of gM] at hr2
  have wr2 := wk_least wM hr2
  have g3 : (coreS (red r2)).1 = [] := by
    rcases least_cy gM wM.nz hr2 with ⟨z, _⟩ | ⟨_, _, g, e, _⟩
    · rw [z]
      rfl
    · rw [red_of g, e]
  refine bindS r1 (bindS tM (bindS pR (bindS sw ((if_neg ?_).trans ?_))))
  · rw [Bool.and_eq_true, decide_eq_true_eq]
    rintro ⟨z1, z2⟩
    have : min q 20 = q := by
      have : (q : Int) ≤ 20 := z2
      omega
    rw [hmin, this, red_of gR] at z1
    have e : pw R ((q : Nat) : Int) = red w := by
      refine fg_inj (pw_gd _ _) (red_gd _) ?_
      rw [fg_pw, zp_nat, rt_self T, fg_red, fg_rep]
    rw [e] at z1
    simp at z1
  refine bindS (core_okP h (by omega)) (bindS (behind_ok wc1 wc2 (by omega) (by omega)) (bindS (back_ok wc1 (by omega)) (bindS (behind_ok (wc1.app wc2).red wc1.red.iv (by omega) (by omega)) (bindS sw (bindS (a := false) ((if_neg (by rw [bool_neg g1]; decide)).trans (bindS (core_okP wc2 (by omega)) (congrArg some (bool_neg g2)))) ((if_neg (by decide)).trans ?_))))))
  refine bindS rM (bindS tR (bindS (a := false) ((if_neg (by simp)).trans (bindS l2 (bindS (core_okP wr2 (by omega)) (congrArg some (bool_neg g3))))) ((if_neg (by decide)).trans ?_)))
  have pM := power_ok wM (by omega) t1 t2
  rw [red_of gM] at pM
  refine bindS pM ?_
  by_cases h4 : (decide (400 < ((pw M t).length : Int))) = true
  · exact if_pos h4
  rw [if_neg h4]
  have l4 : (pw M t).length ≤ 400 := by
    rw [decide_eq_true_eq] at h4
    omega
  have wP : Wk 400 (pw M t) := ⟨(wk_pw wM t1 t2).ok, l4⟩
  obtain ⟨RP, qP, rP, TP, _, _⟩ := root_okP wP (by omega)
  rw [red_of (pw_gd _ _)] at TP
  have last : (if (decide (t = 0)) = true then some true else ((m_p_straight w).bind fun t18 => some (decide (t18 = ([] : (List Int))))) : Option Bool) = some (decide (t = 0 ∨ red w = [])) := by
    by_cases z : t = 0
    · rw [if_pos (decide_eq_true z), decide_eq_true (.inl z)]
    · rw [if_neg (by rw [decide_eq_true_eq]; exact z)]
      refine bindS sw (congrArg some (decide_eq_decide.mpr ⟨.inr, fun y => y.elim (fun x => absurd x z) id⟩))
  refine bindS last ?_
  by_cases hz : t = 0 ∨ red w = []
  · rw [if_pos (decide_eq_true hz)]
    have hp : pw M t = [] := by
      refine fg_inj (pw_gd _ _) trivial ?_
      rw [fg_pw]
      rcases hz with z | z
      · rw [z]
        rfl
      · have : M = [] := by
          rw [eM, z, List.append_nil]
          exact red_inv' o
        rw [this, fg_nil, zp_one]
    rw [hp] at TP
    obtain ⟨z1, z2⟩ := rt_uniq TP (.inl ⟨rfl, rfl, rfl⟩)
    rw [z1, z2] at rP
    exact bindS rP (by simp)
  · rw [if_neg (by rw [decide_eq_true_eq]; exact hz)]
    have ht0 : t ≠ 0 := fun z => hz (.inl z)
    obtain ⟨z1, z2⟩ := rt_uniq TP (rt_pw gM TM ht0)
    rw [z1, z2] at rP
    have bk : m_p_back R' = some (iv R') := by rw [back_ok wR' (by omega), red_of gR']
    have hix : idx [R', iv R'] (if (decide (t < 0)) = true then 1 else 0) = some (if t < 0 then iv R' else R') := by
      by_cases hn0 : t < 0
      · rw [if_pos (decide_eq_true hn0), if_pos hn0]
        rfl
      · rw [if_neg (by rw [decide_eq_true_eq]; exact hn0), if_neg hn0]
        rfl
    have ha : absI t = (t.natAbs : Int) := by
      unfold absI
      split <;> omega
    have hmul : mulO (q : Int) (absI t) = some (((q * t.natAbs : Nat)) : Int) := by
      rw [ha, mul_sm (by omega) (by omega), Int.natCast_mul]
    exact bindS tR (bindS rP (bindS bk (bindS hix (bindS hmul (congrArg some (decide_eq_true rfl))))))
end L51
namespace L51
open PySem PySem.Spec L2 Z
theorem told_ok {u v f : List Int} {s p : Nat} (T : Told u v f s p) (nu : ∀ x ∈ u, Sok 4 x) (nv : ∀ x ∈ v, Sok 4 x) : ∀ x ∈ f, Sok 4 x := by
  have nl : ∀ x ∈ (coreS u).1, Sok 4 x := fun x hx => nu x (by rw [T.u0]; simp [hx])
  have nc : ∀ x ∈ (coreS u).2, Sok 4 x := fun x hx => nu x (by rw [T.u0]; simp [hx])
  have ng : ∀ x ∈ (coreS v).1, Sok 4 x := fun x hx => nv x (by rw [T.v0]; simp [hx])
  have niv : ∀ {w : List Int}, (∀ x ∈ w, Sok 4 x) → ∀ x ∈ iv w, Sok 4 x := fun {w} h x hx => by
    obtain ⟨y, hy, rfl⟩ := List.mem_map.mp hx
    exact (h y (List.mem_reverse.mp hy)).neg
  have nr : ∀ x ∈ (coreS u).2.take p, Sok 4 x := fun x hx => nc x (List.mem_of_mem_take hx)
  have all : ∀ w : List Int, (∀ x ∈ w, Sok 4 x) → ∀ x ∈ xk (coreS u).1 w (coreS u).2 (coreS v).1 s, Sok 4 x := fun w hw => red_mem fun x hx => by
    rcases List.mem_append.mp hx with hx | hx
    · rcases List.mem_append.mp hx with hx | hx
      · rcases List.mem_append.mp hx with hx | hx
        · exact nl x hx
        · exact hw x hx
      · exact nc x (List.mem_of_mem_take hx)
    · exact niv ng x hx
  obtain ⟨k, rfl | rfl⟩ := T.form
  · exact all _ fun x hx => nr x (flat_mem hx)
  · exact all _ fun x hx => niv nr x (flat_mem hx)
/-- the least that turns u into v -/
structure Fd (u v f : List Int) : Prop where
  gd : Gd f
  ok : ∀ x ∈ f, Sok 4 x
  len : f.length ≤ u.length + v.length
  turn : red (iv f ++ u ++ f) = v
  least : ∀ w : List Int, (∀ x ∈ w, x ≠ 0) → Gd w → red (iv w ++ u ++ w) = v → w = f ∨ wlt f w = true
theorem onto_dich {n m : Nat} {one other : List Int} (h : Wk n one) (k : Wk m other) (hn : n ≤ 450) (hm : m ≤ 450) :
    (m_p_turned_onto one other = some none ∧ (coreS (red other)).2 ∉ rots (coreS (red one)).2 ∧ ¬ (red one = [] ∧ red other = []) ∧ ∀ w : List Int, (∀ x ∈ w, x ≠ 0) → red (iv w ++ red one ++ w) ≠ red other) ∨
    ∃ f, m_p_turned_onto one other = some (some f) ∧ Fd (red one) (red other) f := by
  have nu := h.red.nz
  have nv := k.red.nz
  have gu := red_gd one
  have gv := red_gd other
  rcases onto_ok h k hn hm with ⟨e1, e2, e⟩ | ⟨hne, hno, e⟩ | ⟨u0, v0, s, p, f, T, e⟩
  · refine .inr ⟨[], e, trivial, (fun _ z => nomatch z), Nat.zero_le _, by rw [e1, e2]; rfl, fun w _ _ _ => ?_⟩
    cases w with
    | nil => exact .inl rfl
    | cons x t => exact .inr (wlt_len (by simp))
  · refine .inl ⟨e, hno, hne, fun w nw z => ?_⟩
    by_cases hu0 : red one = []
    · refine hne ⟨hu0, ?_⟩
      rw [← z, hu0, List.append_nil]
      exact red_inv' w
    · obtain ⟨_, q, eq⟩ := core_conj gu nu nw hu0
      rw [z] at eq
      exact hno ((mem_rots (dec_core gu nu hu0).cy.ne).mpr ⟨q, eq⟩)
  · exact .inr ⟨f, e, told_gd T, told_ok T h.red.ok k.red.ok, told_len T, told_turn T, fun w nw gw hw => told_least T nu nv nw gw hw⟩
theorem Fd.nz {u v f : List Int} (h : Fd u v f) : ∀ x ∈ f, x ≠ 0 := fun x hx => (h.ok x hx).1
theorem fd_back {u v f : List Int} (gu : Gd u) (h : Fd u v f) : red (iv (iv f) ++ v ++ iv f) = u := by
  refine fg_inj (red_gd _) gu ?_
  have : fg v = fg (iv f ++ u ++ f) := by rw [← h.turn, fg_red]
  rw [fg_red, iv_iv]
  simp only [fg_app, fg_iv, this, fmul_assoc, fmul_cl, fmul_inv, fmul_one]
theorem nz_iv {w : List Int} (h : ∀ x ∈ w, x ≠ 0) : ∀ x ∈ iv w, x ≠ 0 := fun x hx => by
  obtain ⟨y, hy, rfl⟩ := List.mem_map.mp hx
  have := h y (List.mem_reverse.mp hy)
  omega
theorem fd_len {u v f a : List Int} (gu : Gd u) (gv : Gd v) (h : Fd u v f) (h' : Fd v u a) : a.length = f.length := by
  have le : ∀ {x y : List Int}, y = x ∨ wlt x y = true → x.length ≤ y.length := fun {x y} z => by
    rcases z with z | z
    · rw [z]; exact Nat.le_refl _
    · rcases Nat.lt_or_ge y.length x.length with q | q
      · have := wlt_tr z (wlt_len q)
        rw [wlt_irr] at this
        cases this
      · exact q
  have a1 := le (h'.least (iv f) (nz_iv h.nz) (gd_iv h.gd) (fd_back gu h))
  have a2 := le (h.least (iv a) (nz_iv h'.nz) (gd_iv h'.gd) (fd_back gv h'))
  rw [iv_len] at a1 a2
  omega
theorem wlt_asym {a b : List Int} (h : a = b ∨ wlt b a = true) : wlt a b = false := by
  rcases h with rfl | h
  · exact wlt_irr _
  · cases z : wlt a b with
    | false => rfl
    | true =>
      have := wlt_tr h z
      rw [wlt_irr] at this
      cases this
theorem wk_fd {n m : Nat} {u v f : List Int} (hu : Wk n u) (hv : Wk m v) (h : Fd u v f) : Wk (n + m) f := ⟨h.ok, by
  have := h.len
  have := hu.len
  have := hv.len
  omega⟩
theorem least_diff {u v r r' : List Int} (gu : Gd u) (gv : Gd v) (nu : ∀ x ∈ u, x ≠ 0) (nv : ∀ x ∈ v, x ≠ 0) (h : IsL (coreS u).2 r) (h' : IsL (coreS v).2 r') (hno : (coreS v).2 ∉ rots (coreS u).2) (hne : ¬ (u = [] ∧ v = [])) : r ≠ r' := fun e => by
  subst e
  by_cases c1 : (coreS u).2 = []
  · by_cases c2 : (coreS v).2 = []
    · exact hne ⟨(core_ne gu nu).mp c1, (core_ne gv nv).mp c2⟩
    · have m := rots_len (h'.mem c2)
      rw [h.nil c1] at m
      exact c2 (List.length_eq_zero_iff.mp m.symm)
  · by_cases c2 : (coreS v).2 = []
    · have m := rots_len (h.mem c1)
      rw [h'.nil c2] at m
      exact c1 (List.length_eq_zero_iff.mp m.symm)
    · obtain ⟨k, ek⟩ := (mem_rots c1).mp (h.mem c1)
      obtain ⟨j, ej⟩ := (mem_rots c2).mp (h'.mem c2)
      obtain ⟨q, eq⟩ := rotN_back (coreS v).2 j
      refine hno ((mem_rots c1).mpr ⟨k + q, ?_⟩)
      rw [rotN_add, ← ek, ej, eq]
theorem wlt_least {u r : List Int} (gu : Gd u) (nu : ∀ x ∈ u, x ≠ 0) (h : IsL (coreS u).2 r) : wlt u r = false := by
  by_cases hu0 : u = []
  · rw [h.nil (by rw [hu0]; rfl), hu0]
    exact wlt_irr _
  · have d := dec_core gu nu hu0
    have m := h.mem d.cy.ne
    have lr := rots_len m
    have sm := core_sum gu nu hu0
    rcases Nat.eq_zero_or_pos (coreS u).1.length with z | z
    · have e1 : (coreS u).1 = [] := List.length_eq_zero_iff.mp z
      have e := d.eq
      rw [e1] at e
      have e2 : u = (coreS u).2 := by simpa [show iv ([] : List Int) = [] from rfl] using e
      have mem : u ∈ rots (coreS u).2 := (mem_rots d.cy.ne).mpr ⟨0, e2⟩
      exact h.le u mem
    · exact wlt_asym (.inr (wlt_len (by omega)))
theorem turningL_ok {n m k : Nat} {one other by_ : List Int} (h : Wk n one) (ho : Wk m other) (hb : Wk k by_) (hn : n ≤ 60) (hm : m ≤ 60) (hk : k ≤ 30) : m_l_turning one other by_ = some true := by
  have wu := h.red
  have gu := red_gd one
  have nu := wu.nz
  have wv := ho.red
  have gv := red_gd other
  have nv := wv.nz
  have wM := wk_turned h hb
  have gM : Gd (red (iv by_ ++ one ++ by_)) := red_gd _
  have nb := hb.red.nz
  have eM : red (iv by_ ++ one ++ by_) = red (iv (red by_) ++ red one ++ red by_) := by
    refine fg_inj (red_gd _) (red_gd _) ?_
    simp only [fg_red, fg_app, fg_iv]
  have tM := turned_okP h hb (by omega) (by omega)
  obtain ⟨M, hM⟩ : ∃ M, M = red (iv by_ ++ one ++ by_) := ⟨_, rfl⟩
  rw [← hM] at wM gM eM tM
  obtain ⟨r1, l1, hr1⟩ := leastP_ok wM (by omega)
  obtain ⟨r, l2, hr⟩ := leastP_ok h (by omega)
  obtain ⟨r3, l3, hr3⟩ := leastP_ok ho (by omega)
  rw [red_of gM] at hr1
  have e1 : r1 = r := by
    rw [eM] at hr1
    exact least_conj gu nu nb hr hr1
  rw [e1] at l1
  have so := straight_okP h (by omega)
  have sv := straight_okP ho (by omega)
  have sb := straight_okP hb (by omega)
  have wr := wk_least wu hr
  have lr := wr.len
  have lu := wu.len
  have lb := hb.red.len
  refine bindS tM (bindS l1 (bindS l2 (bindS (a := false) ?_ ((if_neg (by decide)).trans ?_))))
  · refine (if_neg (by simp)).trans (bindS l2 (bindS (lkey_ok (by omega)) (bindS so (bindS (lkey_ok (by omega)) ?_))))
    rw [llt_eq nu wr.nz, wlt_least gu nu hr]
  · rcases onto_dich h wM (by omega) (by omega) with ⟨_, _, _, z⟩ | ⟨f, ef, F⟩
    · refine absurd ?_ (z (red by_) nb)
      rw [red_of gM, eM]
    · rw [red_of gM] at F
      have wf := wk_fd wu wM F
      have lf := wf.len
      have tf : m_p_turned one f = some M := by
        rw [turned_okP h wf (by omega) (by omega), ← F.turn]
        refine congrArg some (fg_inj (red_gd _) (red_gd _) ?_)
        simp only [fg_red, fg_app, fg_iv]
      have bf : m_p_back f = some (iv f) := by rw [back_ok wf (by omega), red_of F.gd]
      refine bindS ef ?_
      show (if false = true then some true else _).bind _ = _
      refine bindS (a := false) ((if_neg (by decide)).trans (bindS tf (bindS (a := false) ((if_neg (by simp)).trans (bindS (lkey_ok (by omega)) (bindS sb (bindS (lkey_ok (by omega)) ?_)))) rfl))) ((if_neg (by decide)).trans ?_)
      · rw [llt_eq nb F.nz]
        refine congrArg some (wlt_asym (F.least (red by_) nb (red_gd _) eM.symm))
      · refine bindS bf (bindS (behind_ok hb wf.iv (by omega) (by omega)) (bindS (commute_ok h (hb.app wf.iv).red (by omega) (by omega)) ((if_neg ?_).trans ?_)))
        · have : red (one ++ red (by_ ++ iv f)) = red (red (by_ ++ iv f) ++ one) := by
            refine go_iff.mpr ?_
            simp only [fg_red, fg_app, fg_iv]
            have h1 : finv (fg by_) * (fg one * fg by_) = finv (fg f) * (fg one * fg f) := by
              have a1 : fg M = finv (fg by_) * (fg one * fg by_) := by
                rw [hM]
                simp only [fg_red, fg_app, fg_iv, fmul_assoc]
              have a2 : fg M = finv (fg f) * (fg one * fg f) := by
                rw [← F.turn]
                simp only [fg_red, fg_app, fg_iv, fmul_assoc]
              rw [← a1, a2]
            have := congrArg (fun q => fg by_ * (q * finv (fg f))) h1
            simp only [fmul_assoc, fmul_cl, fmul_inv, fmul_one] at this
            rw [this]
            simp only [fmul_assoc]
          simp [this]
        · rcases onto_dich h ho (by omega) (by omega) with ⟨e, hno, hne, hall⟩ | ⟨f2, ef2, F2⟩
          · refine bindS e (bindS l2 (bindS l3 ?_))
            have hd := least_diff gu gv nu nv hr hr3 hno hne
            refine (if_neg (by simp [hd])).trans ?_
            rcases onto_dich ho h (by omega) (by omega) with ⟨e4, _⟩ | ⟨f4, _, F4⟩
            · exact bindS e4 rfl
            · exact absurd (fd_back gv F4) (hall (iv f4) (nz_iv F4.nz))
          · have er3 : r3 = r := by
              rw [← F2.turn] at hr3
              exact least_conj gu nu F2.nz hr hr3
            rw [er3] at l3
            refine bindS ef2 (bindS l2 (bindS l3 ((if_neg (by simp)).trans ?_)))
            rcases onto_dich ho h (by omega) (by omega) with ⟨_, _, _, z⟩ | ⟨a, ea, Fa⟩
            · exact absurd (fd_back gu F2) (z (iv f2) (nz_iv F2.nz))
            · have wf2 := wk_fd wu wv F2
              have wa := wk_fd wv wu Fa
              have la := fd_len gu gv F2 Fa
              have t1 : m_p_turned one f2 = some (red other) := by
                rw [turned_okP h wf2 (by omega) (by omega), ← F2.turn]
                refine congrArg some (fg_inj (red_gd _) (red_gd _) ?_)
                simp only [fg_red, fg_app, fg_iv]
              have t2 : m_p_turned other a = some (red one) := by
                rw [turned_okP ho wa (by omega) (by omega), ← Fa.turn]
                refine congrArg some (fg_inj (red_gd _) (red_gd _) ?_)
                simp only [fg_red, fg_app, fg_iv]
              refine bindS ea (bindS t1 (bindS sv (bindS (a := true) ((if_pos (by simp)).trans (bindS (a := true) ((if_pos (by simp [la])).trans (bindS t2 (bindS so (by simp)))) rfl)) rfl)))
end L51
namespace L51
open PySem PySem.Spec L2 Z
theorem ltL_app : ∀ {a b c d : List Int}, a.length = b.length → ltL ltI a b = true → ltL ltI (a ++ c) (b ++ d) = true
  | [], [], _, _, _, h => by cases h
  | [], _ :: _, _, _, hl, _ => by cases hl
  | _ :: _, [], _, _, hl, _ => by cases hl
  | x :: a, y :: b, c, d, hl, h => by
    have h : (if x = y then ltL ltI a b else ltI x y) = true := h
    show (if x = y then ltL ltI (a ++ c) (b ++ d) else ltI x y) = true
    by_cases e : x = y
    · rw [if_pos e] at h ⊢
      exact ltL_app (by simpa using hl) h
    · rw [if_neg e] at h ⊢
      exact h
theorem wlt_rep {a b : List Int} (k : Nat) (hl : a.length = b.length) (h : wlt a b = true) : wlt (rep a (k + 1)) (rep b (k + 1)) = true := by
  rw [wlt_eq, if_pos hl] at h
  rw [wlt_eq, if_pos (by rw [len_rep, len_rep, hl])]
  rw [rep_succ, rep_succ, List.map_append, List.map_append]
  exact ltL_app (by rw [List.length_map, List.length_map, hl]) h
theorem isl_rep {c r : List Int} (k : Nat) (nc : ∀ x ∈ c, x ≠ 0) (hc : c ≠ []) (h : IsL c r) : IsL (rep c (k + 1)) (rep r (k + 1)) := by
  have hl : 0 < c.length := List.length_pos_iff.mpr hc
  have hne : rep c (k + 1) ≠ [] := fun z => by
    have h1 := congrArg List.length z
    rw [len_rep] at h1
    have h2 : 0 < (k + 1) * c.length := Nat.mul_pos (Nat.succ_pos k) hl
    rw [h1] at h2
    exact absurd h2 (by simp)
  have m := h.mem hc
  obtain ⟨q, eq⟩ := (mem_rots hc).mp m
  refine ⟨fun z => absurd z hne, fun _ => (mem_rots hne).mpr ⟨q, by rw [rotN_rep, eq]⟩, fun x hx => ?_⟩
  obtain ⟨j, rfl⟩ := (mem_rots hne).mp hx
  rw [rotN_rep]
  have my : rotN c j ∈ rots c := (mem_rots hc).mpr ⟨j, rfl⟩
  have hy := h.le _ my
  cases z : wlt r (rotN c j) with
  | false =>
    rw [wlt_tri (rots_nz nc my) (rots_nz nc m) hy z]
    exact wlt_irr _
  | true => exact wlt_asym (.inr (wlt_rep k (by rw [rots_len m, rotN_len]) z))
theorem zp_inj {x y : List Int} (gx : Gd x) (gy : Gd y) (nx : ∀ z ∈ x, z ≠ 0) (ny : ∀ z ∈ y, z ≠ 0) {t : Int} (ht : t ≠ 0) (h : zp (fg x) t = zp (fg y) t) : x = y := by
  refine pow_inj gx gy nx ny (t := t.natAbs) (by omega) ?_
  unfold zp at h
  by_cases hn : t < 0
  · rw [if_pos hn, if_pos hn] at h
    have := congrArg finv h
    rw [finv_inv, finv_inv] at this
    exact this
  · rw [if_neg hn, if_neg hn] at h
    exact h
theorem longL_ok {n k : Nat} {w by_ : List Int} {t : Int} (h : Wk n w) (hb : Wk k by_) (hn : n ≤ 30) (hk : k ≤ 30) (t1 : -20 ≤ t) (t2 : t ≤ 20) : m_l_long w by_ t = some true := by
  have wu := h.red
  have gu := red_gd w
  have nu := wu.nz
  have pw1 := power_ok h (by omega) t1 t2
  have tM := turned_okP h hb (by omega) (by omega)
  have wM := wk_turned h hb
  have gM : Gd (red (iv by_ ++ w ++ by_)) := red_gd _
  obtain ⟨P, hP⟩ : ∃ P, P = pw (red w) t := ⟨_, rfl⟩
  obtain ⟨M, hM⟩ : ∃ M, M = red (iv by_ ++ w ++ by_) := ⟨_, rfl⟩
  have wP0 := wk_pw wu t1 t2
  have gP : Gd P := hP ▸ pw_gd _ _
  rw [← hP] at pw1 wP0
  rw [← hM] at tM wM gM
  refine bindS pw1 (bindS tM ?_)
  by_cases hq : ((decide (360 < (P.length : Int))) || (decide (t = 0))) = true
  · exact if_pos hq
  rw [if_neg hq]
  rw [Bool.or_eq_true, decide_eq_true_eq, decide_eq_true_eq] at hq
  have ht0 : t ≠ 0 := fun z => hq (.inr z)
  have wP : Wk 360 P := ⟨wP0.ok, by omega⟩
  have pM := power_ok wM (by omega) t1 t2
  rw [red_of gM] at pM
  have wPM0 := wk_pw wM t1 t2
  have fP : fg P = zp (fg w) t := by rw [hP, fg_pw, fg_red]
  have fM : fg M = finv (fg by_) * (fg w * fg by_) := by
    rw [hM]
    simp only [fg_red, fg_app, fg_iv, fmul_assoc]
  have e3 : red (iv by_ ++ P ++ by_) = pw M t := by
    refine fg_inj (red_gd _) (pw_gd _ _) ?_
    rw [fg_red, fg_pw, fM, zp_conj]
    simp only [fg_app, fg_iv, fP, fmul_assoc]
  have tP := turned_okP wP hb (by omega) (by omega)
  have wT := wk_turned wP hb
  have gT : Gd (red (iv by_ ++ P ++ by_)) := red_gd _
  have c1 : red (P ++ w) = red (w ++ P) := by
    refine go_iff.mpr ?_
    have a := zp_add (fg w) t 1
    have b := zp_add (fg w) 1 t
    rw [Int.add_comm, b] at a
    have z1 : zp (fg w) 1 = fg w := by
      rw [show (1 : Int) = ((1 : Nat) : Int) from rfl, zp_nat, fpow, fpow, fone_mul]
    rw [z1] at a
    rw [fP, a]
  have c2 : red (w ++ iv P) = red (iv P ++ w) := by
    refine go_iff.mpr ?_
    rw [fg_iv]
    have := congrArg (fun q => finv (fg P) * (q * finv (fg P))) (go_iff.mp c1)
    simp only [fmul_assoc, finv_cl, fmul_inv, fmul_one] at this
    exact this
  have bP : m_p_back P = some (iv P) := by rw [back_ok wP (by omega), red_of gP]
  have fwd : m_p_turned_onto P (red (iv by_ ++ P ++ by_)) = m_p_turned_onto w M ∧ True := by
    refine ⟨?_, trivial⟩
    have nb := hb.red.nz
    have eM : M = red (iv (red by_) ++ red w ++ red by_) := by
      refine fg_inj gM (red_gd _) ?_
      rw [fM]
      simp only [fg_red, fg_app, fg_iv, fmul_assoc]
    have eT : red (iv by_ ++ P ++ by_) = red (iv (red by_) ++ P ++ red by_) := by
      refine fg_inj gT (red_gd _) ?_
      simp only [fg_red, fg_app, fg_iv, fmul_assoc]
    rcases onto_dich wP wT (by omega) (by omega) with ⟨_, _, _, z⟩ | ⟨f, ef, F⟩
    · refine absurd ?_ (z (red by_) nb)
      rw [red_of gT, red_of gP, eT]
    · rcases onto_dich h wM (by omega) (by omega) with ⟨_, _, _, z⟩ | ⟨f2, ef2, F2⟩
      · refine absurd ?_ (z (red by_) nb)
        rw [red_of gM, ← eM]
      · rw [red_of gT, red_of gP] at F
        rw [red_of gM] at F2
        rw [ef, ef2]
        have fT : fg (red (iv by_ ++ P ++ by_)) = zp (fg M) t := by rw [e3, fg_pw]
        have h1 : red (iv f2 ++ P ++ f2) = red (iv by_ ++ P ++ by_) := by
          refine fg_inj (red_gd _) gT ?_
          rw [fT]
          have a : fg M = finv (fg f2) * (fg w * fg f2) := by
            rw [← F2.turn]
            simp only [fg_red, fg_app, fg_iv, fmul_assoc]
          rw [a, zp_conj]
          simp only [fg_red, fg_app, fg_iv, fP, fmul_assoc]
        have h2 : red (iv f ++ red w ++ f) = M := by
          have nn : ∀ x ∈ red (iv f ++ red w ++ f), x ≠ 0 := red_nz fun x hx => by
            rcases List.mem_append.mp hx with hx | hx
            · rcases List.mem_append.mp hx with hx | hx
              · exact nz_iv F.nz x hx
              · exact nu x hx
            · exact F.nz x hx
          refine zp_inj (red_gd _) gM nn wM.nz ht0 ?_
          rw [← fT, ← F.turn]
          have a : fg (red (iv f ++ red w ++ f)) = finv (fg f) * (fg w * fg f) := by
            simp only [fg_red, fg_app, fg_iv, fmul_assoc]
          rw [a, zp_conj]
          simp only [fg_red, fg_app, fg_iv, fP, fmul_assoc]
        have a1 := F.least f2 F2.nz F2.gd h1
        have a2 := F2.least f F.nz F.gd h2
        rcases a1 with e | e
        · rw [e]
        · rcases a2 with e2 | e2
          · rw [e2]
          · have := wlt_tr e e2
            rw [wlt_irr] at this
            cases this
  obtain ⟨fwd, _⟩ := fwd
  have ⟨o, eo⟩ : ∃ o, m_p_turned_onto w M = some o := by
    rcases onto_dich h wM (by omega) (by omega) with ⟨e, _⟩ | ⟨f, e, _⟩
    · exact ⟨_, e⟩
    · exact ⟨_, e⟩
  refine bindS tP (bindS pM (bindS (a := false) ?_ ((if_neg (by decide)).trans (bindS tP (bindS (fwd.trans eo) (bindS eo ((if_neg (by simp)).trans ?_)))))))
  · refine (if_neg (by rw [bool_neg e3]; decide)).trans ?_
    exact bindS (commute_ok wP h (by omega) (by omega)) (bindS (a := false) ((if_neg (by simp [c1])).trans (bindS bP (bindS (commute_ok h wP.iv (by omega) (by omega)) (by simp [c2])))) rfl)
  · by_cases hn0 : t < 0
    · rw [if_pos (decide_eq_true hn0)]
      rfl
    · rw [if_neg (by rw [decide_eq_true_eq]; exact hn0)]
      obtain ⟨r1, l1, hr1⟩ := leastP_ok wP (by omega)
      obtain ⟨r, l2, hr⟩ := leastP_ok h (by omega)
      rw [red_of gP] at hr1
      have wr := wk_least wu hr
      obtain ⟨q, hq2⟩ : ∃ q : Nat, t = ((q + 1 : Nat) : Int) := ⟨t.toNat - 1, by omega⟩
      have eP : P = red (rep (red w) (q + 1)) := by
        refine fg_inj gP (red_gd _) ?_
        rw [fP, hq2, zp_nat, fg_red, fg_rep, fg_red]
      have er : r1 = pw (red r) t := by
        rcases least_cy gu nu hr with ⟨z1, z2⟩ | ⟨cy, nr, g, _, _, _⟩
        · have : P = [] := by
            refine fg_inj gP trivial ?_
            rw [fP, ← fg_red w, z2, fg_nil, zp_one]
          rw [this] at hr1
          rw [hr1.nil rfl, z1]
          refine fg_inj trivial (pw_gd _ _) ?_
          rw [fg_pw, show red [] = [] from rfl, fg_nil, zp_one]
        · have hu0 : red w ≠ [] := fun z => by
            have := hr.nil (by rw [z]; rfl)
            exact cy.ne this
          have d := dec_core gu nu hu0
          have dP := dec_pow d q
          rw [← eP] at dP
          have nP : ∀ x ∈ P, x ≠ 0 := fun x hx => (wP.ok x hx).1
          have hP0 : P ≠ [] := fun z => by
            have := dP.eq
            rw [z] at this
            have := congrArg List.length this
            simp only [List.length_append, List.length_nil] at this
            have h3 : (rep (coreS (red w)).2 (q + 1)).length ≠ 0 := fun y => dP.cy.ne (List.length_eq_zero_iff.mp y)
            omega
          have ec := (dec_uniq (dec_core gP nP hP0) dP).2
          rw [ec] at hr1
          have h1 := isl_rep q (core_nz nu) d.cy.ne hr
          have ncr : ∀ x ∈ rep (coreS (red w)).2 (q + 1), x ≠ 0 := fun x hx => core_nz nu x (flat_mem hx)
          have e5 : rep r (q + 1) = r1 := isl_uniq (n := 0) ncr h1 hr1
          rw [← e5, hq2]
          have gr := gd_repZ cy.gd cy.ne (q + 1)
          refine fg_inj gr (pw_gd _ _) ?_
          rw [fg_pw, zp_nat, fg_red, fg_rep]
      have pr := power_ok wr (by omega) t1 t2
      exact bindS (a := true) (bindS l1 (bindS l2 (bindS pr (congrArg some (decide_eq_true er))))) rfl
def riF (t4 : List Int × List Int) (t27 : Int × List Int) (walk_here17 : List Int) : Unit → List Int → Option (Step (Bool × List Int) Unit) := (fun (s29 : Unit) (other30 : (List Int)) => (((m_l_commuting walk_here17 other30).bind fun t34 => (if (!t34) = true then some true else ((m_l_turning walk_here17 other30 t4.1).bind fun t35 => some (!t35))).bind fun t36 => (if t36 = true then some (Step.ret (false, t27.2)) else some (Step.go ()))) : Option (Step (Bool × (List Int)) Unit)))
def rgF (t2 t3 t4 t5 : List Int × List Int) (t6 t7 : Int × List Int) (t15 : List (List Int)) : List Int → List Int → Option (Step (Bool × List Int) (List Int)) := (fun (s16 : (List Int)) (walk_here17 : (List Int)) => (((m_l_behind walk_here17 t2.1 t3.1).bind fun t21 => (if (!t21) = true then some true else ((m_l_behind t3.1 walk_here17 t5.1).bind fun t22 => some (!t22))).bind fun t23 => (if t23 = true then some (Step.ret (false, s16)) else ((m_l_added walk_here17 (t6.1 - 20) (t7.1 - 6)).bind fun t24 => (if (!t24) = true then some true else ((m_l_rooted walk_here17 t4.1 (t7.1 - 6)).bind fun t25 => some (!t25))).bind fun t26 => (if t26 = true then some (Step.ret (false, s16)) else ((m_l_take s16 (t15.length : Int)).bind fun t27 => (idx t15 t27.1).bind fun t28 => ((lpR (riF t4 t27 walk_here17) ([t2.1, t3.1, t28]) ()).bind fun f31o => Sum.elim (fun r38 => some (Step.ret r38)) (fun f31 => some (Step.go t27.2)) f31o)))))) : Option (Step (Bool × (List Int)) (List Int))))
theorem right_eq (w_well_here : List Int) : m_l_right w_well_here = ((m_l_take w_well_here 4).bind fun t1 => ((m_l_walk t1.2 (1 + t1.1) 6).bind fun t2 => (m_l_walk t2.2 (1 + t1.1) 20).bind fun t3 => ((m_l_walk t3.2 (1 + t1.1) 6).bind fun t4 => (m_l_walk t4.2 (1 + t1.1) 20).bind fun t5 => ((m_l_take t5.2 41).bind fun t6 => (m_l_take t6.2 13).bind fun t7 => ((m_p_power t2.1 (t6.1 - 20)).bind fun t8 => (m_p_power t2.1 (t7.1 - 6)).bind fun t9 => ((m_p_turned t2.1 t4.1).bind fun t10 => (m_p_back t2.1).bind fun t11 => (m_p_least_turned t3.1).bind fun t12 => ((lcF (fun (walk_here13 : (List Int)) => (decide ((walk_here13.length : Int) ≤ 60))) (fun (walk_here13 : (List Int)) => walk_here13) ([t2.1, t3.1, t10, t8, t9, t11, t12, []])).bind fun t15 => ((lpR (rgF t2 t3 t4 t5 t6 t7 t15) t15 t7.2).bind fun f18o => Sum.elim (fun r49 => some r49) (fun f18 => ((m_l_long t2.1 t4.1 (t6.1 - 20)).bind fun t41 => (if (!t41) = true then some true else ((m_l_long t3.1 t4.1 (t6.1 - 20)).bind fun t42 => (if (!t42) = true then some true else ((m_l_long t5.1 t4.1 (t7.1 - 6)).bind fun t43 => some (!t43))).bind fun t44 => some t44)).bind fun t45 => (if t45 = true then some (false, f18) else ((m_l_added t2.1 (t7.1 - 6) (t7.1 - 6)).bind fun t46 => (if t46 = true then ((m_l_rooted t2.1 t5.1 (t6.1 - 20)).bind fun t47 => some t47) else some false).bind fun t48 => some (t48, f18))))) f18o)))))))) := rfl
theorem wk_of {n : Nat} {L : Int} {w : List Int} (o : ∀ x ∈ w, Sok L x) (h : L ≤ 4) (l : (w.length : Int) ≤ n) : Wk n w := ⟨fun y hy => (o y hy).mono h, by omega⟩
theorem right_ok {w : List Int} (h : WeOk 0 w) : ∃ w', m_l_right w = some (true, w') := by
  rw [right_eq]
  simp only [walk_eq, take_eq]
  obtain ⟨v1, w1, e1, a1, b1, k1⟩ := take_ok (by omega) h (many := 4) (by omega) (by omega)
  have hL1 : 1 ≤ 1 + v1 := by omega
  have hL4 : 1 + v1 ≤ 4 := by omega
  obtain ⟨sh, w2, e2, o2, l2, k2⟩ := walk_ok (by omega) k1 (L := 1 + v1) (most := 6) hL1 hL4 (by omega) (by omega)
  obtain ⟨lo, w3, e3, o3, l3, k3⟩ := walk_ok (by omega) k2 (L := 1 + v1) (most := 20) hL1 hL4 (by omega) (by omega)
  obtain ⟨by_, w4, e4, o4, l4, k4⟩ := walk_ok (by omega) k3 (L := 1 + v1) (most := 6) hL1 hL4 (by omega) (by omega)
  obtain ⟨th, w5, e5, o5, l5, k5⟩ := walk_ok (by omega) k4 (L := 1 + v1) (most := 20) hL1 hL4 (by omega) (by omega)
  obtain ⟨v6, w6, e6, a6, b6, k6⟩ := take_ok (by omega) k5 (many := 41) (by omega) (by omega)
  obtain ⟨v7, w7, e7, a7, b7, k7⟩ := take_ok (by omega) k6 (many := 13) (by omega) (by omega)
  have W2 : Wk 6 sh := wk_of o2 hL4 l2
  have W3 : Wk 20 lo := wk_of o3 hL4 l3
  have W4 : Wk 6 by_ := wk_of o4 hL4 l4
  have W5 : Wk 20 th := wk_of o5 hL4 l5
  have q8 := power_ok (t := v6 - 20) W2 (by omega) (by omega) (by omega)
  have q9 := power_ok (t := v7 - 6) W2 (by omega) (by omega) (by omega)
  have q10 := turned_okP W2 W4 (by omega) (by omega)
  have q11 := back_ok W2 (by omega)
  obtain ⟨r, q12, hr⟩ := leastP_ok W3 (by omega)
  have wr := wk_least W3.red hr
  obtain ⟨ws, hws⟩ : ∃ ws, ws = ([sh, lo, red (iv by_ ++ sh ++ by_), pw (red sh) (v6 - 20), pw (red sh) (v7 - 6), iv (red sh), r, []] : List (List Int)).filter (fun w => decide ((w.length : Int) ≤ 60)) := ⟨_, rfl⟩
  have q15 : lcF (fun (walk_here13 : (List Int)) => (decide ((walk_here13.length : Int) ≤ 60))) (fun (walk_here13 : (List Int)) => walk_here13) ([sh, lo, red (iv by_ ++ sh ++ by_), pw (red sh) (v6 - 20), pw (red sh) (v7 - 6), iv (red sh), r, []]) = some ws := by
    unfold lcF
    rw [if_pos (by rw [big]; simp), hws, List.map_id']
  have wws : ∀ x ∈ ws, Wk 60 x := fun x hx => by
    rw [hws] at hx
    obtain ⟨m1, m2⟩ := List.mem_filter.mp hx
    have l60 : x.length ≤ 60 := by
      have := of_decide_eq_true m2
      omega
    have sok : ∀ y ∈ x, Sok 4 y := by
      simp only [List.mem_cons, List.not_mem_nil, or_false] at m1
      rcases m1 with rfl | rfl | rfl | rfl | rfl | rfl | rfl | rfl
      · exact W2.ok
      · exact W3.ok
      · exact (wk_turned W2 W4).ok
      · exact (wk_pw W2.red (by omega) (by omega)).ok
      · exact (wk_pw W2.red (by omega) (by omega)).ok
      · exact W2.red.iv.ok
      · exact wr.ok
      · exact fun _ z => nomatch z
    exact ⟨sok, l60⟩
  have hpos : 0 < ws.length := by
    have : sh ∈ ws := by
      rw [hws]
      exact List.mem_filter.mpr ⟨by simp, decide_eq_true (by have := W2.len; omega)⟩
    exact List.length_pos_of_mem this
  have hlen : ws.length ≤ 8 := by
    rw [hws]
    exact Nat.le_trans (List.length_filter_le _ _) (by simp)
  have loop := lpR_goN (R := Bool × List Int) (f := rgF (sh, w2) (lo, w3) (by_, w4) (th, w5) (v6, w6) (v7, w7) ws) (xs := ws) (fun i (s : List Int) => WeOk (20000 + i) s) (fun i x s hx hs => by
    have hi := (List.getElem?_eq_some_iff.mp hx).1
    have Wx := wws x (List.mem_of_getElem? hx)
    obtain ⟨v9, w9, e9, a9, b9, k9⟩ := take_ok (by omega) hs (many := (ws.length : Int)) (by omega) (by omega)
    obtain ⟨x9, hx9, hm9⟩ := idx_get (xs := ws) a9 (by omega)
    have W9 := wws x9 (List.mem_of_getElem? hm9)
    have inner := lpR_go (R := Bool × List Int) (f := riF (by_, w4) (v9, w9) x) (fun (_ : Unit) => True) (xs := [sh, lo, x9]) (fun y hy _ _ => by
      have Wy : Wk 60 y := by
        simp only [List.mem_cons, List.not_mem_nil, or_false] at hy
        rcases hy with rfl | rfl | rfl
        · exact W2.mono (by omega)
        · exact W3.mono (by omega)
        · exact W9
      exact ⟨(), bindS (commL_ok Wx Wy (by omega) (by omega)) (bindS (a := false) ((if_neg (by decide)).trans (bindS (turningL_ok Wx Wy W4 (by omega) (by omega) (by omega)) rfl)) (if_neg (by decide))), trivial⟩) (s0 := ()) trivial
    obtain ⟨_, ei, _⟩ := inner
    refine ⟨w9, ?_, k9⟩
    refine bindS (behindL_ok Wx W2 W3 (by omega) (by omega) (by omega)) (bindS (a := false) ((if_neg (by decide)).trans (bindS (behindL_ok W3 Wx W5 (by omega) (by omega) (by omega)) rfl)) ((if_neg (by decide)).trans ?_))
    refine bindS (addedL_ok Wx (by omega) (by omega) (by omega) (by omega) (by omega)) (bindS (a := false) ((if_neg (by decide)).trans (bindS (rootedL_ok Wx W4 (by omega) (by omega) (by omega) (by omega)) rfl)) ((if_neg (by decide)).trans ?_))
    exact bindS e9 (bindS hx9 (bindS ei rfl))) (s0 := w7) (k7.mono (by omega))
  obtain ⟨w8, el, _⟩ := loop
  refine ⟨w8, ?_⟩
  refine bindS e1 (bindS e2 (bindS e3 (bindS e4 (bindS e5 (bindS e6 (bindS e7 (bindS q8 (bindS q9 (bindS q10 (bindS q11 (bindS q12 (bindS q15 (bindS el ?_)))))))))))))
  refine bindS (longL_ok W2 W4 (by omega) (by omega) (by omega) (by omega)) (bindS (a := false) ((if_neg (by decide)).trans (bindS (longL_ok W3 W4 (by omega) (by omega) (by omega) (by omega)) (bindS (a := false) ((if_neg (by decide)).trans (bindS (longL_ok W5 W4 (by omega) (by omega) (by omega) (by omega)) rfl)) rfl))) ((if_neg (by decide)).trans ?_))
  exact bindS (addedL_ok W2 (by omega) (by omega) (by omega) (by omega) (by omega)) (bindS (a := true) ((if_pos rfl).trans (bindS (rootedL_ok W2 W5 (by omega) (by omega) (by omega) (by omega)) rfl)) rfl)
theorem law_true : ∀ ns : List Int, ns.length ≤ 63 → m_l_law ns = some true := fun ns hl => by
  have hn : ns.length < sizeLine := by
    rw [big]
    omega
  unfold m_l_law
  have b : maxI 1 (minI 3 (ns.length : Int)) ≤ 4 := by
    unfold maxI minI
    split <;> split <;> omega
  have b0 : 1 ≤ maxI 1 (minI 3 (ns.length : Int)) := by
    unfold maxI minI
    split <;> split <;> omega
  rw [rngO_ok (by omega)]
  obtain ⟨_, f1, _⟩ := lpR_go (R := Bool) (f := (fun (s2 : Unit) (k_3 : Int) => (((m_l_well ns k_3).bind fun t7 => (m_l_right t7).bind fun t8 => (if (!t8.1) = true then some (Step.ret false) else some (Step.go ()))) : Option (Step Bool Unit)))) (fun _ => True) (xs := range' 0 (maxI 1 (minI 3 (ns.length : Int)))) (fun x hx _ _ => by
    obtain ⟨p1, p2⟩ := mem_rng hx
    obtain ⟨w, e, hw⟩ := well_ok (k := x) hn p1
    obtain ⟨w', e'⟩ := right_ok hw
    exact ⟨(), bindS (well_eq ns x ▸ e) (bindS e' rfl), trivial⟩) (s0 := ()) trivial
  exact bindS rfl (bindS f1 rfl)
end L51
namespace L51
open PySem PySem.Spec PyProof.Rows L2 Z
theorem tops {l : PySem.W.OpenLaw} {w : World} {K : PySem.W.Frag} {h : Heap} {mg : Str → Option Value} {fa f0 f1 f2 f3 f4 f5 f6 f7 f8 f9 f10 f11 f12 f13 f14 f15 f16 f17 f18 f19 f20 f21 f22 f23 f24 f25 f26 f27 f28 f29 f30 f31 f32 f33 : Addr} (IK : K.In h) (IG : h.Ns mainGlobals mg) (hfa : mg "law" = some (.ref fa))
    {od0 od1 od2 od3 od4 od5 od6 od7 od8 od9 od10 od11 od12 od13 od14 od15 od16 od17 od18 od19 od20 od21 od22 od23 od24 od25 od26 od27 od28 od29 od30 od31 od32 od33 an0 an1 an2 an3 an4 an5 an6 an7 an8 an9 an10 an11 an12 an13 an14 an15 an16 an17 an18 an19 an20 an21 an22 an23 an24 an25 an26 an27 an28 an29 an30 an31 an32 an33 : Option Addr} {sl0 sl1 sl2 sl3 sl4 sl5 sl6 sl7 sl8 sl9 sl10 sl11 sl12 sl13 sl14 sl15 sl16 sl17 sl18 sl19 sl20 sl21 sl22 sl23 sl24 sl25 sl26 sl27 sl28 sl29 sl30 sl31 sl32 sl33 : Array (Option Value)} {oc0 oc1 oc2 oc3 oc4 oc5 oc6 oc7 oc8 oc9 oc10 oc11 oc12 oc13 oc14 oc15 oc16 oc17 oc18 oc19 oc20 oc21 oc22 oc23 oc24 oc25 oc26 oc27 oc28 oc29 oc30 oc31 oc32 oc33 kV0 kV1 kV2 kV3 kV4 kV5 kV6 kV7 kV8 kV9 kV10 kV11 kV12 kV13 kV14 kV15 kV16 kV17 kV18 kV19 kV20 kV21 kV22 kV23 kV24 kV25 kV26 kV27 kV28 kV29 kV30 kV31 kV32 kV33 dc0 dc1 dc2 dc3 dc4 dc5 dc6 dc7 dc8 dc9 dc10 dc11 dc12 dc13 dc14 dc15 dc16 dc17 dc18 dc19 dc20 dc21 dc22 dc23 dc24 dc25 dc26 dc27 dc28 dc29 dc30 dc31 dc32 dc33 pm0 pm1 pm2 pm3 pm4 pm5 pm6 pm7 pm8 pm9 pm10 pm11 pm12 pm13 pm14 pm15 pm16 pm17 pm18 pm19 pm20 pm21 pm22 pm23 pm24 pm25 pm26 pm27 pm28 pm29 pm30 pm31 pm32 pm33 cd0 cd1 cd2 cd3 cd4 cd5 cd6 cd7 cd8 cd9 cd10 cd11 cd12 cd13 cd14 cd15 cd16 cd17 cd18 cd19 cd20 cd21 cd22 cd23 cd24 cd25 cd26 cd27 cd28 cd29 cd30 cd31 cd32 cd33 ct0 ct1 ct2 ct3 ct4 ct5 ct6 ct7 ct8 ct9 ct10 ct11 ct12 ct13 ct14 ct15 ct16 ct17 ct18 ct19 ct20 ct21 ct22 ct23 ct24 ct25 ct26 ct27 ct28 ct29 ct30 ct31 ct32 ct33 : Value}
    (a0 : PySem.W.nsIn K mainGlobals "step_order" = some (some (.ref f0)))
    (b0 : K.lookup f0 = some ⟨oc0, od0, .func (PySem.W.fnOf "step_order" "step_order" (defArgs s_p_step_order) (defBody s_p_step_order) (defScope s_p_step_order) .none kV0 dc0 pm0 an0 cd0 ct0), sl0⟩)
    (c0 : PySem.W.codeIn K cd0 "step_order" = true) (d0 : PySem.W.keepIn K (.ref f0) = true)
    (a1 : PySem.W.nsIn K mainGlobals "walk_key" = some (some (.ref f1)))
    (b1 : K.lookup f1 = some ⟨oc1, od1, .func (PySem.W.fnOf "walk_key" "walk_key" (defArgs s_p_walk_key) (defBody s_p_walk_key) (defScope s_p_walk_key) .none kV1 dc1 pm1 an1 cd1 ct1), sl1⟩)
    (c1 : PySem.W.codeIn K cd1 "walk_key" = true) (d1 : PySem.W.keepIn K (.ref f1) = true)
    (a2 : PySem.W.nsIn K mainGlobals "straightened" = some (some (.ref f2)))
    (b2 : K.lookup f2 = some ⟨oc2, od2, .func (PySem.W.fnOf "straightened" "straightened" (defArgs s_p_straightened) (defBody s_p_straightened) (defScope s_p_straightened) .none kV2 dc2 pm2 an2 cd2 ct2), sl2⟩)
    (c2 : PySem.W.codeIn K cd2 "straightened" = true) (d2 : PySem.W.keepIn K (.ref f2) = true)
    (a3 : PySem.W.nsIn K mainGlobals "turned_back" = some (some (.ref f3)))
    (b3 : K.lookup f3 = some ⟨oc3, od3, .func (PySem.W.fnOf "turned_back" "turned_back" (defArgs s_p_turned_back) (defBody s_p_turned_back) (defScope s_p_turned_back) .none kV3 dc3 pm3 an3 cd3 ct3), sl3⟩)
    (c3 : PySem.W.codeIn K cd3 "turned_back" = true) (d3 : PySem.W.keepIn K (.ref f3) = true)
    (a4 : PySem.W.nsIn K mainGlobals "is_integer" = some (some (.ref f4)))
    (b4 : K.lookup f4 = some ⟨oc4, od4, .func (PySem.W.fnOf "is_integer" "is_integer" (defArgs s_p_is_integer) (defBody s_p_is_integer) (defScope s_p_is_integer) .none kV4 dc4 pm4 an4 cd4 ct4), sl4⟩)
    (c4 : PySem.W.codeIn K cd4 "is_integer" = true) (d4 : PySem.W.keepIn K (.ref f4) = true)
    (a5 : PySem.W.nsIn K mainGlobals "is_step" = some (some (.ref f5)))
    (b5 : K.lookup f5 = some ⟨oc5, od5, .func (PySem.W.fnOf "is_step" "is_step" (defArgs s_p_is_step) (defBody s_p_is_step) (defScope s_p_is_step) .none kV5 dc5 pm5 an5 cd5 ct5), sl5⟩)
    (c5 : PySem.W.codeIn K cd5 "is_step" = true) (d5 : PySem.W.keepIn K (.ref f5) = true)
    (a6 : PySem.W.nsIn K mainGlobals "is_a_walk" = some (some (.ref f6)))
    (b6 : K.lookup f6 = some ⟨oc6, od6, .func (PySem.W.fnOf "is_a_walk" "is_a_walk" (defArgs s_p_is_a_walk) (defBody s_p_is_a_walk) (defScope s_p_is_a_walk) .none kV6 dc6 pm6 an6 cd6 ct6), sl6⟩)
    (c6 : PySem.W.codeIn K cd6 "is_a_walk" = true) (d6 : PySem.W.keepIn K (.ref f6) = true)
    (a7 : PySem.W.nsIn K mainGlobals "need_walk" = some (some (.ref f7)))
    (b7 : K.lookup f7 = some ⟨oc7, od7, .func (PySem.W.fnOf "need_walk" "need_walk" (defArgs s_p_need_walk) (defBody s_p_need_walk) (defScope s_p_need_walk) .none kV7 dc7 pm7 an7 cd7 ct7), sl7⟩)
    (c7 : PySem.W.codeIn K cd7 "need_walk" = true) (d7 : PySem.W.keepIn K (.ref f7) = true)
    (a8 : PySem.W.nsIn K mainGlobals "need_number" = some (some (.ref f8)))
    (b8 : K.lookup f8 = some ⟨oc8, od8, .func (PySem.W.fnOf "need_number" "need_number" (defArgs s_p_need_number) (defBody s_p_need_number) (defScope s_p_need_number) .none kV8 dc8 pm8 an8 cd8 ct8), sl8⟩)
    (c8 : PySem.W.codeIn K cd8 "need_number" = true) (d8 : PySem.W.keepIn K (.ref f8) = true)
    (a9 : PySem.W.nsIn K mainGlobals "parted" = some (some (.ref f9)))
    (b9 : K.lookup f9 = some ⟨oc9, od9, .func (PySem.W.fnOf "parted" "parted" (defArgs s_p_parted) (defBody s_p_parted) (defScope s_p_parted) .none kV9 dc9 pm9 an9 cd9 ct9), sl9⟩)
    (c9 : PySem.W.codeIn K cd9 "parted" = true) (d9 : PySem.W.keepIn K (.ref f9) = true)
    (a10 : PySem.W.nsIn K mainGlobals "least_part" = some (some (.ref f10)))
    (b10 : K.lookup f10 = some ⟨oc10, od10, .func (PySem.W.fnOf "least_part" "least_part" (defArgs s_p_least_part) (defBody s_p_least_part) (defScope s_p_least_part) .none kV10 dc10 pm10 an10 cd10 ct10), sl10⟩)
    (c10 : PySem.W.codeIn K cd10 "least_part" = true) (d10 : PySem.W.keepIn K (.ref f10) = true)
    (a11 : PySem.W.nsIn K mainGlobals "shift_onto" = some (some (.ref f11)))
    (b11 : K.lookup f11 = some ⟨oc11, od11, .func (PySem.W.fnOf "shift_onto" "shift_onto" (defArgs s_p_shift_onto) (defBody s_p_shift_onto) (defScope s_p_shift_onto) .none kV11 dc11 pm11 an11 cd11 ct11), sl11⟩)
    (c11 : PySem.W.codeIn K cd11 "shift_onto" = true) (d11 : PySem.W.keepIn K (.ref f11) = true)
    (a12 : PySem.W.nsIn K mainGlobals "straight" = some (some (.ref f12)))
    (b12 : K.lookup f12 = some ⟨oc12, od12, .func (PySem.W.fnOf "straight" "straight" (defArgs s_p_straight) (defBody s_p_straight) (defScope s_p_straight) .none kV12 dc12 pm12 an12 cd12 ct12), sl12⟩)
    (c12 : PySem.W.codeIn K cd12 "straight" = true) (d12 : PySem.W.keepIn K (.ref f12) = true)
    (a13 : PySem.W.nsIn K mainGlobals "behind" = some (some (.ref f13)))
    (b13 : K.lookup f13 = some ⟨oc13, od13, .func (PySem.W.fnOf "behind" "behind" (defArgs s_p_behind) (defBody s_p_behind) (defScope s_p_behind) .none kV13 dc13 pm13 an13 cd13 ct13), sl13⟩)
    (c13 : PySem.W.codeIn K cd13 "behind" = true) (d13 : PySem.W.keepIn K (.ref f13) = true)
    (a14 : PySem.W.nsIn K mainGlobals "back" = some (some (.ref f14)))
    (b14 : K.lookup f14 = some ⟨oc14, od14, .func (PySem.W.fnOf "back" "back" (defArgs s_p_back) (defBody s_p_back) (defScope s_p_back) .none kV14 dc14 pm14 an14 cd14 ct14), sl14⟩)
    (c14 : PySem.W.codeIn K cd14 "back" = true) (d14 : PySem.W.keepIn K (.ref f14) = true)
    (a15 : PySem.W.nsIn K mainGlobals "power" = some (some (.ref f15)))
    (b15 : K.lookup f15 = some ⟨oc15, od15, .func (PySem.W.fnOf "power" "power" (defArgs s_p_power) (defBody s_p_power) (defScope s_p_power) .none kV15 dc15 pm15 an15 cd15 ct15), sl15⟩)
    (c15 : PySem.W.codeIn K cd15 "power" = true) (d15 : PySem.W.keepIn K (.ref f15) = true)
    (a16 : PySem.W.nsIn K mainGlobals "core" = some (some (.ref f16)))
    (b16 : K.lookup f16 = some ⟨oc16, od16, .func (PySem.W.fnOf "core" "core" (defArgs s_p_core) (defBody s_p_core) (defScope s_p_core) .none kV16 dc16 pm16 an16 cd16 ct16), sl16⟩)
    (c16 : PySem.W.codeIn K cd16 "core" = true) (d16 : PySem.W.keepIn K (.ref f16) = true)
    (a17 : PySem.W.nsIn K mainGlobals "root" = some (some (.ref f17)))
    (b17 : K.lookup f17 = some ⟨oc17, od17, .func (PySem.W.fnOf "root" "root" (defArgs s_p_root) (defBody s_p_root) (defScope s_p_root) .none kV17 dc17 pm17 an17 cd17 ct17), sl17⟩)
    (c17 : PySem.W.codeIn K cd17 "root" = true) (d17 : PySem.W.keepIn K (.ref f17) = true)
    (a18 : PySem.W.nsIn K mainGlobals "commute" = some (some (.ref f18)))
    (b18 : K.lookup f18 = some ⟨oc18, od18, .func (PySem.W.fnOf "commute" "commute" (defArgs s_p_commute) (defBody s_p_commute) (defScope s_p_commute) .none kV18 dc18 pm18 an18 cd18 ct18), sl18⟩)
    (c18 : PySem.W.codeIn K cd18 "commute" = true) (d18 : PySem.W.keepIn K (.ref f18) = true)
    (a19 : PySem.W.nsIn K mainGlobals "turned" = some (some (.ref f19)))
    (b19 : K.lookup f19 = some ⟨oc19, od19, .func (PySem.W.fnOf "turned" "turned" (defArgs s_p_turned) (defBody s_p_turned) (defScope s_p_turned) .none kV19 dc19 pm19 an19 cd19 ct19), sl19⟩)
    (c19 : PySem.W.codeIn K cd19 "turned" = true) (d19 : PySem.W.keepIn K (.ref f19) = true)
    (a20 : PySem.W.nsIn K mainGlobals "turned_onto" = some (some (.ref f20)))
    (b20 : K.lookup f20 = some ⟨oc20, od20, .func (PySem.W.fnOf "turned_onto" "turned_onto" (defArgs s_p_turned_onto) (defBody s_p_turned_onto) (defScope s_p_turned_onto) .none kV20 dc20 pm20 an20 cd20 ct20), sl20⟩)
    (c20 : PySem.W.codeIn K cd20 "turned_onto" = true) (d20 : PySem.W.keepIn K (.ref f20) = true)
    (a21 : PySem.W.nsIn K mainGlobals "least_turned" = some (some (.ref f21)))
    (b21 : K.lookup f21 = some ⟨oc21, od21, .func (PySem.W.fnOf "least_turned" "least_turned" (defArgs s_p_least_turned) (defBody s_p_least_turned) (defScope s_p_least_turned) .none kV21 dc21 pm21 an21 cd21 ct21), sl21⟩)
    (c21 : PySem.W.codeIn K cd21 "least_turned" = true) (d21 : PySem.W.keepIn K (.ref f21) = true)
    (a22 : PySem.W.nsIn K mainGlobals "_law_well" = some (some (.ref f22)))
    (b22 : K.lookup f22 = some ⟨oc22, od22, .func (PySem.W.fnOf "_law_well" "_law_well" (defArgs s_l_well) (defBody s_l_well) (defScope s_l_well) .none kV22 dc22 pm22 an22 cd22 ct22), sl22⟩)
    (c22 : PySem.W.codeIn K cd22 "_law_well" = true) (d22 : PySem.W.keepIn K (.ref f22) = true)
    (a23 : PySem.W.nsIn K mainGlobals "_law_take" = some (some (.ref f23)))
    (b23 : K.lookup f23 = some ⟨oc23, od23, .func (PySem.W.fnOf "_law_take" "_law_take" (defArgs s_l_take) (defBody s_l_take) (defScope s_l_take) .none kV23 dc23 pm23 an23 cd23 ct23), sl23⟩)
    (c23 : PySem.W.codeIn K cd23 "_law_take" = true) (d23 : PySem.W.keepIn K (.ref f23) = true)
    (a24 : PySem.W.nsIn K mainGlobals "_law_walk" = some (some (.ref f24)))
    (b24 : K.lookup f24 = some ⟨oc24, od24, .func (PySem.W.fnOf "_law_walk" "_law_walk" (defArgs s_l_walk) (defBody s_l_walk) (defScope s_l_walk) .none kV24 dc24 pm24 an24 cd24 ct24), sl24⟩)
    (c24 : PySem.W.codeIn K cd24 "_law_walk" = true) (d24 : PySem.W.keepIn K (.ref f24) = true)
    (a25 : PySem.W.nsIn K mainGlobals "_law_key" = some (some (.ref f25)))
    (b25 : K.lookup f25 = some ⟨oc25, od25, .func (PySem.W.fnOf "_law_key" "_law_key" (defArgs s_l_key) (defBody s_l_key) (defScope s_l_key) .none kV25 dc25 pm25 an25 cd25 ct25), sl25⟩)
    (c25 : PySem.W.codeIn K cd25 "_law_key" = true) (d25 : PySem.W.keepIn K (.ref f25) = true)
    (a26 : PySem.W.nsIn K mainGlobals "_law_added" = some (some (.ref f26)))
    (b26 : K.lookup f26 = some ⟨oc26, od26, .func (PySem.W.fnOf "_law_added" "_law_added" (defArgs s_l_added) (defBody s_l_added) (defScope s_l_added) .none kV26 dc26 pm26 an26 cd26 ct26), sl26⟩)
    (c26 : PySem.W.codeIn K cd26 "_law_added" = true) (d26 : PySem.W.keepIn K (.ref f26) = true)
    (a27 : PySem.W.nsIn K mainGlobals "_law_rooted" = some (some (.ref f27)))
    (b27 : K.lookup f27 = some ⟨oc27, od27, .func (PySem.W.fnOf "_law_rooted" "_law_rooted" (defArgs s_l_rooted) (defBody s_l_rooted) (defScope s_l_rooted) .none kV27 dc27 pm27 an27 cd27 ct27), sl27⟩)
    (c27 : PySem.W.codeIn K cd27 "_law_rooted" = true) (d27 : PySem.W.keepIn K (.ref f27) = true)
    (a28 : PySem.W.nsIn K mainGlobals "_law_commuting" = some (some (.ref f28)))
    (b28 : K.lookup f28 = some ⟨oc28, od28, .func (PySem.W.fnOf "_law_commuting" "_law_commuting" (defArgs s_l_commuting) (defBody s_l_commuting) (defScope s_l_commuting) .none kV28 dc28 pm28 an28 cd28 ct28), sl28⟩)
    (c28 : PySem.W.codeIn K cd28 "_law_commuting" = true) (d28 : PySem.W.keepIn K (.ref f28) = true)
    (a29 : PySem.W.nsIn K mainGlobals "_law_turning" = some (some (.ref f29)))
    (b29 : K.lookup f29 = some ⟨oc29, od29, .func (PySem.W.fnOf "_law_turning" "_law_turning" (defArgs s_l_turning) (defBody s_l_turning) (defScope s_l_turning) .none kV29 dc29 pm29 an29 cd29 ct29), sl29⟩)
    (c29 : PySem.W.codeIn K cd29 "_law_turning" = true) (d29 : PySem.W.keepIn K (.ref f29) = true)
    (a30 : PySem.W.nsIn K mainGlobals "_law_behind" = some (some (.ref f30)))
    (b30 : K.lookup f30 = some ⟨oc30, od30, .func (PySem.W.fnOf "_law_behind" "_law_behind" (defArgs s_l_behind) (defBody s_l_behind) (defScope s_l_behind) .none kV30 dc30 pm30 an30 cd30 ct30), sl30⟩)
    (c30 : PySem.W.codeIn K cd30 "_law_behind" = true) (d30 : PySem.W.keepIn K (.ref f30) = true)
    (a31 : PySem.W.nsIn K mainGlobals "_law_long" = some (some (.ref f31)))
    (b31 : K.lookup f31 = some ⟨oc31, od31, .func (PySem.W.fnOf "_law_long" "_law_long" (defArgs s_l_long) (defBody s_l_long) (defScope s_l_long) .none kV31 dc31 pm31 an31 cd31 ct31), sl31⟩)
    (c31 : PySem.W.codeIn K cd31 "_law_long" = true) (d31 : PySem.W.keepIn K (.ref f31) = true)
    (a32 : PySem.W.nsIn K mainGlobals "_law_right" = some (some (.ref f32)))
    (b32 : K.lookup f32 = some ⟨oc32, od32, .func (PySem.W.fnOf "_law_right" "_law_right" (defArgs s_l_right) (defBody s_l_right) (defScope s_l_right) .none kV32 dc32 pm32 an32 cd32 ct32), sl32⟩)
    (c32 : PySem.W.codeIn K cd32 "_law_right" = true) (d32 : PySem.W.keepIn K (.ref f32) = true)
    (a33 : PySem.W.nsIn K mainGlobals "law" = some (some (.ref f33)))
    (b33 : K.lookup f33 = some ⟨oc33, od33, .func (PySem.W.fnOf "law" "law" (defArgs s_l_law) (defBody s_l_law) (defScope s_l_law) .none kV33 dc33 pm33 an33 cd33 ct33), sl33⟩)
    (c33 : PySem.W.codeIn K cd33 "law" = true) (d33 : PySem.W.keepIn K (.ref f33) = true)
    (g_len : PySem.W.nsIn K mainGlobals "len" = some none)
    (g_tuple : PySem.W.nsIn K mainGlobals "tuple" = some none)
    (g_isinstance : PySem.W.nsIn K mainGlobals "isinstance" = some none)
    (g_int : PySem.W.nsIn K mainGlobals "int" = some none)
    (g_bool : PySem.W.nsIn K mainGlobals "bool" = some none)
    (g_abs : PySem.W.nsIn K mainGlobals "abs" = some none)
    (g_all : PySem.W.nsIn K mainGlobals "all" = some none)
    (g_range : PySem.W.nsIn K mainGlobals "range" = some none)
    {tk_MOST_LETTERS : Tok}
    (g_MOST_LETTERS : PySem.W.nsIn K mainGlobals "MOST_LETTERS" = some (some (.int 4 tk_MOST_LETTERS)))
    {tk_MOST_TIMES : Tok}
    (g_MOST_TIMES : PySem.W.nsIn K mainGlobals "MOST_TIMES" = some (some (.int 20 tk_MOST_TIMES)))
    (g_min : PySem.W.nsIn K mainGlobals "min" = some none)
    (g_sum : PySem.W.nsIn K mainGlobals "sum" = some none)
    (g_max : PySem.W.nsIn K mainGlobals "max" = some none)
    : ∃ fd : FuncData, (∀ (s : Shared) (v : Value), BindsTo s fd ⟨[v], []⟩ [("_law_script", v)]) ∧ ∀ base : Heap, K.In base → base.Ns mainGlobals mg → FnG l.prog w K mg base CX0 8 fa fd ["_law_script"] (LawSp K m_l_law) := by
  have e := hfa.symm.trans (PySem.W.mg_of IK IG a33)
  cases e
  have h_g_len := PySem.W.mg_none_of IK IG g_len
  have h_g_tuple := PySem.W.mg_none_of IK IG g_tuple
  have h_g_isinstance := PySem.W.mg_none_of IK IG g_isinstance
  have h_g_int := PySem.W.mg_none_of IK IG g_int
  have h_g_bool := PySem.W.mg_none_of IK IG g_bool
  have h_g_abs := PySem.W.mg_none_of IK IG g_abs
  have h_g_all := PySem.W.mg_none_of IK IG g_all
  have h_g_range := PySem.W.mg_none_of IK IG g_range
  have h_g_MOST_LETTERS := PySem.W.mg_of IK IG g_MOST_LETTERS
  have h_g_MOST_TIMES := PySem.W.mg_of IK IG g_MOST_TIMES
  have h_g_min := PySem.W.mg_none_of IK IG g_min
  have h_g_sum := PySem.W.mg_none_of IK IG g_sum
  have h_g_max := PySem.W.mg_none_of IK IG g_max
  have F0 := fun_mk (st := s_p_step_order) b0 c0 d0
  have B0 := F0.binds (ps := ["step"]) fun _ _ _ _ _ _ us hl => match us, hl with | [_], _ => rfl
  have F1 := fun_mk (st := s_p_walk_key) b1 c1 d1
  have B1 := F1.binds (ps := ["walk"]) fun _ _ _ _ _ _ us hl => match us, hl with | [_], _ => rfl
  have F2 := fun_mk (st := s_p_straightened) b2 c2 d2
  have B2 := F2.binds (ps := ["walk"]) fun _ _ _ _ _ _ us hl => match us, hl with | [_], _ => rfl
  have F3 := fun_mk (st := s_p_turned_back) b3 c3 d3
  have B3 := F3.binds (ps := ["walk"]) fun _ _ _ _ _ _ us hl => match us, hl with | [_], _ => rfl
  have F4 := fun_mk (st := s_p_is_integer) b4 c4 d4
  have B4 := F4.binds (ps := ["value"]) fun _ _ _ _ _ _ us hl => match us, hl with | [_], _ => rfl
  have F5 := fun_mk (st := s_p_is_step) b5 c5 d5
  have B5 := F5.binds (ps := ["value", "letters"]) fun _ _ _ _ _ _ us hl => match us, hl with | [_, _], _ => rfl
  have F6 := fun_mk (st := s_p_is_a_walk) b6 c6 d6
  have B6 := F6.binds (ps := ["value", "letters"]) fun _ _ _ _ _ _ us hl => match us, hl with | [_, _], _ => rfl
  have F7 := fun_mk (st := s_p_need_walk) b7 c7 d7
  have B7 := F7.binds (ps := ["walk", "letters"]) fun _ _ _ _ _ _ us hl => match us, hl with | [_, _], _ => rfl
  have F8 := fun_mk (st := s_p_need_number) b8 c8 d8
  have B8 := F8.binds (ps := ["number", "low", "high"]) fun _ _ _ _ _ _ us hl => match us, hl with | [_, _, _], _ => rfl
  have F9 := fun_mk (st := s_p_parted) b9 c9 d9
  have B9 := F9.binds (ps := ["walk"]) fun _ _ _ _ _ _ us hl => match us, hl with | [_], _ => rfl
  have F10 := fun_mk (st := s_p_least_part) b10 c10 d10
  have B10 := F10.binds (ps := ["around"]) fun _ _ _ _ _ _ us hl => match us, hl with | [_], _ => rfl
  have F11 := fun_mk (st := s_p_shift_onto) b11 c11 d11
  have B11 := F11.binds (ps := ["around", "wanted"]) fun _ _ _ _ _ _ us hl => match us, hl with | [_, _], _ => rfl
  have F12 := fun_mk (st := s_p_straight) b12 c12 d12
  have B12 := F12.binds (ps := ["walk"]) fun _ _ _ _ _ _ us hl => match us, hl with | [_], _ => rfl
  have F13 := fun_mk (st := s_p_behind) b13 c13 d13
  have B13 := F13.binds (ps := ["one", "other"]) fun _ _ _ _ _ _ us hl => match us, hl with | [_, _], _ => rfl
  have F14 := fun_mk (st := s_p_back) b14 c14 d14
  have B14 := F14.binds (ps := ["walk"]) fun _ _ _ _ _ _ us hl => match us, hl with | [_], _ => rfl
  have F15 := fun_mk (st := s_p_power) b15 c15 d15
  have B15 := F15.binds (ps := ["walk", "times"]) fun _ _ _ _ _ _ us hl => match us, hl with | [_, _], _ => rfl
  have F16 := fun_mk (st := s_p_core) b16 c16 d16
  have B16 := F16.binds (ps := ["walk"]) fun _ _ _ _ _ _ us hl => match us, hl with | [_], _ => rfl
  have F17 := fun_mk (st := s_p_root) b17 c17 d17
  have B17 := F17.binds (ps := ["walk"]) fun _ _ _ _ _ _ us hl => match us, hl with | [_], _ => rfl
  have F18 := fun_mk (st := s_p_commute) b18 c18 d18
  have B18 := F18.binds (ps := ["one", "other"]) fun _ _ _ _ _ _ us hl => match us, hl with | [_, _], _ => rfl
  have F19 := fun_mk (st := s_p_turned) b19 c19 d19
  have B19 := F19.binds (ps := ["walk", "other"]) fun _ _ _ _ _ _ us hl => match us, hl with | [_, _], _ => rfl
  have F20 := fun_mk (st := s_p_turned_onto) b20 c20 d20
  have B20 := F20.binds (ps := ["one", "other"]) fun _ _ _ _ _ _ us hl => match us, hl with | [_, _], _ => rfl
  have F21 := fun_mk (st := s_p_least_turned) b21 c21 d21
  have B21 := F21.binds (ps := ["walk"]) fun _ _ _ _ _ _ us hl => match us, hl with | [_], _ => rfl
  have F22 := fun_mk (st := s_l_well) b22 c22 d22
  have B22 := F22.binds (ps := ["_law_script", "_law_k"]) fun _ _ _ _ _ _ us hl => match us, hl with | [_, _], _ => rfl
  have F23 := fun_mk (st := s_l_take) b23 c23 d23
  have B23 := F23.binds (ps := ["_law_well_here", "_law_many"]) fun _ _ _ _ _ _ us hl => match us, hl with | [_, _], _ => rfl
  have F24 := fun_mk (st := s_l_walk) b24 c24 d24
  have B24 := F24.binds (ps := ["_law_well_here", "_law_letters", "_law_most"]) fun _ _ _ _ _ _ us hl => match us, hl with | [_, _, _], _ => rfl
  have F25 := fun_mk (st := s_l_key) b25 c25 d25
  have B25 := F25.binds (ps := ["_law_walk_here"]) fun _ _ _ _ _ _ us hl => match us, hl with | [_], _ => rfl
  have F26 := fun_mk (st := s_l_added) b26 c26 d26
  have B26 := F26.binds (ps := ["_law_walk_here", "_law_first", "_law_second"]) fun _ _ _ _ _ _ us hl => match us, hl with | [_, _, _], _ => rfl
  have F27 := fun_mk (st := s_l_rooted) b27 c27 d27
  have B27 := F27.binds (ps := ["_law_walk_here", "_law_other", "_law_times"]) fun _ _ _ _ _ _ us hl => match us, hl with | [_, _, _], _ => rfl
  have F28 := fun_mk (st := s_l_commuting) b28 c28 d28
  have B28 := F28.binds (ps := ["_law_one", "_law_other"]) fun _ _ _ _ _ _ us hl => match us, hl with | [_, _], _ => rfl
  have F29 := fun_mk (st := s_l_turning) b29 c29 d29
  have B29 := F29.binds (ps := ["_law_one", "_law_other", "_law_by"]) fun _ _ _ _ _ _ us hl => match us, hl with | [_, _, _], _ => rfl
  have F30 := fun_mk (st := s_l_behind) b30 c30 d30
  have B30 := F30.binds (ps := ["_law_one", "_law_other", "_law_third"]) fun _ _ _ _ _ _ us hl => match us, hl with | [_, _, _], _ => rfl
  have F31 := fun_mk (st := s_l_long) b31 c31 d31
  have B31 := F31.binds (ps := ["_law_walk_here", "_law_by", "_law_times"]) fun _ _ _ _ _ _ us hl => match us, hl with | [_, _, _], _ => rfl
  have F32 := fun_mk (st := s_l_right) b32 c32 d32
  have B32 := F32.binds (ps := ["_law_well_here"]) fun _ _ _ _ _ _ us hl => match us, hl with | [_], _ => rfl
  have F33 := fun_mk (st := s_l_law) b33 c33 d33
  have B33 := F33.binds (ps := ["_law_script"]) fun _ _ _ _ _ _ us hl => match us, hl with | [_], _ => rfl
  refine ⟨PySem.W.fnOf "law" "law" (defArgs s_l_law) (defBody s_l_law) (defScope s_l_law) .none kV33 dc33 pm33 an33 cd33 ct33, fun s v => .of_eq rfl, fun base _ _ => ?_⟩
  have C_p_step_order := cal_p_step_order (P := l.prog) (w := w) (base := base) F0 (PySem.W.mg_of IK IG a0) B0 
  have C_p_walk_key := cal_p_walk_key (P := l.prog) (w := w) (base := base) F1 (PySem.W.mg_of IK IG a1) B1 h_g_len h_g_tuple C_p_step_order
  have C_p_straightened := cal_p_straightened (P := l.prog) (w := w) (base := base) F2 (PySem.W.mg_of IK IG a2) B2 h_g_len h_g_tuple
  have C_p_turned_back := cal_p_turned_back (P := l.prog) (w := w) (base := base) F3 (PySem.W.mg_of IK IG a3) B3 h_g_tuple
  have C_p_is_integer := cal_p_is_integer (P := l.prog) (w := w) (base := base) F4 (PySem.W.mg_of IK IG a4) B4 h_g_isinstance h_g_int h_g_bool
  have C_p_is_step := cal_p_is_step (P := l.prog) (w := w) (base := base) F5 (PySem.W.mg_of IK IG a5) B5 C_p_is_integer h_g_abs
  have C_p_is_a_walk := cal_p_is_a_walk (P := l.prog) (w := w) (base := base) F6 (PySem.W.mg_of IK IG a6) B6 h_g_isinstance h_g_tuple h_g_all C_p_is_step
  have C_p_need_walk := cal_p_need_walk (P := l.prog) (w := w) (base := base) F7 (PySem.W.mg_of IK IG a7) B7 C_p_is_a_walk
  have C_p_need_number := cal_p_need_number (P := l.prog) (w := w) (base := base) F8 (PySem.W.mg_of IK IG a8) B8 
  have C_p_parted := cal_p_parted (P := l.prog) (w := w) (base := base) F9 (PySem.W.mg_of IK IG a9) B9 h_g_len
  have C_p_least_part := cal_p_least_part (P := l.prog) (w := w) (base := base) F10 (PySem.W.mg_of IK IG a10) B10 h_g_len h_g_range
  have C_p_shift_onto := cal_p_shift_onto (P := l.prog) (w := w) (base := base) F11 (PySem.W.mg_of IK IG a11) B11 h_g_len h_g_range
  have C_p_straight := cal_p_straight (P := l.prog) (w := w) (base := base) F12 (PySem.W.mg_of IK IG a12) B12 C_p_need_walk h_g_MOST_LETTERS C_p_straightened
  have C_p_behind := cal_p_behind (P := l.prog) (w := w) (base := base) F13 (PySem.W.mg_of IK IG a13) B13 C_p_need_walk h_g_MOST_LETTERS C_p_straightened
  have C_p_back := cal_p_back (P := l.prog) (w := w) (base := base) F14 (PySem.W.mg_of IK IG a14) B14 C_p_need_walk h_g_MOST_LETTERS C_p_turned_back C_p_straightened
  have C_p_power := cal_p_power (P := l.prog) (w := w) (base := base) F15 (PySem.W.mg_of IK IG a15) B15 C_p_need_walk h_g_MOST_LETTERS C_p_need_number h_g_MOST_TIMES C_p_straightened C_p_turned_back h_g_abs
  have C_p_core := cal_p_core (P := l.prog) (w := w) (base := base) F16 (PySem.W.mg_of IK IG a16) B16 C_p_need_walk h_g_MOST_LETTERS C_p_parted C_p_straightened
  have C_p_root := cal_p_root (P := l.prog) (w := w) (base := base) F17 (PySem.W.mg_of IK IG a17) B17 C_p_need_walk h_g_MOST_LETTERS C_p_parted C_p_straightened C_p_least_part C_p_turned_back h_g_len
  have C_p_commute := cal_p_commute (P := l.prog) (w := w) (base := base) F18 (PySem.W.mg_of IK IG a18) B18 C_p_need_walk h_g_MOST_LETTERS C_p_straightened
  have C_p_turned := cal_p_turned (P := l.prog) (w := w) (base := base) F19 (PySem.W.mg_of IK IG a19) B19 C_p_need_walk h_g_MOST_LETTERS C_p_straightened C_p_turned_back
  have C_p_turned_onto := cal_p_turned_onto (P := l.prog) (w := w) (base := base) F20 (PySem.W.mg_of IK IG a20) B20 C_p_need_walk h_g_MOST_LETTERS C_p_parted C_p_straightened C_p_shift_onto C_p_least_part h_g_range C_p_turned_back h_g_min C_p_walk_key
  have C_p_least_turned := cal_p_least_turned (P := l.prog) (w := w) (base := base) F21 (PySem.W.mg_of IK IG a21) B21 C_p_need_walk h_g_MOST_LETTERS C_p_parted C_p_straightened h_g_min h_g_range h_g_len C_p_walk_key
  have C_l_well := cal_l_well (P := l.prog) (w := w) (base := base) F22 (PySem.W.mg_of IK IG a22) B22 h_g_len h_g_sum h_g_int h_g_abs h_g_max
  have C_l_take := cal_l_take (P := l.prog) (w := w) (base := base) F23 (PySem.W.mg_of IK IG a23) B23 h_g_int
  have C_l_walk := cal_l_walk (P := l.prog) (w := w) (base := base) F24 (PySem.W.mg_of IK IG a24) B24 C_l_take h_g_int h_g_range h_g_abs h_g_tuple
  have C_l_key := cal_l_key (P := l.prog) (w := w) (base := base) F25 (PySem.W.mg_of IK IG a25) B25 h_g_len h_g_tuple h_g_abs h_g_int
  have C_l_added := cal_l_added (P := l.prog) (w := w) (base := base) F26 (PySem.W.mg_of IK IG a26) B26 C_p_power h_g_len h_g_abs C_p_behind C_p_back
  have C_l_rooted := cal_l_rooted (P := l.prog) (w := w) (base := base) F27 (PySem.W.mg_of IK IG a27) B27 C_p_root C_p_turned C_p_power h_g_min C_p_straight C_p_core C_p_behind C_p_back C_p_least_turned h_g_len h_g_int h_g_abs
  have C_l_commuting := cal_l_commuting (P := l.prog) (w := w) (base := base) F28 (PySem.W.mg_of IK IG a28) B28 C_p_root C_p_back C_p_commute
  have C_l_turning := cal_l_turning (P := l.prog) (w := w) (base := base) F29 (PySem.W.mg_of IK IG a29) B29 C_p_turned C_p_least_turned C_l_key C_p_straight C_p_turned_onto C_p_commute C_p_behind C_p_back h_g_len
  have C_l_behind := cal_l_behind (P := l.prog) (w := w) (base := base) F30 (PySem.W.mg_of IK IG a30) B30 C_p_behind C_p_back C_p_straight C_p_turned
  have C_l_long := cal_l_long (P := l.prog) (w := w) (base := base) F31 (PySem.W.mg_of IK IG a31) B31 C_p_power C_p_turned h_g_len C_p_commute C_p_back C_p_turned_onto C_p_least_turned
  have C_l_right := cal_l_right (P := l.prog) (w := w) (base := base) F32 (PySem.W.mg_of IK IG a32) B32 C_l_take C_l_walk C_p_power C_p_turned C_p_back C_p_least_turned h_g_len C_l_behind C_l_added C_l_rooted C_l_commuting C_l_turning C_l_long
  have C_l_law := cal_l_law (P := l.prog) (w := w) (base := base) F33 (PySem.W.mg_of IK IG a33) B33 h_g_range h_g_max h_g_min h_g_len C_l_right C_l_well
  obtain ⟨f_, fd_, Fn_, G_, hm_, _⟩ := C_l_law.ex
  have e := hm_.symm.trans (PySem.W.mg_of IK IG a33)
  cases e
  obtain ⟨_, _, _, _, _, _, _, _, _, rfl, lk_, _⟩ := Fn_.ex
  rw [b33] at lk_
  cases lk_
  exact G_
end L51
open PySem PySem.W PyProof.Rows
set_option maxRecDepth 100000 in
set_option maxHeartbeats 0 in
theorem PySem.Challenge.cw_walkclubs_k51_whole_powers_roots_and_tur_holds : PySem.Challenge.rw_walkclubs_k51_whole_powers_roots_and_tur.Holds := by
  w_on; o_law; k_head; (case hw => w_witness2)
  k_fill
  refine Z.walk_ofG (l := PySem.Challenge.rw_walkclubs_k51_whole_powers_roots_and_tur) (n := 63) (k := 8) (x := "_law_script") (m := L51.m_l_law) rfl (by decide) rfl ⟨rfl, by decide, by decide⟩ (fun w h Y => PySem.W.kIn_of Y) ?F L51.law_true
  case F =>
    intro w mg fa h KI KG hmg
    refine' L51.tops KI KG hmg ?a0 ?b0 ?c0 ?d0 ?a1 ?b1 ?c1 ?d1 ?a2 ?b2 ?c2 ?d2 ?a3 ?b3 ?c3 ?d3 ?a4 ?b4 ?c4 ?d4 ?a5 ?b5 ?c5 ?d5 ?a6 ?b6 ?c6 ?d6 ?a7 ?b7 ?c7 ?d7 ?a8 ?b8 ?c8 ?d8 ?a9 ?b9 ?c9 ?d9 ?a10 ?b10 ?c10 ?d10 ?a11 ?b11 ?c11 ?d11 ?a12 ?b12 ?c12 ?d12 ?a13 ?b13 ?c13 ?d13 ?a14 ?b14 ?c14 ?d14 ?a15 ?b15 ?c15 ?d15 ?a16 ?b16 ?c16 ?d16 ?a17 ?b17 ?c17 ?d17 ?a18 ?b18 ?c18 ?d18 ?a19 ?b19 ?c19 ?d19 ?a20 ?b20 ?c20 ?d20 ?a21 ?b21 ?c21 ?d21 ?a22 ?b22 ?c22 ?d22 ?a23 ?b23 ?c23 ?d23 ?a24 ?b24 ?c24 ?d24 ?a25 ?b25 ?c25 ?d25 ?a26 ?b26 ?c26 ?d26 ?a27 ?b27 ?c27 ?d27 ?a28 ?b28 ?c28 ?d28 ?a29 ?b29 ?c29 ?d29 ?a30 ?b30 ?c30 ?d30 ?a31 ?b31 ?c31 ?d31 ?a32 ?b32 ?c32 ?d32 ?a33 ?b33 ?c33 ?d33 ?g_len ?g_tuple ?g_isinstance ?g_int ?g_bool ?g_abs ?g_all ?g_range ?g_MOST_LETTERS ?g_MOST_TIMES ?g_min ?g_sum ?g_max
    (case a0 => k_is)
    (case b0 => k_is)
    (case c0 => k_is)
    (case d0 => k_is)
    (case a1 => k_is)
    (case b1 => k_is)
    (case c1 => k_is)
    (case d1 => k_is)
    (case a2 => k_is)
    (case b2 => k_is)
    (case c2 => k_is)
    (case d2 => k_is)
    (case a3 => k_is)
    (case b3 => k_is)
    (case c3 => k_is)
    (case d3 => k_is)
    (case a4 => k_is)
    (case b4 => k_is)
    (case c4 => k_is)
    (case d4 => k_is)
    (case a5 => k_is)
    (case b5 => k_is)
    (case c5 => k_is)
    (case d5 => k_is)
    (case a6 => k_is)
    (case b6 => k_is)
    (case c6 => k_is)
    (case d6 => k_is)
    (case a7 => k_is)
    (case b7 => k_is)
    (case c7 => k_is)
    (case d7 => k_is)
    (case a8 => k_is)
    (case b8 => k_is)
    (case c8 => k_is)
    (case d8 => k_is)
    (case a9 => k_is)
    (case b9 => k_is)
    (case c9 => k_is)
    (case d9 => k_is)
    (case a10 => k_is)
    (case b10 => k_is)
    (case c10 => k_is)
    (case d10 => k_is)
    (case a11 => k_is)
    (case b11 => k_is)
    (case c11 => k_is)
    (case d11 => k_is)
    (case a12 => k_is)
    (case b12 => k_is)
    (case c12 => k_is)
    (case d12 => k_is)
    (case a13 => k_is)
    (case b13 => k_is)
    (case c13 => k_is)
    (case d13 => k_is)
    (case a14 => k_is)
    (case b14 => k_is)
    (case c14 => k_is)
    (case d14 => k_is)
    (case a15 => k_is)
    (case b15 => k_is)
    (case c15 => k_is)
    (case d15 => k_is)
    (case a16 => k_is)
    (case b16 => k_is)
    (case c16 => k_is)
    (case d16 => k_is)
    (case a17 => k_is)
    (case b17 => k_is)
    (case c17 => k_is)
    (case d17 => k_is)
    (case a18 => k_is)
    (case b18 => k_is)
    (case c18 => k_is)
    (case d18 => k_is)
    (case a19 => k_is)
    (case b19 => k_is)
    (case c19 => k_is)
    (case d19 => k_is)
    (case a20 => k_is)
    (case b20 => k_is)
    (case c20 => k_is)
    (case d20 => k_is)
    (case a21 => k_is)
    (case b21 => k_is)
    (case c21 => k_is)
    (case d21 => k_is)
    (case a22 => k_is)
    (case b22 => k_is)
    (case c22 => k_is)
    (case d22 => k_is)
    (case a23 => k_is)
    (case b23 => k_is)
    (case c23 => k_is)
    (case d23 => k_is)
    (case a24 => k_is)
    (case b24 => k_is)
    (case c24 => k_is)
    (case d24 => k_is)
    (case a25 => k_is)
    (case b25 => k_is)
    (case c25 => k_is)
    (case d25 => k_is)
    (case a26 => k_is)
    (case b26 => k_is)
    (case c26 => k_is)
    (case d26 => k_is)
    (case a27 => k_is)
    (case b27 => k_is)
    (case c27 => k_is)
    (case d27 => k_is)
    (case a28 => k_is)
    (case b28 => k_is)
    (case c28 => k_is)
    (case d28 => k_is)
    (case a29 => k_is)
    (case b29 => k_is)
    (case c29 => k_is)
    (case d29 => k_is)
    (case a30 => k_is)
    (case b30 => k_is)
    (case c30 => k_is)
    (case d30 => k_is)
    (case a31 => k_is)
    (case b31 => k_is)
    (case c31 => k_is)
    (case d31 => k_is)
    (case a32 => k_is)
    (case b32 => k_is)
    (case c32 => k_is)
    (case d32 => k_is)
    (case a33 => k_is)
    (case b33 => k_is)
    (case c33 => k_is)
    (case d33 => k_is)
    (case g_len => k_is)
    (case g_tuple => k_is)
    (case g_isinstance => k_is)
    (case g_int => k_is)
    (case g_bool => k_is)
    (case g_abs => k_is)
    (case g_all => k_is)
    (case g_range => k_is)
    (case g_MOST_LETTERS => k_is)
    (case g_MOST_TIMES => k_is)
    (case g_min => k_is)
    (case g_sum => k_is)
    (case g_max => k_is)
