import PyProof.Rows.All
import Wide.All
import OpenK.AllK
import Wide.FinOn
import HandS.ForMost
import HandS.Wide
import HandS.TupAny
import HandS.RaiseMore
import PyProof.ReprRoads
import HandS.Style
import HandS.IsInst
import HandS.Gcd
import KE.KMathGC
import HandS.Conv
import HandS.TupMul
import HandS.RevTup
import PyProof.ListMulRoad
import PyProof.FactsAll.tuple_2
import HandS.Iter
import KE.GoesEnum
import KE.GoesMore
import HandS.Dict
import HandS.SetKeys
import HandS.DictComp
import KE.KDictSum
import HandS.Small
import HandS.NoneIn
import KE.KDictDisplayH
import HandS.Zip
import HandS.WideBits
import HandS.SortInts
import KE.DataCmp
import HandS.Finally
import HandS.TupSets
import HandS.Deep
import KE.DataMinKey
import HandS.SortKw
import KE.KDictPairs
import HandS.TryOnly
import KE.SortData
import HandS.SetFor
import HandS.Strs
import PySem.Challenge.RW_walkclubs_k31_books_walked
set_option Elab.async false
set_option linter.all false
set_option maxRecDepth 100000
set_option maxHeartbeats 1000000
namespace Z
open PySem PySem.Spec PyProof.Rows L2
def kPD : Key → PyData
  | .inl i => .int i
  | .inr x => .str x
mutual
inductive Dq (H : Hp) : V → PyData → Prop
  | non : Dq H .non .none
  | bl (b : Bool) : Dq H (.bl b) (.bool b)
  | int (i : Int) : Dq H (.int i) (.int i)
  | str (x : Str) : Dq H (.str x) (.str x)
  | lst {a : Addr} {xs : List V} {ds : List PyData} : H a = some (.lst xs) → DqAll H xs ds → Dq H (.ref a) (.list ds)
  | tup {a : Addr} {xs : List V} {ds : List PyData} : H a = some (.tup xs) → DqAll H xs ds → Dq H (.ref a) (.tuple ds)
  | dctK {a : Addr} {o : Obj} {kvs : List (Key × V)} {ps : List (PyData × PyData)} : H a = some (.frz o (.dK kvs)) → kvs.map (fun p => kPD p.1) = ps.map (·.1) → DqAll H (kvs.map (·.2)) (ps.map (·.2)) → Dq H (.ref a) (.dict ps)
  | dctT {a : Addr} {o : Obj} {kvs : List (List Key × V)} {ps : List (PyData × PyData)} : H a = some (.frz o (.dT kvs)) → kvs.map (fun p => PyData.tuple (p.1.map kPD)) = ps.map (·.1) → DqAll H (kvs.map (·.2)) (ps.map (·.2)) → Dq H (.ref a) (.dict ((.none, .none) :: ps))
inductive DqAll (H : Hp) : List V → List PyData → Prop
  | nil : DqAll H [] []
  | cons {v : V} {vs : List V} {d : PyData} {ds : List PyData} : Dq H v d → DqAll H vs ds → DqAll H (v :: vs) (d :: ds)
end
mutual
theorem dq_monoH {H H' : Hp} (e : Same H H') : ∀ {v : V} {d : PyData}, Dq H v d → Dq H' v d
  | _, _, .non => .non
  | _, _, .bl _ => .bl _
  | _, _, .int _ => .int _
  | _, _, .str _ => .str _
  | _, _, .lst hs ha => .lst (e _ _ hs) (dqall_monoH e ha)
  | _, _, .tup hs ha => .tup (e _ _ hs) (dqall_monoH e ha)
  | _, _, .dctK hs hk ha => .dctK (e _ _ hs) hk (dqall_monoH e ha)
  | _, _, .dctT hs hk ha => .dctT (e _ _ hs) hk (dqall_monoH e ha)
theorem dqall_monoH {H H' : Hp} (e : Same H H') : ∀ {vs : List V} {ds : List PyData}, DqAll H vs ds → DqAll H' vs ds
  | _, _, .nil => .nil
  | _, _, .cons h1 h2 => .cons (dq_monoH e h1) (dqall_monoH e h2)
end
theorem dq_mono {H H' : Hp} (e : Same H H') (d : PyData) (v : V) (h : Dq H v d) : Dq H' v d := dq_monoH e h
theorem dqall_mono {H H' : Hp} (e : Same H H') (ds : List PyData) (vs : List V) (h : DqAll H vs ds) : DqAll H' vs ds := dqall_monoH e h
mutual
theorem nod_lay : ∀ d : PyData, d.canLay0 = true → d.hasDict = false
  | .none, _ => by simp [PyData.hasDict]
  | .bool _, _ => by simp [PyData.hasDict]
  | .int _, _ => by simp [PyData.hasDict]
  | .str _, _ => by simp [PyData.hasDict]
  | .list ds, c => by
    simp only [PyData.hasDict]
    exact nodall_lay ds (by simpa [PyData.canLay0] using c)
  | .tuple ds, c => by
    simp only [PyData.hasDict]
    exact nodall_lay ds (by simpa [PyData.canLay0] using c)
  | .dict _, c => by simp [PyData.canLay0] at c
theorem nodall_lay : ∀ ds : List PyData, PyData.canLayAll0 ds = true → PyData.hasDictAll ds = false
  | [], _ => by simp [PyData.hasDictAll]
  | d :: ds, c => by
    have c2 : d.canLay0 = true ∧ PyData.canLayAll0 ds = true := by simpa [PyData.canLayAll0] using c
    simp [PyData.hasDictAll, nod_lay d c2.1, nodall_lay ds c2.2]
end
mutual
theorem dq_dp (K : PySem.W.Frag) {H : Hp} : ∀ (d : PyData) (v : V), d.hasDict = false → Dq H v d → Dp K H v d
  | .none, _, _, h => by cases h; exact .non
  | .bool _, _, _, h => by cases h; exact .bl _
  | .int _, _, _, h => by cases h; exact .int _
  | .str _, _, _, h => by cases h; exact .str _
  | .list ds, _, c, h => by
    cases h with
    | lst hs ha => exact .lst (.of hs) (dqall_dp K ds _ (by simpa [PyData.hasDict] using c) ha)
  | .tuple ds, _, c, h => by
    cases h with
    | tup hs ha => exact .tup (.of hs) (dqall_dp K ds _ (by simpa [PyData.hasDict] using c) ha)
  | .dict _, _, c, h => by simp [PyData.hasDict] at c
theorem dqall_dp (K : PySem.W.Frag) {H : Hp} : ∀ (ds : List PyData) (vs : List V), PyData.hasDictAll ds = false → DqAll H vs ds → DpAll K H vs ds
  | [], _, _, h => by cases h; exact .nil
  | d :: ds, _, c, h => by
    have c2 : d.hasDict = false ∧ PyData.hasDictAll ds = false := by simpa [PyData.hasDictAll] using c
    cases h with
    | cons h1 h2 => exact .cons (dq_dp K d _ c2.1 h1) (dqall_dp K ds _ c2.2 h2)
end
theorem same_upd {H : Hp} {p : Addr} {o : HO} (h : H p = none) : Same H (upd H p o) := fun b x e => by
  rw [upd_ne (ne_of_none e h)]
  exact e
theorem dqall_len {H : Hp} : ∀ {ds : List PyData} {vs : List V}, DqAll H vs ds → vs.length = ds.length
  | [], _, h => by cases h; rfl
  | d :: ds, _, h => by
    cases h with
    | cons h1 h2 => rw [List.length_cons, List.length_cons, dqall_len h2]
theorem dqall_get' {H : Hp} : ∀ {ds : List PyData} {vs : List V} {i : Nat} {d : PyData}, DqAll H vs ds → ds[i]? = some d → ∃ v, vs[i]? = some v ∧ Dq H v d
  | [], _, i, v, h, e => by simp at e
  | d :: ds, _, i, v, h, e => by
    cases h with
    | cons h1 h2 =>
      cases i with
      | zero =>
        simp at e
        subst e
        exact ⟨_, rfl, h1⟩
      | succ i => exact dqall_get' (i := i) h2 (by simpa using e)
theorem dqall_app {H : Hp} : ∀ {ds es : List PyData} {vs us : List V}, DqAll H vs ds → DqAll H us es → DqAll H (vs ++ us) (ds ++ es)
  | [], _, _, _, h, g => by cases h; exact g
  | d :: ds, _, _, _, h, g => by
    cases h with
    | cons h1 h2 => exact .cons h1 (dqall_app h2 g)
theorem dqall_take {H : Hp} : ∀ {ds : List PyData} {vs : List V} (n : Nat), DqAll H vs ds → DqAll H (vs.take n) (ds.take n)
  | _, _, 0, _ => .nil
  | [], _, n + 1, h => by cases h; exact .nil
  | d :: ds, _, n + 1, h => by
    cases h with
    | cons h1 h2 => exact .cons h1 (dqall_take n h2)
theorem dqall_set {H : Hp} {v : V} {d : PyData} (hd : Dq H v d) : ∀ {ds : List PyData} {vs : List V} (i : Nat), DqAll H vs ds → DqAll H (vs.set i v) (ds.set i d)
  | [], _, _, h => by cases h; exact .nil
  | d :: ds, _, 0, h => by
    cases h with
    | cons h1 h2 => exact .cons hd h2
  | d :: ds, _, i + 1, h => by
    cases h with
    | cons h1 h2 => exact .cons h1 (dqall_set hd i h2)
theorem dqall_ints {H : Hp} : ∀ (ns : List Int), DqAll H (ns.map V.int) (ns.map PyData.int)
  | [] => .nil
  | n :: ns => .cons (.int n) (dqall_ints ns)
theorem dqall_of_ints {H : Hp} : ∀ (ns : List Int) {vs : List V}, DqAll H vs (ns.map PyData.int) → vs = ns.map V.int
  | [], _, h => by cases h; rfl
  | n :: ns, _, h => by
    cases h with
    | cons h1 h2 =>
      cases h1
      rw [dqall_of_ints ns h2, List.map_cons]
theorem dqall_of_bools {H : Hp} : ∀ (ns : List Bool) {vs : List V}, DqAll H vs (ns.map PyData.bool) → vs = ns.map V.bl
  | [], _, h => by cases h; rfl
  | n :: ns, _, h => by
    cases h with
    | cons h1 h2 =>
      cases h1
      rw [dqall_of_bools ns h2, List.map_cons]
/-- an entry: its address, what is frozen, its own piece of the heap -/
abbrev Ent := Addr → Hp → Hp → Prop
abbrev Os := List (Addr × Ent)
abbrev VP := Hp → V → Prop
abbrev Slot := Hp → Option V → Prop
def Cl (φ : VP) (F : Hp) (v : V) : Prop := ∀ F', Same F F' → φ F' v
theorem Cl.mono {φ : VP} {F F' : Hp} {v : V} (h : Cl φ F v) (e : Same F F') : Cl φ F' v := fun G g => h G (e.trans g)
theorem Cl.now {φ : VP} {F : Hp} {v : V} (h : Cl φ F v) : φ F v := h F (Same.refl F)
def dat (d : PyData) : VP := fun F v => Dq F v d
def own (p : Addr) : VP := fun _ v => v = .ref p
theorem cl_dat {d : PyData} {F : Hp} {v : V} (h : Dq F v d) : Cl (dat d) F v := fun _ e => dq_mono e d v h
theorem cl_own {p : Addr} {F : Hp} : Cl (own p) F (.ref p) := fun _ _ => rfl
/-- the heap with one thing alone -/
def one (p : Addr) (o : HO) : Hp := upd (fun _ => none) p o
theorem one_at {p : Addr} {o : HO} : one p o p = some o := upd_same
theorem one_ne {p q : Addr} {o : HO} (h : q ≠ p) : one p o q = none := by unfold one; rw [upd_ne h]
theorem one_of {p q : Addr} {o : HO} (h : one p o q ≠ none) : q = p := Classical.byContradiction fun k => h (one_ne k)
/-- a list of one's own, its items data -/
def ol (ds : List PyData) : Ent := fun p F h => ∃ vs, h = one p (.lst vs) ∧ DqAll F vs ds
def sl (φ : VP) : Slot := fun F o => ∃ v, o = some v ∧ φ F v
def un : Slot := fun _ _ => True
/-- h over H -/
def ov (h H : Hp) : Hp := fun a => match h a with
  | some o => some o
  | none => H a
theorem ov_some {h H : Hp} {a : Addr} {o : HO} (e : h a = some o) : ov h H a = some o := by unfold ov; rw [e]
theorem ov_none {h H : Hp} {a : Addr} (e : h a = none) : ov h H a = H a := by unfold ov; rw [e]
theorem ov_one {p : Addr} {o : HO} {H : Hp} : ov (one p o) H = upd H p o := by
  funext a
  by_cases h : a = p
  · subst h; rw [ov_some one_at, upd_same]
  · rw [ov_none (one_ne h), upd_ne h]
/-- apart -/
def Ap (h k : Hp) : Prop := ∀ a, h a ≠ none → k a = none
theorem Ap.symm {h k : Hp} (x : Ap h k) : Ap k h := fun a e => Classical.byContradiction fun q => e (x a q)
inductive Pcs (F : Hp) : Os → List Hp → Prop
  | nil : Pcs F [] []
  | cons {q : Addr × Ent} {os : Os} {h : Hp} {hs : List Hp} : (∀ F', Same F F' → q.2 q.1 F' h) → Pcs F os hs → Pcs F (q :: os) (h :: hs)
theorem Pcs.mono {F F' : Hp} (e : Same F F') : ∀ {os : Os} {hs : List Hp}, Pcs F os hs → Pcs F' os hs
  | _, _, .nil => .nil
  | _, _, .cons h1 h2 => .cons (fun G g => h1 G (e.trans g)) (h2.mono e)
theorem Pcs.perm {F : Hp} {os os' : Os} (p : os.Perm os') : ∀ {hs : List Hp}, Pcs F os hs → ∃ hs', Pcs F os' hs' ∧ hs.Perm hs' := by
  induction p with
  | nil => intro hs h; exact ⟨hs, h, List.Perm.refl _⟩
  | cons x p ih =>
    intro hs h
    cases h with
    | cons h1 h2 =>
      obtain ⟨hs', a, b⟩ := ih h2
      exact ⟨_, .cons h1 a, b.cons _⟩
  | swap x y l =>
    intro hs h
    cases h with
    | cons h1 h2 =>
      cases h2 with
      | cons h2 h3 => exact ⟨_, .cons h2 (.cons h1 h3), List.Perm.swap _ _ _⟩
  | trans p q ih1 ih2 =>
    intro hs h
    obtain ⟨hs1, a, b⟩ := ih1 h
    obtain ⟨hs2, c, d⟩ := ih2 a
    exact ⟨hs2, c, b.trans d⟩
/-- no tuples -/
def NT (h : Hp) : Prop := ∀ a xs, h a ≠ some (.tup xs)
theorem nt_one {p : Addr} {o : HO} (h : ∀ xs, o ≠ .tup xs) : NT (one p o) := fun a xs e => by
  by_cases q : a = p
  · rw [q, one_at] at e
    exact h xs (Option.some.inj e)
  · rw [one_ne q] at e
    cases e
structure Ow (F : Hp) (os : Os) (H : Hp) : Prop where
  ex : Same F H
  ps : ∃ hs, Pcs F os hs ∧ (∀ h ∈ hs, Same h H ∧ Ap F h ∧ NT h) ∧ hs.Pairwise Ap
section
variable {F F' H H' : Hp} {os os' : Os} {p : Addr} {e e' : Ent} {o : HO}
theorem Ow.perm (h : Ow F os H) (hp : os.Perm os') : Ow F os' H := by
  obtain ⟨hs, a, b, c⟩ := h.ps
  obtain ⟨hs', a', q⟩ := a.perm hp
  exact ⟨h.ex, hs', a', fun k hk => b k (q.mem_iff.mpr hk), q.pairwise c fun x => x.symm⟩
/-- what is new is frozen -/
theorem Ow.frozen (h : Ow F os H) (hp : H p = none) : Ow (upd F p o) os (upd H p o) := by
  have fp : F p = none := h.ex.free hp
  obtain ⟨hs, a, b, c⟩ := h.ps
  refine ⟨fun q x eb => ?_, hs, a.mono (same_upd fp), fun k hk => ?_, c⟩
  · by_cases hb : q = p
    · subst hb
      rw [upd_same] at eb ⊢
      exact eb
    · rw [upd_ne hb] at eb ⊢
      exact h.ex q x eb
  · obtain ⟨s, x, nt⟩ := b k hk
    have kp : k p = none := s.free hp
    refine ⟨s.trans (same_upd hp), fun q eq => ?_, nt⟩
    by_cases hb : q = p
    · rw [hb]; exact kp
    · rw [upd_ne hb] at eq
      exact x q eq
/-- a piece of new things -/
theorem Ow.newP {k : Hp} (h : Ow F os H) (hk : ∀ a, k a ≠ none → H a = none) (nt : NT k) (he : ∀ F', Same F F' → e p F' k) : Ow F ((p, e) :: os) (ov k H) := by
  obtain ⟨hs, a, b, c⟩ := h.ps
  have s : Same H (ov k H) := fun q x eq => by
    cases z : k q with
    | none => rw [ov_none z]; exact eq
    | some u => rw [hk q (by rw [z]; simp)] at eq; cases eq
  refine ⟨h.ex.trans s, k :: hs, .cons he a, fun g hg => ?_, List.pairwise_cons.mpr ⟨fun g hg => ?_, c⟩⟩
  · rcases List.mem_cons.mp hg with rfl | hg
    · exact ⟨fun q x eq => ov_some eq, Ap.symm fun q eq => h.ex.free (hk q eq), nt⟩
    · exact ⟨(b g hg).1.trans s, (b g hg).2⟩
  · exact fun q eq => (b g hg).1.free (hk q eq)
theorem Ow.new (h : Ow F os H) (hp : H p = none) (he : ∀ F', Same F F' → e p F' (one p o)) (nt : ∀ xs, o ≠ .tup xs := by intro _ z; cases z) : Ow F ((p, e) :: os) (upd H p o) := by
  rw [← ov_one]
  exact h.newP (fun a ha => by rw [one_of ha]; exact hp) (nt_one nt) he
/-- the first piece, and what may stand in its place -/
theorem Ow.wr (h : Ow F ((p, e) :: os) H) : ∃ k, (∀ F', Same F F' → e p F' k) ∧ Same k H ∧ Ap F k ∧ NT k ∧
    ∀ q e' k', (∀ a, k' a ≠ none → k a ≠ none ∨ H a = none) → NT k' → (∀ F', Same F F' → e' q F' k') → Ow F ((q, e') :: os) (ov k' H) := by
  obtain ⟨hs, a, b, c⟩ := h.ps
  cases a with
  | @cons _ _ k hs h1 h2 =>
    obtain ⟨c1, c2⟩ := List.pairwise_cons.mp c
    obtain ⟨s, x, nt⟩ := b k List.mem_cons_self
    refine ⟨k, h1, s, x, nt, fun q e' k' hk nt' he => ?_⟩
    have out : ∀ g : Hp, Same g H → Ap k g → Same g (ov k' H) ∧ Ap k' g := fun g sg ag => by
      have z : ∀ a, k' a ≠ none → g a = none := fun a ha => by
        rcases hk a ha with r | r
        · exact ag a r
        · exact sg.free r
      refine ⟨fun a u eu => ?_, z⟩
      cases y : k' a with
      | none => rw [ov_none y]; exact sg a u eu
      | some w =>
        rw [z a (by rw [y]; simp)] at eu
        cases eu
    obtain ⟨f1, f2⟩ := out F h.ex x.symm
    refine ⟨f1, k' :: hs, .cons he h2, fun g hg => ?_, List.pairwise_cons.mpr ⟨fun g hg => ?_, c2⟩⟩
    · rcases List.mem_cons.mp hg with rfl | hg
      · exact ⟨fun a u eu => ov_some eu, f2.symm, nt'⟩
      · exact ⟨(out g (b g (List.mem_cons_of_mem _ hg)).1 (c1 g hg)).1, (b g (List.mem_cons_of_mem _ hg)).2⟩
    · exact (out g (b g (List.mem_cons_of_mem _ hg)).1 (c1 g hg)).2
theorem Ow.drop (h : Ow F ((p, e) :: os) H) : Ow F os H := by
  obtain ⟨hs, a, b, c⟩ := h.ps
  cases a with
  | cons h1 h2 => exact ⟨h.ex, _, h2, fun g hg => b g (List.mem_cons_of_mem _ hg), (List.pairwise_cons.mp c).2⟩
theorem Ow.freeze (h : Ow F ((p, e) :: os) H) : ∃ k, (∀ F', Same F F' → e p F' k) ∧ Same k H ∧ Ap F k ∧ Same F (ov k F) ∧ Ow (ov k F) os H := by
  obtain ⟨hs, a, b, c⟩ := h.ps
  cases a with
  | @cons _ _ k hs h1 h2 =>
    obtain ⟨c1, c2⟩ := List.pairwise_cons.mp c
    obtain ⟨s, x, _⟩ := b k List.mem_cons_self
    have sf : Same F (ov k F) := fun a u eu => by
      rw [ov_none (x a (by rw [eu]; simp))]
      exact eu
    refine ⟨k, h1, s, x, sf, fun a u eu => ?_, hs, h2.mono sf, fun g hg => ⟨(b g (List.mem_cons_of_mem _ hg)).1, fun a ha => ?_, (b g (List.mem_cons_of_mem _ hg)).2.2⟩, c2⟩
    · cases y : k a with
      | none => rw [ov_none y] at eu; exact h.ex a u eu
      | some w => rw [ov_some y] at eu; cases eu; exact s a _ y
    · cases y : k a with
      | none => rw [ov_none y] at ha; exact (b g (List.mem_cons_of_mem _ hg)).2.1 a ha
      | some w => exact c1 g hg a (by rw [y]; simp)
theorem Ow.grow (h : Ow F os H) (k : Same H H') : Ow F os H' := by
  obtain ⟨hs, a, b, c⟩ := h.ps
  exact ⟨h.ex.trans k, hs, a, fun g hg => ⟨(b g hg).1.trans k, (b g hg).2⟩, c⟩
/-- a tuple that stands is frozen -/
theorem Ow.tup {xs : List V} (h : Ow F os H) (hp : H p = some (.tup xs)) : Same F (upd F p (.tup xs)) ∧ Ow (upd F p (.tup xs)) os H := by
  obtain ⟨hs, a, b, c⟩ := h.ps
  have sf : Same F (upd F p (.tup xs)) := fun q u eu => by
    by_cases z : q = p
    · subst z
      rw [upd_same, ← h.ex q u eu, hp]
    · rw [upd_ne z]
      exact eu
  refine ⟨sf, fun q u eu => ?_, hs, a.mono sf, fun g hg => ⟨(b g hg).1, fun q eq => ?_, (b g hg).2.2⟩, c⟩
  · by_cases z : q = p
    · subst z
      rw [upd_same] at eu
      rw [hp, eu]
    · rw [upd_ne z] at eu
      exact h.ex q u eu
  · by_cases z : q = p
    · subst z
      cases y : g q with
      | none => rfl
      | some w =>
        have e1 := (b g hg).1 q w y
        rw [hp] at e1
        cases e1
        exact ((b g hg).2.2 q xs y).elim
    · rw [upd_ne z] at eq
      exact (b g hg).2.1 q eq
/-- an entry known by less -/
theorem Ow.weak (h : Ow F ((p, e) :: os) H) (k : ∀ F' g, e p F' g → e' p F' g) : Ow F ((p, e') :: os) H := by
  obtain ⟨hs, a, b, c⟩ := h.ps
  cases a with
  | cons h1 h2 => exact ⟨h.ex, _, .cons (fun G g => k G _ (h1 G g)) h2, b, c⟩
/-- entries of one thing -/
def Uni (e : Ent) (r : Hp → HO → Prop) : Prop := ∀ p F h, e p F h → ∃ o, h = one p o ∧ r F o
theorem Ow.atU {r : Hp → HO → Prop} (u : Uni e r) (h : Ow F ((p, e) :: os) H) : F p = none ∧ ∃ o, H p = some o ∧ e p F (one p o) ∧ r F o := by
  obtain ⟨k, h1, s, x, _, _⟩ := h.wr
  obtain ⟨o, rfl, hr⟩ := u p F k (h1 F (Same.refl F))
  exact ⟨Classical.byContradiction fun q => (by have := x p q; rw [one_at] at this; cases this), o, s p o one_at, h1 F (Same.refl F), hr⟩
theorem Ow.putU {r : Hp → HO → Prop} (u : Uni e r) (h : Ow F ((p, e) :: os) H) (he : ∀ F', Same F F' → e' p F' (one p o)) (nt : ∀ xs, o ≠ .tup xs := by intro _ z; cases z) : Ow F ((p, e') :: os) (upd H p o) := by
  obtain ⟨k, h1, s, x, _, w⟩ := h.wr
  obtain ⟨o', rfl, hr⟩ := u p F k (h1 F (Same.refl F))
  rw [← ov_one]
  exact w p e' _ (fun a ha => .inl (by rw [one_of ha, one_at]; simp)) (nt_one nt) he
theorem Ow.freezeU {r : Hp → HO → Prop} (u : Uni e r) (h : Ow F ((p, e) :: os) H) : ∃ o, H p = some o ∧ r F o ∧ Same F (upd F p o) ∧ Ow (upd F p o) os H := by
  obtain ⟨k, h1, s, x, sf, w⟩ := h.freeze
  obtain ⟨o, rfl, hr⟩ := u p F k (h1 F (Same.refl F))
  rw [ov_one] at sf w
  exact ⟨o, s p o one_at, hr, sf, w⟩
theorem uni_ol {ds : List PyData} : Uni (ol ds) (fun F o => ∃ vs, o = .lst vs ∧ DqAll F vs ds) := fun p F h ⟨vs, e, d⟩ => ⟨_, e, vs, rfl, d⟩
theorem Ow.atL {ds : List PyData} (h : Ow F ((p, ol ds) :: os) H) : F p = none ∧ ∃ vs, H p = some (.lst vs) ∧ DqAll F vs ds := by
  obtain ⟨a, o, b, _, vs, rfl, d⟩ := h.atU uni_ol
  exact ⟨a, vs, b, d⟩
theorem Ow.putL {ds ds' : List PyData} {vs : List V} (h : Ow F ((p, ol ds) :: os) H) (hd : DqAll F vs ds') : Ow F ((p, ol ds') :: os) (upd H p (.lst vs)) :=
  h.putU uni_ol fun G g => ⟨vs, rfl, dqall_mono g _ _ hd⟩
end
theorem perm_at {α : Type} : ∀ {l : List α} {k : Nat} {q : α}, l[k]? = some q → l.Perm (q :: l.eraseIdx k)
  | [], k, q, h => by simp at h
  | x :: l, 0, q, h => by
    simp at h
    subst h
    exact List.Perm.refl _
  | x :: l, k + 1, q, h => by
    have h1 : l[k]? = some q := by simpa using h
    exact ((perm_at h1).cons x).trans (List.Perm.swap q x _)
theorem perm_set {α : Type} : ∀ {l : List α} {k : Nat} {q q' : α}, l[k]? = some q → (q' :: l.eraseIdx k).Perm (l.set k q')
  | [], k, q, q', h => by simp at h
  | x :: l, 0, q, q', h => List.Perm.refl _
  | x :: l, k + 1, q, q', h => by
    have h1 : l[k]? = some q := by simpa using h
    exact (List.Perm.swap x q' _).trans ((perm_set (q' := q') h1).cons x)
structure Sl (F : Hp) (es : List Slot) (σ : L2.St) : Prop where
  len : σ.length = es.length
  get : ∀ (i : Nat) (s : Slot), es[i]? = some s → ∃ v : Option V, σ[i]? = some v ∧ ∀ F', Same F F' → s F' v
section
variable {F F' H : Hp} {es : List Slot} {σ : L2.St} {i : Nat} {φ : VP} {v : V}
theorem Sl.mono (h : Sl F es σ) (e : Same F F') : Sl F' es σ := ⟨h.len, fun i s q => let ⟨v, a, b⟩ := h.get i s q; ⟨v, a, fun G g => b G (e.trans g)⟩⟩
theorem Sl.val (h : Sl F es σ) (q : es[i]? = some (sl φ)) : ∃ v, σ[i]? = some (some v) ∧ Cl φ F v := by
  obtain ⟨o, a, b⟩ := h.get i _ q
  obtain ⟨v, rfl, _⟩ := b F (Same.refl F)
  refine ⟨v, a, fun G g => ?_⟩
  obtain ⟨u, e, z⟩ := b G g
  cases e
  exact z
theorem Sl.set (h : Sl F es σ) {s : Slot} {o : Option V} (k : ∀ F', Same F F' → s F' o) : Sl F (es.set i s) (σ.set i o) := by
  refine ⟨by rw [List.length_set, List.length_set, h.len], fun j t q => ?_⟩
  by_cases hj : i = j
  · subst hj
    have hi : i < es.length := by
      have := (List.getElem?_eq_some_iff.mp q).1
      rw [List.length_set] at this
      exact this
    rw [List.getElem?_set_self hi] at q
    cases q
    exact ⟨o, List.getElem?_set_self (by rw [h.len]; exact hi), k⟩
  · rw [List.getElem?_set_ne hj] at q ⊢
    exact h.get j t q
theorem Sl.put (h : Sl F es σ) (k : Cl φ F v) : Sl F (es.set i (sl φ)) (σ.set i (some v)) := h.set fun G g => ⟨v, rfl, k G g⟩
/-- slots may be forgotten: each new one is the old one or un -/
def Wk : List Slot → List Slot → Prop
  | [], [] => True
  | s :: ss, t :: ts => (t = s ∨ t = un) ∧ Wk ss ts
  | _, _ => False
theorem wk_get : ∀ {es es' : List Slot} {i : Nat} {t : Slot}, Wk es es' → es'[i]? = some t → ∃ s, es[i]? = some s ∧ (t = s ∨ t = un)
  | [], [], i, t, _, h => by simp at h
  | [], _ :: _, _, _, h, _ => h.elim
  | _ :: _, [], _, _, h, _ => h.elim
  | s :: ss, t :: ts, 0, u, h, e => by
    simp at e
    subst e
    exact ⟨s, rfl, h.1⟩
  | s :: ss, t :: ts, i + 1, u, h, e => wk_get (i := i) h.2 (by simpa using e)
theorem wk_len : ∀ {es es' : List Slot}, Wk es es' → es.length = es'.length
  | [], [], _ => rfl
  | [], _ :: _, h => h.elim
  | _ :: _, [], h => h.elim
  | s :: ss, t :: ts, h => by rw [List.length_cons, List.length_cons, wk_len h.2]
theorem Sl.weak {es' : List Slot} (h : Sl F es σ) (w : Wk es es') : Sl F es' σ := by
  refine ⟨h.len.trans (wk_len w), fun i t q => ?_⟩
  obtain ⟨s, a, b⟩ := wk_get w q
  obtain ⟨v, c, d⟩ := h.get i s a
  refine ⟨v, c, fun G g => ?_⟩
  rcases b with rfl | rfl
  · exact d G g
  · trivial
end
section
variable (X : Cx)
def WE (e : Expr) (σ : L2.St) (H : Hp) (Q : VK) : Prop := ∀ pins s, Inv X pins σ H s → wpAny (model X.prog X.w) X.A (eval e X.env) (EP X pins σ Q) X.xe s
def WT (e : Expr) (σ : L2.St) (H : Hp) (Q : Bool → Hp → Prop) : Prop := ∀ pins s, Inv X pins σ H s → wpAny (model X.prog X.w) X.A (isTrue e X.env (eval e X.env)) (TP X pins σ Q) X.xe s
def WW (e : Expr) (σ : L2.St) (H : Hp) (Q : Bool → Hp → Prop) : Prop := ∀ (whole : Sem Value) pins s, Inv X pins σ H s → wpAny (model X.prog X.w) X.A (isTrue e X.env whole) (TP X pins σ Q) X.xe s
def WA (es : List Expr) (σ : L2.St) (H : Hp) (Q : List V → Hp → Prop) : Prop := ∀ pos pins s, Inv X pins σ H s → wpAny (model X.prog X.w) X.A (spliced (backTo pos (starEach es X.env))) (AP X pins σ Q) X.xe s
def WS (st : Stmt) (D : Ends) (σ : L2.St) (H : Hp) : Prop := ∀ pins s, Inv X pins σ H s → wpAny (model X.prog X.w) X.A (exec st X.env) (SP X pins D) X.xe s
def WPs (sts : List Stmt) (D : Ends) (σ : L2.St) (H : Hp) : Prop := ∀ pins s, Inv X pins σ H s → wpAny (model X.prog X.w) X.A (execs sts X.env) (SP X pins D) X.xe s
end
section
variable {X : Cx} {e : Expr} {es : List Expr} {st : Stmt} {sts : List Stmt} {σ : L2.St} {H : Hp} {Q : VK} {te : TE} {tt : TT} {ta : TA} {ts : TS}
theorem pe_u : PE X e (WE X e) := ⟨fun pins s _ _ _ I h => h pins s I⟩
theorem pt_u : PT X e (WT X e) := ⟨fun pins s _ _ _ I h => h pins s I⟩
theorem pw_u : PW X e (WW X e) := ⟨fun w pins s _ _ _ I h => h w pins s I⟩
theorem pa_u : PA X es (WA X es) := ⟨fun pos pins s _ _ _ I h => h pos pins s I⟩
theorem ps_u : PS X st (WS X st) := ⟨fun pins s _ _ _ I h => h pins s I⟩
theorem pss_u : PSs X sts (WPs X sts) := ⟨fun pins s _ _ _ I h => h pins s I⟩
theorem we_of (h : PE X e te) (q : te σ H Q) : WE X e σ H Q := fun pins s I => h.run pins s σ H Q I q
theorem wt_of {Q : Bool → Hp → Prop} (h : PT X e tt) (q : tt σ H Q) : WT X e σ H Q := fun pins s I => h.run pins s σ H Q I q
theorem ww_of {Q : Bool → Hp → Prop} (h : PW X e tt) (q : tt σ H Q) : WW X e σ H Q := fun w pins s I => h.run w pins s σ H Q I q
theorem wa_of {Q : List V → Hp → Prop} (h : PA X es ta) (q : ta σ H Q) : WA X es σ H Q := fun pos pins s I => h.run pos pins s σ H Q I q
theorem ws_of {D : Ends} (h : PS X st ts) (q : ts D σ H) : WS X st D σ H := fun pins s I => h.run pins s σ H D I q
theorem wps_of {D : Ends} (h : PSs X sts ts) (q : ts D σ H) : WPs X sts D σ H := fun pins s I => h.run pins s σ H D I q
theorem wps_cons {D : Ends} (h : WS X st { D with nx := WPs X sts D } σ H) : WPs X (st :: sts) D σ H := wps_of (pss_cons ps_u pss_u) h
theorem wps_nil {D : Ends} (h : D.nx σ H) : WPs X [] D σ H := wps_of pss_nil h
end
def ClA : List VP → Hp → List V → Prop
  | [], _, vs => vs = []
  | φ :: φs, F, vs => ∃ v r, vs = v :: r ∧ Cl φ F v ∧ ClA φs F r
theorem cla_len {F : Hp} : ∀ {φs : List VP} {vs : List V}, ClA φs F vs → vs.length = φs.length
  | [], _, h => by rw [h]; rfl
  | φ :: φs, _, ⟨v, r, e1, h1, h2⟩ => by rw [e1, List.length_cons, List.length_cons, cla_len h2]
section
variable (X : Cx) (es : List Slot) (os : Os)
/-- e gives a value of which φ holds; what is owned goes from os to os' -/
def EX (e : Expr) (φ : VP) (os' : Os) : Prop := ∀ F σ H Q, Ow F os H → Sl F es σ → (∀ F' H' v, Same F F' → Ow F' os' H' → Cl φ F' v → Q v H') → WE X e σ H Q
/-- e gives a new list, owned from now on -/
def EN (e : Expr) (n : Ent) (os' : Os) : Prop := ∀ F σ H Q, Ow F os H → Sl F es σ → (∀ F' H' p, Same F F' → Ow F' ((p, n) :: os') H' → Q (.ref p) H') → WE X e σ H Q
def TX (e : Expr) (b : Bool) (os' : Os) : Prop := ∀ F σ H Q, Ow F os H → Sl F es σ → (∀ F' H', Same F F' → Ow F' os' H' → Q b H') → WT X e σ H Q
def WX (e : Expr) (b : Bool) (os' : Os) : Prop := ∀ F σ H Q, Ow F os H → Sl F es σ → (∀ F' H', Same F F' → Ow F' os' H' → Q b H') → WW X e σ H Q
def AX (as : List Expr) (φs : List VP) (os' : Os) : Prop := ∀ F σ H Q, Ow F os H → Sl F es σ → (∀ F' H' vs, Same F F' → Ow F' os' H' → ClA φs F' vs → Q vs H') → WA X as σ H Q
def SX (F0 : Hp) (sts : List Stmt) (D : Ends) : Prop := ∀ F σ H, Same F0 F → Ow F os H → Sl F es σ → WPs X sts D σ H
end
end Z
namespace Z
open PySem PySem.Spec PyProof.Rows L2
section
variable {X : Cx} {es : List Slot} {os os1 os2 os3 : Os} {a b c : Expr} {pos : Pos}
theorem EX.perm {φ : VP} {e : Expr} (h : EX X es os e φ os1) (k : os1.Perm os2) : EX X es os e φ os2 := fun F σ H Q ow sl q =>
  h F σ H Q ow sl fun F' H' v e o c => q F' H' v e (o.perm k) c
theorem EX.pre {φ : VP} {e : Expr} (h : EX X es os e φ os1) (k : os2.Perm os) : EX X es os2 e φ os1 := fun F σ H Q ow sl q => h F σ H Q (ow.perm k) sl q
/-- a new list, given away: it is data from now on -/
theorem EN.ex {e : Expr} {ds : List PyData} (h : EN X es os e (ol ds) os1) : EX X es os e (dat (.list ds)) os1 := fun F σ H Q ow sl q =>
  h F σ H Q ow sl fun F' H' p e o => by
    obtain ⟨u, hu, ⟨vs, rfl, hv⟩, s, o2⟩ := o.freezeU uni_ol
    exact q _ H' (.ref p) (e.trans s) o2 (cl_dat (.lst upd_same (dqall_mono s _ _ hv)))
theorem ex_name {i : Nat} {x : Str} {φ : VP} (hN : X.N[i]? = some x) (hv : Vis X.env.scope x) (hd : (x == ("__debug__" : Str)) = false) (hcd : (x == ("__classdict__" : Str)) = false) (h : es[i]? = some (sl φ)) : EX X es os (.Name x pos) φ os := fun F σ H Q ow sl q => by
  obtain ⟨v, e, k⟩ := sl.val h
  exact we_of (pe_var hN hv hd hcd) ⟨v, e, q F H v (Same.refl F) ow k⟩
theorem ex_int {i : Int} {j} : EX X es os (.Constant (.int i) j pos) (dat (.int i)) os := fun F σ H Q ow sl q => we_of pe_int (q F H _ (Same.refl F) ow (cl_dat (.int i)))
theorem ex_bool {i : Bool} {j} : EX X es os (.Constant (.bool i) j pos) (dat (.bool i)) os := fun F σ H Q ow sl q => we_of pe_bl (q F H _ (Same.refl F) ow (cl_dat (.bl i)))
theorem ex_none {j} : EX X es os (.Constant .none j pos) (dat .none) os := fun F σ H Q ow sl q => we_of pe_non (q F H _ (Same.refl F) ow (cl_dat .non))
/-- a module's constant that holds an int -/
theorem ex_gint {x : Str} {i : Int} {t : Tok} (hg : Gl X x) (hm : X.mg x = some (.int i t)) (hd : (x == ("__debug__" : Str)) = false) : EX X es os (.Name x pos) (dat (.int i)) os := fun F σ H Q ow sl q =>
  we_of (pe_glob (v := .int i) hg hm ⟨t, rfl⟩ hd) (q F H _ (Same.refl F) ow (cl_dat (.int i)))
theorem clv_int {F : Hp} {v : V} {i : Int} (h : Cl (dat (.int i)) F v) : v = .int i := by
  have := h.now
  cases this
  rfl
theorem clv_bool {F : Hp} {v : V} {i : Bool} (h : Cl (dat (.bool i)) F v) : v = .bl i := by
  have := h.now
  cases this
  rfl
theorem clv_str {F : Hp} {v : V} {i : Str} (h : Cl (dat (.str i)) F v) : v = .str i := by
  have := h.now
  cases this
  rfl
/-- by values: r gives a datum where the operands are φ and ψ -/
def R2X (X : Cx) (r : R2) (φ ψ : VP) (os : Os) (d : VP) : Prop := ∀ F H x y Q, Ow F os H → Cl φ F x → Cl ψ F y → (∀ F' H' v, Same F F' → Ow F' os H' → Cl d F' v → Q v H') → r x y H Q
theorem ex_bin {op : Operator} {r : R2} {φ ψ d : VP} (ho : OpR X (binaryOp op) r) (hr : R2X X r φ ψ os2 d) (ha : EX X es os a φ os1) (hb : EX X es os1 b ψ os2) : EX X es os (.BinOp a op b pos) d os2 := fun F σ H Q ow sl q =>
  we_of (pe_op ho pe_u pe_u) (ha F σ H _ ow sl fun F1 H1 x e1 o1 c1 => hb F1 σ H1 _ o1 (sl.mono e1) fun F2 H2 y e2 o2 c2 =>
    hr F2 H2 x y Q o2 (c1.mono e2) c2 fun F3 H3 v e3 o3 c3 => q F3 H3 v ((e1.trans e2).trans e3) o3 c3)
theorem r2_I {C : Int → Int → Prop} {g : Int → Int → Int} {i j : Int} (h : C i j) : R2X X (rI C fun i j => .int (g i j)) (dat (.int i)) (dat (.int j)) os (dat (.int (g i j))) := fun F H x y Q ow cx cy q =>
  ⟨i, j, clv_int cx, clv_int cy, h, q F H _ (Same.refl F) ow (cl_dat (.int _))⟩
theorem r2_I0 {g : Int → Int → Int} {i j : Int} : R2X X (rI0 fun i j => .int (g i j)) (dat (.int i)) (dat (.int j)) os (dat (.int (g i j))) := fun F H x y Q ow cx cy q =>
  ⟨i, j, clv_int cx, clv_int cy, q F H _ (Same.refl F) ow (cl_dat (.int _))⟩
theorem r2_B0 {g : Int → Int → Bool} {i j : Int} : R2X X (rI0 fun i j => .bl (g i j)) (dat (.int i)) (dat (.int j)) os (dat (.bool (g i j))) := fun F H x y Q ow cx cy q =>
  ⟨i, j, clv_int cx, clv_int cy, q F H _ (Same.refl F) ow (cl_dat (.bl _))⟩
theorem ex_add {i j : Int} (ha : EX X es os a (dat (.int i)) os1) (hb : EX X es os1 b (dat (.int j)) os2) : EX X es os (.BinOp a .Add b pos) (dat (.int (i + j))) os2 := ex_bin op_add r2_I0 ha hb
theorem ex_sub {i j : Int} (ha : EX X es os a (dat (.int i)) os1) (hb : EX X es os1 b (dat (.int j)) os2) : EX X es os (.BinOp a .Sub b pos) (dat (.int (i - j))) os2 := ex_bin op_sub r2_I0 ha hb
/-- a product: told by mulO, which is none where both factors are very great -/
def mulO (i j : Int) : Option Int := if i.natAbs.log2 + j.natAbs.log2 < 1000000 then some (i * j) else none
theorem ex_mul {i j m : Int} (hm : mulO i j = some m) (ha : EX X es os a (dat (.int i)) os1) (hb : EX X es os1 b (dat (.int j)) os2) : EX X es os (.BinOp a .Mult b pos) (dat (.int m)) os2 := by
  unfold mulO at hm
  split at hm
  · rename_i h
    cases hm
    exact ex_bin op_mulW (r2_I h) ha hb
  · cases hm
/-- a product with a written factor -/
theorem ex_mulL {i j : Int} (h : -(2 ^ 64) < i ∧ i < 2 ^ 64) (ha : EX X es os a (dat (.int i)) os1) (hb : EX X es os1 b (dat (.int j)) os2) : EX X es os (.BinOp a .Mult b pos) (dat (.int (i * j))) os2 := ex_bin op_mul (r2_I (.inl h)) ha hb
theorem ex_mulR {i j : Int} (h : -(2 ^ 64) < j ∧ j < 2 ^ 64) (ha : EX X es os a (dat (.int i)) os1) (hb : EX X es os1 b (dat (.int j)) os2) : EX X es os (.BinOp a .Mult b pos) (dat (.int (i * j))) os2 := ex_bin op_mul (r2_I (.inr h)) ha hb
/-- i // j, i % j: for a positive j below 2 ^ 9000 -/
def fdivO (i j : Int) : Option Int := if 0 < j ∧ j.natAbs.log2 < 9000 then some (i / j) else none
def modO (i j : Int) : Option Int := if 0 < j then some (i % j) else none
theorem ex_fdiv {i j m : Int} (hm : fdivO i j = some m) (ha : EX X es os a (dat (.int i)) os1) (hb : EX X es os1 b (dat (.int j)) os2) : EX X es os (.BinOp a .FloorDiv b pos) (dat (.int m)) os2 := by
  unfold fdivO at hm
  split at hm
  · rename_i h
    cases hm
    exact ex_bin op_fdivW (r2_I h) ha hb
  · cases hm
theorem ex_mod {i j m : Int} (hm : modO i j = some m) (ha : EX X es os a (dat (.int i)) os1) (hb : EX X es os1 b (dat (.int j)) os2) : EX X es os (.BinOp a .Mod b pos) (dat (.int m)) os2 := by
  unfold modO at hm
  split at hm
  · rename_i h
    cases hm
    exact ex_bin op_mod (r2_I (C := fun _ j => 0 < j) h) ha hb
  · cases hm
/-- i ** j -/
def powO (i j : Int) : Option Int := if 0 ≤ j ∧ (Builtin.Int.intBits i : Int) * j ≤ 2 ^ 27 then some (i ^ j.toNat) else none
theorem op_powW : OpR X (binaryOp .Pow) (rI (fun i j => 0 ≤ j ∧ (Builtin.Int.intBits i : Int) * j ≤ 2 ^ 27) fun i j => .int (i ^ j.toNat)) := opI fun _ _ _ _ _ _ _ hc q => pow_int hc.1 hc.2 q
theorem ex_pow {i j m : Int} (hm : powO i j = some m) (ha : EX X es os a (dat (.int i)) os1) (hb : EX X es os1 b (dat (.int j)) os2) : EX X es os (.BinOp a .Pow b pos) (dat (.int m)) os2 := by
  unfold powO at hm
  split at hm
  · rename_i h
    cases hm
    exact ex_bin op_powW (r2_I h) ha hb
  · cases hm
theorem ex_neg {i : Int} (ha : EX X es os a (dat (.int i)) os1) : EX X es os (.UnaryOp .USub a pos) (dat (.int (-i))) os1 := fun F σ H Q ow sl q =>
  we_of (pe_un un_neg pe_u) (ha F σ H _ ow sl fun F1 H1 x e1 o1 c1 => ⟨i, clv_int c1, q F1 H1 _ e1 o1 (cl_dat (.int _))⟩)
theorem ex_cmp {op : CmpOp} {r : R2} {φ ψ d : VP} (ho : OpR X (compareOp op) r) (hr : R2X X r φ ψ os2 d) (hm : behindInMarks op b = false) (ha : EX X es os a φ os1) (hb : EX X es os1 b ψ os2) : EX X es os (.Compare a [op] [b] pos) d os2 := fun F σ H Q ow sl q =>
  we_of (pe_cmpR ho pe_u pe_u hm) (ha F σ H _ ow sl fun F1 H1 x e1 o1 c1 => hb F1 σ H1 _ o1 (sl.mono e1) fun F2 H2 y e2 o2 c2 =>
    hr F2 H2 x y Q o2 (c1.mono e2) c2 fun F3 H3 v e3 o3 c3 => q F3 H3 v ((e1.trans e2).trans e3) o3 c3)
theorem tx_cmp {op : CmpOp} {r : R2} {φ ψ : VP} {k : Bool} (ho : OpR X (compareOp op) r) (hr : R2X X r φ ψ os2 (dat (.bool k))) (hm : behindInMarks op b = false) (ha : EX X es os a φ os1) (hb : EX X es os1 b ψ os2) : TX X es os (.Compare a [op] [b] pos) k os2 := fun F σ H Q ow sl q =>
  wt_of (pt_cmpR ho pe_u pe_u hm) (ha F σ H _ ow sl fun F1 H1 x e1 o1 c1 => hb F1 σ H1 _ o1 (sl.mono e1) fun F2 H2 y e2 o2 c2 =>
    hr F2 H2 x y _ o2 (c1.mono e2) c2 fun F3 H3 v e3 o3 c3 => ⟨k, clv_bool c3, q F3 H3 ((e1.trans e2).trans e3) o3⟩)
theorem r2_lt {i j : Int} : R2X X (rI0 fun i j => .bl (decide (i < j))) (dat (.int i)) (dat (.int j)) os (dat (.bool (decide (i < j)))) := r2_B0
theorem r2_le {i j : Int} : R2X X (rI0 fun i j => .bl (decide (i ≤ j))) (dat (.int i)) (dat (.int j)) os (dat (.bool (decide (i ≤ j)))) := r2_B0
theorem r2_gt {i j : Int} : R2X X (rI0 fun i j => .bl (decide (j < i))) (dat (.int i)) (dat (.int j)) os (dat (.bool (decide (j < i)))) := r2_B0
theorem shaped_lay {d : PyData} (h : SeqAt.shaped d = true) : d.hasDict = false := by
  unfold SeqAt.shaped at h
  rw [Bool.and_eq_true] at h
  exact nod_lay d h.1
theorem r2_eqI {i j : Int} : R2X X rEq (dat (.int i)) (dat (.int j)) os (dat (.bool (decide (i = j)))) := fun F H x y Q ow cx cy q => by
  rw [clv_int cx, clv_int cy]
  refine ⟨rfl, ?_⟩
  rw [dec_int, Bool.beq_eq_decide_eq]
  exact q F H _ (Same.refl F) ow (cl_dat (.bl _))
theorem r2_neI {i j : Int} : R2X X rNe (dat (.int i)) (dat (.int j)) os (dat (.bool (!decide (i = j)))) := fun F H x y Q ow cx cy q => by
  rw [clv_int cx, clv_int cy]
  refine ⟨rfl, ?_⟩
  rw [dec_int, Bool.beq_eq_decide_eq]
  exact q F H _ (Same.refl F) ow (cl_dat (.bl _))
theorem r2_eqS {i j : Str} : R2X X rEq (dat (.str i)) (dat (.str j)) os (dat (.bool (decide (i = j)))) := fun F H x y Q ow cx cy q => by
  rw [clv_str cx, clv_str cy]
  refine ⟨rfl, ?_⟩
  have e : decide (V.str i = V.str j) = decide (i = j) := by simp only [V.str.injEq]
  rw [e]
  exact q F H _ (Same.refl F) ow (cl_dat (.bl _))
theorem r2_neS {i j : Str} : R2X X rNe (dat (.str i)) (dat (.str j)) os (dat (.bool (!decide (i = j)))) := fun F H x y Q ow cx cy q => by
  rw [clv_str cx, clv_str cy]
  refine ⟨rfl, ?_⟩
  have e : decide (V.str i = V.str j) = decide (i = j) := by simp only [V.str.injEq]
  rw [e]
  exact q F H _ (Same.refl F) ow (cl_dat (.bl _))
/-- a < b < c -/
theorem ex_chain {op op' : CmpOp} {r r' : R2} {φ ψ χ : VP} {k k' : Bool} (ho : OpR X (compareOp op) r) (ho' : OpR X (compareOp op') r') (hr : R2X X r φ ψ os2 (dat (.bool k))) (hr' : R2X X r' ψ χ os3 (dat (.bool k'))) (h23 : k = false → os2 = os3)
    (ha : EX X es os a φ os1) (hb : EX X es os1 b ψ os2) (hc : k = true → EX X es os2 c χ os3) (hlm : lastMarks [op, op'] [b, c] = false := by rfl) : EX X es os (.Compare a [op, op'] [b, c] pos) (dat (.bool (k && k'))) os3 := fun F σ H Q ow sl q =>
  we_of (pe_chain ho ho' pe_u pe_u pe_u hlm) (ha F σ H _ ow sl fun F1 H1 x e1 o1 c1 => hb F1 σ H1 _ o1 (sl.mono e1) fun F2 H2 y e2 o2 c2 =>
    hr F2 H2 x y _ o2 (c1.mono e2) c2 fun F3 H3 v e3 o3 c3 => ⟨k, clv_bool c3, by
      have e := (e1.trans e2).trans e3
      cases k with
      | true =>
        rw [if_pos rfl]
        refine hc rfl F3 σ H3 _ o3 (sl.mono e) fun F4 H4 z e4 o4 c4 => ?_
        exact hr' F4 H4 y z Q o4 ((c2.mono e3).mono e4) c4 fun F5 H5 v e5 o5 c5 => q F5 H5 v ((e.trans e4).trans e5) o5 (by simpa using c5)
      | false =>
        rw [if_neg Bool.false_ne_true]
        exact q F3 H3 _ e (h23 rfl ▸ o3) (cl_dat (.bl _))⟩)
theorem tx_val {e : Expr} {k : Bool} (h : EX X es os e (dat (.bool k)) os1) (he : ∀ whole, isTrue e X.env whole = (do let v ← whole; standAt e.pos; holding [v] (truthy v)) := by intro _; rfl) : TX X es os e k os1 := fun F σ H Q ow sl q =>
  wt_of (pt_val pe_u he) (h F σ H _ ow sl fun F1 H1 x e1 o1 c1 => ⟨k, clv_bool c1, q F1 H1 e1 o1⟩)
theorem tx_not {k : Bool} (h : TX X es os a k os1) : TX X es os (.UnaryOp .Not a pos) (!k) os1 := fun F σ H Q ow sl q =>
  wt_of (pt_not pt_u) (h F σ H _ ow sl fun F1 H1 e1 o1 => q F1 H1 e1 o1)
theorem WX.tx {e : Expr} {k : Bool} (h : WX X es os e k os1) : TX X es os e k os1 := fun F σ H Q ow sl q => wt_of (PW.pt pw_u) (h F σ H Q ow sl q)
theorem wx_and1 {k : Bool} (h : TX X es os a k os1) : WX X es os (.BoolOp .And [a] pos) k os1 := fun F σ H Q ow sl q => ww_of (pw_and1 pt_u) (h F σ H Q ow sl q)
theorem wx_or1 {k : Bool} (h : TX X es os a k os1) : WX X es os (.BoolOp .Or [a] pos) k os1 := fun F σ H Q ow sl q => ww_of (pw_or1 pt_u) (h F σ H Q ow sl q)
theorem wx_and {rest : List Expr} {k l m : Bool} (h1 : TX X es os a k os1) (h2 : k = true → WX X es os1 (.BoolOp .And (b :: rest) pos) l os2) (hf : k = false → os1 = os2) (hm : (k && l) = m) : WX X es os (.BoolOp .And (a :: b :: rest) pos) m os2 := fun F σ H Q ow sl q =>
  ww_of (pw_and pt_u pw_u) (h1 F σ H _ ow sl fun F1 H1 e1 o1 => by
    cases k with
    | true =>
      rw [if_pos rfl]
      exact h2 rfl F1 σ H1 Q o1 (sl.mono e1) fun F2 H2 e2 o2 => by rw [← hm] at q; exact q F2 H2 (e1.trans e2) o2
    | false =>
      rw [if_neg Bool.false_ne_true]
      rw [← hm] at q
      exact q F1 H1 e1 (hf rfl ▸ o1))
theorem wx_or {rest : List Expr} {k l m : Bool} (h1 : TX X es os a k os1) (h2 : k = false → WX X es os1 (.BoolOp .Or (b :: rest) pos) l os2) (hf : k = true → os1 = os2) (hm : (k || l) = m) : WX X es os (.BoolOp .Or (a :: b :: rest) pos) m os2 := fun F σ H Q ow sl q =>
  ww_of (pw_or pt_u pw_u) (h1 F σ H _ ow sl fun F1 H1 e1 o1 => by
    cases k with
    | false =>
      rw [if_neg Bool.false_ne_true]
      exact h2 rfl F1 σ H1 Q o1 (sl.mono e1) fun F2 H2 e2 o2 => by rw [← hm] at q; exact q F2 H2 (e1.trans e2) o2
    | true =>
      rw [if_pos rfl]
      rw [← hm] at q
      exact q F1 H1 e1 (hf rfl ▸ o1))
/-- as values -/
theorem ex_one {op} {φ : VP} (h : EX X es os a φ os1) : EX X es os (.BoolOp op [a] pos) φ os1 := fun F σ H Q ow sl q => we_of (pe_one pe_u) (h F σ H Q ow sl q)
theorem ex_and {rest : List Expr} {k l m : Bool} (h1 : EX X es os a (dat (.bool k)) os1) (h2 : k = true → EX X es os1 (.BoolOp .And (b :: rest) pos) (dat (.bool l)) os2) (hf : k = false → os1 = os2) (hm : (k && l) = m) :
    EX X es os (.BoolOp .And (a :: b :: rest) pos) (dat (.bool m)) os2 := fun F σ H Q ow sl q =>
  we_of (pe_and pe_u pe_u) (h1 F σ H _ ow sl fun F1 H1 x e1 o1 c1 => ⟨k, clv_bool c1, by
    subst hm
    cases k with
    | true =>
      rw [if_pos rfl]
      exact h2 rfl F1 σ H1 Q o1 (sl.mono e1) fun F2 H2 v e2 o2 c2 => q F2 H2 v (e1.trans e2) o2 (by simpa using c2)
    | false =>
      rw [if_neg Bool.false_ne_true]
      exact q F1 H1 _ e1 (hf rfl ▸ o1) (cl_dat (.bl _))⟩)
theorem ex_not {k : Bool} (h : EX X es os a (dat (.bool k)) os1) : EX X es os (.UnaryOp .Not a pos) (dat (.bool (!k))) os1 := fun F σ H Q ow sl q =>
  we_of (pe_not pe_u) (h F σ H _ ow sl fun F1 H1 x e1 o1 c1 => ⟨k, clv_bool c1, q F1 H1 _ e1 o1 (cl_dat (.bl _))⟩)
theorem ex_if {k : Bool} {φ : VP} (hc : TX X es os c k os1) (ha : k = true → EX X es os1 a φ os2) (hb : k = false → EX X es os1 b φ os2) : EX X es os (.IfExp c a b pos) φ os2 := fun F σ H Q ow sl q =>
  we_of (pe_ifExp pt_u pe_u pe_u) (hc F σ H _ ow sl fun F1 H1 e1 o1 => by
    cases k with
    | true =>
      rw [if_pos rfl]
      exact ha rfl F1 σ H1 Q o1 (sl.mono e1) fun F2 H2 v e2 => q F2 H2 v (e1.trans e2)
    | false =>
      rw [if_neg Bool.false_ne_true]
      exact hb rfl F1 σ H1 Q o1 (sl.mono e1) fun F2 H2 v e2 => q F2 H2 v (e1.trans e2))
theorem ax_nil : AX X es os [] [] os := fun F σ H Q ow sl q => wa_of pa_nil (q F H [] (Same.refl F) ow rfl)
theorem ax_cons {as : List Expr} {φ : VP} {φs : List VP} (ha : EX X es os a φ os1) (hr : AX X es os1 as φs os2) (hs : starEach (a :: as) X.env = (false, eval a X.env) :: starEach as X.env := by rfl) : AX X es os (a :: as) (φ :: φs) os2 := fun F σ H Q ow sl q =>
  wa_of (pa_cons pe_u pa_u hs) (ha F σ H _ ow sl fun F1 H1 x e1 o1 c1 => hr F1 σ H1 _ o1 (sl.mono e1) fun F2 H2 vs e2 o2 c2 => q F2 H2 _ (e1.trans e2) o2 ⟨x, vs, rfl, c1.mono e2, c2⟩)
theorem cla_dq {F : Hp} : ∀ {ds : List PyData} {vs : List V}, ClA (ds.map dat) F vs → DqAll F vs ds
  | [], _, h => by
    have e : _ = [] := h
    rw [e]
    exact .nil
  | d :: ds, _, ⟨v, r, e, h1, h2⟩ => by
    rw [e]
    exact .cons h1.now (cla_dq h2)
theorem ex_tup {as : List Expr} {x1} {ds : List PyData} (h : AX X es os as (ds.map dat) os1) (hl : ds.length ≤ sizeLine := by decide) : EX X es os (.Tuple as x1 pos) (dat (.tuple ds)) os1 := fun F σ H Q ow sl q =>
  we_of (pe_tup pa_u) (h F σ H _ ow sl fun F1 H1 vs e1 o1 c1 => by
    have hd := cla_dq c1
    refine ⟨by rw [dqall_len hd]; exact hl, fun p hp => ?_⟩
    have fp := o1.ex.free hp
    exact q _ _ _ (e1.trans (same_upd fp)) (o1.frozen hp) (cl_dat (.tup upd_same (dqall_mono (same_upd fp) _ _ hd))))
theorem en_lst {as : List Expr} {ds : List PyData} (h : AX X es os as (ds.map dat) os1) (hl : ds.length ≤ sizeLine := by decide) : EN X es os (.List as pos) (ol ds) os1 := fun F σ H Q ow sl q =>
  we_of (pe_lst pa_u) (h F σ H _ ow sl fun F1 H1 vs e1 o1 c1 => by
    have hd := cla_dq c1
    refine ⟨by rw [dqall_len hd]; exact hl, fun p hp => ?_⟩
    exact q _ _ _ e1 (o1.new hp fun G g => ⟨vs, rfl, dqall_mono g _ _ hd⟩))
/-- of every value of φ (its object owned or not): it is read as a list of ds -/
def RdL (X : Cx) (φ : VP) (os : Os) (ds : List PyData) : Prop := ∀ F H v, Ow F os H → Cl φ F v → ∃ a vs, v = .ref a ∧ SqL X.K H a vs ∧ DqAll F vs ds
def RdT (φ : VP) (ds : List PyData) : Prop := ∀ F v, Cl φ F v → ∃ a vs, v = .ref a ∧ F a = some (.tup vs) ∧ DqAll F vs ds
theorem rdl_dat {ds : List PyData} : RdL X (dat (.list ds)) os ds := fun F H v ow c => by
  have h := c.now
  cases h with
  | lst h1 h2 => exact ⟨_, _, rfl, .of (ow.ex _ _ h1), h2⟩
theorem rdl_own {p : Addr} {ds : List PyData} (k : Nat) (h : os[k]? = some (p, ol ds)) : RdL X (own p) os ds := fun F H v ow c => by
  obtain ⟨_, vs, ho, hv⟩ := (ow.perm (perm_at h)).atL
  exact ⟨p, vs, c.now, .of ho, hv⟩
/-- the script -/
def scr (K : PySem.W.Frag) (ns : List Int) : VP := fun F v => ∃ a, v = .ref a ∧ SqL K F a (ns.map V.int)
theorem rdl_scr {ns : List Int} : RdL X (scr X.K ns) os (ns.map PyData.int) := fun F H v ow c => by
  obtain ⟨a, rfl, h⟩ := c.now
  exact ⟨a, _, rfl, ow.ex.seq h, dqall_ints ns⟩
theorem rdt_dat {ds : List PyData} : RdT (dat (.tuple ds)) ds := fun F v c => by
  have h := c.now
  cases h with
  | tup h1 h2 => exact ⟨_, _, rfl, h1, h2⟩
/-- xs[i], i of any sign -/
def idx {α : Type} (xs : List α) (i : Int) : Option α := atI xs i
theorem atI_map {α β : Type} (f : α → β) {xs : List α} {i : Int} {v : α} (h : atI xs i = some v) : atI (xs.map f) i = some (f v) := by
  unfold atI at h ⊢
  rw [List.length_map]
  cases e : ixN xs.length i with
  | none => rw [e] at h; cases h
  | some j =>
    rw [e] at h
    have h' : xs[j]? = some v := h
    show (xs.map f)[j]? = some (f v)
    rw [List.getElem?_map, h']
    rfl
theorem atI_dq {F : Hp} {vs : List V} {ds : List PyData} {i : Int} {d : PyData} (h : DqAll F vs ds) (k : atI ds i = some d) : ∃ v, atI vs i = some v ∧ Dq F v d := by
  unfold atI at k ⊢
  rw [dqall_len h]
  cases e : ixN ds.length i with
  | none => rw [e] at k; cases k
  | some j =>
    rw [e] at k
    exact dqall_get' h k
theorem ex_ixL {φ : VP} {ds : List PyData} {i : Int} {d : PyData} (hr : RdL X φ os2 ds) (hk : atI ds i = some d) (ha : EX X es os a φ os1) (hb : EX X es os1 b (dat (.int i)) os2) (hp : PlainIx b := by exact fun _ _ => rfl) : EX X es os (.Subscript a b pos) (dat d) os2 := fun F σ H Q ow sl q =>
  we_of (pe_ix ix_list pe_u pe_u hp) (ha F σ H _ ow sl fun F1 H1 x e1 o1 c1 => hb F1 σ H1 _ o1 (sl.mono e1) fun F2 H2 y e2 o2 c2 => by
    obtain ⟨p, vs, rfl, hs, hv⟩ := hr F2 H2 x o2 (c1.mono e2)
    obtain ⟨v, hi, hd⟩ := atI_dq hv hk
    exact ⟨p, vs, i, v, rfl, clv_int c2, hs, hi, q F2 H2 v (e1.trans e2) o2 (cl_dat hd)⟩)
theorem ex_ixT {φ : VP} {ds : List PyData} {i : Int} {d : PyData} (hr : RdT φ ds) (hk : atI ds i = some d) (ha : EX X es os a φ os1) (hb : EX X es os1 b (dat (.int i)) os2) (hp : PlainIx b := by exact fun _ _ => rfl) : EX X es os (.Subscript a b pos) (dat d) os2 := fun F σ H Q ow sl q =>
  we_of (pe_ix ix_tup pe_u pe_u hp) (ha F σ H _ ow sl fun F1 H1 x e1 o1 c1 => hb F1 σ H1 _ o1 (sl.mono e1) fun F2 H2 y e2 o2 c2 => by
    obtain ⟨p, vs, rfl, hs, hv⟩ := hr F2 x (c1.mono e2)
    obtain ⟨v, hi, hd⟩ := atI_dq hv hk
    exact ⟨p, vs, i, v, rfl, clv_int c2, .of (o2.ex _ _ hs), hi, q F2 H2 v (e1.trans e2) o2 (cl_dat hd)⟩)
end
end Z
namespace Z
open PySem PySem.Spec PyProof.Rows L2
structure FnG (P : Program) (w : World) (K : PySem.W.Frag) (mg : Str → Option Value) (base : Heap) (C : CXT) (k : Nat) (f : Addr) (fd : FuncData) (ps : List Str) (sp : Sp) : Prop where
  len : ∀ vs H Q E, sp vs H Q E → vs.length = ps.length
  run : ∀ (A : Around) (outer : List Env) (s : Shared) (H : Hp) (args : Args) (us : List Value) (vs : List V) (Q : VK) (E : XK), A.guards = some [] → Room k A →
    Env0 P w K mg base A outer s H → BindsTo s fd args (ps.zip us) → Vals vs us → sp vs H Q E → codeAny (model P w) A (.call (.ref f) args) (CR C outer P w H s Q E) s
section
variable {P : Program} {w : World} {K : PySem.W.Frag} {mg : Str → Option Value} {base : Heap} {C : CXT}
theorem FnG.mono {j k : Nat} {f : Addr} {fd : FuncData} {ps : List Str} {sp : Sp} (F : FnG P w K mg base C j f fd ps sp) (h : j ≤ k) : FnG P w K mg base C k f fd ps sp :=
  ⟨F.len, fun A outer s H args us vs Q E hg hr => F.run A outer s H args us vs Q E hg (hr.mono h)⟩
/-- the body of a def is looked at once -/
theorem fun_ok {x qual : Str} {st : Stmt} {f : Addr} {fd : FuncData} {N ps : List Str} {k : Nat} {sp : Sp} (G : Fun K x qual st f fd) (S : FnScope N ps (defScope st)) (len : ∀ vs H Q E, sp vs H Q E → vs.length = ps.length)
    (body : ∀ (cdv : Value) (A : Around) (outer : List Env) (s : Shared) (H : Hp) (vs : List V) (Q : VK) (E : XK), A.guards = some [] → Room k (A.deeper (envOfC qual (defScope st) s.heap.objs.size f cdv)) → sp vs H Q E →
      WPs (cxOf C P w K mg base N qual (defScope st) f cdv A outer s H E) (defBody st) { nx := fun _ H' => Q .non H', rt := Q } (start N vs) H) : FnG P w K mg base C (k + 1) f fd ps sp := by
  obtain ⟨oc, od, kV, doc, pm, an, cdv, ct, osl, rfl, lk, hcd⟩ := G.ex
  refine ⟨len, ?_⟩
  intro A outer s H args us vs Q E hg hr e0 hb r hsp
  have inh : K.In s.heap := e0.mod.kin.keeps fun b o q => (e0.bs b o q).1
  have nol : s.heap.NoLimit := e0.mod.nolimit.keeps fun b o q => (e0.bs b o q).1
  refine codeAny_call_function hr.depth (inh _ _ lk) rfl S.co S.gen rfl (PySem.W.codeRec_of inh hcd) (hb _ _ _ _ ?_)
  refine wpAny_newFunctionEnv_cells S.kind ?_ ?_
  · rintro ⟨n, v⟩ hy
    rcases S.par n (List.of_mem_zip hy).1 with q | q
    · exact .inl q
    · exact .inr ⟨q, PySem.W.cellsFrom_some _ _ _ (.inl q)⟩
  · intro env he s1 x
    subst he
    refine ⟨nol.keeps x.toInCall.keep, codeAny_func ?_⟩
    have I := inv_start (CX := C) (P := P) (w := w) (E := E) S hr.hd e0 (len _ _ _ _ hsp) r x
    refine wpAny_mono (body cdv A outer s H vs Q E hg (hr.deeper _) hsp [] s1 I) ?_ fun _ _ z => z
    intro fl s' z
    cases fl with
    | ret u =>
      obtain ⟨v, σ', H', J, rv, q⟩ := z
      exact ⟨v, H', J.os, J.bare, J.base, J.hok, rv, q⟩
    | next =>
      obtain ⟨σ', H', J, q⟩ := z
      exact ⟨.non, H', J.os, J.bare, J.base, J.hok, rfl, q⟩
    | brk =>
      obtain ⟨_, _, _, q⟩ := z
      exact q.elim
    | cont =>
      obtain ⟨_, _, _, q⟩ := z
      exact q.elim
end
def visB (sc : Scope) (x : Str) : Bool := match sc.names.lookup x with
  | some .local => true
  | some .cell => true
  | some .free => true
  | _ => false
def locB (sc : Scope) (x : Str) : Bool := match sc.names.lookup x with
  | some .local => true
  | some .cell => true
  | _ => false
def glB (sc : Scope) (x : Str) : Bool := match sc.names.lookup x with
  | some .globalImplicit => true
  | _ => false
def dunB (x : Str) : Bool := !(x == ("__debug__" : Str)) && !(x == ("__classdict__" : Str)) && !(x == ("__name__" : Str))
theorem vis_of {sc : Scope} {x : Str} (h : visB sc x = true) : Vis sc x := by
  unfold visB at h
  split at h
  · exact .inl (by assumption)
  · exact .inr (.inl (by assumption))
  · exact .inr (.inr (by assumption))
  · cases h
theorem loc_of {sc : Scope} {x : Str} (h : locB sc x = true) : Loc sc x := by
  unfold locB at h
  split at h
  · exact .inl (by assumption)
  · exact .inr (by assumption)
  · cases h
/-- in X: the i-th name stands at its slot and is seen; the j-th global one is one -/
structure Bd (X : Cx) (N : List Str) (V G : List Str) (k : Nat) : Prop where
  hN : X.N = N
  nd : N.Nodup
  calm : X.calm = true
  gd : X.A.guards = some []
  room : Room k X.A
  vis : ∀ x ∈ V, Vis X.env.scope x ∧ dunB x = true
  gl : ∀ x ∈ G, Gl X x ∧ dunB x = true
theorem dun_d {x : Str} (h : dunB x = true) : (x == ("__debug__" : Str)) = false := by
  unfold dunB at h
  simp only [Bool.and_eq_true, Bool.not_eq_true'] at h
  exact h.1.1
theorem dun_c {x : Str} (h : dunB x = true) : (x == ("__classdict__" : Str)) = false := by
  unfold dunB at h
  simp only [Bool.and_eq_true, Bool.not_eq_true'] at h
  exact h.1.2
theorem dun_n {x : Str} (h : dunB x = true) : x ≠ "__name__" := by
  unfold dunB at h
  simp only [Bool.and_eq_true, Bool.not_eq_true', beq_eq_false_iff_ne, ne_eq] at h
  exact h.2
/-- the names of a body, all at once -/
def namB (sc : Scope) (V G : List Str) : Bool := (V.all fun x => visB sc x && dunB x) && (G.all fun x => glB sc x && dunB x)
theorem nam_vis {sc : Scope} {V G : List Str} (h : namB sc V G = true) : ∀ x ∈ V, Vis sc x ∧ dunB x = true := fun x hx => by
  unfold namB at h
  rw [Bool.and_eq_true, List.all_eq_true] at h
  have := h.1 x hx
  rw [Bool.and_eq_true] at this
  exact ⟨vis_of this.1, this.2⟩
theorem nam_gl {sc : Scope} {V G : List Str} (h : namB sc V G = true) : ∀ x ∈ G, sc.names.lookup x = some .globalImplicit ∧ dunB x = true := fun x hx => by
  unfold namB at h
  rw [Bool.and_eq_true, List.all_eq_true, List.all_eq_true] at h
  have := h.2 x hx
  rw [Bool.and_eq_true] at this
  refine ⟨?_, this.2⟩
  have q := this.1
  unfold glB at q
  split at q
  · assumption
  · cases q
section
variable {X : Cx} {es : List Slot} {os os1 os2 os3 : Os} {N V G : List Str} {k : Nat} {x : Str} {p pos : Pos} {e : Expr} {as : List Expr}
theorem ex_v {i j : Nat} {φ : VP} (B : Bd X N V G k) (hi : N[i]? = some x) (hj : V[j]? = some x) (h : es[i]? = some (sl φ)) : EX X es os (.Name x pos) φ os :=
  let ⟨a, b⟩ := B.vis x (List.mem_of_getElem? hj)
  ex_name (B.hN ▸ hi) a (dun_d b) (dun_c b) h
theorem ex_g {j : Nat} {i : Int} {t : Tok} (B : Bd X N V G k) (hj : G[j]? = some x) (hm : X.mg x = some (.int i t)) : EX X es os (.Name x pos) (dat (.int i)) os :=
  let ⟨a, b⟩ := B.gl x (List.mem_of_getElem? hj)
  ex_gint a hm (dun_d b)
def RCX (r : List L2.V → Hp → VK → Prop) (φs : List VP) (os : Os) (d : VP) (os' : Os) : Prop := ∀ F H vs Q, Ow F os H → ClA φs F vs → (∀ F' H' v, Same F F' → Ow F' os' H' → Cl d F' v → Q v H') → r vs H Q
def RCN (r : List L2.V → Hp → VK → Prop) (φs : List VP) (os : Os) (n : Ent) (os' : Os) : Prop := ∀ F H vs Q, Ow F os H → ClA φs F vs → (∀ F' H' p, Same F F' → Ow F' ((p, n) :: os') H' → Q (.ref p) H') → r vs H Q
theorem ex_fn {id : String} {r : List L2.V → Hp → VK → Prop} {φs : List VP} {d : VP} {j : Nat} (B : Bd X N V G k) (hj : G[j]? = some x) (hm : X.mg x = none) (hv : bootBuiltins x = some (.builtin id)) (hc : CallR X (.builtin id) r) (hr : RCX r φs os1 d os2)
    (ha : AX X es os (e :: as) φs os1) (he : starEach (e :: as) X.env = (false, eval e X.env) :: starEach as X.env := by rfl) (hpl : (backTo pos (starEach as X.env)).any (·.1) = false := by rfl) : EX X es os (.Call (.Name x p) (e :: as) [] pos) d os2 := fun F σ H Q ow sl q =>
  let ⟨a, b⟩ := B.gl x (List.mem_of_getElem? hj)
  we_of (pe_callB hc a hm hv pa_u (dun_n b) (dun_d b) he hpl) (ha F σ H _ ow sl fun F1 H1 vs e1 o1 c1 => hr F1 H1 vs Q o1 c1 fun F2 H2 v e2 => q F2 H2 v (e1.trans e2))
theorem en_fn {id : String} {r : List L2.V → Hp → VK → Prop} {φs : List VP} {n : Ent} {j : Nat} (B : Bd X N V G k) (hj : G[j]? = some x) (hm : X.mg x = none) (hv : bootBuiltins x = some (.builtin id)) (hc : CallR X (.builtin id) r) (hr : RCN r φs os1 n os2)
    (ha : AX X es os (e :: as) φs os1) (he : starEach (e :: as) X.env = (false, eval e X.env) :: starEach as X.env := by rfl) (hpl : (backTo pos (starEach as X.env)).any (·.1) = false := by rfl) : EN X es os (.Call (.Name x p) (e :: as) [] pos) n os2 := fun F σ H Q ow sl q =>
  let ⟨a, b⟩ := B.gl x (List.mem_of_getElem? hj)
  we_of (pe_callB hc a hm hv pa_u (dun_n b) (dun_d b) he hpl) (ha F σ H _ ow sl fun F1 H1 vs e1 o1 c1 => hr F1 H1 vs Q o1 c1 fun F2 H2 v e2 => q F2 H2 v (e1.trans e2))
theorem ex_ty {T : String} {r : List L2.V → Hp → VK → Prop} {φs : List VP} {d : VP} {j : Nat} (B : Bd X N V G k) (hj : G[j]? = some x) (hm : X.mg x = none) (hv : bootBuiltins x = some (.type T)) (hc : CallR X (.type T) r) (hr : RCX r φs os1 d os2)
    (ha : AX X es os (e :: as) φs os1) (he : starEach (e :: as) X.env = (false, eval e X.env) :: starEach as X.env := by rfl) (hpl : (backTo pos (starEach as X.env)).any (·.1) = false := by rfl) : EX X es os (.Call (.Name x p) (e :: as) [] pos) d os2 := fun F σ H Q ow sl q =>
  let ⟨a, b⟩ := B.gl x (List.mem_of_getElem? hj)
  we_of (pe_callTy hc a hm hv pa_u (dun_n b) (dun_d b) he hpl) (ha F σ H _ ow sl fun F1 H1 vs e1 o1 c1 => hr F1 H1 vs Q o1 c1 fun F2 H2 v e2 => q F2 H2 v (e1.trans e2))
theorem en_ty {T : String} {r : List L2.V → Hp → VK → Prop} {φs : List VP} {n : Ent} {j : Nat} (B : Bd X N V G k) (hj : G[j]? = some x) (hm : X.mg x = none) (hv : bootBuiltins x = some (.type T)) (hc : CallR X (.type T) r) (hr : RCN r φs os1 n os2)
    (ha : AX X es os (e :: as) φs os1) (he : starEach (e :: as) X.env = (false, eval e X.env) :: starEach as X.env := by rfl) (hpl : (backTo pos (starEach as X.env)).any (·.1) = false := by rfl) : EN X es os (.Call (.Name x p) (e :: as) [] pos) n os2 := fun F σ H Q ow sl q =>
  let ⟨a, b⟩ := B.gl x (List.mem_of_getElem? hj)
  we_of (pe_callTy hc a hm hv pa_u (dun_n b) (dun_d b) he hpl) (ha F σ H _ ow sl fun F1 H1 vs e1 o1 c1 => hr F1 H1 vs Q o1 c1 fun F2 H2 v e2 => q F2 H2 v (e1.trans e2))
theorem cla1 {φ : VP} {F : Hp} {vs : List L2.V} (h : ClA [φ] F vs) : ∃ v, vs = [v] ∧ Cl φ F v := by
  obtain ⟨v, r, e, h1, h2⟩ := h
  have e2 : r = [] := h2
  subst e2
  exact ⟨v, e, h1⟩
theorem cla2 {φ ψ : VP} {F : Hp} {vs : List L2.V} (h : ClA [φ, ψ] F vs) : ∃ v u, vs = [v, u] ∧ Cl φ F v ∧ Cl ψ F u := by
  obtain ⟨v, r, e, h1, h2⟩ := h
  obtain ⟨u, e2, h3⟩ := cla1 h2
  subst e2
  exact ⟨v, u, e, h1, h3⟩
theorem rc_abs {i : Int} : RCX (fun xs H Q => ∃ i, xs = [L2.V.int i] ∧ Q (.int (if i < 0 then -i else i)) H) [dat (.int i)] os (dat (.int (if i < 0 then -i else i))) os := fun F H vs Q ow c q => by
  obtain ⟨v, rfl, h⟩ := cla1 c
  exact ⟨i, by rw [clv_int h], q F H _ (Same.refl F) ow (cl_dat (.int _))⟩
theorem rc_max {i j : Int} : RCX (fun xs H Q => ∃ i j, xs = [L2.V.int i, .int j] ∧ Q (.int (if j > i then j else i)) H) [dat (.int i), dat (.int j)] os (dat (.int (if j > i then j else i))) os := fun F H vs Q ow c q => by
  obtain ⟨v, u, rfl, h, h2⟩ := cla2 c
  exact ⟨i, j, by rw [clv_int h, clv_int h2], q F H _ (Same.refl F) ow (cl_dat (.int _))⟩
theorem rc_min {i j : Int} : RCX (fun xs H Q => ∃ i j, xs = [L2.V.int i, .int j] ∧ Q (.int (if j < i then j else i)) H) [dat (.int i), dat (.int j)] os (dat (.int (if j < i then j else i))) os := fun F H vs Q ow c q => by
  obtain ⟨v, u, rfl, h, h2⟩ := cla2 c
  exact ⟨i, j, by rw [clv_int h, clv_int h2], q F H _ (Same.refl F) ow (cl_dat (.int _))⟩
theorem rc_intI {i : Int} : RCX (fun xs H Q => (∃ i, xs = [L2.V.int i] ∧ Q (.int i) H) ∨ ∃ k, xs = [.bl k] ∧ Q (.int (if k then 1 else 0)) H) [dat (.int i)] os (dat (.int i)) os := fun F H vs Q ow c q => by
  obtain ⟨v, rfl, h⟩ := cla1 c
  exact .inl ⟨i, by rw [clv_int h], q F H _ (Same.refl F) ow (cl_dat (.int _))⟩
theorem rc_intB {i : Bool} : RCX (fun xs H Q => (∃ i, xs = [L2.V.int i] ∧ Q (.int i) H) ∨ ∃ k, xs = [.bl k] ∧ Q (.int (if k then 1 else 0)) H) [dat (.bool i)] os (dat (.int (if i then 1 else 0))) os := fun F H vs Q ow c q => by
  obtain ⟨v, rfl, h⟩ := cla1 c
  exact .inr ⟨i, by rw [clv_bool h], q F H _ (Same.refl F) ow (cl_dat (.int _))⟩
theorem rc_lenL {φ : VP} {ds : List PyData} (hr : RdL X φ os ds) : RCX (fun xs H Q => ∃ p ys, xs = [L2.V.ref p] ∧ (SqL X.K H p ys ∨ SqT X.K H p ys) ∧ Q (.int ys.length) H) [φ] os (dat (.int (ds.length : Int))) os := fun F H vs Q ow c q => by
  obtain ⟨v, rfl, h⟩ := cla1 c
  obtain ⟨a, us, rfl, h1, h2⟩ := hr F H v ow h
  exact ⟨a, us, rfl, .inl h1, by rw [dqall_len h2]; exact q F H _ (Same.refl F) ow (cl_dat (.int _))⟩
theorem rc_lenT {φ : VP} {ds : List PyData} (hr : RdT φ ds) : RCX (fun xs H Q => ∃ p ys, xs = [L2.V.ref p] ∧ (SqL X.K H p ys ∨ SqT X.K H p ys) ∧ Q (.int ys.length) H) [φ] os (dat (.int (ds.length : Int))) os := fun F H vs Q ow c q => by
  obtain ⟨v, rfl, h⟩ := cla1 c
  obtain ⟨a, us, rfl, h1, h2⟩ := hr F v h
  exact ⟨a, us, rfl, .inr (.of (ow.ex _ _ h1)), by rw [dqall_len h2]; exact q F H _ (Same.refl F) ow (cl_dat (.int _))⟩
theorem rc_sum {φ : VP} {ns : List Int} (hr : RdL X φ os (ns.map PyData.int)) : RCX (rSum X.K) [φ] os (dat (.int ns.sum)) os := fun F H vs Q ow c q => by
  obtain ⟨v, rfl, h⟩ := cla1 c
  obtain ⟨a, us, rfl, h1, h2⟩ := hr F H v ow h
  have e := dqall_of_ints ns h2
  subst e
  exact ⟨a, ns, rfl, h1, q F H _ (Same.refl F) ow (cl_dat (.int _))⟩
theorem rc_all {φ : VP} {bs : List Bool} (hr : RdL X φ os (bs.map PyData.bool)) : RCX (rAll X.K) [φ] os (dat (.bool (bs.all id))) os := fun F H vs Q ow c q => by
  obtain ⟨v, rfl, h⟩ := cla1 c
  obtain ⟨a, us, rfl, h1, h2⟩ := hr F H v ow h
  have e := dqall_of_bools bs h2
  subst e
  exact ⟨a, bs, rfl, h1, q F H _ (Same.refl F) ow (cl_dat (.bl _))⟩
theorem rc_tupL {φ : VP} {ds : List PyData} (hr : RdL X φ os ds) : RCX (fun xs H Q => ∃ p ys, xs = [L2.V.ref p] ∧ ((SqL X.K H p ys ∧ ∀ l, H l = none → Q (.ref l) (upd H l (.tup ys))) ∨ (SqT X.K H p ys ∧ Q (.ref p) H))) [φ] os (dat (.tuple ds)) os := fun F H vs Q ow c q => by
  obtain ⟨v, rfl, h⟩ := cla1 c
  obtain ⟨a, us, rfl, h1, h2⟩ := hr F H v ow h
  refine ⟨a, us, rfl, .inl ⟨h1, fun l hl => ?_⟩⟩
  have fp := ow.ex.free hl
  exact q _ _ _ (same_upd fp) (ow.frozen hl) (cl_dat (.tup upd_same (dqall_mono (same_upd fp) _ _ h2)))
theorem rc_lstL {φ : VP} {ds : List PyData} (hr : RdL X φ os ds) : RCN (fun xs H Q => ∃ p ys, xs = [L2.V.ref p] ∧ (SqL X.K H p ys ∨ SqT X.K H p ys) ∧ ∀ l, H l = none → Q (.ref l) (upd H l (.lst ys))) [φ] os (ol ds) os := fun F H vs Q ow c q => by
  obtain ⟨v, rfl, h⟩ := cla1 c
  obtain ⟨a, us, rfl, h1, h2⟩ := hr F H v ow h
  exact ⟨a, us, rfl, .inl h1, fun l hl => q F _ l (Same.refl F) (ow.new hl fun G g => ⟨us, rfl, dqall_mono g _ _ h2⟩)⟩
theorem rc_lstT {φ : VP} {ds : List PyData} (hr : RdT φ ds) : RCN (fun xs H Q => ∃ p ys, xs = [L2.V.ref p] ∧ (SqL X.K H p ys ∨ SqT X.K H p ys) ∧ ∀ l, H l = none → Q (.ref l) (upd H l (.lst ys))) [φ] os (ol ds) os := fun F H vs Q ow c q => by
  obtain ⟨v, rfl, h⟩ := cla1 c
  obtain ⟨a, us, rfl, h1, h2⟩ := hr F v h
  exact ⟨a, us, rfl, .inr (.of (ow.ex _ _ h1)), fun l hl => q F _ l (Same.refl F) (ow.new hl fun G g => ⟨us, rfl, dqall_mono g _ _ h2⟩)⟩
def isI : PyData → Bool
  | .int _ => true
  | _ => false
def shortO (d : PyData) : Bool := isI d || decide (d.shown.length ≤ sizeLine)
/-- repr of data -/
def rRepr (K : PySem.W.Frag) : List L2.V → Hp → VK → Prop := fun xs H Q => ∃ v d, xs = [v] ∧ Dp K H v d ∧ d.showable = true ∧ d.hasDict = false ∧ d.depth ≤ 60 ∧ shortO d = true ∧ Q (.str d.shown) H
theorem call_repr (gd : X.A.guards = some []) (room : Room k X.A) : CallR X (.builtin "repr") (rRepr X.K) := by
  intro pins s σ H vs us Q I r h
  obtain ⟨v, d, rfl, hd, h1, h2, h3, h4, q⟩ := h
  obtain ⟨u, rfl, ru⟩ := vals1 r
  have un := room.un
  have h5 : isI d = false → d.shown.length ≤ sizeLine := fun z => by
    unfold shortO at h4
    rw [z, Bool.false_or] at h4
    exact of_decide_eq_true h4
  cases hd with
  | non =>
    obtain rfl : u = Value.none := ru
    have e : (PyData.none).shown = ("None" : Str) := by simp only [PyData.shown]
    rw [e] at q
    exact PySem.P.repr_of_none ⟨.str _, H, I.tok _, ⟨_, rfl⟩, q⟩
  | bl b =>
    obtain rfl : u = Value.bool b := ru
    have e : (PyData.bool b).shown = (if b then "True" else "False" : Str) := by simp only [PyData.shown]
    rw [e] at q
    exact PySem.P.repr_of_bool ⟨.str _, H, I.tok _, ⟨_, rfl⟩, q⟩
  | int i =>
    obtain ⟨t, rfl⟩ := ru
    have e : (PyData.int i).shown = toString i := by simp only [PyData.shown]
    have h1' : i.natAbs.log2 < 1920 := by simpa only [PyData.showable, decide_eq_true_eq] using h1
    rw [e] at q
    exact PySem.P.repr_of_int h1' ⟨.str _, H, I.tok _, ⟨_, rfl⟩, q⟩
  | str x =>
    obtain ⟨t, rfl⟩ := ru
    have e : (PyData.str x).shown = reprText x := by simp only [PyData.shown]
    have h6 := h5 rfl
    rw [e] at q h6
    exact PySem.P.repr_of_str ⟨.str _, H, I.tok _, ⟨_, rfl⟩, q⟩ h6
  | lst hs ha =>
    obtain rfl : u = Value.ref _ := ru
    obtain ⟨as, hr⟩ := Dp.reads I _ _ (.ref _) (Dp.lst hs ha) rfl
    exact repr_of_reads' hr h1 (PyData.noDict_hsm h2) gd (by omega) (fun _ _ e => e) (fun h' tk t' hk => ⟨.str _, H, I.kept hk, ⟨_, rfl⟩, q⟩) (h5 rfl)
  | tup hs ha =>
    obtain rfl : u = Value.ref _ := ru
    obtain ⟨as, hr⟩ := Dp.reads I _ _ (.ref _) (Dp.tup hs ha) rfl
    exact repr_of_reads' hr h1 (PyData.noDict_hsm h2) gd (by omega) (fun _ _ e => e) (fun h' tk t' hk => ⟨.str _, H, I.kept hk, ⟨_, rfl⟩, q⟩) (h5 rfl)
def reprO (d : PyData) : Option Str := if d.showable = true ∧ d.hasDict = false ∧ d.depth ≤ 60 ∧ shortO d = true then some d.shown else none
theorem rc_repr {d : PyData} {t : Str} (h : reprO d = some t) : RCX (rRepr X.K) [dat d] os (dat (.str t)) os := fun F H vs Q ow c q => by
  unfold reprO at h
  split at h
  · rename_i hl
    cases h
    obtain ⟨v, rfl, h⟩ := cla1 c
    exact ⟨v, d, rfl, dq_dp _ _ _ hl.2.1 (dq_mono ow.ex _ _ h.now), hl.1, hl.2.1, hl.2.2.1, hl.2.2.2, q F H _ (Same.refl F) ow (cl_dat (.str _))⟩
  · cases h
end
end Z
namespace Z
open PySem PySem.Spec PyProof.Rows L2
/-- a def of the text that keeps a promise, as callers see it -/
structure Cal (P : Program) (w : World) (K : PySem.W.Frag) (mg : Str → Option Value) (base : Heap) (k : Nat) (x : Str) (st : Stmt) (ps : List Str) (sp : Sp) : Prop where
  ex : ∃ (f : Addr) (fd : FuncData), Fun K x x st f fd ∧ FnG P w K mg base CX0 k f fd ps sp ∧ mg x = some (.ref f) ∧ Binds K fd ps []
theorem Cal.mono {P : Program} {w : World} {K : PySem.W.Frag} {mg : Str → Option Value} {base : Heap} {j k : Nat} {x : Str} {st : Stmt} {ps : List Str} {sp : Sp} (c : Cal P w K mg base j x st ps sp) (h : j ≤ k) : Cal P w K mg base k x st ps sp :=
  let ⟨f, fd, a, b, d⟩ := c.ex
  ⟨f, fd, a, b.mono h, d⟩
section
variable {X : Cx} {k : Nat} {f : Addr} {fd : FuncData} {ps : List Str} {sp : Sp} {x : Str} {p pos : Pos} {e : Expr} {as : List Expr} {t tk : TA} {kws : List Keyword}
theorem run_g {pins : List (Addr × Obj)} {σ : L2.St} {H : Hp} {s : Shared} {Q : VK} {us zs : List Value} {kv : List (Str × Value)} {vs : List L2.V} (c : FnG X.prog X.w X.K X.mg X.base CX0 k f fd ps sp) (gd : X.A.guards = some []) (hr : Room k X.A)
    (I : Inv X pins σ H s) (b : BindsTo s fd ⟨us, kv⟩ (ps.zip zs)) (r : Vals vs zs) (h : sp vs H Q E0) : wpAny (model X.prog X.w) X.A (call (.ref f) us kv) (EP X pins σ Q) X.xe s := by
  refine wpAny_call (codeAny_mono (c.run X.A X.stack s H ⟨us, kv⟩ zs vs Q E0 gd hr I.env0 b r h) ?_)
  intro res s' hq
  cases res with
  | error e => exact hq.elim
  | ok fl =>
    cases fl with
    | ret u => exact I.after hq
    | next => exact hq.elim
    | brk => exact hq.elim
    | cont => exact hq.elim
theorem pe_g {st : Stmt} (c : Cal X.prog X.w X.K X.mg X.base k x st ps sp) (gd : X.A.guards = some []) (hr : Room k X.A) (hg : Gl X x) (ha : PA X (e :: as) t) (hdb : (x == ("__debug__" : Str)) = false)
    (he : starEach (e :: as) X.env = (false, eval e X.env) :: starEach as X.env := by rfl) (hpl : (backTo pos (starEach as X.env)).any (·.1) = false := by rfl) : PE X (.Call (.Name x p) (e :: as) [] pos) (fun σ H Q => t σ H fun vs H1 => sp vs H1 Q E0) := by
  obtain ⟨f, fd, Fn, G, hm, hb⟩ := c.ex
  refine ⟨fun pins s σ H Q I h => wpAny_Call_Name_kw (ld_glob I hg hm ?_ hdb)⟩
  refine PySem.W.callWith_K (h₀ := X.base) I.ok.mod.kin Fn.kp (thn (ha.run pos pins s σ H _ I h) ?_) he hpl
  rintro us s1 ⟨vs, H1, I1, r, q⟩
  refine ⟨I1.kIn, run_g G gd hr I1 ?_ r q⟩
  have := hb s1 us I1.kIn (by rw [List.append_nil, ← r.length]; exact G.len _ _ _ _ q)
  rw [List.append_nil] at this
  exact this
def kperm {α : Type} (n m : Nat) (pi : List Nat) (us ws : List α) : List α := if us.length = n ∧ ws.length = m then pi.filterMap fun i => (us ++ ws)[i]? else []
theorem vals_fm {vs : List L2.V} {us : List Value} (h : Vals vs us) : ∀ pi : List Nat, Vals (pi.filterMap fun i => vs[i]?) (pi.filterMap fun i => us[i]?)
  | [] => .nil
  | i :: pi => by
    rw [List.filterMap_cons, List.filterMap_cons]
    cases e : vs[i]? with
    | none =>
      rw [h.none_of e]
      exact vals_fm h pi
    | some v =>
      obtain ⟨u, e2, r⟩ := h.get e
      rw [e2]
      exact .cons r (vals_fm h pi)
theorem vals_kperm {n m : Nat} {pi : List Nat} {vs zs : List L2.V} {us ws : List Value} (h : Vals vs us) (h' : Vals zs ws) : Vals (kperm n m pi vs zs) (kperm n m pi us ws) := by
  unfold kperm
  rw [h.length, h'.length]
  split
  · exact vals_fm (h.append h') pi
  · exact .nil
/-- how the def st binds positional values and keywords ks -/
def KwOk (x : Str) (st : Stmt) (ps ks : List Str) (n : Nat) (pi : List Nat) : Prop := ∀ (kV doc pm : Value) (an : Option Addr) (cdv ct : Value) (us ws : List Value), us.length = n → ws.length = ks.length →
  bindArgs (PySem.W.fnOf x x (defArgs st) (defBody st) (defScope st) .none kV doc pm an cdv ct) ⟨us, ks.zip ws⟩ = pure (ps.zip (pi.filterMap fun i => (us ++ ws)[i]?))
theorem pe_gk0 {st : Stmt} {ks : List Str} {pi : List Nat} (c : Cal X.prog X.w X.K X.mg X.base k x st ps sp) (kw : KwOk x st ps ks 0 pi) (hps : 0 < ps.length) (gd : X.A.guards = some []) (hr : Room k X.A) (hg : Gl X x) (hk : PK X kws tk) (hdb : (x == ("__debug__" : Str)) = false)
    (hall : (backToKw pos (keywordEach kws X.env)).all (·.1.isSome) = true := by rfl) (hks : (backToKw pos (keywordEach kws X.env)).filterMap (·.1) = ks := by rfl)
    (hpl : ((backTo pos (starEach [] X.env)).any (·.1) || (backToKw pos (keywordEach kws X.env)).any (·.1.isNone)) = false := by rfl) :
    PE X (.Call (.Name x p) [] kws pos) (fun σ H Q => tk σ H fun zs H2 => sp (kperm 0 ks.length pi [] zs) H2 Q E0) := by
  obtain ⟨f, fd, Fn, G, hm, hb⟩ := c.ex
  refine ⟨fun pins s σ H Q I h => wpAny_Call_Name_kw (ld_glob I hg hm ?_ hdb)⟩
  refine PySem.W.callWith_KW0 (h₀ := X.base) I.ok.mod.kin Fn.kp hall ?_ hpl
  refine thn (hk.run pos pins s σ H _ I h) ?_
  rintro ws s2 ⟨zs, H2, I2, rz, q2⟩
  refine ⟨I2.kIn, ?_⟩
  rw [hks]
  have rk := vals_kperm (n := 0) (m := ks.length) (pi := pi) (show Vals [] [] from .nil) rz
  refine run_g (us := []) G gd hr I2 (.of_eq ?_) rk q2
  have hl := G.len _ _ _ _ q2
  obtain ⟨oc, od, kV, doc, pm, an, cdv, ct, osl, rfl, _, _⟩ := Fn.ex
  unfold kperm at hl ⊢
  split at hl
  · rename_i hh
    rw [if_pos (by rw [← rz.length]; exact hh)]
    exact kw kV doc pm an cdv ct [] ws rfl (by rw [← rz.length]; exact hh.2)
  · have : ps.length = 0 := hl.symm
    omega
end
/-- it hands back the value of which res tells -/
def spZ {α β : Type} (ps : α → List VP) (pre : α → Os) (m : α → Option β) (res : α → β → VP) (post : α → β → Os) : Sp := fun vs H Q _ =>
  ∃ (a : α) (b : β) (F : Hp) (os : Os), ClA (ps a) F vs ∧ Ow F (pre a ++ os) H ∧ m a = some b ∧ ∀ F' H' v, Same F F' → Ow F' (post a b ++ os) H' → Cl (res a b) F' v → Q v H'
/-- it hands back a new list -/
def spN {α β : Type} (ps : α → List VP) (pre : α → Os) (m : α → Option β) (n : α → β → Ent) (post : α → β → Os) : Sp := fun vs H Q _ =>
  ∃ (a : α) (b : β) (F : Hp) (os : Os), ClA (ps a) F vs ∧ Ow F (pre a ++ os) H ∧ m a = some b ∧ ∀ F' H' p, Same F F' → Ow F' ((p, n a b) :: (post a b ++ os)) H' → Q (.ref p) H'
theorem spZ_len {α β : Type} {ps : α → List VP} {pre : α → Os} {m : α → Option β} {res : α → β → VP} {post : α → β → Os} {n : Nat} (h : ∀ a, (ps a).length = n) : ∀ vs H Q E, spZ ps pre m res post vs H Q E → vs.length = n :=
  fun vs H Q E ⟨a, b, F, os, c, _⟩ => (cla_len c).trans (h a)
theorem spN_len {α β : Type} {ps : α → List VP} {pre : α → Os} {m : α → Option β} {n : α → β → Ent} {post : α → β → Os} {k : Nat} (h : ∀ a, (ps a).length = k) : ∀ vs H Q E, spN ps pre m n post vs H Q E → vs.length = k :=
  fun vs H Q E ⟨a, b, F, os, c, _⟩ => (cla_len c).trans (h a)
section
variable {X : Cx} {es : List Slot} {os os1 os2 rest : Os} {N V G : List Str} {k j : Nat} {x : Str} {p pos : Pos} {e : Expr} {as : List Expr} {kws : List Keyword} {ks : List Str} {st : Stmt} {pn : List Str} {α β : Type} {ps : α → List VP} {pre : α → Os} {m : α → Option β} {res : α → β → VP} {post : α → β → Os} {n : α → β → Ent} {gi : Nat}
theorem ex_call (B : Bd X N V G k) (hj : G[gi]? = some x) (c : Cal X.prog X.w X.K X.mg X.base j x st pn (spZ ps pre m res post)) (hl : j ≤ k) {a : α} {b : β} (hm : m a = some b) (ha : AX X es os (e :: as) (ps a) (pre a ++ rest))
    (he : starEach (e :: as) X.env = (false, eval e X.env) :: starEach as X.env := by rfl) (hpl : (backTo pos (starEach as X.env)).any (·.1) = false := by rfl) : EX X es os (.Call (.Name x p) (e :: as) [] pos) (res a b) (post a b ++ rest) := fun F σ H Q ow sl q =>
  let ⟨u, v⟩ := B.gl x (List.mem_of_getElem? hj)
  we_of (pe_g (c.mono hl) B.gd B.room u pa_u (dun_d v) he hpl) (ha F σ H _ ow sl fun F1 H1 vs e1 o1 c1 => ⟨a, b, F1, rest, c1, o1, hm, fun F2 H2 v e2 o2 c2 => q F2 H2 v (e1.trans e2) o2 c2⟩)
theorem en_call (B : Bd X N V G k) (hj : G[gi]? = some x) (c : Cal X.prog X.w X.K X.mg X.base j x st pn (spN ps pre m n post)) (hl : j ≤ k) {a : α} {b : β} (hm : m a = some b) (ha : AX X es os (e :: as) (ps a) (pre a ++ rest))
    (he : starEach (e :: as) X.env = (false, eval e X.env) :: starEach as X.env := by rfl) (hpl : (backTo pos (starEach as X.env)).any (·.1) = false := by rfl) : EN X es os (.Call (.Name x p) (e :: as) [] pos) (n a b) (post a b ++ rest) := fun F σ H Q ow sl q =>
  let ⟨u, v⟩ := B.gl x (List.mem_of_getElem? hj)
  we_of (pe_g (c.mono hl) B.gd B.room u pa_u (dun_d v) he hpl) (ha F σ H _ ow sl fun F1 H1 vs e1 o1 c1 => ⟨a, b, F1, rest, c1, o1, hm, fun F2 H2 v e2 o2 => q F2 H2 v (e1.trans e2) o2⟩)
/-- the values of keywords -/
def KX (X : Cx) (es : List Slot) (os : Os) (kws : List Keyword) (φs : List VP) (os' : Os) : Prop := ∀ F σ H, Ow F os H → Sl F es σ → ∀ Q : List L2.V → Hp → Prop, (∀ F' H' vs, Same F F' → Ow F' os' H' → ClA φs F' vs → Q vs H') →
  ∀ pos pins s, Inv X pins σ H s → wpAny (model X.prog X.w) X.A (evalAll ((backToKw pos (keywordEach kws X.env)).map (·.2))) (AP X pins σ Q) X.xe s
def WK (X : Cx) (kws : List Keyword) (σ : L2.St) (H : Hp) (Q : List L2.V → Hp → Prop) : Prop := ∀ pos pins s, Inv X pins σ H s → wpAny (model X.prog X.w) X.A (evalAll ((backToKw pos (keywordEach kws X.env)).map (·.2))) (AP X pins σ Q) X.xe s
theorem pk_u : PK X kws (WK X kws) := ⟨fun pos pins s _ _ _ I h => h pos pins s I⟩
theorem kx_nil : KX X es os [] [] os := fun F σ H ow sl Q q pos pins s I => pk_nil.run pos pins s σ H Q I (q F H [] (Same.refl F) ow rfl)
theorem kx_cons {nm : Option Str} {kpos : Pos} {φ : VP} {φs : List VP} (ha : EX X es os e φ os1) (hr : KX X es os1 kws φs os2) : KX X es os (⟨nm, e, kpos⟩ :: kws) (φ :: φs) os2 := fun F σ H ow sl Q q pos pins s I =>
  (pk_cons pe_u pk_u).run pos pins s σ H Q I (ha F σ H _ ow sl fun F1 H1 x e1 o1 c1 => hr F1 σ H1 o1 (sl.mono e1) _ fun F2 H2 vs e2 o2 c2 => q F2 H2 _ (e1.trans e2) o2 ⟨x, vs, rfl, c1.mono e2, c2⟩)
theorem cla_get {F : Hp} : ∀ {φs : List VP} {vs : List L2.V} {i : Nat}, ClA φs F vs → (φs[i]? = none ∧ vs[i]? = none) ∨ ∃ φ v, φs[i]? = some φ ∧ vs[i]? = some v ∧ Cl φ F v
  | [], _, i, h => by
    have e : _ = [] := h
    subst e
    exact .inl ⟨rfl, rfl⟩
  | φ :: φs, _, 0, ⟨v, r, e, h1, h2⟩ => by
    subst e
    exact .inr ⟨φ, v, rfl, rfl, h1⟩
  | φ :: φs, _, i + 1, ⟨v, r, e, h1, h2⟩ => by
    subst e
    rw [List.getElem?_cons_succ, List.getElem?_cons_succ]
    exact cla_get h2
theorem cla_fm {F : Hp} {φs : List VP} {vs : List L2.V} (h : ClA φs F vs) : ∀ pi : List Nat, ClA (pi.filterMap fun i => φs[i]?) F (pi.filterMap fun i => vs[i]?)
  | [] => rfl
  | i :: pi => by
    rw [List.filterMap_cons, List.filterMap_cons]
    rcases cla_get (i := i) h with ⟨e1, e2⟩ | ⟨φ, v, e1, e2, c⟩
    · rw [e1, e2]
      exact cla_fm h pi
    · rw [e1, e2]
      exact ⟨v, _, rfl, c, cla_fm h pi⟩
theorem cla_app {F : Hp} : ∀ {φs ψs : List VP} {vs us : List L2.V}, ClA φs F vs → ClA ψs F us → ClA (φs ++ ψs) F (vs ++ us)
  | [], _, _, _, h, g => by
    have e : _ = [] := h
    subst e
    exact g
  | φ :: φs, _, _, _, ⟨v, r, e, h1, h2⟩, g => by
    subst e
    exact ⟨v, _, rfl, h1, cla_app h2 g⟩
theorem cla_kperm {F : Hp} {φs ψs : List VP} {vs us : List L2.V} {n m : Nat} {pi : List Nat} (h : ClA φs F vs) (g : ClA ψs F us) : ClA (kperm n m pi φs ψs) F (kperm n m pi vs us) := by
  unfold kperm
  rw [cla_len h, cla_len g]
  split
  · exact cla_fm (cla_app h g) pi
  · rfl
theorem ex_callk0 {ψs : List VP} {pi : List Nat} (B : Bd X N V G k) (hj : G[gi]? = some x) (c : Cal X.prog X.w X.K X.mg X.base j x st pn (spZ ps pre m res post)) (hl : j ≤ k) (kw : KwOk x st pn ks 0 pi) (hpn : 0 < pn.length) {a : α} {b : β} (hm : m a = some b) (hk : KX X es os kws ψs (pre a ++ rest))
    (hp : ps a = kperm 0 ks.length pi [] ψs)
    (hall : (backToKw pos (keywordEach kws X.env)).all (·.1.isSome) = true := by rfl) (hks : (backToKw pos (keywordEach kws X.env)).filterMap (·.1) = ks := by rfl)
    (hpl : ((backTo pos (starEach [] X.env)).any (·.1) || (backToKw pos (keywordEach kws X.env)).any (·.1.isNone)) = false := by rfl) : EX X es os (.Call (.Name x p) [] kws pos) (res a b) (post a b ++ rest) := fun F σ H Q ow sl q =>
  let ⟨u, v⟩ := B.gl x (List.mem_of_getElem? hj)
  we_of (pe_gk0 (c.mono hl) kw hpn B.gd B.room u pk_u (dun_d v) hall hks hpl) (hk F σ H ow sl _ fun F2 H2 zs e2 o2 c2 =>
    ⟨a, b, F2, rest, by rw [hp]; exact cla_kperm (φs := []) (vs := []) rfl c2, o2, hm, fun F3 H3 v e3 o3 c3 => q F3 H3 v (e2.trans e3) o3 c3⟩)
theorem en_callk0 {ψs : List VP} {pi : List Nat} (B : Bd X N V G k) (hj : G[gi]? = some x) (c : Cal X.prog X.w X.K X.mg X.base j x st pn (spN ps pre m n post)) (hl : j ≤ k) (kw : KwOk x st pn ks 0 pi) (hpn : 0 < pn.length) {a : α} {b : β} (hm : m a = some b) (hk : KX X es os kws ψs (pre a ++ rest))
    (hp : ps a = kperm 0 ks.length pi [] ψs)
    (hall : (backToKw pos (keywordEach kws X.env)).all (·.1.isSome) = true := by rfl) (hks : (backToKw pos (keywordEach kws X.env)).filterMap (·.1) = ks := by rfl)
    (hpl : ((backTo pos (starEach [] X.env)).any (·.1) || (backToKw pos (keywordEach kws X.env)).any (·.1.isNone)) = false := by rfl) : EN X es os (.Call (.Name x p) [] kws pos) (n a b) (post a b ++ rest) := fun F σ H Q ow sl q =>
  let ⟨u, v⟩ := B.gl x (List.mem_of_getElem? hj)
  we_of (pe_gk0 (c.mono hl) kw hpn B.gd B.room u pk_u (dun_d v) hall hks hpl) (hk F σ H ow sl _ fun F2 H2 zs e2 o2 c2 =>
    ⟨a, b, F2, rest, by rw [hp]; exact cla_kperm (φs := []) (vs := []) rfl c2, o2, hm, fun F3 H3 v e3 o3 => q F3 H3 v (e2.trans e3) o3⟩)
end
end Z
namespace Z
open PySem PySem.Spec PyProof.Rows L2
/-- what a body's statements need beside Bd -/
structure Bt (X : Cx) (V : List Str) : Prop where
  fn : ∀ x, X.fn x = true
  loc : ∀ x ∈ V, Loc X.env.scope x
  po : PassesOwn (model X.prog X.w) X.A X.env X.xe
/-- the state fits -/
def At (F0 : Hp) (es : List Slot) (os : Os) (σ : L2.St) (H : Hp) : Prop := ∃ F, Same F0 F ∧ Ow F os H ∧ Sl F es σ
section
variable {X : Cx} {es es' : List Slot} {os os1 os2 : Os} {F0 : Hp} {rest : List Stmt} {D : Ends} {N V G W : List Str} {k i vi : Nat} {x : Str} {pos pos' : Pos} {e : Expr} {φ : VP} {n : Ent}
theorem SX.at (h : SX X es os F0 rest D) {σ : L2.St} {H : Hp} (a : At F0 es os σ H) : WPs X rest D σ H := let ⟨F, s, ow, sl⟩ := a; h F σ H s ow sl
theorem SX.perm (h : SX X es os F0 rest D) (p : os1.Perm os) : SX X es os1 F0 rest D := fun F σ H s ow sl => h F σ H s (ow.perm p) sl
theorem SX.weak (h : SX X es' os F0 rest D) (w : Wk es es') : SX X es os F0 rest D := fun F σ H s ow sl => h F σ H s ow (sl.weak w)
theorem SX.drop {q : Addr × Ent} (h : SX X es os F0 rest D) : SX X es (q :: os) F0 rest D := fun F σ H s ow sl => h F σ H s ow.drop sl
theorem sx_nil (h : ∀ σ H, At F0 es os σ H → D.nx σ H) : SX X es os F0 [] D := fun F σ H s ow sl => wps_nil (h σ H ⟨F, s, ow, sl⟩)
/-- behind a branch the rest goes on -/
theorem sx_fall {D' : Ends} (h : SX X es os F0 rest D') (e : D.nx = WPs X rest D') : SX X es os F0 [] D := sx_nil fun σ H a => by
  rw [e]
  exact h.at a
theorem sx_asg (B : Bd X N W G k) (T : Bt X V) (hi : N[i]? = some x) (hv : V[vi]? = some x) (he : EX X es os e φ os1) (h : SX X (es.set i (sl φ)) os1 F0 rest D) (hs : swapsWith e (some (.Name x pos')) pos.line X.env = pure false := by rfl) :
    SX X es os F0 (.Assign [.Name x pos'] e pos :: rest) D := fun F σ H s ow sl =>
  wps_cons (ws_of (ps_set (B.hN ▸ B.nd) (B.hN ▸ hi) (T.loc x (List.mem_of_getElem? hv)) pe_u hs (.inl (T.fn x))) (he F σ H _ ow sl fun F1 H1 v e1 o1 c1 => h F1 _ H1 (s.trans e1) o1 ((sl.mono e1).put c1)))
theorem sx_asgN (B : Bd X N W G k) (T : Bt X V) (hi : N[i]? = some x) (hv : V[vi]? = some x) (he : EN X es os e n os1) (h : ∀ p, SX X (es.set i (sl (own p))) ((p, n) :: os1) F0 rest D) (hs : swapsWith e (some (.Name x pos')) pos.line X.env = pure false := by rfl) :
    SX X es os F0 (.Assign [.Name x pos'] e pos :: rest) D := fun F σ H s ow sl =>
  wps_cons (ws_of (ps_set (B.hN ▸ B.nd) (B.hN ▸ hi) (T.loc x (List.mem_of_getElem? hv)) pe_u hs (.inl (T.fn x))) (he F σ H _ ow sl fun F1 H1 p e1 o1 => h p F1 _ H1 (s.trans e1) o1 ((sl.mono e1).put cl_own)))
theorem sx_expr (he : EX X es os e φ os1) (h : SX X es os1 F0 rest D) (hs : swapsWith e none pos.line X.env = pure false := by rfl) : SX X es os F0 (.Expr e pos :: rest) D := fun F σ H s ow sl =>
  wps_cons (ws_of (ps_expr pe_u hs) (he F σ H _ ow sl fun F1 H1 v e1 o1 c1 => h F1 σ H1 (s.trans e1) o1 (sl.mono e1)))
theorem sx_ret (he : EX X es os e φ os1) (h : ∀ F H v, Same F0 F → Ow F os1 H → Cl φ F v → D.rt v H) : SX X es os F0 (.Return (some e) pos :: rest) D := fun F σ H s ow sl =>
  wps_cons (ws_of (ps_ret pe_u) (he F σ H _ ow sl fun F1 H1 v e1 o1 c1 => h F1 H1 v (s.trans e1) o1 c1))
theorem sx_retN (he : EN X es os e n os1) (h : ∀ F H p, Same F0 F → Ow F ((p, n) :: os1) H → D.rt (.ref p) H) : SX X es os F0 (.Return (some e) pos :: rest) D := fun F σ H s ow sl =>
  wps_cons (ws_of (ps_ret pe_u) (he F σ H _ ow sl fun F1 H1 v e1 o1 => h F1 H1 v (s.trans e1) o1))
theorem sx_if {c : Expr} {a b : List Stmt} {t : Bool} (hc : TX X es os c t os1) (ha : t = true → SX X es os1 F0 a { D with nx := WPs X rest D }) (hb : t = false → SX X es os1 F0 b { D with nx := WPs X rest D }) : SX X es os F0 (.If c a b pos :: rest) D := fun F σ H s ow sl =>
  wps_cons (ws_of (ps_if pt_u pss_u pss_u) (hc F σ H _ ow sl fun F1 H1 e1 o1 => by
    cases t with
    | true =>
      rw [if_pos rfl]
      exact ha rfl F1 σ H1 (s.trans e1) o1 (sl.mono e1)
    | false =>
      rw [if_neg Bool.false_ne_true]
      exact hb rfl F1 σ H1 (s.trans e1) o1 (sl.mono e1)))
/-- x += e (ints) -/
theorem sx_addI {a b : Int} (B : Bd X N W G k) (T : Bt X V) (hi : N[i]? = some x) (hv : V[vi]? = some x) (hx : es[i]? = some (sl (dat (.int a)))) (he : EX X es os e (dat (.int b)) os1) (h : SX X (es.set i (sl (dat (.int (a + b))))) os1 F0 rest D) :
    SX X es os F0 (.AugAssign (.Name x pos') .Add e pos :: rest) D := fun F σ H s ow sl => by
  obtain ⟨v, ev, cv⟩ := sl.val hx
  refine wps_cons (ws_of (ps_aug (B.hN ▸ B.nd) (B.hN ▸ hi) (T.loc x (List.mem_of_getElem? hv)) pe_u ip_add (.inl (T.fn x))) ⟨v, ev, he F σ H _ ow sl fun F1 H1 y e1 o1 c1 => ?_⟩)
  exact ⟨a, b, clv_int cv, clv_int c1, h F1 _ H1 (s.trans e1) o1 ((sl.mono e1).put (cl_dat (.int _)))⟩
def WG (X : Cx) (tg : Expr) : TG := fun v σ H Q => ∀ pins s u, Inv X pins σ H s → RelV v u → wpAny (model X.prog X.w) X.A (assign tg X.env u) (fun _ s' => ∃ σ' H', Inv X pins σ' H' s' ∧ Q σ' H') X.xe s
theorem pg_u {tg : Expr} : PG X tg (WG X tg) := ⟨fun pins s _ _ _ u _ I r h => h pins s u I r⟩
theorem wg_of {tg : Expr} {g : TG} {v : L2.V} {σ : L2.St} {H : Hp} {Q : L2.St → Hp → Prop} (h : PG X tg g) (q : g v σ H Q) : WG X tg v σ H Q := fun pins s u I r => h.run pins s σ H v u Q I r q
/-- to assign a value of φ to tg changes the slots as f tells -/
def GX (X : Cx) (tg : Expr) (φ : VP) (f : List Slot → List Slot) : Prop := ∀ es os F σ H v Q, Ow F os H → Sl F es σ → Cl φ F v → (∀ σ', Sl F (f es) σ' → Q σ' H) → WG X tg v σ H Q
theorem gx_name (B : Bd X N W G k) (T : Bt X V) (hi : N[i]? = some x) (hv : V[vi]? = some x) : GX X (.Name x pos) φ (fun es => es.set i (sl φ)) := fun es os F σ H v Q ow sl c q =>
  wg_of (pg_name (B.hN ▸ B.nd) (B.hN ▸ hi) (T.loc x (List.mem_of_getElem? hv)) (.inl (T.fn x))) (q _ (sl.put c))
theorem gx_pair {a b : Expr} {kk : Nat} {d1 d2 : PyData} {f g : List Slot → List Slot} (B : Bd X N W G k) (h1 : GX X a (dat d1) f) (h2 : GX X b (dat d2) g) (hn : (assignEach [a, b] X.env).length = 2 := by rfl) (hst : (assignEach [a, b] X.env).findIdx? (·.1) = none := by rfl)
    (hs : (assignEach [a, b] X.env).map (·.2) = assign a X.env :: (assignEach [b] X.env).map (·.2) := by rfl) (hs2 : (assignEach [b] X.env).map (·.2) = assign b X.env :: (assignEach [] X.env).map (·.2) := by rfl) :
    GX X (.Tuple [a, b] kk pos) (dat (.tuple [d1, d2])) (fun es => g (f es)) := fun es os F σ H v Q ow sl c q => by
  obtain ⟨p, vs, rfl, hp, hv⟩ := rdt_dat F v c
  cases hv with
  | cons k1 r =>
    cases r with
    | cons k2 r =>
      cases r
      refine wg_of (pg_tup (n := 2) B.calm (pgs_cons pg_u (pgs_cons pg_u pgs_nil hs2) hs) hn hst) ⟨p, _, rfl, .of (ow.ex _ _ hp), rfl, _, _, rfl, ?_⟩
      refine h1 es os F σ H _ _ ow sl (cl_dat k1) fun σ1 s1 => ⟨_, _, rfl, ?_⟩
      exact h2 _ os F σ1 H _ _ ow s1 (cl_dat k2) fun σ2 s2 => ⟨rfl, q σ2 s2⟩
/-- a, b = e: e a tuple -/
theorem sx_unp {tg : Expr} {f : List Slot → List Slot} (hg : GX X tg φ f) (he : EX X es os e φ os1) (h : SX X (f es) os1 F0 rest D) (hs : swapsWithSole [tg] e pos.line X.env = pure false := by rfl) (hw : swappedStores [tg] e X.env = pure none := by rfl)
    (h1 : (assignEach [tg] X.env).map (·.2) = [assign tg X.env] := by rfl) : SX X es os F0 (.Assign [tg] e pos :: rest) D := fun F σ H s ow sl =>
  wps_cons (ws_of (ps_asg pe_u pg_u hs hw h1) (he F σ H _ ow sl fun F1 H1 v e1 o1 c1 => hg es os1 F1 σ H1 v _ o1 (sl.mono e1) c1 fun σ1 s1 => h F1 σ1 H1 (s.trans e1) o1 s1))
theorem ty_own {F H : Hp} {K : PySem.W.Frag} {p : Addr} {ds : List PyData} {j : Nat} (ow : Ow F os H) (hj : os[j]? = some (p, ol ds)) : ∃ vs, H p = some (.lst vs) ∧ DqAll F vs ds ∧ tyV K "list" (.ref p) H := by
  obtain ⟨_, vs, ho, hv⟩ := (ow.perm (perm_at hj)).atL
  exact ⟨vs, ho, hv, .inl ⟨rfl, vs, .of ho⟩⟩
/-- a list that is one's own is rewritten -/
theorem ow_set {F H : Hp} {p : Addr} {ds ds' : List PyData} {vs' : List L2.V} {j : Nat} (ow : Ow F os H) (hj : os[j]? = some (p, ol ds)) (h : DqAll F vs' ds') : Ow F (os.set j (p, ol ds')) (upd H p (.lst vs')) :=
  ((ow.perm (perm_at hj)).putL h).perm (perm_set hj)
theorem ex_append {a : Expr} {apos cpos : Pos} {p : Addr} {ds : List PyData} {d : PyData} {j : Nat} (ho : EX X es os a (own p) os) (he : EX X es os e (dat d) os1) (h0 : os[j]? = some (p, ol ds0)) (hj : os1[j]? = some (p, ol ds)) (hz : ds.length < sizeLine)
    (hbase : attributeBase a "append" X.env (eval a X.env) = eval a X.env := by rfl) (hline : (apos.endLine == cpos.line) = true := by rfl) (hs : starEach [e] X.env = (false, eval e X.env) :: starEach [] X.env := by rfl)
    (hfew : ((backTo cpos (starEach [e] X.env)).all (fun x => !x.1) && (backToKw cpos (keywordEach [] X.env)).all (fun x => x.1.isSome) && decide ([e].length + ([] : List Keyword).length + (if ([] : List Keyword).isEmpty then 0 else 1) < 30)) = true := by rfl)
    (hplain : (backTo cpos (starEach [] X.env)).any (·.1) = false := by rfl) : EX X es os (.Call (.Attribute a "append" apos) [e] [] cpos) (dat .none) (os1.set j (p, ol (ds ++ [d]))) := fun F σ H Q ow sl q =>
  we_of (pe_bm PySem.F.plainAttrs_list PySem.F.slot_list_append PySem.F.type_list_append mt_append pe_u pa_u hbase hfew hline hs hplain) (ho F σ H _ ow sl fun F1 H1 v e1 o1 c1 => by
    obtain rfl : v = .ref p := c1.now
    obtain ⟨_, _, _, ty⟩ := ty_own (K := X.K) o1 h0
    refine ⟨ty, wa_of (pa_cons pe_u pa_nil hs) (he F1 σ H1 _ o1 (sl.mono e1) fun F2 H2 u e2 o2 c2 => ?_)⟩
    obtain ⟨vs, hp, hv, _⟩ := ty_own (K := X.K) o2 hj
    exact ⟨p, vs, u, rfl, rfl, hp, by rw [dqall_len hv]; exact hz, q F2 _ .non (e1.trans e2) (ow_set o2 hj (dqall_app hv (.cons c2.now .nil))) (cl_dat .non)⟩)
theorem dqall_last {F : Hp} : ∀ {ds : List PyData} {vs : List L2.V} {d : PyData}, DqAll F vs ds → ds.getLast? = some d → ∃ v, vs[vs.length - 1]? = some v ∧ Dq F v d ∧ DqAll F vs.dropLast ds.dropLast := fun {ds vs d} h e => by
  rw [List.getLast?_eq_getElem?] at e
  obtain ⟨v, e2, hd⟩ := dqall_get' h e
  refine ⟨v, by rw [dqall_len h]; exact e2, hd, ?_⟩
  rw [List.dropLast_eq_take, List.dropLast_eq_take, dqall_len h]
  exact dqall_take _ h
theorem ex_pop {a : Expr} {apos cpos : Pos} {p : Addr} {ds : List PyData} {d : PyData} {j : Nat} (ho : EX X es os a (own p) os) (hj : os[j]? = some (p, ol ds)) (hd : ds.getLast? = some d)
    (hbase : attributeBase a "pop" X.env (eval a X.env) = eval a X.env := by rfl) (hline : (apos.endLine == cpos.line) = true := by rfl) : EX X es os (.Call (.Attribute a "pop" apos) [] [] cpos) (dat d) (os.set j (p, ol ds.dropLast)) := fun F σ H Q ow sl q =>
  we_of (pe_bm0 PySem.F.plainAttrs_list PySem.F.slot_list_pop PySem.F.type_list_pop mt_pop pe_u hbase hline) (ho F σ H _ ow sl fun F1 H1 v e1 o1 c1 => by
    obtain rfl : v = .ref p := c1.now
    obtain ⟨vs, hp, hv, ty⟩ := ty_own (K := X.K) o1 hj
    obtain ⟨u, eu, hu, hr⟩ := dqall_last hv hd
    exact ⟨ty, p, vs, u, rfl, rfl, hp, eu, q F1 _ u e1 (ow_set o1 hj hr) (cl_dat hu)⟩)
/-- xs[i] = e -/
theorem sx_setL {a b : Expr} {tpos : Pos} {p : Addr} {ds : List PyData} {d : PyData} {j m : Nat} {z : Int} (he : EX X es os e (dat d) os1) (ho : EX X es os1 a (own p) os1) (hb : EX X es os1 b (dat (.int z)) os2) (hj : os2[j]? = some (p, ol ds)) (hz : ixN ds.length z = some m) (h : SX X es (os2.set j (p, ol (ds.set m d))) F0 rest D)
    (hs : swapsWithSole [.Subscript a b tpos] e pos.line X.env = pure false := by rfl) (hw : swappedStores [.Subscript a b tpos] e X.env = pure none := by rfl) (h1 : (assignEach [.Subscript a b tpos] X.env).map (·.2) = [assign (.Subscript a b tpos) X.env] := by rfl)
    (hsub : ∀ v, assign (.Subscript a b tpos) X.env v = (do
      let ov ← holding [v] (eval a X.env)
      let iv ← holding [v, ov] (eval b X.env)
      standAt tpos
      holding [v, ov, iv] (setItem ov iv v)
      release [v, ov, iv] []) := by intro _; rfl) : SX X es os F0 (.Assign [.Subscript a b tpos] e pos :: rest) D := fun F σ H s ow sl =>
  wps_cons (ws_of (ps_asg pe_u (pg_sub pe_u pe_u set_list hsub) hs hw h1) (he F σ H _ ow sl fun F1 H1 v e1 o1 c1 => ho F1 σ H1 _ o1 (sl.mono e1) fun F2 H2 w e2 o2 c2 => hb F2 σ H2 _ o2 (sl.mono (e1.trans e2)) fun F3 H3 u e3 o3 c3 => by
    obtain rfl : w = .ref p := c2.now
    obtain ⟨vs, hp, hv, _⟩ := ty_own (K := X.K) o3 hj
    refine ⟨p, vs, z, m, rfl, clv_int c3, hp, by rw [dqall_len hv]; exact hz, ?_⟩
    have e := (e1.trans e2).trans e3
    exact h F3 σ _ (s.trans e) (ow_set o3 hj (dqall_set ((c1.mono e2).mono e3).now m hv)) (sl.mono e)))
end
end Z
namespace Z
open PySem PySem.Spec PyProof.Rows L2
/-- one turn after another; none: it raises -/
def lp {α S : Type} (f : S → α → Option S) : List α → S → Option S
  | [], s => some s
  | x :: xs, s => (f s x).bind (lp f xs)
inductive Step (R S : Type) where
  | go (s : S) | brk (s : S) | ret (r : R)
/-- what follows a turn -/
def Step.aft {R S : Type} (k : S → Option (Sum R S)) : Step R S → Option (Sum R S)
  | .go s => k s
  | .brk s => some (.inr s)
  | .ret r => some (.inl r)
/-- .. that may be left: inl, what is handed back; inr, the state behind -/
def lpR {α R S : Type} (f : S → α → Option (Step R S)) : List α → S → Option (Sum R S)
  | [], s => some (.inr s)
  | x :: xs, s => (f s x).bind (Step.aft (lpR f xs))
/-- while, at most so many turns -/
def wh {R S : Type} (c : S → Option Bool) (f : S → Option (Step R S)) : Nat → S → Option (Sum R S)
  | 0, _ => none
  | n + 1, s => (c s).bind fun b => if b = true then (f s).bind (Step.aft (wh c f n)) else some (.inr s)
/-- a comprehension whose element may change the state -/
def lcS {α β S : Type} (f : S → α → Option (Option β × S)) : List α → S → Option (List β × S)
  | [], s => some ([], s)
  | x :: xs, s => (f s x).bind fun t => (lcS f xs t.2).bind fun u => some (t.1.toList ++ u.1, u.2)
def range' (a b : Int) : List Int := (List.range (b - a).toNat).map fun (i : Nat) => a + (i : Int)
section
variable {X : Cx} {es : List Slot} {os os1 os2 : Os} {F0 : Hp} {rest : List Stmt} {D : Ends} {N V G W : List Str} {k i vi gi : Nat} {x : Str} {p pos : Pos} {e e2 : Expr} {α : Type}
def WI (X : Cx) (tg iter : Expr) (σ : L2.St) (H : Hp) (R : It → Hp → Prop) : Prop := ∀ pins s, Inv X pins σ H s →
    wpAny (model X.prog X.w) X.A (eval iter X.env) (fun v s1 => wpAny (model X.prog X.w) X.A (pyIter v) (PIE X pins σ tg R) X.xe s1) X.xe s
theorem pi_u {tg iter : Expr} : PI X tg iter (WI X tg iter) := ⟨fun pins s _ _ _ I h => h pins s I⟩
theorem wi_of {tg iter : Expr} {w : TI} {σ : L2.St} {H : Hp} {R : It → Hp → Prop} (h : PI X tg iter w) (q : w σ H R) : WI X tg iter σ H R := fun pins s I => h.run pins s σ H R I q
/-- J yields the xs, as vp tells of each, from F on, while c holds of what is owned -/
def Good (J : It) (F : Hp) (xs : List α) (vp : α → VP) (c : Os → Prop) : Prop := ∀ F2 H2 os2 i, Same F F2 → Ow F2 os2 H2 → c os2 →
  (xs.length ≤ i → J.stop i H2) ∧ ∀ x, xs[i]? = some x → J.go i H2 ∧ ∀ v H3, J.yld i H2 v H3 → ∃ F3, Same F2 F3 ∧ Ow F3 os2 H3 ∧ Cl (vp x) F3 v
def IX (X : Cx) (tg : Expr) (es : List Slot) (os : Os) (iter : Expr) (xs : List α) (vp : α → VP) (c : Os → Prop) (os' : Os) : Prop := ∀ F σ H R, Ow F os H → Sl F es σ → (∀ F' H' J, Same F F' → Ow F' os' H' → Good J F' xs vp c → R J H') → WI X tg iter σ H R
def anyOs : Os → Prop := fun _ => True
theorem range_get {n i : Nat} {lo x : Int} (h : ((List.range n).map fun (i : Nat) => lo + (i : Int))[i]? = some x) : i < n ∧ x = lo + (i : Int) := by
  rw [List.getElem?_map] at h
  by_cases hi : i < n
  · rw [List.getElem?_range hi] at h
    exact ⟨hi, (Option.some.inj h).symm⟩
  · rw [List.getElem?_eq_none (by rw [List.length_range]; omega)] at h
    cases h
theorem good_range {F : Hp} {lo : Int} {n : Nat} : Good (Itr lo n) F ((List.range n).map fun (i : Nat) => lo + (i : Int)) (fun x => dat (.int x)) anyOs := fun F2 H2 os2 i s ow _ => by
  refine ⟨fun h => show n ≤ i by simpa using h, fun x hx => ?_⟩
  obtain ⟨h1, rfl⟩ := range_get hx
  refine ⟨h1, fun v H3 y => ?_⟩
  obtain ⟨rfl, rfl⟩ := y
  exact ⟨F2, Same.refl F2, ow, cl_dat (.int _)⟩
theorem ix_range1 {tg : Expr} {b : Int} (B : Bd X N W G k) (hj : G[gi]? = some "range") (hm : X.mg "range" = none) (hb : -(2 ^ 62) ≤ b ∧ b < 2 ^ 62) (ha : EX X es os e (dat (.int b)) os1) (hs : starEach [e] X.env = [(false, eval e X.env)] := by rfl) :
    IX X tg es os (.Call (.Name "range" p) [e] [] pos) (range' 0 b) (fun x => dat (.int x)) anyOs os1 := fun F σ H R ow sl q =>
  wi_of (pi_range1 (B.gl _ (List.mem_of_getElem? hj)).1 hm pa_u hs) (wa_of (pa_cons pe_u pa_nil hs) (ha F σ H _ ow sl fun F1 H1 v e1 o1 c1 => ⟨b, by rw [clv_int c1], hb.1, hb.2, q F1 H1 _ e1 o1 (by
    have := good_range (F := F1) (lo := 0) (n := b.toNat)
    unfold range'
    rw [Int.sub_zero]
    exact this)⟩))
theorem ix_range2 {tg : Expr} {a b : Int} (B : Bd X N W G k) (hj : G[gi]? = some "range") (hm : X.mg "range" = none) (hab : -(2 ^ 62) ≤ a ∧ a < 2 ^ 62 ∧ -(2 ^ 62) ≤ b ∧ b < 2 ^ 62) (ha : EX X es os e (dat (.int a)) os1) (hb : EX X es os1 e2 (dat (.int b)) os2)
    (hs : starEach [e, e2] X.env = [(false, eval e X.env), (false, eval e2 X.env)] := by rfl) (hs2 : starEach [e2] X.env = [(false, eval e2 X.env)] := by rfl) :
    IX X tg es os (.Call (.Name "range" p) [e, e2] [] pos) (range' a b) (fun x => dat (.int x)) anyOs os2 := fun F σ H R ow sl q =>
  wi_of (pi_range2 (B.gl _ (List.mem_of_getElem? hj)).1 hm pa_u hs hs2) (wa_of (pa_cons pe_u (pa_cons pe_u pa_nil hs2) (by rw [hs, hs2])) (ha F σ H _ ow sl fun F1 H1 v e1 o1 c1 => hb F1 σ H1 _ o1 (sl.mono e1) fun F2 H2 u e2 o2 c2 =>
    ⟨a, b, by rw [clv_int c1, clv_int c2], hab, q F2 H2 _ (e1.trans e2) o2 good_range⟩))
theorem dqall_map {F : Hp} {xs : List α} {enc : α → PyData} {vs : List L2.V} {i : Nat} {x : α} (h : DqAll F vs (xs.map enc)) (e : xs[i]? = some x) : ∃ v, vs[i]? = some v ∧ Dq F v (enc x) := dqall_get' h (by rw [List.getElem?_map, e]; rfl)
/-- a list (read as rl tells) -/
theorem ix_list {tg : Expr} {φ : VP} {xs : List α} {enc : α → PyData} {c : Os → Prop} (he : EX X es os e φ os1) (hc : ∀ o, c o → RdL X φ o (xs.map enc)) (h0 : c os1) : IX X tg es os e xs (fun x => dat (enc x)) c os1 := fun F σ H R ow sl q =>
  wi_of (pi_list pe_u) (he F σ H _ ow sl fun F1 H1 v e1 o1 c1 => by
    obtain ⟨a, vs, rfl, h1, h2⟩ := hc os1 h0 F1 H1 v o1 c1
    refine ⟨a, rfl, ⟨vs, h1⟩, q F1 H1 _ e1 o1 fun F2 H2 os2 i s ow2 k2 => ?_⟩
    obtain ⟨a', us, ea, g1, g2⟩ := hc os2 k2 F2 H2 _ ow2 (c1.mono s)
    cases ea
    have hl := dqall_len g2
    rw [List.length_map] at hl
    refine ⟨fun h => ⟨us, g1, by omega⟩, fun x hx => ?_⟩
    obtain ⟨u, hu, hd⟩ := dqall_map g2 hx
    refine ⟨⟨us, u, g1, hu⟩, fun w H3 y => ?_⟩
    obtain ⟨rfl, hy⟩ := y
    have ew : us[i]? = some w := hy us g1
    rw [hu] at ew
    cases ew
    exact ⟨F2, Same.refl F2, ow2, cl_dat hd⟩)
theorem ix_tup {tg : Expr} {φ : VP} {xs : List α} {enc : α → PyData} (he : EX X es os e φ os1) (hr : RdT φ (xs.map enc)) : IX X tg es os e xs (fun x => dat (enc x)) anyOs os1 := fun F σ H R ow sl q =>
  wi_of (pi_tup pe_u) (he F σ H _ ow sl fun F1 H1 v e1 o1 c1 => by
    obtain ⟨a, vs, rfl, h1, h2⟩ := hr F1 v c1
    refine ⟨a, rfl, ⟨vs, .of (o1.ex _ _ h1)⟩, q F1 H1 _ e1 o1 fun F2 H2 os2 i s ow2 k2 => ?_⟩
    have g1 := ow2.ex _ _ (s _ _ h1)
    have g2 := dqall_mono s _ _ h2
    have hl := dqall_len g2
    rw [List.length_map] at hl
    refine ⟨fun h => ⟨vs, .of g1, by omega⟩, fun x hx => ?_⟩
    obtain ⟨u, hu, hd⟩ := dqall_map g2 hx
    refine ⟨⟨vs, u, .of g1, hu⟩, fun w H3 y => ?_⟩
    obtain ⟨rfl, hy⟩ := y
    have ew : vs[i]? = some w := hy vs (.of g1)
    rw [hu] at ew
    cases ew
    exact ⟨F2, Same.refl F2, ow2, cl_dat hd⟩)
theorem zipIdx_get {xs : List α} {i : Nat} {z : Int × α} (h : (xs.zipIdx.map fun y => ((y.2 : Int), y.1))[i]? = some z) : z.1 = (i : Int) ∧ xs[i]? = some z.2 := by
  rw [List.getElem?_map, List.getElem?_zipIdx] at h
  cases e : xs[i]? with
  | none =>
    rw [e] at h
    cases h
  | some x =>
    rw [e] at h
    have := Option.some.inj h
    subst this
    exact ⟨by simp, rfl⟩
/-- enumerate(a list) -/
def enum {α : Type} (xs : List α) : List (Int × α) := xs.zipIdx.map fun y => ((y.2 : Int), y.1)
theorem enum_len {xs : List α} : (enum xs).length = xs.length := by
  unfold enum
  rw [List.length_map, List.length_zipIdx]
theorem ix_enum {elts : List Expr} {kk : Nat} {tpos : Pos} {φ : VP} {xs : List α} {enc : α → PyData} {c : Os → Prop} (B : Bd X N W G k) (hj : G[gi]? = some "enumerate") (hm : X.mg "enumerate" = none) (he : EX X es os e φ os1) (hc : ∀ o, c o → RdL X φ o (xs.map enc)) (h0 : c os1) (hs : starEach [e] X.env = [(false, eval e X.env)] := by rfl) :
    IX X (.Tuple elts kk tpos) es os (.Call (.Name "enumerate" p) [e] [] pos) (enum xs) (fun x => dat (.tuple [.int x.1, enc x.2])) c os1 := fun F σ H R ow sl q =>
  wi_of (pi_enum (B.gl _ (List.mem_of_getElem? hj)).1 hm pa_u hs) (wa_of (pa_cons pe_u pa_nil hs) (he F σ H _ ow sl fun F1 H1 v e1 o1 c1 => by
    obtain ⟨a, vs, rfl, h1, h2⟩ := hc os1 h0 F1 H1 v o1 c1
    refine ⟨a, vs, rfl, h1, q F1 H1 _ e1 o1 fun F2 H2 os2 i s ow2 k2 => ?_⟩
    obtain ⟨a', us, ea, g1, g2⟩ := hc os2 k2 F2 H2 _ ow2 (c1.mono s)
    cases ea
    have hl := dqall_len g2
    rw [List.length_map] at hl
    refine ⟨fun h => ⟨us, g1, by rw [enum_len] at h; omega⟩, fun x hx => ?_⟩
    obtain ⟨hz1, hz2⟩ := zipIdx_get hx
    obtain ⟨u, hu, hd⟩ := dqall_map g2 hz2
    refine ⟨⟨us, u, g1, hu⟩, fun w H3 y => ?_⟩
    obtain ⟨T, w2, rfl, hT, rfl, hy⟩ := y
    have ew : us[i]? = some w2 := hy us g1
    rw [hu] at ew
    cases ew
    have fT := ow2.ex.free hT
    refine ⟨_, same_upd fT, ow2.frozen hT, cl_dat (.tup upd_same ?_)⟩
    rw [hz1]
    exact .cons (.int _) (.cons (dq_mono (same_upd fT) _ _ hd) .nil)))
theorem drop_cons' {xs : List α} {i : Nat} {x : α} (h : xs[i]? = some x) : xs.drop i = x :: xs.drop (i + 1) := by
  obtain ⟨h1, h2⟩ := List.getElem?_eq_some_iff.mp h
  rw [List.drop_eq_getElem_cons h1, h2]
/-- what a turn is to reach -/
def LpD {R S γ : Type} (F0 : Hp) (ES : S → γ → List Slot) (OS : S → γ → Os) (RT : R → L2.V → Hp → Prop) (t : Step R S) : Ends where
  nx := fun σ H => ∃ s g, t = .go s ∧ At F0 (ES s g) (OS s g) σ H
  ct := fun σ H => ∃ s g, t = .go s ∧ At F0 (ES s g) (OS s g) σ H
  bk := fun σ H => ∃ s g, t = .brk s ∧ At F0 (ES s g) (OS s g) σ H
  rt := fun v H => ∃ r, t = .ret r ∧ RT r v H
/-- a loop that may be left. γ: what changes beside the mirror's state (addresses) -/
theorem sx_forR {R S γ : Type} {tg iter : Expr} {body : List Stmt} {xs : List α} {vp : α → VP} {c : Os → Prop} {up : α → List Slot → List Slot} {fpos : Pos} (f : S → α → Option (Step R S)) (ES : S → γ → List Slot) (OS : S → γ → Os) (RT : R → L2.V → Hp → Prop)
    (B : Bd X N W G k) (T : Bt X V) (hg : ∀ x, GX X tg (vp x) (up x)) (s0 : S) (g0 : γ) (o : Sum R S) (hl : lpR f xs s0 = some o) (hi : IX X tg es os iter xs vp c (OS s0 g0)) (h0 : Wk es (ES s0 g0)) (hc : ∀ s g, c (OS s g))
    (hb : ∀ F1, Same F0 F1 → ∀ s g x t, x ∈ xs → f s x = some t → SX X (up x (ES s g)) (OS s g) F1 body (LpD F1 ES OS RT t))
    (hn : ∀ s g, o = .inr s → SX X (ES s g) (OS s g) F0 rest D) (hr : ∀ r v H, o = .inl r → RT r v H → D.rt v H) (hs : ∀ x, foldedSetIterable iter X.env x = pure x := by intro _; rfl) : SX X es os F0 (.For tg iter body [] fpos :: rest) D := fun F σ H s ow sl => by
  refine wps_cons (ws_of (ps_for T.po B.calm pi_u pg_u pss_u hs) (hi F σ H _ ow sl fun F1 H1 J e1 o1 good => ?_))
  refine ⟨fun i m σ' H' => m = xs.length - i ∧ i ≤ xs.length ∧ ∃ s' g', lpR f (xs.drop i) s' = some o ∧ ∃ F', Same F1 F' ∧ Ow F' (OS s' g') H' ∧ Sl F' (ES s' g') σ', ⟨_, rfl, Nat.zero_le _, s0, g0, hl, F1, Same.refl F1, o1, (sl.mono e1).weak h0⟩, ?_⟩
  rintro i m σ' H' ⟨rfl, hi, s', g', hl', F', e', o', sl'⟩
  obtain ⟨stop, go⟩ := good F' H' (OS s' g') i e' o' (hc s' g')
  cases hx : xs[i]? with
  | none =>
    have hi2 : xs.length ≤ i := List.getElem?_eq_none_iff.mp hx
    refine .inl ⟨stop hi2, ?_⟩
    rw [List.drop_eq_nil_of_le hi2] at hl'
    cases hl'
    exact hn s' g' rfl F' σ' H' ((s.trans e1).trans e') o' sl'
  | some x =>
    obtain ⟨hgo, hy⟩ := go x hx
    have hlt : i < xs.length := (List.getElem?_eq_some_iff.mp hx).1
    rw [drop_cons' hx] at hl'
    cases hf : f s' x with
    | none =>
      unfold lpR at hl'
      rw [hf] at hl'
      cases hl'
    | some t =>
      unfold lpR at hl'
      rw [hf] at hl'
      have hl2 : Step.aft (lpR f (xs.drop (i + 1))) t = some o := hl'
      refine .inr ⟨hgo, fun σ2 H2 => ∃ s2 g2, t = .go s2 ∧ ∃ F2, Same F1 F2 ∧ Ow F2 (OS s2 g2) H2 ∧ Sl F2 (ES s2 g2) σ2, ?_, ?_⟩
      · rintro σ2 H2 ⟨s2, g2, rfl, F2, e2, o2, sl2⟩
        exact ⟨_, by omega, rfl, by omega, s2, g2, hl2, F2, e2, o2, sl2⟩
      · intro v H3 yv
        obtain ⟨F3, e3, o3, c3⟩ := hy v H3 yv
        refine hg x _ _ F3 σ' H3 v _ o3 (sl'.mono e3) c3 fun σ4 sl4 => ?_
        have key := hb F1 (s.trans e1) s' g' x t (List.mem_of_getElem? hx) hf
        have q3 : Same F1 F3 := e'.trans e3
        -- the body, from F3; its ends are at least as strong as is wanted
        intro pins sh I
        refine wpAny_mono (key F3 σ4 H3 q3 o3 sl4 pins sh I) (fun fl s5 z => ?_) fun _ _ z => z
        cases fl with
        | next =>
          obtain ⟨σ5, H5, J5, s5', g5, et, F5, e5, o5, sl5⟩ := z
          exact ⟨σ5, H5, J5, s5', g5, et, F5, e5, o5, sl5⟩
        | cont =>
          obtain ⟨σ5, H5, J5, s5', g5, et, F5, e5, o5, sl5⟩ := z
          exact ⟨σ5, H5, J5, s5', g5, et, F5, e5, o5, sl5⟩
        | brk =>
          obtain ⟨σ5, H5, J5, s5', g5, et, F5, e5, o5, sl5⟩ := z
          subst et
          cases hl2
          exact ⟨σ5, H5, J5, hn s5' g5 rfl F5 σ5 H5 ((s.trans e1).trans e5) o5 sl5⟩
        | ret u =>
          obtain ⟨w, σ5, H5, J5, rv, r, et, rr⟩ := z
          subst et
          cases hl2
          exact ⟨w, σ5, H5, J5, rv, hr r w H5 rfl rr⟩
end
end Z
namespace Z
open PySem PySem.Spec PyProof.Rows L2
theorem lp_lpR {α S : Type} (f : S → α → Option S) : ∀ (xs : List α) (s fin : S), lp f xs s = some fin → lpR (R := Empty) (fun s x => (f s x).map Step.go) xs s = some (.inr fin)
  | [], s, fin, h => by
    cases h
    rfl
  | x :: xs, s, fin, h => by
    unfold lp at h
    unfold lpR
    cases e : f s x with
    | none =>
      rw [e] at h
      cases h
    | some s' =>
      rw [e] at h
      exact lp_lpR f xs s' fin h
section
variable {X : Cx} {es : List Slot} {os os1 os2 : Os} {F0 : Hp} {rest : List Stmt} {D : Ends} {N V G W : List Str} {k i vi gi : Nat} {x : Str} {p pos : Pos} {e e2 : Expr} {α : Type}
/-- what a turn of a plain loop is to reach -/
def LgD {S γ : Type} (F0 : Hp) (ES : S → γ → List Slot) (OS : S → γ → Os) (s : S) : Ends where
  nx := fun σ H => ∃ g, At F0 (ES s g) (OS s g) σ H
  ct := fun σ H => ∃ g, At F0 (ES s g) (OS s g) σ H
  bk := fun _ _ => False
  rt := fun _ _ => False
theorem sx_for {S γ : Type} {tg iter : Expr} {body : List Stmt} {xs : List α} {vp : α → VP} {c : Os → Prop} {up : α → List Slot → List Slot} {fpos : Pos} (f : S → α → Option S) (ES : S → γ → List Slot) (OS : S → γ → Os)
    (B : Bd X N W G k) (T : Bt X V) (hg : ∀ x, GX X tg (vp x) (up x)) (s0 : S) (g0 : γ) (fin : S) (hl : lp f xs s0 = some fin) (hi : IX X tg es os iter xs vp c (OS s0 g0)) (h0 : Wk es (ES s0 g0)) (hc : ∀ s g, c (OS s g))
    (hb : ∀ F1, Same F0 F1 → ∀ s g x s', x ∈ xs → f s x = some s' → SX X (up x (ES s g)) (OS s g) F1 body (LgD F1 ES OS s'))
    (hn : ∀ g, SX X (ES fin g) (OS fin g) F0 rest D) (hs : ∀ x, foldedSetIterable iter X.env x = pure x := by intro _; rfl) : SX X es os F0 (.For tg iter body [] fpos :: rest) D := by
  refine sx_forR (R := Empty) (fun s x => (f s x).map Step.go) ES OS (fun _ _ _ => False) B T hg s0 g0 (.inr fin) (lp_lpR f xs s0 fin hl) hi h0 hc (fun F1 h1 s g x t hx ht => ?_) (fun s g e => ?_) (fun r _ _ _ z => z.elim) hs
  · cases e : f s x with
    | none =>
      rw [e] at ht
      cases ht
    | some s' =>
      rw [e] at ht
      cases ht
      intro F σ H a b c pins sh I
      refine wpAny_mono (hb F1 h1 s g x s' hx e F σ H a b c pins sh I) (fun fl s5 z => ?_) fun _ _ z => z
      cases fl with
      | next =>
        obtain ⟨σ5, H5, J5, g5, a5⟩ := z
        exact ⟨σ5, H5, J5, s', g5, rfl, a5⟩
      | cont =>
        obtain ⟨σ5, H5, J5, g5, a5⟩ := z
        exact ⟨σ5, H5, J5, s', g5, rfl, a5⟩
      | brk =>
        obtain ⟨σ5, H5, J5, z⟩ := z
        exact z.elim
      | ret u =>
        obtain ⟨w, σ5, H5, J5, rv, z⟩ := z
        exact z.elim
  · cases e
    exact hn g
theorem sx_while {R S γ : Type} {cd : Expr} {body : List Stmt} {fpos : Pos} (c : S → Option Bool) (f : S → Option (Step R S)) (ES : S → γ → List Slot) (OS : S → γ → Os) (RT : R → L2.V → Hp → Prop)
    (T : Bt X V) (n : Nat) (s0 : S) (g0 : γ) (o : Sum R S) (hl : wh c f n s0 = some o) (h0 : Wk es (ES s0 g0)) (ho : os = OS s0 g0)
    (hc : ∀ s g b, c s = some b → TX X (ES s g) (OS s g) cd b (OS s g))
    (hb : ∀ F1, Same F0 F1 → ∀ s g t, c s = some true → f s = some t → SX X (ES s g) (OS s g) F1 body (LpD F1 ES OS RT t))
    (hn : ∀ s g, o = .inr s → SX X (ES s g) (OS s g) F0 rest D) (hr : ∀ r v H, o = .inl r → RT r v H → D.rt v H) : SX X es os F0 (.While cd body [] fpos :: rest) D := fun F σ H s ow sl => by
  subst ho
  refine wps_cons (ws_of (ps_while T.po pt_u pss_u) ⟨fun m σ' H' => ∃ s' g', wh c f m s' = some o ∧ At F (ES s' g') (OS s' g') σ' H', ⟨n, s0, g0, hl, F, Same.refl F, ow, sl.weak h0⟩, ?_⟩)
  rintro m σ' H' ⟨s', g', hl', F', e', o', sl'⟩
  cases m with
  | zero => cases hl'
  | succ m =>
    unfold wh at hl'
    cases hcs : c s' with
    | none =>
      rw [hcs] at hl'
      cases hl'
    | some b =>
      rw [hcs] at hl'
      refine hc s' g' b hcs F' σ' H' _ o' sl' fun F1 H1 e1 o1 => ?_
      cases b with
      | false =>
        have hl2 : some (.inr s') = some o := hl'
        cases hl2
        rw [if_neg Bool.false_ne_true]
        exact hn s' g' rfl F1 σ' H1 ((s.trans e').trans e1) o1 (sl'.mono e1)
      | true =>
        have hl2 : (f s').bind (Step.aft (wh c f m)) = some o := hl'
        rw [if_pos rfl]
        cases hf : f s' with
        | none =>
          rw [hf] at hl2
          cases hl2
        | some t =>
          rw [hf] at hl2
          have hl3 : Step.aft (wh c f m) t = some o := hl2
          refine ⟨fun σ2 H2 => ∃ s2 g2, t = .go s2 ∧ At F (ES s2 g2) (OS s2 g2) σ2 H2, ?_, ?_⟩
          · rintro σ2 H2 ⟨s2, g2, rfl, a2⟩
            exact ⟨m, Nat.lt_succ_self m, s2, g2, hl3, a2⟩
          · intro pins sh I
            refine wpAny_mono (hb F s s' g' t hcs hf F1 σ' H1 (e'.trans e1) o1 (sl'.mono e1) pins sh I) (fun fl s5 z => ?_) fun _ _ z => z
            cases fl with
            | next => exact z
            | cont => exact z
            | brk =>
              obtain ⟨σ5, H5, J5, s5', g5, et, F5, e5, o5, sl5⟩ := z
              subst et
              cases hl3
              exact ⟨σ5, H5, J5, hn s5' g5 rfl F5 σ5 H5 (s.trans e5) o5 sl5⟩
            | ret u =>
              obtain ⟨w, σ5, H5, J5, rv, r, et, rr⟩ := z
              subst et
              cases hl3
              exact ⟨w, σ5, H5, J5, rv, hr r w H5 rfl rr⟩
theorem sl_wipe {F : Hp} {σ : L2.St} (h : Sl F es σ) : ∀ vs : List Nat, (∀ j ∈ vs, ∃ s, es[j]? = some s ∧ s = un) → Sl F es (wipe σ vs)
  | [], _ => h
  | v :: vs, hv => by
    have ih := sl_wipe h vs fun j hj => hv j (List.mem_cons_of_mem _ hj)
    obtain ⟨s, e, eu⟩ := hv v List.mem_cons_self
    subst eu
    have := ih.set (i := v) (s := un) (o := none) fun _ _ => trivial
    have e2 : es.set v un = es := by
      refine List.ext_getElem? fun j => ?_
      by_cases hj : v = j
      · subst hj
        rw [List.getElem?_set_self (List.getElem?_eq_some_iff.mp e).1, e]
      · rw [List.getElem?_set_ne hj]
    rw [e2] at this
    exact this
/-- the contexts in which the block of a comprehension runs -/
def Fam (X : Cx) (scope : Scope) (X' : Cx) : Prop := ∃ s H C cl fp, X' = X.blk s H scope (compEnvC scope cl C X.env) fp
/-- the tests of a comprehension: none, or one -/
inductive PTX (X : Cx) (es : List Slot) (os : Os) : List Expr → Bool → Os → Prop
  | nil : PTX X es os [] true os
  | one {c : Expr} {b : Bool} {os' : Os} : TX X es os c b os' → PTX X es os [c] b os'
def tIfs (X : Cx) (scope : Scope) (ifs : List Expr) : TT := fun σ H Q => match ifs with
  | [] => Q true H
  | [c] => ∀ X', Fam X scope X' → WT X' c σ H Q
  | _ => False
theorem pts_u {scope : Scope} {X' : Cx} (hf : Fam X scope X') : ∀ ifs : List Expr, PTs X' ifs (tIfs X scope ifs)
  | [] => pts_nil
  | [c] => pts_one ⟨fun pins s _ _ _ I h => h X' hf pins s I⟩
  | _ :: _ :: _ => ⟨fun _ _ _ _ _ _ h => h.elim⟩
def tElt (X : Cx) (scope : Scope) (e : Expr) : TE := fun σ H Q => ∀ X', Fam X scope X' → WE X' e σ H Q
theorem pe_elt {scope : Scope} {X' : Cx} (hf : Fam X scope X') : PE X' e (tElt X scope e) := ⟨fun pins s _ _ _ I h => h X' hf pins s I⟩
/-- the own names of a comprehension may be stored -/
def ownB (scope sc : Scope) (x : Str) : Bool := match (relS scope sc).names.lookup x with
  | some .local => true
  | some .cell => scope.names.lookup x == some .cell
  | _ => false
theorem pg_own {scope : Scope} {X' : Cx} {j : Nat} {y : Str} {tpos : Pos} (hf : Fam X scope X') (B : Bd X N W G k) (hj : N[j]? = some y) (ho : ownB scope X.env.scope y = true) : PG X' (.Name y tpos) (gName j) := by
  obtain ⟨s, H, C, cl, fp, rfl⟩ := hf
  unfold ownB at ho
  have e : (X.blk s H scope (compEnvC scope cl C X.env) fp).env.scope = relS scope X.env.scope := rfl
  split at ho
  · rename_i hl
    exact pg_name (B.hN ▸ B.nd) (B.hN ▸ hj) (.inl (by rw [e]; exact hl)) (.inr (by rw [e]; exact hl))
  · rename_i hl
    exact pg_name (B.hN ▸ B.nd) (B.hN ▸ hj) (.inr (by rw [e]; exact hl)) (.inl ho)
  · cases ho
/-- the state of a comprehension: the list so far, what is still to come -/
def LcS {S β : Type} (f : S → α → Option (Option β × S)) (OS : S → Os → Os) (enc : β → PyData) (xs : List α) (ys : List β) (sf : S) (os0 : Os) (Dl : Addr) (F1 : Hp) (i : Nat) (H : Hp) : Prop :=
  ∃ s d r F, lcS f (xs.drop i) s = some (r, sf) ∧ ys = d ++ r ∧ d.length ≤ i ∧ Same F1 F ∧ Ow F (OS s ((Dl, ol (d.map enc)) :: os0)) H
theorem lc_elt {S β : Type} {elt : Expr} {scope : Scope} {xs : List α} {enc : β → PyData} {f : S → α → Option (Option β × S)} {OS : S → Os → Os} {ys : List β} {sf : S} {os0 : Os} {Dl : Addr} {F1 F4 : Hp} {i : Nat} {up : List Slot} {t : Option β × S} {d r : List β} {σ : L2.St} {H4 : Hp} {os1 : Os}
    (hperm : ∀ s q tl, (OS s (q :: tl)).Perm (q :: OS s tl)) (hi : i < xs.length) (hz : xs.length < sizeLine) (hd : d.length ≤ i) (hr : ((lcS f (xs.drop (i + 1)) t.2).bind fun u => some (t.1.toList ++ u.1, u.2)) = some (r, sf)) (hy : ys = d ++ r)
    (e4 : Same F1 F4) (o4 : Ow F4 os1 H4) (sl : Sl F4 up σ) (key : ∀ X', Fam X scope X' → ∃ y, t.1 = some y ∧ EX X' up os1 elt (dat (enc y)) (OS t.2 ((Dl, ol (d.map enc)) :: os0))) :
    tElt X scope elt σ H4 fun y H5 => ∃ acc, H5 Dl = some (.lst acc) ∧ acc.length < sizeLine ∧ LcS f OS enc xs ys sf os0 Dl F1 (i + 1) (upd H5 Dl (.lst (acc ++ [y]))) := by
  intro X' hX'
  obtain ⟨y, hy1, he⟩ := key X' hX'
  refine he F4 σ H4 _ o4 sl fun F5 H5 v e5 o5 c5 => ?_
  have o6 := o5.perm (hperm t.2 _ os0)
  obtain ⟨_, vs, hu, hv⟩ := o6.atL
  have hl := dqall_len hv
  rw [List.length_map] at hl
  refine ⟨vs, hu, by omega, ?_⟩
  cases hu2 : lcS f (xs.drop (i + 1)) t.2 with
  | none =>
    rw [hu2] at hr
    cases hr
  | some w =>
    rw [hu2, hy1] at hr
    have hr2 : (y :: w.1, w.2) = (r, sf) := Option.some.inj hr
    obtain ⟨rfl, rfl⟩ := Prod.mk.inj hr2
    refine ⟨t.2, d ++ [y], w.1, F5, by rw [hu2], by rw [hy, List.append_assoc]; rfl, by rw [List.length_append, List.length_singleton]; omega, e4.trans e5, ?_⟩
    refine (o6.putL (ds' := (d ++ [y]).map enc) ?_).perm (hperm t.2 _ os0).symm
    rw [List.map_append]
    exact dqall_app hv (.cons c5.now .nil)
theorem lc_read {S β : Type} {elt iter tg : Expr} {ifs : List Expr} {scope : Scope} {vs : List Nat} {xs : List α} {vp : α → VP} {c : Os → Prop} {g : TG} {up : α → List Slot → List Slot} {enc : β → PyData} {f : S → α → Option (Option β × S)} {OS : S → Os → Os}
    {s0 : S} {os0 : Os} {ys : List β} {sf : S} (hv : ∀ j ∈ vs, es[j]? = some un) (hid : ∀ σ : L2.St, wipe (wipe σ vs) vs = wipe σ vs)
    (hg : ∀ x F σ H v Q os2, Sl F es σ → wipe σ vs = σ → Ow F os2 H → Cl (vp x) F v → (∀ σ', Sl F (up x es) σ' → wipe σ' vs = σ → Q σ' H) → g v σ H Q)
    (hif : ifs.length ≤ 1) (hl : lcS f xs s0 = some (ys, sf)) (hz : xs.length < sizeLine) (hi : IX X tg es os iter xs vp c (OS s0 os0)) (hc : ∀ s tl, c (OS s tl)) (hperm : ∀ s q tl, (OS s (q :: tl)).Perm (q :: OS s tl))
    (hb : ∀ s x t tl, x ∈ xs → f s x = some t → ∃ b os1, ∀ X', Fam X scope X' → PTX X' (up x es) (OS s tl) ifs b os1 ∧ (b = true → ∃ y, t.1 = some y ∧ EX X' (up x es) os1 elt (dat (enc y)) (OS t.2 tl)) ∧ (b = false → t.1 = none ∧ os1 = OS t.2 tl))
    {F σ H Q} (ow : Ow F os H) (sl : Sl F es σ) (q : ∀ F' H' p, Same F F' → Ow F' ((p, ol (ys.map enc)) :: OS sf os0) H' → Q (.ref p) H') : tLc (WI X tg iter) g (tIfs X scope ifs) (tElt X scope elt) vs σ H Q := by
  refine hi F σ H _ ow sl fun F1 H1 J e1 o1 good Dl hD => ?_
  refine ⟨fun i m H => m = xs.length - i ∧ i ≤ xs.length ∧ LcS f OS enc xs ys sf os0 Dl F1 i H, ⟨_, rfl, Nat.zero_le _, s0, [], ys, F1, hl, rfl, Nat.le_refl _, Same.refl F1, ?_⟩, ?_⟩
  · exact (o1.new hD fun G g => ⟨[], rfl, .nil⟩).perm (hperm s0 _ os0).symm
  · rintro i m H' ⟨rfl, hi, s, d, r, F', hr, hy, hdl, e', o'⟩
    obtain ⟨stop, go⟩ := good F' H' _ i e' o' (hc s _)
    cases hx : xs[i]? with
    | none =>
      have hi2 : xs.length ≤ i := List.getElem?_eq_none_iff.mp hx
      rw [List.drop_eq_nil_of_le hi2] at hr
      cases hr
      refine .inl ⟨stop hi2, q F' H' Dl (e1.trans e') ?_⟩
      rw [hy, List.append_nil]
      exact o'.perm (hperm _ _ os0)
    | some x =>
      obtain ⟨hgo, hyl⟩ := go x hx
      have hlt : i < xs.length := (List.getElem?_eq_some_iff.mp hx).1
      rw [drop_cons' hx] at hr
      unfold lcS at hr
      cases hf : f s x with
      | none =>
        rw [hf] at hr
        cases hr
      | some t =>
        rw [hf] at hr
        have hr : ((lcS f (xs.drop (i + 1)) t.2).bind fun u => some (t.1.toList ++ u.1, u.2)) = some (r, sf) := hr
        refine .inr ⟨hgo, LcS f OS enc xs ys sf os0 Dl F1 (i + 1), fun H2 hH2 => ⟨_, by omega, rfl, by omega, hH2⟩, fun v H3 yv => ?_⟩
        obtain ⟨F3, e3, o3, c3⟩ := hyl v H3 yv
        have slw : Sl F3 es (wipe σ vs) := sl_wipe (sl.mono ((e1.trans e').trans e3)) vs fun j hj => ⟨un, hv j hj, rfl⟩
        refine hg x F3 (wipe σ vs) H3 v _ _ slw (hid σ) o3 c3 fun σ' sl' hw => ⟨hw, ?_⟩
        obtain ⟨b, os1, key⟩ := hb s x t ((Dl, ol (d.map enc)) :: os0) (List.mem_of_getElem? hx) hf
        have e4 := e'.trans e3
        match ifs, hif, key with
        | [], _, key =>
          refine lc_elt hperm hlt hz hdl hr hy e4 o3 sl' fun X' hX' => ?_
          obtain ⟨k1, k2, _⟩ := key X' hX'
          cases k1
          exact k2 rfl
        | [cd], _, key =>
          intro X' hX'
          obtain ⟨k1, k2, k3⟩ := key X' hX'
          cases k1 with
          | one ht =>
            refine ht F3 σ' H3 _ o3 sl' fun F4 H4 e5 o4 => ?_
            cases b with
            | true =>
              rw [if_pos rfl]
              exact lc_elt hperm hlt hz hdl hr hy (e4.trans e5) o4 (sl'.mono e5) fun X'' hX'' => (key X'' hX'').2.1 rfl
            | false =>
              rw [if_neg Bool.false_ne_true]
              obtain ⟨k4, rfl⟩ := k3 rfl
              cases hu2 : lcS f (xs.drop (i + 1)) t.2 with
              | none =>
                rw [hu2] at hr
                cases hr
              | some w =>
                rw [hu2, k4] at hr
                have hr2 : (w.1, w.2) = (r, sf) := Option.some.inj hr
                obtain ⟨rfl, rfl⟩ := Prod.mk.inj hr2
                exact ⟨t.2, d, w.1, F4, by rw [hu2], hy, by omega, e4.trans e5, o4⟩
        | _ :: _ :: _, hif, key =>
          rw [List.length_cons, List.length_cons] at hif
          omega
/-- all that a comprehension asks -/
structure LcOk (X : Cx) (es : List Slot) (os : Os) {α S β : Type} (tg iter elt : Expr) (ifs : List Expr) (scope : Scope) (own : List (Str × Nat)) (xs : List α) (vp : α → VP) (c : Os → Prop) (g : TG) (up : α → List Slot → List Slot) (enc : β → PyData)
    (f : S → α → Option (Option β × S)) (OS : S → Os → Os) (s0 : S) (os0 : Os) (ys : List β) (sf : S) : Prop where
  calm : X.calm = true
  nd : X.N.Nodup
  ok : BlkOk X.N X.env.scope scope own
  pg : ∀ X', Fam X scope X' → PG X' tg g
  hv : ∀ j ∈ own.map (·.2), es[j]? = some un
  hid : ∀ σ : L2.St, wipe (wipe σ (own.map (·.2))) (own.map (·.2)) = wipe σ (own.map (·.2))
  hg : ∀ x F σ H v Q os2, Sl F es σ → wipe σ (own.map (·.2)) = σ → Ow F os2 H → Cl (vp x) F v → (∀ σ', Sl F (up x es) σ' → wipe σ' (own.map (·.2)) = σ → Q σ' H) → g v σ H Q
  hif : ifs.length ≤ 1
  hl : lcS f xs s0 = some (ys, sf)
  hz : xs.length < sizeLine
  hi : IX X tg es os iter xs vp c (OS s0 os0)
  hc : ∀ s tl, c (OS s tl)
  hperm : ∀ s q tl, (OS s (q :: tl)).Perm (q :: OS s tl)
  hb : ∀ s x t tl, x ∈ xs → f s x = some t → ∃ b os1, ∀ X', Fam X scope X' → PTX X' (up x es) (OS s tl) ifs b os1 ∧ (b = true → ∃ y, t.1 = some y ∧ EX X' (up x es) os1 elt (dat (enc y)) (OS t.2 tl)) ∧ (b = false → t.1 = none ∧ os1 = OS t.2 tl)
section
variable {α S β : Type} {tg iter elt : Expr} {ifs : List Expr} {scope : Scope} {own : List (Str × Nat)} {xs : List α} {vp : α → VP} {c : Os → Prop} {g : TG} {up : α → List Slot → List Slot} {enc : β → PyData}
    {f : S → α → Option (Option β × S)} {OS : S → Os → Os} {s0 : S} {os0 : Os} {ys : List β} {sf : S}
theorem en_lc (h : LcOk X es os tg iter elt ifs scope own xs vp c g up enc f OS s0 os0 ys sf) (hs : ∀ x, foldedSetIterable iter X.env x = pure x := by intro _; rfl) : EN X es os (.ListComp elt [⟨tg, iter, ifs, 0⟩] scope pos) (ol (ys.map enc)) (OS sf os0) := fun F σ H Q ow sl q =>
  we_of (pe_lc h.calm h.nd pi_u h.ok (fun s H C cl fp => h.pg _ ⟨s, H, C, cl, fp, rfl⟩) (fun s H C cl fp => pts_u ⟨s, H, C, cl, fp, rfl⟩ ifs) (fun s H C cl fp => pe_elt ⟨s, H, C, cl, fp, rfl⟩) hs)
    (lc_read h.hv h.hid h.hg h.hif h.hl h.hz h.hi h.hc h.hperm h.hb ow sl q)
theorem sx_asgLc {y : Str} {py spos : Pos} (B : Bd X N W G k) (T : Bt X V) (hi : N[i]? = some y) (hyl : X.env.scope.names.lookup y = some .local) (h : LcOk X es os tg iter elt ifs scope own xs vp c g up enc f OS s0 os0 ys sf)
    (hsw : swapsWith (.ListComp elt [⟨tg, iter, ifs, 0⟩] scope pos) (some (.Name y py)) spos.line X.env = pure true)
    (hn : ∀ p, SX X (es.set i (sl (Z.own p))) ((p, ol (ys.map enc)) :: OS sf os0) F0 rest D) (hs : ∀ x, foldedSetIterable iter X.env x = pure x := by intro _; rfl) : SX X es os F0 (.Assign [.Name y py] (.ListComp elt [⟨tg, iter, ifs, 0⟩] scope pos) spos :: rest) D := fun F σ H s ow sl =>
  wps_cons (ws_of (ps_setLc h.calm h.nd (B.hN ▸ hi) hyl hsw pi_u h.ok (fun s H C cl fp => h.pg _ ⟨s, H, C, cl, fp, rfl⟩) (fun s H C cl fp => pts_u ⟨s, H, C, cl, fp, rfl⟩ ifs) (fun s H C cl fp => pe_elt ⟨s, H, C, cl, fp, rfl⟩) hs)
    (lc_read (Q := fun v H1 => gName i v σ H1 (WPs X rest D)) h.hv h.hid h.hg h.hif h.hl h.hz h.hi h.hc h.hperm h.hb ow sl fun F1 H1 p e1 o1 => hn p F1 _ H1 (s.trans e1) o1 ((sl.mono e1).put cl_own)))
end
/-- the target is one name -/
theorem lc_gname {α : Type} {vp : α → VP} {j : Nat} (x : α) (F : Hp) (σ : L2.St) (H : Hp) (v : L2.V) (Q : L2.St → Hp → Prop) (os2 : Os) (sl : Sl F es σ) (hw : wipe σ [j] = σ) (ow : Ow F os2 H) (c : Cl (vp x) F v) (q : ∀ σ', Sl F (es.set j (Z.sl (vp x))) σ' → wipe σ' [j] = σ → Q σ' H) : gName j v σ H Q := by
  refine q _ (sl.put c) ?_
  show (σ.set j (some v)).set j none = σ
  rw [List.set_set]
  exact hw
theorem lc_id1 {j : Nat} (σ : L2.St) : wipe (wipe σ [j]) [j] = wipe σ [j] := by
  show (σ.set j none).set j none = σ.set j none
  rw [List.set_set]
/-- a pair of names -/
theorem lc_id2 {i j : Nat} (hij : i ≠ j) (σ : L2.St) : wipe (wipe σ [i, j]) [i, j] = wipe σ [i, j] := by
  show (((σ.set j none).set i none).set j none).set i none = (σ.set j none).set i none
  rw [List.set_comm _ _ hij, List.set_set, List.set_set]
theorem lc_gpair {α : Type} {K : PySem.W.Frag} {d1 d2 : α → PyData} {i j : Nat} (hij : i ≠ j) (x : α) (F : Hp) (σ : L2.St) (H : Hp) (v : L2.V) (Q : L2.St → Hp → Prop) (os2 : Os) (sl : Sl F es σ) (hw : wipe σ [i, j] = σ) (ow : Ow F os2 H) (c : Cl (dat (.tuple [d1 x, d2 x])) F v)
    (q : ∀ σ', Sl F ((es.set i (Z.sl (dat (d1 x)))).set j (Z.sl (dat (d2 x)))) σ' → wipe σ' [i, j] = σ → Q σ' H) : gTup K 2 (gCons (gName i) (gCons (gName j) gNil)) v σ H Q := by
  obtain ⟨p, vs, rfl, hp, hv⟩ := rdt_dat F v c
  cases hv with
  | cons k1 r =>
    cases r with
    | cons k2 r =>
      cases r
      refine ⟨p, _, rfl, .of (ow.ex _ _ hp), rfl, _, _, rfl, _, _, rfl, rfl, ?_⟩
      refine q _ ((sl.put (cl_dat k1)).put (cl_dat k2)) ?_
      have hw2 : (σ.set j none).set i none = σ := hw
      show (((σ.set i _).set j _).set j none).set i none = σ
      rw [List.set_set, List.set_comm _ _ hij, List.set_set, List.set_comm _ _ (Ne.symm hij)]
      rw [List.set_comm _ _ hij]
      exact hw2
theorem pg_own2 {scope : Scope} {X' : Cx} {i j : Nat} {y z : Str} {p1 p2 tpos : Pos} {kk : Nat} (hf : Fam X scope X') (B : Bd X N W G k) (hi : N[i]? = some y) (hj : N[j]? = some z) (ho : ownB scope X.env.scope y = true) (ho2 : ownB scope X.env.scope z = true) :
    PG X' (.Tuple [.Name y p1, .Name z p2] kk tpos) (gTup X'.K 2 (gCons (gName i) (gCons (gName j) gNil))) := by
  have hc : X'.calm = true := by
    obtain ⟨s, H, C, cl, fp, rfl⟩ := hf
    exact B.calm
  exact pg_tup hc (pgs_cons (pg_own hf B hi ho) (pgs_cons (pg_own hf B hj ho2) pgs_nil))
/-- a body's facts hold in a comprehension's block -/
theorem Bd.fam {scope : Scope} {X' : Cx} {W' G' : List Str} (B : Bd X N W G k) (hf : Fam X scope X') (h : namB (relS scope X.env.scope) W' G' = true) : Bd X' N W' G' k := by
  obtain ⟨s, H, C, cl, fp, rfl⟩ := hf
  exact ⟨B.hN, B.nd, B.calm, B.gd, B.room, nam_vis h, nam_gl h⟩
end
end Z
namespace Z
open PySem PySem.Spec PyProof.Rows L2
section
variable {P : Program} {w : World} {K : PySem.W.Frag} {mg : Str → Option Value} {base : Heap}
theorem pass_nox {N : List Str} {qual : Str} {sc : Scope} {f : Addr} {cdv : Value} {A : Around} {outer : List Env} {s : Shared} {H : Hp} {E : XK} {sts : List Stmt} {D : Ends} {σ : L2.St} {H' : Hp}
    (h : WPs (cxOf CX0 P w K mg base N qual sc f cdv A outer s H E).nox sts D σ H') : WPs (cxOf CX0 P w K mg base N qual sc f cdv A outer s H E) sts D σ H' :=
  wps_of (PSs.nox (pss_u (X := (cxOf CX0 P w K mg base N qual sc f cdv A outer s H E).nox))) h
theorem cla_start {F : Hp} : ∀ {φs : List VP} {vs : List L2.V} (n : Nat), ClA φs F vs → Sl F (φs.map sl ++ List.replicate n un) (vs.map some ++ List.replicate n none)
  | [], _, n, h => by
    have e : _ = [] := h
    subst e
    refine ⟨by simp, fun i t q => ?_⟩
    have q' : (List.replicate n un)[i]? = some t := q
    rw [List.getElem?_replicate] at q'
    split at q'
    · rename_i hi
      cases q'
      refine ⟨none, ?_, fun _ _ => trivial⟩
      show (List.replicate n none)[i]? = some none
      rw [List.getElem?_replicate, if_pos hi]
    · cases q'
  | φ :: φs, _, n, ⟨v, r, e, h1, h2⟩ => by
    subst e
    have ih := cla_start n h2
    refine ⟨by simpa using ih.len, fun i t q => ?_⟩
    cases i with
    | zero =>
      have q' : some (sl φ) = some t := q
      cases q'
      exact ⟨some v, rfl, fun G g => ⟨v, rfl, h1 G g⟩⟩
    | succ i => exact ih.get i t q
/-- how a body hands back what a promise tells -/
structure RetZ (F0 : Hp) (os : Os) (φ : VP) (D : Ends) : Prop where
  rt : ∀ F H v, Same F0 F → Ow F os H → Cl φ F v → D.rt v H
  nx : ∀ σ H, D.rt .non H → D.nx σ H
structure RetN (F0 : Hp) (os : Os) (n : Ent) (D : Ends) : Prop where
  rt : ∀ F H p, Same F0 F → Ow F ((p, n) :: os) H → D.rt (.ref p) H
variable {α β : Type} {ps : α → List VP} {pre : α → Os} {m : α → Option β} {res : α → β → VP} {post : α → β → Os} {n : α → β → Ent} {x : Str} {st : Stmt} {f : Addr} {fd : FuncData} {N V Gs pn : List Str} {k nl : Nat}
theorem cal_Z (Fn : Fun K x x st f fd) (S : FnScope N pn (defScope st)) (nam : namB (defScope st) V Gs = true) (loc : V.all (locB (defScope st)) = true) (hmg : mg x = some (.ref f)) (hb : Binds K fd pn []) (hps : ∀ a, (ps a).length = pn.length) (hN : N.length = pn.length + nl)
    (body : ∀ (f : Addr) (cdv : Value) (A : Around) (outer : List Env) (s : Shared) (H : Hp) (E : XK) (a : α) (b : β) (F0 : Hp) (os : Os) (D : Ends), Bd (cxOf CX0 P w K mg base N x (defScope st) f cdv A outer s H E).nox N V Gs k → Bt (cxOf CX0 P w K mg base N x (defScope st) f cdv A outer s H E).nox V →
      m a = some b → RetZ F0 (post a b ++ os) (res a b) D → SX (cxOf CX0 P w K mg base N x (defScope st) f cdv A outer s H E).nox ((ps a).map sl ++ List.replicate nl un) (pre a ++ os) F0 (defBody st) D) : Cal P w K mg base (k + 1) x st pn (spZ ps pre m res post) := by
  refine ⟨f, fd, Fn, fun_ok Fn S (spZ_len hps) ?_, hmg, hb⟩
  rintro cdv A outer s H vs Q E hg hr ⟨a, b, F, os, c, ow, hm, q⟩
  refine pass_nox ?_
  have hl := (cla_len c).trans (hps a)
  have hst : L2.start N vs = vs.map some ++ List.replicate nl none := by
    unfold L2.start
    rw [hl, hN, Nat.add_sub_cancel_left]
  rw [hst]
  refine body f cdv A outer s H E a b F os _ ⟨rfl, S.nd, rfl, hg, hr, nam_vis nam, nam_gl nam⟩ ⟨fun _ => rfl, fun y hy => loc_of (List.all_eq_true.mp loc y hy), PassesOwn.never⟩ hm ⟨fun F' H' v e o c => q F' H' v e o c, fun _ _ z => z⟩ F _ H (Same.refl F) ow (cla_start nl c)
theorem cal_N (Fn : Fun K x x st f fd) (S : FnScope N pn (defScope st)) (nam : namB (defScope st) V Gs = true) (loc : V.all (locB (defScope st)) = true) (hmg : mg x = some (.ref f)) (hb : Binds K fd pn []) (hps : ∀ a, (ps a).length = pn.length) (hN : N.length = pn.length + nl)
    (body : ∀ (f : Addr) (cdv : Value) (A : Around) (outer : List Env) (s : Shared) (H : Hp) (E : XK) (a : α) (b : β) (F0 : Hp) (os : Os) (D : Ends), Bd (cxOf CX0 P w K mg base N x (defScope st) f cdv A outer s H E).nox N V Gs k → Bt (cxOf CX0 P w K mg base N x (defScope st) f cdv A outer s H E).nox V →
      m a = some b → RetN F0 (post a b ++ os) (n a b) D → SX (cxOf CX0 P w K mg base N x (defScope st) f cdv A outer s H E).nox ((ps a).map sl ++ List.replicate nl un) (pre a ++ os) F0 (defBody st) D) : Cal P w K mg base (k + 1) x st pn (spN ps pre m n post) := by
  refine ⟨f, fd, Fn, fun_ok Fn S (spN_len hps) ?_, hmg, hb⟩
  rintro cdv A outer s H vs Q E hg hr ⟨a, b, F, os, c, ow, hm, q⟩
  refine pass_nox ?_
  have hl := (cla_len c).trans (hps a)
  have hst : L2.start N vs = vs.map some ++ List.replicate nl none := by
    unfold L2.start
    rw [hl, hN, Nat.add_sub_cancel_left]
  rw [hst]
  refine body f cdv A outer s H E a b F os _ ⟨rfl, S.nd, rfl, hg, hr, nam_vis nam, nam_gl nam⟩ ⟨fun _ => rfl, fun y hy => loc_of (List.all_eq_true.mp loc y hy), PassesOwn.never⟩ hm ⟨fun F' H' p e o => q F' H' p e o⟩ F _ H (Same.refl F) ow (cla_start nl c)
end
/-- the law's call keeps a promise -/
def LawSp (K : PySem.W.Frag) (m : List Int → Option Bool) : Sp := spZ (fun ns => [scr K ns]) (fun _ => []) m (fun _ b => dat (.bool b)) (fun _ _ => [])
theorem law_run {P : Program} {w : World} {K : PySem.W.Frag} {mg mb : Str → Option Value} {k : Nat} {fa a : Addr} {fd : FuncData} {x : Str} {sp : Sp} {s1 : Shared} {vs : List Value} {ns : List Int}
    (KX : K.In s1.heap) (hns : s1.heap.Ns mainGlobals mg) (hb : s1.heap.Ns builtinsNs mb) (hbb : ∀ x : Str, x ≠ "__name__" → mb x = bootBuiltins x) (hlim : s1.heap.NoLimit) (hg : s1.gens = #[])
    (ha : s1.heap.get? a = some { cls := .type "list", data := .seq vs.toArray }) (hi : IntsAre vs ns) (hl : ns.length ≤ sizeLine) (hr : Room k callerA)
    (F : ∀ base : Heap, K.In base → base.Ns mainGlobals mg → FnG P w K mg base CX0 k fa fd [x] sp) (hbind : ∀ (s : Shared) (u : Value), BindsTo s fd ⟨[u], []⟩ [(x, u)])
    (hsp : ∀ H : Hp, Only H → SqL K H a (ns.map V.int) → sp [.ref a] H (fun v _ => v = .bl true) E0) :
    codeAny (model P w) callerA (.call (.ref fa) ⟨[.ref a], []⟩) (fun r s' => r = .ok (.ret (.bool true)) ∧ OldK s1.heap s'.heap ∧ s'.os = s1.os ∧ AllBare s'.gens) s1 := by
  have rv := vals_ints hi
  have step : ∀ H : Hp, Only H → SqL K H a (ns.map V.int) → HOk P w H s1.heap → (∀ b, H b ≠ none → b = a) → (H a ≠ none → K.lookup a = none) →
      codeAny (model P w) callerA (.call (.ref fa) ⟨[.ref a], []⟩) (fun r s' => r = .ok (.ret (.bool true)) ∧ OldK s1.heap s'.heap ∧ s'.os = s1.os ∧ AllBare s'.gens) s1 := by
    intro H only seq hok single lone
    have nsH : ∀ {b : Addr} {m : Str → Option Value}, s1.heap.Ns b m → (hidT s1.heap H).Ns b m := by
      rintro b m ⟨o, es, ep, e, d, r⟩
      refine ⟨o, es, ep, hidT_get e ?_, d, r⟩
      cases q : H b with
      | none => rfl
      | some u =>
        obtain rfl : b = a := single b (by rw [q]; simp)
        rw [ha] at e
        cases e
        have d' : Data.seq vs.toArray _ = Data.dict es ep := d
        cases d'
    have kin : K.In (hidT s1.heap H) := by
      intro b o e
      refine hidT_get (KX b o e) ?_
      cases q : H b with
      | none => rfl
      | some u =>
        obtain rfl : b = a := single b (by rw [q]; simp)
        have := lone (by rw [q]; simp)
        rw [this] at e
        cases e
    obtain ⟨mc, lim1, lim2⟩ := hlim
    have e0 : Env0 P w K mg (hidT s1.heap H) callerA [] s1 H :=
      { frames := rfl
        mod := ⟨kin, nsH hns, ⟨mb, nsH hb, hbb⟩, ⟨mc, nsH lim1, lim2⟩⟩
        bs := fun b o e => of_hidT e
        bsz := Nat.le_of_eq (hidT_size _ _)
        funs := trivial
        frf := fun b hb => nomatch (show b ∈ ([] : List Addr) from hb)
        hok := hok
        bare := .of_eq hg }
    refine codeAny_mono ((F _ kin (nsH hns)).run callerA [] s1 H ⟨[.ref a], []⟩ [.ref a] [.ref a] _ _ rfl hr e0 (hbind s1 (.ref a)) (.cons rfl .nil) (hsp H only seq)) ?_
    intro r s' h
    cases r with
    | error e => exact h.elim
    | ok fl =>
      cases fl with
      | next => exact h.elim
      | brk => exact h.elim
      | cont => exact h.elim
      | ret u =>
        obtain ⟨v, H', os, bare, un, hok', r', q⟩ := h
        obtain rfl : v = .bl true := q
        obtain rfl : u = Value.bool true := r'
        refine ⟨rfl, OldK.of_keep ?_, os, bare⟩
        intro b o e
        cases q : H b with
        | none => exact un.keep b o e q (fun z => nomatch (show b ∈ ([] : List Addr) from z)) (fun z => nomatch z)
        | some u =>
          rcases only b with z | ⟨ob, xs, z⟩
          · rw [q] at z
            cases z
          · obtain ⟨e1, _⟩ := hok b _ z
            obtain ⟨e2, _⟩ := hok' b _ (un.frzs b ob _ z)
            rw [e] at e1
            cases e1
            exact e2
  cases hk : K.lookup a with
  | some o =>
    have e := KX a o hk
    rw [ha] at e
    cases e
    exact step (fun _ => none) (fun _ => .inl rfl) (.inr ⟨_, vs.toArray, _, hk, rfl, rfl, rfl, by rw [List.size_toArray, hi.length]; exact hl, by simpa using rv⟩) (fun b u z => nomatch z) (fun b z => absurd rfl z) fun z => absurd rfl z
  | none =>
    let Hs : Hp := fun b => if b = a then some (.frz { cls := .type "list", data := .seq vs.toArray } (.lst (ns.map V.int))) else none
    have at_ : Hs a = some (.frz { cls := .type "list", data := .seq vs.toArray } (.lst (ns.map V.int))) := if_pos rfl
    have off : ∀ b, b ≠ a → Hs b = none := fun b h => if_neg h
    refine step Hs (fun b => ?_) (.inl (.inr ⟨_, at_⟩)) (fun b u z => ?_) (fun b z => Classical.byContradiction fun h => z (off b h)) fun _ => hk
    · by_cases h : b = a
      · exact .inr ⟨_, _, h ▸ at_⟩
      · exact .inl (off b h)
    · by_cases h : b = a
      · subst h
        rw [at_] at z
        cases z
        exact ⟨ha, by rw [List.length_map]; exact hl, vs, _, rv, ha⟩
      · rw [off b h] at z
        cases z
theorem law_sp {K : PySem.W.Frag} {m : List Int → Option Bool} {H : Hp} {a : Addr} {ns : List Int} (hm : m ns = some true) (hS : SqL K H a (ns.map V.int)) : LawSp K m [.ref a] H (fun v _ => v = .bl true) E0 :=
  ⟨ns, true, H, [], ⟨_, [], rfl, fun G g => ⟨a, rfl, g.seq hS⟩, rfl⟩, ⟨Same.refl H, [], .nil, (fun _ z => nomatch z), .nil⟩, hm, fun F' H' v _ _ c => clv_bool c⟩
/-- the goal that k_head leaves -/
theorem walk_ofG {l : PySem.W.OpenLaw} {n k : Nat} {q : Program} {loose : List Str} {XP : (Str → Option Value) → Heap → Prop} {YP : World → Heap → Prop} {d : DefRec} {K : Params → PySem.W.Frag} {m : List Int → Option Bool} {x : Str}
    (hn : l.most = some n) (hn2 : n ≤ sizeLine) (hdf : d.params.defaults = []) (hr : Room k callerA) (hY : ∀ (w : World) (h : Heap), YP w h → (K w.params).In h)
    (F : ∀ (w : World) (mg : Str → Option Value) (fa : Addr) (h : Heap), (K w.params).In h → h.Ns mainGlobals mg → mg d.name = some (.ref fa) →
      ∃ fd : FuncData, (∀ (s : Shared) (u : Value), BindsTo s fd ⟨[u], []⟩ [(x, u)]) ∧ ∀ base : Heap, (K w.params).In base → base.Ns mainGlobals mg → FnG l.prog w (K w.params) mg base CX0 k fa fd [x] (LawSp (K w.params) m))
    (hm : ∀ ns : List Int, ns.length ≤ n → m ns = some true) : PySem.W.WalkO q loose XP YP l.row.toRowW d [] (fun f vs => PySem.call f vs) := by
  refine Att.attach_call hn hdf ?_
  intro w s0 s1 mg mb fa o pm cd doc a vs ns G Y ho hd hcd hmg hobj hints hlen hg
  have KX := hY w _ Y
  obtain ⟨fd, hb, hF⟩ := F w mg fa _ KX G.T.g hmg
  exact law_run KX G.T.g G.T.b G.T.builtins G.T.nolimit hg hobj hints (Nat.le_trans hlen hn2) hr hF hb fun H _ hS => law_sp (hm ns hlen) hS
end Z
namespace Z
open PySem PySem.Spec PyProof.Rows L2
theorem bnd {α β : Type} {m : Option α} {k : α → Option β} {b : β} (h : m.bind k = some b) : ∃ a, m = some a ∧ k a = some b := by
  cases m with
  | none => cases h
  | some a => exact ⟨a, rfl, h⟩
theorem ifT {α : Type} {c : Bool} {a b : Option α} {r : α} (h : (if c = true then a else b) = some r) (hc : c = true) : a = some r := by
  rw [if_pos hc] at h
  exact h
theorem ifF {α : Type} {c : Bool} {a b : Option α} {r : α} (h : (if c = true then a else b) = some r) (hc : c = false) : b = some r := by
  rw [if_neg (by rw [hc]; exact Bool.false_ne_true)] at h
  exact h
theorem som {α : Type} {a b : α} (h : some a = some b) : a = b := Option.some.inj h
/-- the ends of range(..) in bounds -/
def rngO (a b : Int) : Option (List Int) := if -(2 ^ 62) ≤ a ∧ a < 2 ^ 62 ∧ -(2 ^ 62) ≤ b ∧ b < 2 ^ 62 then some (range' a b) else none
/-- a list may grow by so many -/
def appO {α : Type} (xs : List α) (x : α) : Option (List α) := if xs.length < sizeLine then some (xs ++ [x]) else none
def popO {α : Type} (xs : List α) : Option (α × List α) := match xs.getLast? with
  | some x => some (x, xs.dropLast)
  | none => none
def setO {α : Type} (xs : List α) (i : Int) (x : α) : Option (List α) := (ixN xs.length i).bind fun m => some (xs.set m x)
abbrev eL {α : Type} (e : α → PyData) : List α → PyData := fun xs => .list (xs.map e)
abbrev eT {α : Type} (e : α → PyData) : List α → PyData := fun xs => .tuple (xs.map e)
abbrev eP {α β : Type} (e : α → PyData) (f : β → PyData) : α × β → PyData := fun x => .tuple [e x.1, f x.2]
structure Tri (α β γ : Type) where
  a : α
  b : β
  c : γ
  deriving DecidableEq
abbrev eP3 {α β γ : Type} (e : α → PyData) (f : β → PyData) (g : γ → PyData) : Tri α β γ → PyData := fun x => .tuple [e x.a, f x.b, g x.c]
section
variable {X : Cx} {es es' : List Slot} {os os1 os2 : Os} {F0 : Hp} {rest : List Stmt} {D : Ends} {N V G W : List Str} {k i vi gi : Nat} {x : Str} {p pos : Pos} {e e2 a b : Expr} {φ : VP} {n : Ent} {α : Type}
theorem At.weak {σ : L2.St} {H : Hp} (h : At F0 es os σ H) (w : Wk es es') : At F0 es' os σ H := let ⟨F, s, o, l⟩ := h; ⟨F, s, o, l.weak w⟩
theorem At.perm {σ : L2.St} {H : Hp} (h : At F0 es os σ H) (w : os.Perm os1) : At F0 es os1 σ H := let ⟨F, s, o, l⟩ := h; ⟨F, s, o.perm w, l⟩
theorem At.drop {σ : L2.St} {H : Hp} {q : Addr × Ent} (h : At F0 es (q :: os) σ H) : At F0 es os σ H := let ⟨F, s, o, l⟩ := h; ⟨F, s, o.drop, l⟩
theorem EX.weak (h : EX X es' os e φ os1) (w : Wk es es') : EX X es os e φ os1 := fun F σ H Q ow sl q => h F σ H Q ow (sl.weak w) q
theorem EN.weak (h : EN X es' os e n os1) (w : Wk es es') : EN X es os e n os1 := fun F σ H Q ow sl q => h F σ H Q ow (sl.weak w) q
theorem EN.perm (h : EN X es os e n os1) (k : os1.Perm os2) : EN X es os e n os2 := fun F σ H Q ow sl q => h F σ H Q ow sl fun F' H' v e o => q F' H' v e (o.perm (k.cons _))
/-- an own list at the slot i is data from now on -/
theorem sx_frz {j : Nat} {q : Addr} {ds : List PyData} (hj : os[j]? = some (q, ol ds)) (hi : es[i]? = some (sl (own q))) (h : SX X (es.set i (sl (dat (.list ds)))) (os.eraseIdx j) F0 rest D) : SX X es os F0 rest D := fun F σ H s ow sl => by
  obtain ⟨u, hu, ⟨vs, rfl, hv⟩, e1, o1⟩ := (ow.perm (perm_at hj)).freezeU uni_ol
  have hv := dqall_mono e1 _ _ hv
  obtain ⟨v, ev, cv⟩ := sl.val hi
  obtain rfl : v = .ref q := cv.now
  have sl2 := (sl.mono e1).put (i := i) (v := .ref q) (φ := dat (.list ds)) (cl_dat (.lst upd_same hv))
  have e2 : σ.set i (some (.ref q)) = σ := by
    refine List.ext_getElem? fun m => ?_
    by_cases hm : i = m
    · subst hm
      rw [List.getElem?_set_self (List.getElem?_eq_some_iff.mp ev).1, ev]
    · rw [List.getElem?_set_ne hm]
  rw [e2] at sl2
  exact h _ σ H (s.trans e1) o1 sl2
theorem ix_rng1 {tg : Expr} {b : Int} {xs : List Int} (B : Bd X N W G k) (hj : G[gi]? = some "range") (hm : X.mg "range" = none) (hr : rngO 0 b = some xs) (ha : EX X es os e (dat (.int b)) os1) (hs : starEach [e] X.env = [(false, eval e X.env)] := by rfl) :
    IX X tg es os (.Call (.Name "range" p) [e] [] pos) xs (fun x => dat (.int x)) anyOs os1 := by
  unfold rngO at hr
  split at hr
  · rename_i h
    cases hr
    exact ix_range1 B hj hm h.2.2 ha hs
  · cases hr
theorem ix_rng2 {tg : Expr} {a b : Int} {xs : List Int} (B : Bd X N W G k) (hj : G[gi]? = some "range") (hm : X.mg "range" = none) (hr : rngO a b = some xs) (ha : EX X es os e (dat (.int a)) os1) (hb : EX X es os1 e2 (dat (.int b)) os2)
    (hs : starEach [e, e2] X.env = [(false, eval e X.env), (false, eval e2 X.env)] := by rfl) (hs2 : starEach [e2] X.env = [(false, eval e2 X.env)] := by rfl) :
    IX X tg es os (.Call (.Name "range" p) [e, e2] [] pos) xs (fun x => dat (.int x)) anyOs os2 := by
  unfold rngO at hr
  split at hr
  · rename_i h
    cases hr
    exact ix_range2 B hj hm h ha hb hs hs2
  · cases hr
/-- xs.append(e) of an own list -/
theorem ex_app {β : Type} {apos cpos : Pos} {q : Addr} {enc : β → PyData} {xs xs0 ys : List β} {y : β} {j : Nat} (ha : appO xs y = some ys) (ho : EX X es os a (own q) os) (h0 : os[j]? = some (q, ol (xs0.map enc))) (he : EX X es os e (dat (enc y)) os1) (hj : os1[j]? = some (q, ol (xs.map enc)))
    (hbase : attributeBase a "append" X.env (eval a X.env) = eval a X.env := by rfl) (hline : (apos.endLine == cpos.line) = true := by rfl) (hs : starEach [e] X.env = (false, eval e X.env) :: starEach [] X.env := by rfl)
    (hfew : ((backTo cpos (starEach [e] X.env)).all (fun x => !x.1) && (backToKw cpos (keywordEach [] X.env)).all (fun x => x.1.isSome) && decide ([e].length + ([] : List Keyword).length + (if ([] : List Keyword).isEmpty then 0 else 1) < 30)) = true := by rfl)
    (hplain : (backTo cpos (starEach [] X.env)).any (·.1) = false := by rfl) : EX X es os (.Call (.Attribute a "append" apos) [e] [] cpos) (dat .none) (os1.set j (q, ol (ys.map enc))) := by
  unfold appO at ha
  split at ha
  · rename_i h
    cases ha
    rw [List.map_append]
    exact ex_append ho he h0 hj (by rw [List.length_map]; exact h) hbase hline hs hfew hplain
  · cases ha
theorem ex_popO {β : Type} {apos cpos : Pos} {q : Addr} {enc : β → PyData} {xs : List β} {r : β × List β} {j : Nat} (hr : popO xs = some r) (ho : EX X es os a (own q) os) (hj : os[j]? = some (q, ol (xs.map enc)))
    (hbase : attributeBase a "pop" X.env (eval a X.env) = eval a X.env := by rfl) (hline : (apos.endLine == cpos.line) = true := by rfl) : EX X es os (.Call (.Attribute a "pop" apos) [] [] cpos) (dat (enc r.1)) (os.set j (q, ol (r.2.map enc))) := by
  unfold popO at hr
  split at hr
  · rename_i z hz
    cases hr
    have e : (xs.map enc).getLast? = some (enc z) := by rw [List.getLast?_map, hz]; rfl
    have h := ex_pop ho hj e hbase hline
    rw [← List.map_dropLast] at h
    exact h
  · cases hr
theorem sx_setO {β : Type} {tpos : Pos} {q : Addr} {enc : β → PyData} {xs ys : List β} {y : β} {j : Nat} {z : Int} (hy : setO xs z y = some ys) (he : EX X es os e (dat (enc y)) os1) (ho : EX X es os1 a (own q) os1) (hb : EX X es os1 b (dat (.int z)) os2) (hj : os2[j]? = some (q, ol (xs.map enc))) (h : SX X es (os2.set j (q, ol (ys.map enc))) F0 rest D)
    (hs : swapsWithSole [.Subscript a b tpos] e pos.line X.env = pure false := by rfl) (hw : swappedStores [.Subscript a b tpos] e X.env = pure none := by rfl) (h1 : (assignEach [.Subscript a b tpos] X.env).map (·.2) = [assign (.Subscript a b tpos) X.env] := by rfl)
    (hsub : ∀ v, assign (.Subscript a b tpos) X.env v = (do
      let ov ← holding [v] (eval a X.env)
      let iv ← holding [v, ov] (eval b X.env)
      standAt tpos
      holding [v, ov, iv] (setItem ov iv v)
      release [v, ov, iv] []) := by intro _; rfl) : SX X es os F0 (.Assign [.Subscript a b tpos] e pos :: rest) D := by
  obtain ⟨m, hm, h2⟩ := bnd hy
  cases h2
  rw [List.map_set] at h
  exact sx_setL he ho hb hj (by rw [List.length_map]; exact hm) h hs hw h1 hsub
theorem ex_idxL {β : Type} {enc : β → PyData} {xs : List β} {y : β} {z : Int} (hk : idx xs z = some y) (hr : RdL X φ os2 (xs.map enc)) (ha : EX X es os a φ os1) (hb : EX X es os1 b (dat (.int z)) os2) (hp : PlainIx b := by exact fun _ _ => rfl) : EX X es os (.Subscript a b pos) (dat (enc y)) os2 := ex_ixL hr (atI_map enc hk) ha hb hp
theorem ex_idxT {β : Type} {enc : β → PyData} {xs : List β} {y : β} {z : Int} (hk : idx xs z = some y) (hr : RdT φ (xs.map enc)) (ha : EX X es os a φ os1) (hb : EX X es os1 b (dat (.int z)) os2) (hp : PlainIx b := by exact fun _ _ => rfl) : EX X es os (.Subscript a b pos) (dat (enc y)) os2 := ex_ixT hr (atI_map enc hk) ha hb hp
/-- a literal list or tuple of one kind is a map -/
theorem EN.list {ds ds' : List PyData} (h : EN X es os e (ol ds) os1) (k : ds = ds') : EN X es os e (ol ds') os1 := k ▸ h
theorem EX.to {d d' : PyData} (h : EX X es os e (dat d) os1) (k : d = d') : EX X es os e (dat d') os1 := k ▸ h
end
/-- two lists of data are equal exactly if they are alike -/
def EqvOk {α : Type} [DecidableEq α] (e : α → PyData) : Prop := ∀ a b, PyData.eqv (e a) (e b) = decide (a = b)
theorem eqv_int : EqvOk PyData.int := fun a b => by
  simp only [PyData.eqv]
  exact Bool.beq_eq_decide_eq a b
theorem eqvAll_map {α : Type} [DecidableEq α] {e : α → PyData} (h : EqvOk e) : ∀ xs ys : List α, PyData.eqvAll (xs.map e) (ys.map e) = decide (xs = ys)
  | [], [] => by simp [PyData.eqvAll]
  | [], y :: ys => by simp [PyData.eqvAll]
  | x :: xs, [] => by simp [PyData.eqvAll]
  | x :: xs, y :: ys => by
    simp only [List.map_cons, PyData.eqvAll, h x y, eqvAll_map h xs ys, List.cons.injEq, Bool.decide_and]
theorem eqv_list {α : Type} [DecidableEq α] {e : α → PyData} (h : EqvOk e) : EqvOk (eL e) := fun a b => by
  simp only [PyData.eqv]
  exact eqvAll_map h a b
theorem eqv_tup {α : Type} [DecidableEq α] {e : α → PyData} (h : EqvOk e) : EqvOk (eT e) := fun a b => by
  simp only [PyData.eqv]
  exact eqvAll_map h a b
/-- data of bounded depth without dicts -/
structure ShOk {α : Type} (e : α → PyData) (n : Nat) : Prop where
  lay : ∀ a, (e a).canLay0 = true
  dep : ∀ a, (e a).depth ≤ n
theorem ShOk.shaped {α : Type} {e : α → PyData} {n : Nat} (h : ShOk e n) (hn : n ≤ 64) (a : α) : SeqAt.shaped (e a) = true := by
  unfold SeqAt.shaped
  rw [h.lay a, Bool.true_and]
  exact decide_eq_true (Nat.le_trans (h.dep a) hn)
theorem sh_int : ShOk PyData.int 0 := ⟨fun _ => by simp only [PyData.canLay0], fun _ => by simp only [PyData.depth]; exact Nat.le_refl 0⟩
theorem layAll_map {α : Type} {e : α → PyData} {n : Nat} (h : ShOk e n) : ∀ xs : List α, PyData.canLayAll0 (xs.map e) = true ∧ PyData.depthAll (xs.map e) ≤ n
  | [] => by
    simp only [List.map_nil, PyData.canLayAll0, PyData.depthAll]
    exact ⟨trivial, Nat.zero_le _⟩
  | x :: xs => by
    obtain ⟨a, b⟩ := layAll_map h xs
    simp only [List.map_cons, PyData.canLayAll0, PyData.depthAll, h.lay x, a]
    exact ⟨rfl, Nat.max_le.mpr ⟨h.dep x, b⟩⟩
theorem sh_list {α : Type} {e : α → PyData} {n : Nat} (h : ShOk e n) : ShOk (eL e) (n + 1) :=
  ⟨fun xs => by simp only [PyData.canLay0]; exact (layAll_map h xs).1, fun xs => by simp only [PyData.depth]; exact Nat.succ_le_succ (layAll_map h xs).2⟩
theorem sh_tup {α : Type} {e : α → PyData} {n : Nat} (h : ShOk e n) : ShOk (eT e) (n + 1) :=
  ⟨fun xs => by simp only [PyData.canLay0]; exact (layAll_map h xs).1, fun xs => by simp only [PyData.depth]; exact Nat.succ_le_succ (layAll_map h xs).2⟩
end Z
namespace Z
open PySem PySem.Spec PyProof.Rows L2
section
variable {X : Cx} {es es' : List Slot} {os os1 os2 : Os} {F0 : Hp} {rest : List Stmt} {D : Ends} {N V G W : List Str} {k i j l vi gi : Nat} {x y z : Str} {p pos : Pos} {e e2 a b c : Expr} {φ : VP} {n : Ent} {α : Type}
def AQ (X : Cx) (es : List Slot) (as : List Expr) (os : Os) (Rel : List VP → Os → Prop) : Prop := ∀ F σ H Q, Ow F os H → Sl F es σ → (∀ F' H' vs φs os', Same F F' → Rel φs os' → Ow F' os' H' → ClA φs F' vs → Q vs H') → WA X as σ H Q
theorem aq_nil : AQ X es [] os (fun φs os' => φs = [] ∧ os' = os) := fun F σ H Q ow sl q => wa_of pa_nil (q F H [] [] os (Same.refl F) ⟨rfl, rfl⟩ ow rfl)
theorem aq_x {as : List Expr} {Rel : List VP → Os → Prop} (ha : EX X es os a φ os1) (hr : AQ X es as os1 Rel) (hs : starEach (a :: as) X.env = (false, eval a X.env) :: starEach as X.env := by rfl) : AQ X es (a :: as) os (fun φs os' => ∃ r, φs = φ :: r ∧ Rel r os') := fun F σ H Q ow sl q =>
  wa_of (pa_cons pe_u pa_u hs) (ha F σ H _ ow sl fun F1 H1 v e1 o1 c1 => hr F1 σ H1 _ o1 (sl.mono e1) fun F2 H2 vs φs os' e2 rel o2 c2 => q F2 H2 _ _ os' (e1.trans e2) ⟨φs, rfl, rel⟩ o2 ⟨v, vs, rfl, c1.mono e2, c2⟩)
theorem aq_n {as : List Expr} {Rel : Addr → List VP → Os → Prop} (ha : EN X es os a n os1) (hr : ∀ p, AQ X es as ((p, n) :: os1) (Rel p)) (hs : starEach (a :: as) X.env = (false, eval a X.env) :: starEach as X.env := by rfl) : AQ X es (a :: as) os (fun φs os' => ∃ p r, φs = own p :: r ∧ Rel p r os') := fun F σ H Q ow sl q =>
  wa_of (pa_cons pe_u pa_u hs) (ha F σ H _ ow sl fun F1 H1 p e1 o1 => hr p F1 σ H1 _ o1 (sl.mono e1) fun F2 H2 vs φs os' e2 rel o2 c2 => q F2 H2 _ _ os' (e1.trans e2) ⟨p, φs, rfl, rel⟩ o2 ⟨_, vs, rfl, cl_own, c2⟩)
/-- the names are stored from the right -/
def swpB (sc : Scope) (ts : List Expr) (v : Expr) (xs : List Str) : Prop := ∀ env : Env, env.scope = sc → swappedStores ts v env = pure (some xs)
def nswB (sc : Scope) (ts : List Expr) (v : Expr) : Prop := ∀ env : Env, env.scope = sc → swappedStores ts v env = pure none
def lclB (sc : Scope) (x : Str) : Bool := match sc.names.lookup x with
  | some .local => true
  | _ => false
theorem lcl_of {sc : Scope} {x : Str} (h : lclB sc x = true) : sc.names.lookup x = some .local := by
  unfold lclB at h
  split at h
  · assumption
  · cases h
theorem sx_par2 {px py pt p2 : Pos} {kt k2 : Nat} {Rel : List VP → Os → Prop} (sc : Scope) (hsc : X.env.scope = sc) (B : Bd X N W G k) (hi : N[i]? = some x) (hj : N[j]? = some y) (hij : i ≠ j) (hx : lclB sc x = true) (hy : lclB sc y = true) (hw : swpB sc [.Tuple [.Name x px, .Name y py] kt pt] (.Tuple [a, b] k2 p2) [x, y])
    (ha : AQ X es [a, b] os Rel) (h : ∀ φ ψ os', Rel [φ, ψ] os' → SX X ((es.set i (sl φ)).set j (sl ψ)) os' F0 rest D) (hR : ∀ φs os', Rel φs os' → ∃ φ ψ, φs = [φ, ψ])
    (hs : swapsWithSole [.Tuple [.Name x px, .Name y py] kt pt] (.Tuple [a, b] k2 p2) pos.line X.env = pure false := by rfl) : SX X es os F0 (.Assign [.Tuple [.Name x px, .Name y py] kt pt] (.Tuple [a, b] k2 p2) pos :: rest) D := fun F σ H s ow sl =>
  wps_cons (ws_of (ps_par B.calm (B.hN ▸ B.nd) (B.hN ▸ hi) (B.hN ▸ hj) hij (by rw [hsc]; exact lcl_of hx) (by rw [hsc]; exact lcl_of hy) pa_u (hw _ hsc) hs) (ha F σ H _ ow sl fun F1 H1 vs φs os' e1 rel o1 c1 => by
    obtain ⟨φ, ψ, rfl⟩ := hR φs os' rel
    obtain ⟨v, u, rfl, h1, h2⟩ := cla2 c1
    exact ⟨v, u, rfl, h φ ψ os' rel F1 _ H1 (s.trans e1) o1 (((sl.mono e1).put h1).put h2)⟩))
theorem cla3 {φ ψ χ : VP} {F : Hp} {vs : List L2.V} (h : ClA [φ, ψ, χ] F vs) : ∃ v u w, vs = [v, u, w] ∧ Cl φ F v ∧ Cl ψ F u ∧ Cl χ F w := by
  obtain ⟨v, r, e, h1, h2⟩ := h
  obtain ⟨u, w, e2, h3, h4⟩ := cla2 h2
  subst e2
  exact ⟨v, u, w, e, h1, h3, h4⟩
/-- a, b = (e1, e2): the tuple is made, then taken apart -/
theorem sx_mk2 {t1 t2 pt p2 : Pos} {kt k2 : Nat} {Rel : List VP → Os → Prop} (sc : Scope) (hsc : X.env.scope = sc) (B : Bd X N W G k) (T : Bt X V) (hi : N[i]? = some x) (hj : N[j]? = some y) (hx : V[vi]? = some x) (hy : V[gi]? = some y) (hw : nswB sc [.Tuple [.Name x t1, .Name y t2] kt pt] (.Tuple [a, b] k2 p2))
    (ha : AQ X es [a, b] os Rel) (h : ∀ φ ψ os', Rel [φ, ψ] os' → SX X ((es.set i (sl φ)).set j (sl ψ)) os' F0 rest D) (hR : ∀ φs os', Rel φs os' → ∃ φ ψ, φs = [φ, ψ])
    (hs : swapsWithSole [.Tuple [.Name x t1, .Name y t2] kt pt] (.Tuple [a, b] k2 p2) pos.line X.env = pure false := by rfl) (h1 : (assignEach [.Tuple [.Name x t1, .Name y t2] kt pt] X.env).map (·.2) = [assign (.Tuple [.Name x t1, .Name y t2] kt pt) X.env] := by rfl) :
    SX X es os F0 (.Assign [.Tuple [.Name x t1, .Name y t2] kt pt] (.Tuple [a, b] k2 p2) pos :: rest) D := fun F σ H s ow sl =>
  wps_cons (ws_of (ps_asg (pe_tup pa_u) (pg_tup (n := 2) B.calm (pgs_cons (pg_name (B.hN ▸ B.nd) (B.hN ▸ hi) (T.loc x (List.mem_of_getElem? hx)) (.inl (T.fn x))) (pgs_cons (pg_name (B.hN ▸ B.nd) (B.hN ▸ hj) (T.loc y (List.mem_of_getElem? hy)) (.inl (T.fn y))) pgs_nil)) rfl rfl) hs (hw _ hsc) h1) (ha F σ H _ ow sl fun F1 H1 vs φs os' e1 rel o1 c1 => by
    obtain ⟨φ, ψ, rfl⟩ := hR φs os' rel
    obtain ⟨v, u, rfl, h1, h2⟩ := cla2 c1
    refine ⟨by show 2 ≤ sizeLine; decide, fun p hp => ?_⟩
    refine ⟨p, _, rfl, .of upd_same, rfl, _, _, rfl, _, _, rfl, rfl, ?_⟩
    exact h φ ψ os' rel F1 _ _ (s.trans e1) (o1.grow (same_upd hp)) (((sl.mono e1).put h1).put h2)))
theorem sx_mk3 {m : Nat} {t1 t2 t3 pt p2 : Pos} {kt k2 : Nat} {Rel : List VP → Os → Prop} (sc : Scope) (hsc : X.env.scope = sc) (B : Bd X N W G k) (T : Bt X V) (hi : N[i]? = some x) (hj : N[j]? = some y) (hl : N[l]? = some z) (hx : V[vi]? = some x) (hy : V[gi]? = some y) (hz : V[m]? = some z) (hw : nswB sc [.Tuple [.Name x t1, .Name y t2, .Name z t3] kt pt] (.Tuple [a, b, c] k2 p2))
    (ha : AQ X es [a, b, c] os Rel) (h : ∀ φ ψ χ os', Rel [φ, ψ, χ] os' → SX X (((es.set i (sl φ)).set j (sl ψ)).set l (sl χ)) os' F0 rest D) (hR : ∀ φs os', Rel φs os' → ∃ φ ψ χ, φs = [φ, ψ, χ])
    (hs : swapsWithSole [.Tuple [.Name x t1, .Name y t2, .Name z t3] kt pt] (.Tuple [a, b, c] k2 p2) pos.line X.env = pure false := by rfl) (h1 : (assignEach [.Tuple [.Name x t1, .Name y t2, .Name z t3] kt pt] X.env).map (·.2) = [assign (.Tuple [.Name x t1, .Name y t2, .Name z t3] kt pt) X.env] := by rfl) :
    SX X es os F0 (.Assign [.Tuple [.Name x t1, .Name y t2, .Name z t3] kt pt] (.Tuple [a, b, c] k2 p2) pos :: rest) D := fun F σ H s ow sl =>
  wps_cons (ws_of (ps_asg (pe_tup pa_u) (pg_tup (n := 3) B.calm (pgs_cons (pg_name (B.hN ▸ B.nd) (B.hN ▸ hi) (T.loc x (List.mem_of_getElem? hx)) (.inl (T.fn x))) (pgs_cons (pg_name (B.hN ▸ B.nd) (B.hN ▸ hj) (T.loc y (List.mem_of_getElem? hy)) (.inl (T.fn y))) (pgs_cons (pg_name (B.hN ▸ B.nd) (B.hN ▸ hl) (T.loc z (List.mem_of_getElem? hz)) (.inl (T.fn z))) pgs_nil))) rfl rfl) hs (hw _ hsc) h1) (ha F σ H _ ow sl fun F1 H1 vs φs os' e1 rel o1 c1 => by
    obtain ⟨φ, ψ, χ, rfl⟩ := hR φs os' rel
    obtain ⟨v, u, w, rfl, h1, h2, h3⟩ := cla3 c1
    refine ⟨by show 3 ≤ sizeLine; decide, fun p hp => ?_⟩
    refine ⟨p, _, rfl, .of upd_same, rfl, _, _, rfl, _, _, rfl, _, _, rfl, rfl, ?_⟩
    exact h φ ψ χ os' rel F1 _ _ (s.trans e1) (o1.grow (same_upd hp)) ((((sl.mono e1).put h1).put h2).put h3)))
theorem ex_tyname {T : String} (B : Bd X N W G k) (hj : G[gi]? = some x) (hm : X.mg x = none) (hv : bootBuiltins x = some (.type T)) : EX X es os (.Name x pos) (fun _ v => v = .ty T) os := fun F σ H Q ow sl q =>
  let ⟨u, v⟩ := B.gl x (List.mem_of_getElem? hj)
  we_of (pe_bltn (v := .ty T) u hm hv rfl (dun_n v) (dun_d v)) (q F H _ (Same.refl F) ow fun _ _ => rfl)
def tyName : PyData → String
  | .none => "NoneType"
  | .bool _ => "bool"
  | .int _ => "int"
  | .str _ => "str"
  | .list _ => "list"
  | .tuple _ => "tuple"
  | .dict _ => "dict"
theorem rc_isi {d : PyData} {T : String} {r : Bool} (h : kitB (tyName d) T = some r) (hT : ∀ ps, d ≠ .dict ((.none, .none) :: ps) := by intro _ z; first | cases z | assumption) : RCX (rIsi X.K) [dat d, fun _ v => v = .ty T] os (dat (.bool r)) os := fun F H vs Q ow c q => by
  obtain ⟨v, u, rfl, h1, h2⟩ := cla2 c
  obtain rfl : u = .ty T := h2.now
  have fin := q F H _ (Same.refl F) ow (cl_dat (.bl r))
  have hd := h1.now
  have key : ∀ t : String, tyName d = t → TyX X.K H v (.type t) → rIsi X.K [v, .ty T] H Q := fun t e k => ⟨v, _, _, _, r, rfl, .ty T, k, kit_ty (e ▸ h), fin⟩
  cases hd with
  | non => exact key _ rfl (.base .non)
  | bl b => exact key _ rfl (.base (.bl b))
  | int i => exact key _ rfl (.base (.int i))
  | str x => exact key _ rfl (.base (.str x))
  | lst k1 k2 => exact key _ rfl (.base (.lst (ow.ex _ _ k1)))
  | tup k1 k2 => exact key _ rfl (.base (.tup (ow.ex _ _ k1)))
  | dctK k1 k2 k3 => exact key _ rfl (.fDict (ow.ex _ _ k1))
  | dctT k1 k2 k3 => exact (hT _ rfl).elim
/-- a module's name for a built-in function -/
theorem ex_mfn {as : List Expr} {id : String} {r : List L2.V → Hp → VK → Prop} {φs : List VP} {d : VP} (B : Bd X N V G k) (hj : G[gi]? = some x) (hm : X.mg x = some (.builtin id)) (hc : CallR X (.builtin id) r) (hr : RCX r φs os1 d os2)
    (ha : AX X es os (e :: as) φs os1) (he : starEach (e :: as) X.env = (false, eval e X.env) :: starEach as X.env := by rfl) (hpl : (backTo pos (starEach as X.env)).any (·.1) = false := by rfl) : EX X es os (.Call (.Name x p) (e :: as) [] pos) d os2 := fun F σ H Q ow sl q =>
  let ⟨a, b⟩ := B.gl x (List.mem_of_getElem? hj)
  we_of (pe_callBfun hc a hm pa_u (dun_d b) he hpl) (ha F σ H _ ow sl fun F1 H1 vs e1 o1 c1 => hr F1 H1 vs Q o1 c1 fun F2 H2 v e2 => q F2 H2 v (e1.trans e2))
theorem dqall_rev {F : Hp} : ∀ {ds : List PyData} {vs : List L2.V}, DqAll F vs ds → DqAll F vs.reverse ds.reverse
  | [], _, h => by
    cases h
    exact .nil
  | d :: ds, _, h => by
    cases h with
    | cons h1 h2 =>
      rw [List.reverse_cons, List.reverse_cons]
      exact dqall_app (dqall_rev h2) (.cons h1 .nil)
theorem dat_list {F H : Hp} {v : L2.V} {ds : List PyData} (ow : Ow F os H) (c : Cl (dat (.list ds)) F v) : ∃ p vs, v = .ref p ∧ H p = some (.lst vs) ∧ DqAll F vs ds := by
  have h := c.now
  cases h with
  | lst h1 h2 => exact ⟨_, _, rfl, ow.ex _ _ h1, h2⟩
def lcT {α β : Type} (f : α → β) (xs : List α) : Option (List β) := if xs.length < sizeLine then some (xs.map f) else none
def lcF {α β : Type} (c : α → Bool) (f : α → β) (xs : List α) : Option (List β) := if xs.length < sizeLine then some ((xs.filter c).map f) else none
def mapO {α β : Type} (f : α → Option β) : List α → Option (List β)
  | [] => some []
  | x :: xs => (f x).bind fun y => (mapO f xs).bind fun ys => some (y :: ys)
def lcO {α β : Type} (f : α → Option β) (xs : List α) : Option (List β) := if xs.length < sizeLine then mapO f xs else none
theorem lcS_map {α β : Type} (f : α → β) : ∀ xs : List α, lcS (fun (_ : Unit) x => some (some (f x), ())) xs () = some (xs.map f, ())
  | [] => rfl
  | x :: xs => by
    unfold lcS
    show ((lcS _ xs ()).bind fun u => some ([f x] ++ u.1, u.2)) = _
    rw [lcS_map f xs]
    rfl
theorem lcS_filter {α β : Type} (c : α → Bool) (f : α → β) : ∀ xs : List α, lcS (fun (_ : Unit) x => some (if c x = true then some (f x) else none, ())) xs () = some ((xs.filter c).map f, ())
  | [] => rfl
  | x :: xs => by
    unfold lcS
    show ((lcS _ xs ()).bind fun u => some ((if c x = true then some (f x) else none).toList ++ u.1, u.2)) = _
    rw [lcS_filter c f xs]
    cases h : c x with
    | true =>
      rw [if_pos rfl, List.filter_cons, if_pos h]
      rfl
    | false =>
      rw [if_neg Bool.false_ne_true, List.filter_cons, if_neg (by rw [h]; exact Bool.false_ne_true)]
      rfl
theorem lcS_mapO {α β : Type} (f : α → Option β) : ∀ (xs : List α) (ys : List β), mapO f xs = some ys → lcS (fun (_ : Unit) x => (f x).map fun y => (some y, ())) xs () = some (ys, ())
  | [], ys, h => by
    cases h
    rfl
  | x :: xs, ys, h => by
    unfold mapO at h
    obtain ⟨y, hy, h⟩ := bnd h
    obtain ⟨zs, hz, h⟩ := bnd h
    cases h
    unfold lcS
    rw [hy]
    show ((lcS _ xs ()).bind fun u => some ([y] ++ u.1, u.2)) = _
    rw [lcS_mapO f xs zs hz]
    rfl
theorem lcT_ok {α β : Type} {f : α → β} {xs : List α} {ys : List β} (h : lcT f xs = some ys) : xs.length < sizeLine ∧ lcS (fun (_ : Unit) x => some (some (f x), ())) xs () = some (ys, ()) := by
  unfold lcT at h
  split at h
  · rename_i hl
    cases h
    exact ⟨hl, lcS_map f xs⟩
  · cases h
theorem lcF_ok {α β : Type} {c : α → Bool} {f : α → β} {xs : List α} {ys : List β} (h : lcF c f xs = some ys) : xs.length < sizeLine ∧ lcS (fun (_ : Unit) x => some (if c x = true then some (f x) else none, ())) xs () = some (ys, ()) := by
  unfold lcF at h
  split at h
  · rename_i hl
    cases h
    exact ⟨hl, lcS_filter c f xs⟩
  · cases h
theorem lcO_ok {α β : Type} {f : α → Option β} {xs : List α} {ys : List β} (h : lcO f xs = some ys) : xs.length < sizeLine ∧ lcS (fun (_ : Unit) x => (f x).map fun y => (some y, ())) xs () = some (ys, ()) := by
  unfold lcO at h
  split at h
  · rename_i hl
    exact ⟨hl, lcS_mapO f xs ys h⟩
  · cases h
end
end Z
namespace Z
open PySem PySem.Spec PyProof.Rows L2
abbrev absI (i : Int) : Int := if i < 0 then -i else i
abbrev maxI (i j : Int) : Int := if j > i then j else i
abbrev minI (i j : Int) : Int := if j < i then j else i
theorem fdivO_lit {i j : Int} (h : 0 < j) (h2 : j.natAbs.log2 < 9000) : fdivO i j = some (i / j) := if_pos ⟨h, h2⟩
theorem modO_lit {i j : Int} (h : 0 < j) : modO i j = some (i % j) := if_pos h
theorem and_fix {k l : Bool} (h : k = false → l = false) : (k && l) = l := by
  cases k with
  | true => rfl
  | false => rw [h rfl]; rfl
theorem or_fix {k l : Bool} (h : k = true → l = true) : (k || l) = l := by
  cases k with
  | false => rfl
  | true => rw [h rfl]; rfl
section
variable {X X' : Cx} {es es' : List Slot} {os os1 os2 : Os} {F0 : Hp} {rest : List Stmt} {st : Stmt} {D : Ends} {N V G W : List Str} {k i j l vi gi gj : Nat} {x y z : Str} {p pos : Pos} {e e2 a b c : Expr} {φ ψ : VP} {n : Ent} {α β : Type} {scope : Scope}
theorem sx_join (es' : List Slot) (os' : Os) (h : SX X es' os' F0 rest D) (kk : SX X es' os' F0 rest D → SX X es os F0 (st :: rest) D) : SX X es os F0 (st :: rest) D := kk h
theorem sx_retO {q : Addr} (he : EX X es os e (own q) os1) (h : ∀ F H, Same F0 F → Ow F os1 H → D.rt (.ref q) H) : SX X es os F0 (.Return (some e) pos :: rest) D := sx_ret he fun F H v e o c => by
  obtain rfl : v = .ref q := c.now
  exact h F H e o
theorem sx_end (h : ∀ F σ H, Same F0 F → Ow F os H → D.nx σ H) : SX X es os F0 [] D := sx_nil fun σ H a => let ⟨F, s, o, _⟩ := a; h F σ H s o
theorem fam_mg {f : Str} {v : Option Value} (h : Fam X scope X') (e : X.mg f = v) : X'.mg f = v := by
  obtain ⟨_, _, _, _, _, rfl⟩ := h
  exact e
theorem fam_cal {f : Str} {s : Stmt} {ps : List Str} {sp : PySem.W.Frag → Sp} {m : Nat} (h : Fam X scope X') (c : Cal X.prog X.w X.K X.mg X.base m f s ps (sp X.K)) : Cal X'.prog X'.w X'.K X'.mg X'.base m f s ps (sp X'.K) := by
  obtain ⟨_, _, _, _, _, rfl⟩ := h
  exact c
theorem fam_scope (h : Fam X scope X') : X'.env.scope = relS scope X.env.scope := by
  obtain ⟨_, _, _, _, _, rfl⟩ := h
  rfl
/-- a stored comprehension -/
theorem sw_ok {elt : Expr} {gs : List Comprehension} {l : Nat} {py : Pos} {env : Env} (hk : (match env.scope.kind with | .function => true | _ => false) = true) (hy : env.scope.names.lookup y = some .local) (hl : (py.line == pos.line) = true)
    (ha : (scope.names.any fun q => q.1 == y && (q.2 == .local || q.2 == .cell)) = false) : swapsWith (.ListComp elt gs scope pos) (some (.Name y py)) l env = pure true := by
  refine sw_true ?_ hy hl ha
  split at hk
  · assumption
  · cases hk
def RdX (X : Cx) (φ : VP) (os : Os) (d : PyData) : Prop := d.hasDict = false → ∀ F H v, Ow F os H → Cl φ F v → Dp X.K H v d
theorem rdx_dat {d : PyData} : RdX X (dat d) os d := fun z F H v ow c => dq_dp _ _ _ z (dq_mono ow.ex _ _ c.now)
theorem r2_eqR {d d' : PyData} {t : Bool} (r1 : RdX X φ os d) (r2 : RdX X ψ os d') (h1 : SeqAt.shaped d = true) (h2 : SeqAt.shaped d' = true) (hk : PyData.eqv d d' = t) : R2X X (rEqD X.K) φ ψ os (dat (.bool t)) := fun F H x y Q ow cx cy q =>
  ⟨d, d', r1 (shaped_lay h1) F H x ow cx, r2 (shaped_lay h2) F H y ow cy, h1, h2, by rw [hk]; exact q F H _ (Same.refl F) ow (cl_dat (.bl _))⟩
theorem r2_neR {d d' : PyData} {t : Bool} (r1 : RdX X φ os d) (r2 : RdX X ψ os d') (h1 : SeqAt.shaped d = true) (h2 : SeqAt.shaped d' = true) (hk : (!PyData.eqv d d') = t) : R2X X (rNeD X.K) φ ψ os (dat (.bool t)) := fun F H x y Q ow cx cy q =>
  ⟨d, d', r1 (shaped_lay h1) F H x ow cx, r2 (shaped_lay h2) F H y ow cy, h1, h2, by rw [hk]; exact q F H _ (Same.refl F) ow (cl_dat (.bl _))⟩
section
variable [DecidableEq α] {e : α → PyData} {m : Nat} {x y : α}
theorem ex_eqR (B : Bd X N W G k) (h : EqvOk e) (s : ShOk e m) (hn : m ≤ 64) (r1 : RdX X φ os2 (e x)) (r2 : RdX X ψ os2 (e y)) (ha : EX X es os a φ os1) (hb : EX X es os1 b ψ os2) : EX X es os (.Compare a [.Eq] [b] pos) (dat (.bool (decide (x = y)))) os2 :=
  ex_cmp (op_eqD B.room.units) (r2_eqR r1 r2 (s.shaped hn x) (s.shaped hn y) (h x y)) (nomark _) ha hb
theorem tx_neR (B : Bd X N W G k) (h : EqvOk e) (s : ShOk e m) (hn : m ≤ 64) (r1 : RdX X φ os2 (e x)) (r2 : RdX X ψ os2 (e y)) (ha : EX X es os a φ os1) (hb : EX X es os1 b ψ os2) : TX X es os (.Compare a [.NotEq] [b] pos) (!decide (x = y)) os2 :=
  tx_cmp (op_neD B.room.units) (r2_neR r1 r2 (s.shaped hn x) (s.shaped hn y) (by rw [h x y])) (nomark _) ha hb
end
theorem r2_notB {s t : Bool} : R2X X rNotB (dat (.bool s)) (dat (.bool t)) os (dat (.bool (!decide (s = t)))) := fun F H x y Q ow cx cy q =>
  ⟨s, t, clv_bool cx, clv_bool cy, q F H _ (Same.refl F) ow (cl_dat (.bl _))⟩
theorem inV_ints (i : Int) : ∀ xs : List Int, inV (.int i) (xs.map L2.V.int) = xs.contains i
  | [] => rfl
  | x :: xs => by
    have ih := inV_ints i xs
    unfold inV at ih ⊢
    rw [List.map_cons, List.any_cons, ih, List.contains_cons]
    have e : eqV (.int x) (.int i) = (x == i) := by simp [eqV]
    rw [e, Bool.beq_comm]
theorem flat_ints : ∀ xs : List Int, (xs.map L2.V.int).all flatV = true
  | [] => rfl
  | x :: xs => by
    rw [List.map_cons, List.all_cons, flat_ints xs]
    rfl
theorem r2_inT {i : Int} {xs : List Int} (hr : RdT ψ (xs.map PyData.int)) : R2X X (rIn X.K false) (dat (.int i)) ψ os (dat (.bool (xs.contains i))) := fun F H x y Q ow cx cy q => by
  obtain ⟨p, vs, rfl, h1, h2⟩ := hr F y cy
  have ev := dqall_of_ints xs h2
  subst ev
  rw [clv_int cx]
  exact ⟨p, _, rfl, .inr (.of (ow.ex _ _ h1)), rfl, flat_ints xs, by rw [inV_ints]; exact q F H _ (Same.refl F) ow (cl_dat (.bl _))⟩
def repO {α : Type} (xs : List α) (m : Int) : Option (List α) := if -(2 ^ 63) ≤ m ∧ m < 2 ^ 63 ∧ xs.length * m.toNat ≤ sizeLine then some (List.replicate m.toNat xs).flatten else none
theorem dqall_rep {F : Hp} {ds : List PyData} {vs : List L2.V} (h : DqAll F vs ds) : ∀ m : Nat, DqAll F (List.replicate m vs).flatten (List.replicate m ds).flatten
  | 0 => .nil
  | m + 1 => by
    rw [List.replicate_succ, List.replicate_succ, List.flatten_cons, List.flatten_cons]
    exact dqall_app h (dqall_rep h m)
theorem map_rep {α β : Type} (f : α → β) (xs : List α) : ∀ m : Nat, (List.replicate m (xs.map f)).flatten = ((List.replicate m xs).flatten).map f
  | 0 => rfl
  | m + 1 => by rw [List.replicate_succ, List.replicate_succ, List.flatten_cons, List.flatten_cons, map_rep f xs m, List.map_append]
theorem en_rep {enc : α → PyData} {xs ys : List α} {m : Int} (h : repO xs m = some ys) (ha : EX X es os a (dat (.list (xs.map enc))) os1) (hb : EX X es os1 b (dat (.int m)) os2) : EN X es os (.BinOp a .Mult b pos) (ol (ys.map enc)) os2 := fun F σ H Q ow sl q => by
  unfold repO at h
  split at h
  · rename_i hl
    cases h
    refine we_of (pe_op op_rep pe_u pe_u) (ha F σ H _ ow sl fun F1 H1 v e1 o1 c1 => hb F1 σ H1 _ o1 (sl.mono e1) fun F2 H2 u e2 o2 c2 => ?_)
    obtain ⟨p, vs, rfl, h1, h2⟩ := dat_list o2 (c1.mono e2)
    refine ⟨p, m, vs, rfl, clv_int c2, h1, hl.1, hl.2.1, by rw [dqall_len h2, List.length_map]; exact hl.2.2, fun r hr => ?_⟩
    refine q F2 _ r (e1.trans e2) (o2.new hr fun G g => ⟨_, rfl, ?_⟩)
    rw [← map_rep]
    exact dqall_mono g _ _ (dqall_rep h2 _)
  · cases h
def rgO (a b : Int) : Option (List Int) := if -(2 ^ 62) ≤ a ∧ a < 2 ^ 62 ∧ -(2 ^ 62) ≤ b ∧ b < 2 ^ 62 ∧ (b - a).toNat ≤ 2 ^ 24 then some (range' a b) else none
theorem rgV_map (a b : Int) : rgV a b = (range' a b).map L2.V.int := by
  unfold rgV range'
  rw [List.map_map]
  rfl
theorem en_rgL1 {b : Int} {xs : List Int} (B : Bd X N W G k) (hj : G[gi]? = some "list") (hj2 : G[gj]? = some "range") (hm : X.mg "list" = none) (hm2 : X.mg "range" = none) (hr : rgO 0 b = some xs) (ha : EX X es os e (dat (.int b)) os1) {p2 pos2 : Pos}
    (na : starEach [(.Call (.Name "range" p2) [e] [] pos2)] X.env = (false, eval (.Call (.Name "range" p2) [e] [] pos2) X.env) :: starEach [] X.env := by rfl) (nb : starEach [e] X.env = (false, eval e X.env) :: starEach [] X.env := by rfl) :
    EN X es os (.Call (.Name "list" p) [.Call (.Name "range" p2) [e] [] pos2] [] pos) (ol (xs.map PyData.int)) os1 := fun F σ H Q ow sl q => by
  unfold rgO at hr
  split at hr
  · rename_i hl
    cases hr
    refine we_of (pe_listRg B.calm (B.gl _ (List.mem_of_getElem? hj)).1 hm (prg_1 (B.gl _ (List.mem_of_getElem? hj2)).1 hm2 pe_u nb) na) (ha F σ H _ ow sl fun F1 H1 v e1 o1 c1 => ⟨b, clv_int c1, hl, fun r hr => ?_⟩)
    rw [rgV_map]
    exact q F1 _ r e1 (o1.new hr fun G g => ⟨_, rfl, dqall_ints _⟩)
  · cases hr
section
variable {S : Type} {elt iter : Expr} {ifs : List Expr} {xs : List α} {vp : α → VP} {enc : β → PyData} {s0 : S} {os0 : Os} {ys : List β} {sf : S} {tpos : Pos} {cc : Os → Prop}
theorem lc_mk1 {c : Os → Prop} (f : S → α → Option (Option β × S)) (OS : S → Os → Os) (s0 : S) (ys : List β) (sf : S) (B : Bd X N W G k) (hj : N[j]? = some x) (hun : (es[j]? = some un)) (hblk : blkC X.N X.env.scope scope [(x, j)] = true) (hown : ownB scope X.env.scope x = true) (hif : ifs.length ≤ 1)
    (hl : xs.length < sizeLine ∧ lcS f xs s0 = some (ys, sf)) (hi : IX X (.Name x tpos) es os iter xs vp c (OS s0 os0)) (hc : ∀ s tl, c (OS s tl)) (hperm : ∀ s q tl, (OS s (q :: tl)).Perm (q :: OS s tl))
    (hb : ∀ s x t tl, x ∈ xs → f s x = some t → ∃ b os1, ∀ X', Fam X scope X' → PTX X' (es.set j (sl (vp x))) (OS s tl) ifs b os1 ∧ (b = true → ∃ y, t.1 = some y ∧ EX X' (es.set j (sl (vp x))) os1 elt (dat (enc y)) (OS t.2 tl)) ∧ (b = false → t.1 = none ∧ os1 = OS t.2 tl)) :
    LcOk X es os (.Name x tpos) iter elt ifs scope [(x, j)] xs vp c (gName j) (fun x es => es.set j (sl (vp x))) enc f OS s0 os0 ys sf where
  calm := B.calm
  nd := B.hN ▸ B.nd
  ok := blkOk_by hblk
  pg := fun X' hX => pg_own hX B hj hown
  hv := fun m hm => by
    have e : m = j := by simpa using hm
    rw [e]
    exact hun
  hid := lc_id1
  hg := fun x F σ H v Q os2 sl hw ow c q => lc_gname x F σ H v Q os2 sl hw ow c q
  hif := hif
  hl := hl.2
  hz := hl.1
  hi := hi
  hc := hc
  hperm := hperm
  hb := hb
end
end
end Z
namespace Z
open PySem PySem.Spec PyProof.Rows L2
theorem elimL {α β γ : Type} {f : α → Option γ} {g : β → Option γ} {x : α} {c : Option γ} (h : Sum.elim f g (.inl x) = c) : f x = c := h
theorem elimR {α β γ : Type} {f : α → Option γ} {g : β → Option γ} {x : β} {c : Option γ} (h : Sum.elim f g (.inr x) = c) : g x = c := h
theorem len_ok {ds : List PyData} {n : Nat} (h : ds.length = n) (h2 : n ≤ sizeLine := by decide +kernel) : ds.length ≤ sizeLine := h ▸ h2
section
variable {X : Cx} {os : Os}
def noneB : PyData → Bool
  | .none => true
  | _ => false
theorem dq_none {F : Hp} : ∀ {v : L2.V} {d : PyData}, Dq F v d → decide (v = .non) = noneB d
  | _, _, .non => rfl
  | _, _, .bl _ => by simp [noneB]
  | _, _, .int _ => by simp [noneB]
  | _, _, .str _ => by simp [noneB]
  | _, _, .lst _ _ => by simp [noneB]
  | _, _, .tup _ _ => by simp [noneB]
  | _, _, .dctK _ _ _ => by simp [noneB]
  | _, _, .dctT _ _ _ => by simp [noneB]
theorem r2_notN {d : PyData} {t : Bool} (h : (!noneB d) = t) : R2X X (fun x y H Q => y = .non ∧ Q (.bl (!decide (x = .non))) H) (dat d) (dat .none) os (dat (.bool t)) := fun F H x y Q ow cx cy q =>
  ⟨by have := cy.now; cases this; rfl, by rw [dq_none cx.now, h]; exact q F H _ (Same.refl F) ow (cl_dat (.bl _))⟩
end
end Z
namespace Z
open PySem PySem.Spec PyProof.Rows L2 HT
section
variable {prog : Program} {w : World} {A : Around} {E : Value → Shared → Prop} {s : Shared}
theorem places_rev (n : Nat) : Builtin.Slice.slicePlaces ((n : Int) - 1) (-1) (-1) = n := by
  unfold Builtin.Slice.slicePlaces
  have z1 : ¬ ((-1 : Int) > 0) := by omega
  have z2 : (-(-1) : Int) = 1 := by omega
  simp only [z1, if_false, z2, Int.ediv_one]
  split <;> omega
theorem applied_rev {q : Addr} {vs : Value} {n : Nat} {Q : Int × Int × Nat → Shared → Prop} (hs : s.heap.IsSliceOf q .none .none vs) (ps : IsPart vs (some (-1)))
    (h : Q ((n : Int) - 1, -1, n) s) : wpAny (model prog w) A (Builtin.Slice.sliceApplied (.ref q) (pure (n : Int))) Q E s := by
  obtain ⟨o, h1, h2, h3⟩ := id hs
  unfold Builtin.Slice.sliceApplied Builtin.Slice.sliceFields
  refine wpAny_bind (wpAny_bind (wpAny_field h1 h3 (x := Value.none) rfl (wpAny_bind (wpAny_field h1 h3 (x := Value.none) rfl (wpAny_bind (wpAny_field h1 h3 (x := vs) rfl (wpAny_pure ?_)))))))
  refine wpAny_bind (slicePart_ ps ?_)
  show wpAny _ _ (if ((-1 : Int) == 0) = true then _ else _) _ _ s
  rw [if_neg (show ¬ ((-1 : Int) == 0) = true by decide)]
  refine wpAny_bind (slicePart_none (wpAny_bind (slicePart_none (wpAny_bind (wpAny_pure ?_)))))
  show wpAny _ _ (pure ((n : Int) - 1, (-1 : Int), Builtin.Slice.slicePlaces ((n : Int) - 1) (-1) (-1))) _ _ s
  rw [places_rev]
  exact wpAny_pure h
theorem fm_all (l : List Value) : ∀ m : Nat, m ≤ l.length → ((List.range m).filterMap fun k : Nat => l[m - 1 - k]?) = (l.take m).reverse
  | 0, _ => rfl
  | m + 1, hm => by
    have ih := fm_all l m (by omega)
    rw [List.range_succ_eq_map, List.filterMap_cons, List.filterMap_map]
    have e0 : l[m + 1 - 1 - 0]? = some l[m] := by
      rw [show m + 1 - 1 - 0 = m by omega]
      exact List.getElem?_eq_getElem (by omega)
    rw [e0]
    have e1 : ((fun k : Nat => l[m + 1 - 1 - k]?) ∘ Nat.succ) = fun k : Nat => l[m - 1 - k]? := by
      funext k
      show l[m + 1 - 1 - (k + 1)]? = _
      rw [show m + 1 - 1 - (k + 1) = m - 1 - k by omega]
    rw [e1, ih]
    rw [List.take_succ_eq_append_getElem (by omega), List.reverse_append]
    rfl
theorem fm_congr {α β : Type} {f g : α → Option β} : ∀ {l : List α}, (∀ x ∈ l, f x = g x) → l.filterMap f = l.filterMap g
  | [], _ => rfl
  | x :: l, h => by rw [List.filterMap_cons, List.filterMap_cons, h x List.mem_cons_self, fm_congr fun y hy => h y (List.mem_cons_of_mem _ hy)]
theorem pick_rev (xs : Array Value) : ((List.range xs.size).filterMap fun (k : Nat) => xs[(((xs.size : Int) - 1) + (k : Int) * (-1)).toNat]?).toArray = xs.toList.reverse.toArray := by
  have key : ((List.range xs.size).filterMap fun (k : Nat) => xs[(((xs.size : Int) - 1) + (k : Int) * (-1)).toNat]?) = ((List.range xs.size).filterMap fun k : Nat => xs.toList[xs.size - 1 - k]?) := by
    refine fm_congr fun k hk => ?_
    have := List.mem_range.mp hk
    rw [show (((xs.size : Int) - 1) + (k : Int) * (-1)).toNat = xs.size - 1 - k by omega, Array.getElem?_toList]
  rw [key, fm_all xs.toList xs.size (by simp), List.take_of_length_le (by simp)]
theorem item_rev {t q : Addr} {its : Array Value} {vs : Value} {Q : Value → Shared → Prop} (ht : IsTup s.heap t its) (hs : s.heap.IsSliceOf q .none .none vs) (ps : IsPart vs (some (-1)))
    (h : Q (.ref s.heap.objs.size) { s with heap := s.heap.push { cls := .type "tuple", data := .seq its.toList.reverse.toArray } }) (hz : its.size ≤ sizeLine) : wpAny (model prog w) A (getItem (.ref t) (.ref q)) Q E s := by
  have fits : sizeOk (.seq its.toList.reverse.toArray) := by
    show its.toList.reverse.toArray.size ≤ sizeLine
    rw [List.size_toArray, List.length_reverse, Array.length_toList]
    exact hz
  obtain ⟨o, h1, h2, h3⟩ := id hs
  have tq : s.TypeIs (.ref q) "slice" := ⟨o, h1, h2⟩
  unfold getItem
  try with_reducible refine wpAny_holding ?_
  first | refine wpAny_bind (wpAny_pure ?_) | skip
  refine wpAny_bind (wpAny_sequenceKey (IsTup.typeIs ht) (by decide) ?_)
  refine wpAny_bind (wpAny_callSpecial?_slot (name := Str.ofString "__getitem__") (IsTup.typeIs ht) PyProof.Rows.slot_tuple_getitem (wpAny_call_entry PyProof.Rows.slot_tuple_getitem (IsTup.typeIs ht) entry_tuple_getitem ?_ (args_tuple_getitem _ _)))
  show wpAny _ _ (Builtin.Tuple.tupleItemsOf (.ref t) >>= _) _ _ s
  refine wpAny_bind (tupleItemsOf_ ht (wpAny_bind (wpAny_typeOf tq ?_)))
  rw [if_pos (by decide)]
  refine wpAny_bind (applied_rev hs ps ?_)
  have hno : ¬ ((((its.size : Int) - 1) == 0 && (-1 : Int) == 1 && its.size == its.size) = true) := by
    intro z
    rw [Bool.and_eq_true, Bool.and_eq_true] at z
    exact absurd (eq_of_beq z.1.2) (by decide)
  show wpAny _ _ (if (((its.size : Int) - 1) == 0 && (-1 : Int) == 1 && its.size == its.size) = true then _ else _) _ _ s
  rw [if_neg hno, pick_rev]
  exact wpAny_bind (m := Builtin.Tuple.tupleExact _) (wpAny_newObj_type (wpAny_pure ⟨_, rfl, wpAny_pure h⟩) fits)
end
def tRevT (K : PySem.W.Frag) (te : TE) : TE := fun σ H Q => te σ H fun x H1 => ∃ a xs, x = .ref a ∧ SqT K H1 a xs ∧ ∀ p, H1 p = none → Q (.ref p) (upd H1 p (.tup xs.reverse))
section
variable {X : Cx}
theorem pe_revT {e : Expr} {te : TE} {k : Nat} {p1 p2 p3 pos : Pos} (he : PE X e te) : PE X (.Subscript e (.Slice none none (some (.UnaryOp .USub (.Constant (.int 1) k p1) p2)) p3) pos) (tRevT X.K te) := by
  refine ⟨fun pins s σ H Q I h => Subscript_ (thn (he.run pins s σ H _ I h) fun v s1 ⟨x, H1, I1, r1, q1⟩ => ?_)⟩
  obtain ⟨a, xs, rfl, hx, q⟩ := q1
  cases r1
  have hst : PO X (some (.UnaryOp .USub (.Constant (.int 1) k p1) p2)) (tPart (tUn (rU fun i => .int (-i)) (tC (.int 1)))) := po_some (pe_un un_neg pe_int)
  refine wpAny_Slice (thn (po_none.run pins s1 σ H1 (fun o Hx => o = none ∧ Hx = H1) I1 ⟨rfl, rfl⟩) fun vl s2 ⟨l, H2, I2, pl, u1, u2⟩ => ?_)
  subst u1 u2
  refine thn (po_none.run pins s2 σ H2 (fun o Hx => o = none ∧ Hx = H2) I2 ⟨rfl, rfl⟩) fun vu s3 ⟨u, H3, I3, pu, u1, u2⟩ => ?_
  subst u1 u2
  refine thn (hst.run pins s3 σ H3 (fun o Hx => o = some (-1) ∧ Hx = H3) I3 ⟨1, rfl, -1, rfl, rfl, rfl⟩) fun vs s4 ⟨o, H4, I4, ps, u1, u2⟩ => ?_
  subst u1 u2
  cases pl
  cases pu
  have J : Inv X pins σ H4 { s4 with heap := s4.heap.push { cls := .type "slice", data := .fields #[.none, .none, vs] } } := I4.kept (t' := s4.toks) fun b ob z => Heap.get?_push_of_some _ z
  obtain ⟨its, r, ht, hz⟩ := J.tuple hx
  have hlen := r.length
  show wpAny (model X.prog X.w) X.A (subscriptTail e (.Slice none none (some (.UnaryOp .USub (.Constant (.int 1) k p1) p2)) p3) (.ref a) (.ref s4.heap.objs.size)) (EP X pins σ Q) X.xe { s4 with heap := s4.heap.push { cls := .type "slice", data := .fields #[.none, .none, vs] } }
  refine tail_any (ops := [.ref a, .ref s4.heap.objs.size]) (IsTup.typeIs ht) PyProof.Rows.slot_tuple_getitem.lookup ?_ (by with_unfolding_all rfl)
  refine item_rev ht (Heap.IsSliceOf.new _ Value.none Value.none vs) ps ?_ (by rw [List.size_toArray]; omega)
  refine ⟨.ref _, _, J.laid (t' := s4.toks) (o := .tup xs.reverse) (fun b ob z => Heap.get?_push_of_some _ z) (Nat.le_refl _) ?_, rfl, q _ (J.hok.fresh (Nat.le_refl _))⟩
  exact ⟨by rw [List.length_reverse]; exact hz, _, r.reverse, IsTup.new _ _⟩
end
section
variable {X : Cx} {es : List Slot} {os os1 os2 : Os} {pos : Pos} {a b : Expr} {φ : VP}
theorem ex_revT {α : Type} {enc : α → PyData} {xs : List α} {kk : Nat} {p1 p2 p3 : Pos} (hr : RdT φ (xs.map enc)) (ha : EX X es os a φ os1) : EX X es os (.Subscript a (.Slice none none (some (.UnaryOp .USub (.Constant (.int 1) kk p1) p2)) p3) pos) (dat (.tuple (xs.reverse.map enc))) os1 := fun F σ H Q ow sl q =>
  we_of (pe_revT pe_u) (ha F σ H _ ow sl fun F1 H1 v e1 o1 c1 => by
    obtain ⟨p, vs, rfl, h1, h2⟩ := hr F1 v c1
    refine ⟨p, vs, rfl, .of (o1.ex _ _ h1), fun m hm => ?_⟩
    have fp := o1.ex.free hm
    have hd := dqall_rev h2
    rw [← List.map_reverse] at hd
    exact q _ _ _ (e1.trans (same_upd fp)) (o1.frozen hm) (cl_dat (.tup upd_same (dqall_mono (same_upd fp) _ _ hd))))
end
end Z
set_option maxHeartbeats 4000000
namespace Z
open PySem PySem.Spec PyProof.Rows L2
theorem mul_same (l : Addr) (items : Array Value) (n : Nat) (dd : Option Addr) (sl : Array (Option Value)) (x : Int) (u : Tok) (c0 : (decide (x < -(2 ^ 63)) || decide (x ≥ 2 ^ 63)) = false) (c1 : (items.isEmpty || x == 1) = true) :
    Meets (Builtin.«tuple.__mul__» ⟨[.ref l, .int x u], []⟩) (fun _ R s => s.heap.get? l = some { cls := .type "tuple", dict := dd, data := .seq items n, slots := sl } ∧ R (.ok (.ret (.ref l))) s) :=
  .of_wp fun prog w A R s h => by
    obtain ⟨hp, g, d, tk, os⟩ := s
    obtain ⟨hl, h⟩ := h
    have f1 := AutoSeq1.idx_int
    wp_walk using wpAny_loadPart' hl
    repeat (first
      | (refine wpAny_ite_false (decide_eq_false (by rw [c0]; exact Bool.false_ne_true)) ?_; wp_walk using wpAny_loadPart' hl)
      | (refine wpAny_ite_true (decide_eq_true (by rw [c1])) ?_; wp_walk using wpAny_loadPart' hl))
    exact ⟨_, rfl, h⟩
theorem mul_none (l : Addr) (items : Array Value) (n : Nat) (dd : Option Addr) (sl : Array (Option Value)) (x : Int) (u : Tok) (c0 : (decide (x < -(2 ^ 63)) || decide (x ≥ 2 ^ 63)) = false) (c1 : (items.isEmpty || x == 1) = false) (c2 : (decide (x ≤ 0) || items.isEmpty) = true) :
    Meets (Builtin.«tuple.__mul__» ⟨[.ref l, .int x u], []⟩) (fun _ R s => s.heap.get? l = some { cls := .type "tuple", dict := dd, data := .seq items n, slots := sl } ∧
      R (.ok (.ret (Value.ref s.heap.objs.size))) { s with heap := s.heap.push { cls := Value.type "tuple", data := Data.seq #[] }, toks := s.toks }) :=
  .of_wp fun prog w A R s h => by
    obtain ⟨hp, g, d, tk, os⟩ := s
    obtain ⟨hl, h⟩ := h
    have f1 := AutoSeq1.idx_int
    wp_walk using wpAny_loadPart' hl
    repeat (first
      | (refine wpAny_ite_false (decide_eq_false (by rw [c0]; exact Bool.false_ne_true)) ?_; wp_walk using wpAny_loadPart' hl)
      | (refine wpAny_ite_false (decide_eq_false (by rw [c1]; exact Bool.false_ne_true)) ?_; wp_walk using wpAny_loadPart' hl)
      | (refine wpAny_ite_true (decide_eq_true (by rw [c2])) ?_; wp_walk using wpAny_loadPart' hl))
    exact ⟨_, rfl, h⟩
/-- a tuple, so many times behind one another -/
def rRepA (K : PySem.W.Frag) : R2 := fun x y H Q => ∃ l k xs, x = .ref l ∧ y = .int k ∧ SqT K H l xs ∧ -(2 ^ 63) ≤ k ∧ k < 2 ^ 63 ∧ ((xs = [] ∨ k = 1) → Q (.ref l) H) ∧ (xs ≠ [] → k ≤ 0 → ∀ p, H p = none → Q (.ref p) (upd H p (.tup []))) ∧
  (xs ≠ [] → 2 ≤ k → k ≤ 1000 ∧ xs.length ≤ 1000 ∧ ∀ p, H p = none → Q (.ref p) (upd H p (.tup (List.replicate k.toNat xs).flatten)))
section
variable {X : Cx}
theorem op_repA : OpR X (binaryOp .Mult) (rRepA X.K) := by
  intro pins s σ H x y v u Q I rx ry h
  obtain ⟨l, k, xs, rfl, rfl, hT, k0, k1, qa, qb, qc⟩ := h
  by_cases hbig : xs ≠ [] ∧ 2 ≤ k
  · obtain ⟨g1, g2, g3⟩ := qc hbig.1 hbig.2
    exact op_repT pins s σ H _ _ v u Q I rx ry ⟨l, k, xs, rfl, rfl, hT, hbig.1, hbig.2, g1, g2, g3⟩
  cases rx
  obtain ⟨t, rfl⟩ := ry
  obtain ⟨its, r, ⟨⟨cls, dd, data, sl⟩, ho, hc, n, hd⟩, hs⟩ := I.tuple hT
  simp only at hc hd
  subst hc hd
  have c0 : (decide (k < -(2 ^ 63)) || decide (k ≥ 2 ^ 63)) = false := by
    rw [Bool.or_eq_false_iff]
    exact ⟨decide_eq_false (by omega), decide_eq_false (by omega)⟩
  have emp : its.toArray.isEmpty = decide (xs = []) := by
    cases r with
    | nil => rfl
    | cons _ _ => rfl
  by_cases h1 : xs = [] ∨ k = 1
  · have c1 : (its.toArray.isEmpty || k == 1) = true := by
      rw [emp, Bool.or_eq_true, decide_eq_true_eq, beq_iff_eq]
      exact h1
    refine wpAny_binaryOp_repeat_ref (T := "tuple") (U := "int") (by decide) ⟨_, ho, rfl⟩ (fun s2 => typeIs_int s2 k t) noFill_tuple_mul F.fills_int_mul F.slot_int_rmul repeat_tuple F.slot_int_index.lookup
      (call_meets F.slot_int_rmul (typeIs_int s k t) F.entry_int_rmul (F.args_int_rmul_2 _ _) (int_rmul_tuple k t l its.toArray n dd sl) ⟨ho, rfl, ⟨_, ho, rfl⟩, call_meets F.slot_tuple_mul ⟨_, ho, rfl⟩ F.entry_tuple_mul (F.args_tuple_mul_2 _ _) (mul_same l its.toArray n dd sl k t c0 c1) ⟨ho, ?_⟩⟩)
    exact ⟨.ref l, H, I, rfl, qa h1⟩
  · have hne : xs ≠ [] := fun z => h1 (.inl z)
    have hk : k ≤ 0 := by
      have z1 : ¬ 2 ≤ k := fun z => hbig ⟨hne, z⟩
      have z2 : ¬ k = 1 := fun z => h1 (.inr z)
      omega
    have c1 : (its.toArray.isEmpty || k == 1) = false := by
      rw [emp, Bool.or_eq_false_iff]
      exact ⟨decide_eq_false hne, beq_eq_false_iff_ne.mpr (by omega)⟩
    have c2 : (decide (k ≤ 0) || its.toArray.isEmpty) = true := by
      rw [decide_eq_true hk, Bool.true_or]
    refine wpAny_binaryOp_repeat_ref (T := "tuple") (U := "int") (by decide) ⟨_, ho, rfl⟩ (fun s2 => typeIs_int s2 k t) noFill_tuple_mul F.fills_int_mul F.slot_int_rmul repeat_tuple F.slot_int_index.lookup
      (call_meets F.slot_int_rmul (typeIs_int s k t) F.entry_int_rmul (F.args_int_rmul_2 _ _) (int_rmul_tuple k t l its.toArray n dd sl) ⟨ho, rfl, ⟨_, ho, rfl⟩, call_meets F.slot_tuple_mul ⟨_, ho, rfl⟩ F.entry_tuple_mul (F.args_tuple_mul_2 _ _) (mul_none l its.toArray n dd sl k t c0 c1 c2) ⟨ho, ?_⟩⟩)
    refine ⟨.ref s.heap.objs.size, _, I.laid (t' := s.toks) (o := .tup []) (fun b ob z => Heap.get?_push_of_some _ z) (Nat.le_refl _) ?_, rfl, qb hne hk _ (I.hok.fresh (Nat.le_refl _))⟩
    exact ⟨Nat.zero_le _, [], .nil, IsTup.new _ _⟩
end
section
variable {X : Cx} {es : List Slot} {os os1 os2 : Os} {pos : Pos} {a b : Expr}
/-- the result of t * m -/
def repT {α : Type} (xs : List α) (m : Int) : Option (List α) := if -(2 ^ 63) ≤ m ∧ m ≤ 1000 ∧ xs.length ≤ 1000 then some (List.replicate m.toNat xs).flatten else none
theorem rep_nil {α : Type} : ∀ m : Nat, (List.replicate m ([] : List α)).flatten = []
  | 0 => rfl
  | m + 1 => by rw [List.replicate_succ, List.flatten_cons, rep_nil m]; rfl
theorem ex_repT {α : Type} {enc : α → PyData} {xs ys : List α} {m : Int} (h : repT xs m = some ys) (ha : EX X es os a (dat (.tuple (xs.map enc))) os1) (hb : EX X es os1 b (dat (.int m)) os2) : EX X es os (.BinOp a .Mult b pos) (dat (.tuple (ys.map enc))) os2 := fun F σ H Q ow sl q => by
  unfold repT at h
  split at h
  · rename_i hl
    cases h
    refine we_of (pe_op op_repA pe_u pe_u) (ha F σ H _ ow sl fun F1 H1 v e1 o1 c1 => hb F1 σ H1 _ o1 (sl.mono e1) fun F2 H2 u e2 o2 c2 => ?_)
    obtain ⟨p, vs, rfl, h1, h2⟩ := rdt_dat F2 v (c1.mono e2)
    have e := e1.trans e2
    have hd := dqall_rep h2 m.toNat
    rw [map_rep] at hd
    have hlen := dqall_len h2
    rw [List.length_map] at hlen
    refine ⟨p, m, vs, rfl, clv_int c2, .of (o2.ex _ _ h1), hl.1, by omega, fun h0 => ?_, fun hne hk r hr => ?_, fun hne hk => ⟨hl.2.1, by omega, fun r hr => ?_⟩⟩
    · refine q F2 H2 _ e o2 (cl_dat (.tup h1 ?_))
      rcases h0 with h0 | h0
      · subst h0
        have hx : xs = [] := List.eq_nil_of_length_eq_zero hlen.symm
        subst hx
        rw [rep_nil]
        exact h2
      · subst h0
        have e9 : (List.replicate (1 : Int).toNat xs).flatten = xs := by
          show (List.replicate 1 xs).flatten = xs
          rw [List.replicate_one, List.flatten_cons, List.flatten_nil, List.append_nil]
        rw [e9]
        exact h2
    · have fp := o2.ex.free hr
      have e9 : m.toNat = 0 := by omega
      rw [e9] at q
      exact q _ _ _ (e.trans (same_upd fp)) (o2.frozen hr) (cl_dat (.tup upd_same .nil))
    · have fp := o2.ex.free hr
      exact q _ _ _ (e.trans (same_upd fp)) (o2.frozen hr) (cl_dat (.tup upd_same (dqall_mono (same_upd fp) _ _ hd)))
  · cases h
end
end Z
namespace Z
open PySem PySem.Spec PyProof.Rows L2
section
variable {X : Cx} {os : Os}
theorem rc_len2 {d1 d2 : PyData} : RCX (fun xs H Q => ∃ p ys, xs = [L2.V.ref p] ∧ (SqL X.K H p ys ∨ SqT X.K H p ys) ∧ Q (.int ys.length) H) [dat (.tuple [d1, d2])] os (dat (.int 2)) os := rc_lenT (ds := [d1, d2]) rdt_dat
end
end Z
namespace Z
open PySem PySem.Spec PyProof.Rows L2
theorem new_enum1 {v : Value} {o : Obj} {H : Heap → Prop} (B : Begins v o H) :
    Meets (Builtin.«enumerate.__new__» ⟨[.type "enumerate", v], []⟩) (fun _ R s => H s.heap ∧
      R (.ok (.ret (.ref (s.heap.push o).objs.size))) { s with heap := (s.heap.push o).push { cls := .type "enumerate", data := .fields #[.none, .bool false, .ref s.heap.objs.size, rawInt 0, .none, .none] } }) :=
  .of_wp fun prog w A R s h => by
    obtain ⟨hp, g, d, tk, os⟩ := s
    obtain ⟨h1, h⟩ := h
    have hsub := sub_enumerate
    have q1 : ∀ {A' : Around} {E : Value → Shared → Prop} {Q : Value → Shared → Prop}, Q (.ref hp.objs.size) ⟨hp.push o, g, d, tk, os⟩ → wpAny (model prog w) A' (pyIter v) Q E ⟨hp, g, d, tk, os⟩ := fun q => B.iter prog w _ _ ⟨hp, g, d, tk, os⟩ _ h1 q
    wp_walk using q1
    refine wpAny_stack_any fun st => wpAny_pure ?_
    split
    · rename_i c _ _ _ _ _
      cases (c == Value.type "enumerate") <;> (wp_walk using q1; exact ⟨_, rfl, h⟩)
    · wp_walk using q1
      exact ⟨_, rfl, h⟩
theorem enum_begins1 {prog : Program} {w : World} {A : Around} {E : Value → Shared → Prop} {s : Shared} {v : Value} {o : Obj} {H : Heap → Prop} {Q : Value → Shared → Prop} (B : Begins v o H) (h1 : H s.heap)
    (h : ∀ g, IsEnum g (s.heap.objs.size + 1) s.heap.objs.size 0 .none → g.get? s.heap.objs.size = some o → (∀ b u, s.heap.get? b = some u → g.get? b = some u) → Q (.ref (s.heap.objs.size + 1)) { s with heap := g }) :
    wpAny (model prog w) A (call (.type "enumerate") [v]) Q E s := by
  refine callType_new F.called_enumerate (by decide) (F.typeCall_enumerate_1 _) (F.newCall_enumerate_1 _) (fun obj => F.args_object_init_2 obj _) F.entry_enumerate_new (new_enum1 B) ⟨h1, ?_⟩
  have hz : (s.heap.push o).objs.size = s.heap.objs.size + 1 := Heap.size_push ..
  show _ ∧ _
  rw [hz]
  have he : IsEnum ((s.heap.push o).push { cls := .type "enumerate", data := .fields #[.none, .bool false, .ref s.heap.objs.size, rawInt 0, .none, .none] }) (s.heap.objs.size + 1) s.heap.objs.size 0 .none := by
    have q := Heap.get?_push_size (s.heap.push o) (o := { cls := .type "enumerate", data := .fields #[.none, .bool false, .ref s.heap.objs.size, rawInt 0, .none, .none] }) rfl
    rw [hz] at q
    exact q
  exact ⟨⟨_, he, rfl⟩, h _ he (Heap.get?_push_of_some _ (Heap.get?_push_size _ B.free)) fun b u x => Heap.get?_push_of_some _ (Heap.get?_push_of_some _ x)⟩
/-- the items of the tuple at a, each in a new pair -/
def IteT (K : PySem.W.Frag) (a : Addr) : It :=
  ⟨fun i H => ∃ (xs : List L2.V) (x : L2.V), SqT K H a xs ∧ xs[i]? = some x, fun i H v H' => ∃ T x, v = .ref T ∧ H T = none ∧ H' = upd H T (.tup [.int (i : Nat), x]) ∧ ∀ xs, SqT K H a xs → xs[i]? = some x, fun i H => ∃ xs : List L2.V, SqT K H a xs ∧ xs.length ≤ i⟩
theorem turn_enumT {P : Program} {w : World} {K : PySem.W.Frag} {elts : List Expr} {kk : Nat} {tpos : Pos} (a e it : Addr) :
    Turn P w K (.Tuple elts kk tpos) (IteT K a) [e, it] e (fun i h => (∃ old, IsEnum h e it ((i : Nat) : Int) old) ∧ h.IsTupleIter it a i ∧ e ≠ it ∧ a ≠ e ∧ a ≠ it) where
  mem := by simp
  obj := fun i h st b hb => by
    obtain ⟨⟨old, he⟩, ⟨o, ho, hc, hd⟩, _⟩ := st
    have z : b = e ∨ b = it := by simpa using hb
    rcases z with z | z
    · rw [z]
      exact ⟨_, he, fun v q => nomatch q⟩
    · rw [z]
      exact ⟨o, ho, fun v q => by rw [hd] at q; cases q⟩
  keep := fun i h g st k => by
    obtain ⟨⟨old, he⟩, hi, r⟩ := st
    exact ⟨⟨old, k e (by simp) _ he⟩, hi.at fun o q => k it (by simp) o q, r⟩
  item := by
    intro X hP hw hK hc i pins s σ H E I hf st hg
    subst hP hw hK
    obtain ⟨⟨old, he⟩, hit, hne, hae, hai⟩ := st
    obtain ⟨xs, x, hq, hx⟩ := hg
    obtain ⟨its, rv, p, hz⟩ := I.tuple hq
    obtain ⟨u, hu, ru⟩ := rv.get hx
    have hel : e < s.heap.objs.size := Heap.lt_size he
    have hil : it < s.heap.objs.size := by
      obtain ⟨_, q, _⟩ := hit
      exact Heap.lt_size q
    have D := Draws.tuple (prog := X.prog) (w := X.w) (A := X.A.in1) (I.ok.hd hc) it a hai its.toArray
    have hlt : i < its.toArray.size := by
      have := (List.getElem?_eq_some_iff.mp hu).1
      simpa using this
    refine wpAny_pyNext_enum_itemD D he ⟨hit, p⟩ hlt hne (by simp [hne, Ne.symm hae]) fun x' h' tk hP' ho hst hT hsz hk => ?_
    have ex : x' = u := by
      have q : its.toArray[i]? = some u := by simpa using hu
      exact Option.some.inj (hP'.symm.trans q)
    subst ex
    refine ⟨_, rfl, wpAny_letOwnedTupleGo_enum (s := { s with heap := h', toks := tk + 1 }) ho fun h'' he' sb => ?_⟩
    have hT2 : h''.get? s.heap.objs.size = some { cls := .type "tuple", data := .seq #[.int i tk, x'] } := (sb.2 _ (Nat.ne_of_gt hel)).trans hT
    have new : ObjOk X.prog X.w (upd H s.heap.objs.size (.tup [.int (i : Nat), x])) h'' s.heap.objs.size (.tup [.int (i : Nat), x]) :=
      ⟨by show 2 ≤ sizeLine; decide, [.int i tk, x'], .cons ⟨_, rfl⟩ (.cons ru .nil), ⟨_, hT2, rfl, _, rfl⟩⟩
    have I1 : Inv X pins σ (upd H s.heap.objs.size (.tup [.int (i : Nat), x])) { s with heap := h'', toks := tk + 1 } :=
      I.turnedNew (ch := [e, it]) (fun b ob hb q => (sb.2 b (fun z => hb (by simp [z]))).trans (hk b ob (fun z => hb (by simp [z])) (fun z => hb (by simp [z])) q)) hf (Nat.le_refl _) new
    refine ⟨.ref s.heap.objs.size, _, I1, rfl, ⟨_, x, rfl, I.hok.fresh (Nat.le_refl _), rfl, fun ys hy => by rw [I.tuple_inj hy hq]; exact hx⟩, ⟨⟨x', ?_⟩, hst.1.at fun o q => (sb.2 it (Ne.symm hne)).trans q, hne, hae, hai⟩, fun b hb => ?_⟩
    · have e1 : ((i + 1 : Nat) : Int) = (i : Int) + 1 := by omega
      rw [e1]
      exact he'
    · have hb' : b < s.heap.objs.size := by
        have z : b = e ∨ b = it := by simpa using hb
        rcases z with z | z
        · rw [z]
          exact hel
        · rw [z]
          exact hil
      rw [upd_ne (Nat.ne_of_lt hb')]
      exact (hf b hb).1
  done := by
    intro X hP hw hK hc i pins s σ H E I hf st hg
    subst hP hw hK
    obtain ⟨⟨old, he⟩, hit, hne, hae, hai⟩ := st
    obtain ⟨xs, hq, hx⟩ := hg
    obtain ⟨its, rv, p, hz⟩ := I.tuple hq
    obtain ⟨f0, f1, f2, f3, f4, f5⟩ := hf it (by simp)
    have hl := rv.length
    have hT : s.TypeIs (.ref e) "enumerate" := ⟨_, he, rfl⟩
    unfold pyNext
    refine wpAny_bind (wpAny_attempt (wpAny_callSpecial?_slot (name := Str.ofString "__next__") hT F.slot_enumerate_next (wpAny_call_entry F.slot_enumerate_next hT F.entry_enumerate_next ?_ (F.args_enumerate_next_1 _))))
    show wpAny _ _ (field (.ref e) 2 >>= _) _ _ _
    refine wpAny_bind (wpAny_field he rfl (x := .ref it) rfl ?_)
    refine wpAny_bind (wpAny_nextOf_tuple_end (A := X.A.in1) (I.ok.hd hc) hit (show s.heap.IsTuple a its.toArray from p) (by simp; omega) fun h' x he' hx' => ?_)
    obtain ⟨o, ho, hcx⟩ := hx'
    refine wpAny_bind (wpAny_isInstance (T := "StopIteration") (b := true) ⟨o, ho, hcx⟩ isSubtype_stop ?_)
    exact wpAny_pure ⟨rfl, I.turned (t' := s.toks) (fun b o hb q => he' b o hb q) f0 f1 f3 f4 f5⟩
  self := fun A i s Q E st h => by
    obtain ⟨⟨_, he⟩, _⟩ := st
    exact wpAny_pyIter_enum he h
def iEnumT (K : PySem.W.Frag) (ta : TA) : TI := fun σ H R => ta σ H fun vs H1 => ∃ a xs, vs = [.ref a] ∧ SqT K H1 a xs ∧ R (IteT K a) H1
theorem pi_enumT {X : Cx} {e : Expr} {ta : TA} {p pos tpos : Pos} {elts : List Expr} {kk : Nat} (hg : Gl X "enumerate") (hm : X.mg "enumerate" = none) (ha : PA X [e] ta) (hs : starEach [e] X.env = [(false, eval e X.env)] := by rfl) :
    PI X (.Tuple elts kk tpos) (.Call (.Name "enumerate" p) [e] [] pos) (iEnumT X.K ta) := by
  refine ⟨fun pins s σ H R I h => Call_ (ld_blt I hg hm boot_enumerate (PyProof.Rows.callWith_type1 (thn (ha.run pos pins s σ H _ I h) fun us s1 ⟨vs, H1, I1, r1, q1⟩ => ?_) hs rfl))⟩
  obtain ⟨a, xs, rfl, hq, q⟩ := q1
  cases r1 with
  | cons r rr =>
    cases rr
    cases r
    obtain ⟨its, rv, p2, hz⟩ := I1.tuple hq
    have ht : s1.heap.IsTuple a its.toArray := p2
    have hal : a < s1.heap.objs.size := by
      obtain ⟨_, z, _⟩ := ht
      exact Heap.lt_size z
    refine enum_begins1 (begins_tuple a its.toArray) ht fun h' he hit hk => wpAny_pyIter_enum he ?_
    have I2 : Inv X pins σ H1 { s1 with heap := h' } := I1.kept (t' := s1.toks) hk
    refine ⟨s1.heap.objs.size + 1, [s1.heap.objs.size + 1, s1.heap.objs.size], _, _, H1, rfl, I2, turn_enumT a (s1.heap.objs.size + 1) s1.heap.objs.size, ⟨⟨.none, he⟩, ⟨_, hit, rfl, rfl⟩, Nat.succ_ne_self _, Nat.ne_of_lt (Nat.lt_succ_of_lt hal), Nat.ne_of_lt hal⟩, fun b hb => ?_, q⟩
    have z : b = s1.heap.objs.size + 1 ∨ b = s1.heap.objs.size := by simpa using hb
    have hle : s1.heap.objs.size ≤ b := by
      rcases z with z | z
      · rw [z]
        exact Nat.le_succ _
      · rw [z]
        exact Nat.le_refl _
    exact I1.fpOk hle (I1.hok.fresh hle)
section
variable {X : Cx} {es : List Slot} {os os1 os2 os3 : Os} {N V G W : List Str} {k i vi gi j : Nat} {x : Str} {p pos : Pos} {e e2 e3 a : Expr} {φ : VP} {n : Ent} {α : Type}
theorem ix_enumT {elts : List Expr} {kk : Nat} {tpos : Pos} {xs : List α} {enc : α → PyData} (B : Bd X N W G k) (hj : G[gi]? = some "enumerate") (hm : X.mg "enumerate" = none) (he : EX X es os e φ os1) (hr : RdT φ (xs.map enc)) (hs : starEach [e] X.env = [(false, eval e X.env)] := by rfl) :
    IX X (.Tuple elts kk tpos) es os (.Call (.Name "enumerate" p) [e] [] pos) (enum xs) (fun x => dat (.tuple [.int x.1, enc x.2])) anyOs os1 := fun F σ H R ow sl q =>
  wi_of (pi_enumT (B.gl _ (List.mem_of_getElem? hj)).1 hm pa_u hs) (wa_of (pa_cons pe_u pa_nil hs) (he F σ H _ ow sl fun F1 H1 v e1 o1 c1 => by
    obtain ⟨a, vs, rfl, h1, h2⟩ := hr F1 v c1
    refine ⟨a, vs, rfl, .of (o1.ex _ _ h1), q F1 H1 _ e1 o1 fun F2 H2 os2 i s ow2 k2 => ?_⟩
    have g1 := s _ _ h1
    have g2 := dqall_mono s _ _ h2
    have hl := dqall_len g2
    rw [List.length_map] at hl
    have hT : SqT X.K H2 a vs := .of (ow2.ex _ _ g1)
    refine ⟨fun h => ⟨vs, hT, by rw [enum_len] at h; omega⟩, fun x hx => ?_⟩
    obtain ⟨hz1, hz2⟩ := zipIdx_get hx
    obtain ⟨u, hu, hd⟩ := dqall_map g2 hz2
    refine ⟨⟨vs, u, hT, hu⟩, fun w H3 y => ?_⟩
    obtain ⟨T, w2, rfl, hTn, rfl, hy⟩ := y
    have ew : vs[i]? = some w2 := hy vs hT
    rw [hu] at ew
    cases ew
    have fT := ow2.ex.free hTn
    refine ⟨_, same_upd fT, ow2.frozen hTn, cl_dat (.tup upd_same ?_)⟩
    rw [hz1]
    exact .cons (.int _) (.cons (dq_mono (same_upd fT) _ _ hd) .nil)))
end
end Z
namespace Z
open PySem PySem.Spec PyProof.Rows L2
end Z
namespace Z
open PySem PySem.Spec PyProof.Rows L2
inductive Lk (Q : Hp → Prop) : Hp → Prop
  | now {H : Hp} : Q H → Lk Q H
  | lock {H : Hp} (d : Addr) (u : HO) : H d = some u → Mut (some u) → (∀ od, Lk Q (upd H d (.frz od u))) → Lk Q H
theorem Lk.bind {Q R : Hp → Prop} {H : Hp} (h : Lk Q H) (k : ∀ H, Q H → Lk R H) : Lk R H := by
  induction h with
  | now q => exact k _ q
  | lock d u a b _ ih => exact .lock d u a b ih
theorem Lk.inv {X : Cx} {pins : List (Addr × Obj)} {σ : L2.St} {s : Shared} {Q : Hp → Prop} {H : Hp} (h : Lk Q H) : Inv X pins σ H s → ∃ H', Inv X pins σ H' s ∧ Q H' := by
  induction h with
  | now q => exact fun I => ⟨_, I, q⟩
  | lock d u a b _ ih =>
    intro I
    obtain ⟨od, I1⟩ := I.lock a b
    exact ih od I1
theorem we_lk {X : Cx} {e : Expr} {σ : L2.St} {H : Hp} {Q : VK} (h : WE X e σ H fun v H' => Lk (Q v) H') : WE X e σ H Q := fun pins s I =>
  wpAny_mono (h pins s I) (fun u s1 ⟨v, H1, I1, r, k⟩ => let ⟨H2, I2, q⟩ := k.inv I1; ⟨v, H2, I2, r, q⟩) fun _ _ z => z
theorem wps_lk {X : Cx} {sts : List Stmt} {D : Ends} {σ : L2.St} {H : Hp} (h : Lk (WPs X sts D σ) H) : WPs X sts D σ H := fun pins s I =>
  let ⟨_, I2, q⟩ := h.inv I; q pins s I2
/-- what is owned as e may be given away, as the data d -/
def Frb (e : Ent) (d : PyData) : Prop := ∀ p F os H (Q : Hp → Prop), Ow F ((p, e) :: os) H → (∀ F' H', Same F F' → Ow F' os H' → Dq F' (.ref p) d → Q H') → Lk Q H
theorem frb_ol {ds : List PyData} : Frb (ol ds) (.list ds) := fun p F os H Q ow q => by
  obtain ⟨o, ho, ⟨vs, rfl, hv⟩, s, o2⟩ := ow.freezeU uni_ol
  exact .now (q _ H s o2 (.lst upd_same (dqall_mono s _ _ hv)))
section
variable {κ β : Type} [DecidableEq κ]
def dGet (d : List (κ × β)) (k : κ) : Option β := (d.find? fun kv => decide (kv.1 = k)).map (·.2)
def dPut (d : List (κ × β)) (k : κ) (v : β) : List (κ × β) :=
  if (d.any fun kv => decide (kv.1 = k)) = true then d.map (fun kv => if kv.1 = k then (kv.1, v) else kv) else d ++ [(k, v)]
def dDel (d : List (κ × β)) (k : κ) : List (κ × β) := d.filter fun kv => decide (kv.1 ≠ k)
/-- a store in bounds -/
def dPutO (d : List (κ × β)) (k : κ) (v : β) : Option (List (κ × β)) := if d.length < sizeLine then some (dPut d k v) else none
/-- d.pop(k) -/
def dPopO (d : List (κ × β)) (k : κ) : Option (β × List (κ × β)) := (dGet d k).map fun v => (v, dDel d k)
end
theorem dGet_map {κ β γ : Type} [DecidableEq κ] (f : β → γ) (k : κ) : ∀ d : List (κ × β), dGet (d.map fun p => (p.1, f p.2)) k = (dGet d k).map f
  | [] => rfl
  | (a, b) :: d => by
    have ih := dGet_map f k d
    unfold dGet at ih ⊢
    rw [List.map_cons, List.find?_cons, List.find?_cons]
    by_cases h : a = k
    · simp [h]
    · simp only [h, decide_false]
      exact ih
theorem dPut_map {κ β γ : Type} [DecidableEq κ] (f : β → γ) (k : κ) (v : β) (d : List (κ × β)) : dPut (d.map fun p => (p.1, f p.2)) k (f v) = (dPut d k v).map fun p => (p.1, f p.2) := by
  unfold dPut
  rw [List.any_map]
  have e : ((fun kv : κ × γ => decide (kv.1 = k)) ∘ fun p : κ × β => (p.1, f p.2)) = fun kv => decide (kv.1 = k) := rfl
  rw [e]
  split
  · rw [List.map_map, List.map_map]
    congr 1
    funext p
    show (if p.1 = k then (p.1, f v) else (p.1, f p.2)) = _
    by_cases h : p.1 = k
    · simp [h]
    · simp [h]
  · simp
/-- the keys renamed one to one -/
theorem dGet_key {κ κ' β : Type} [DecidableEq κ] [DecidableEq κ'] {f : κ → κ'} (hf : ∀ a b, f a = f b → a = b) (k : κ) : ∀ d : List (κ × β), dGet (d.map fun p => (f p.1, p.2)) (f k) = dGet d k
  | [] => rfl
  | (a, b) :: d => by
    have ih := dGet_key hf k d
    unfold dGet at ih ⊢
    rw [List.map_cons, List.find?_cons, List.find?_cons]
    by_cases h : a = k
    · simp [h]
    · have h2 : ¬ f a = f k := fun z => h (hf _ _ z)
      simp only [h, h2, decide_false]
      exact ih
theorem dPut_key {κ κ' β : Type} [DecidableEq κ] [DecidableEq κ'] {f : κ → κ'} (hf : ∀ a b, f a = f b → a = b) (k : κ) (v : β) (d : List (κ × β)) : dPut (d.map fun p => (f p.1, p.2)) (f k) v = (dPut d k v).map fun p => (f p.1, p.2) := by
  unfold dPut
  rw [List.any_map]
  have e : ((fun kv : κ' × β => decide (kv.1 = f k)) ∘ fun p : κ × β => (f p.1, p.2)) = fun kv => decide (kv.1 = k) := by
    funext p
    show decide (f p.1 = f k) = decide (p.1 = k)
    exact decide_eq_decide.mpr ⟨hf _ _, fun z => by rw [z]⟩
  rw [e]
  split
  · rw [List.map_map, List.map_map]
    congr 1
    funext p
    show (if f p.1 = f k then (f p.1, v) else (f p.1, p.2)) = _
    by_cases h : p.1 = k
    · simp [h]
    · have h2 : ¬ f p.1 = f k := fun z => h (hf _ _ z)
      simp [h, h2]
  · simp
theorem putK_dPut {κ : Type} [DecidableEq κ] (d : List (κ × L2.V)) (k : κ) (v : L2.V) : putK d k v = dPut d k v := rfl
inductive Kd (κ : Type) where
  | fl (f : κ → Key)
  | tu (f : κ → List Key)
section
variable {κ : Type}
def Kd.ek : Kd κ → κ → PyData
  | .fl f, k => kPD (f k)
  | .tu f, k => .tuple ((f k).map kPD)
def Kd.Inj : Kd κ → Prop
  | .fl f => ∀ a b, f a = f b → a = b
  | .tu f => ∀ a b, f a = f b → a = b
def Kd.ho : Kd κ → List (κ × L2.V) → HO
  | .fl f, kvs => .dK (kvs.map fun p => (f p.1, p.2))
  | .tu f, kvs => .dT (kvs.map fun p => (f p.1, p.2))
def Kd.pd (kd : Kd κ) (ps : List (κ × PyData)) : PyData := match kd with
  | .fl f => .dict (ps.map fun p => (kPD (f p.1), p.2))
  | .tu f => .dict ((.none, .none) :: ps.map fun p => (PyData.tuple ((f p.1).map kPD), p.2))
theorem Kd.ntup (kd : Kd κ) (kvs : List (κ × L2.V)) : ∀ xs, kd.ho kvs ≠ .tup xs := by cases kd <;> intro _ z <;> cases z
theorem Kd.mut (kd : Kd κ) (kvs : List (κ × L2.V)) : Mut (some (kd.ho kvs)) := by cases kd <;> trivial
end
abbrev kI : Kd Int := .fl Sum.inl
theorem inj_kI : kI.Inj := fun a b h => Sum.inl.inj h
theorem kPD_inj : ∀ {a b : Key}, kPD a = kPD b → a = b
  | .inl _, .inl _, h => by injection h with h; rw [h]
  | .inr _, .inr _, h => by injection h with h; rw [h]
  | .inl _, .inr _, h => nomatch h
  | .inr _, .inl _, h => nomatch h
theorem kPDs_inj : ∀ {a b : List Key}, a.map kPD = b.map kPD → a = b
  | [], [], _ => rfl
  | [], _ :: _, h => nomatch h
  | _ :: _, [], h => nomatch h
  | x :: a, y :: b, h => by
    rw [List.map_cons, List.map_cons] at h
    injection h with h1 h2
    rw [kPD_inj h1, kPDs_inj h2]
section
variable {κ : Type}
inductive DV (F : Hp) : List (κ × L2.V) → List (κ × PyData) → Prop
  | nil : DV F [] []
  | cons {k : κ} {v : L2.V} {d : PyData} {kvs : List (κ × L2.V)} {ds : List (κ × PyData)} : Dq F v d → DV F kvs ds → DV F ((k, v) :: kvs) ((k, d) :: ds)
theorem dv_mono {F F' : Hp} (e : Same F F') : ∀ {kvs : List (κ × L2.V)} {ds : List (κ × PyData)}, DV F kvs ds → DV F' kvs ds
  | _, _, .nil => .nil
  | _, _, .cons h1 h2 => .cons (dq_mono e _ _ h1) (dv_mono e h2)
theorem dv_len {F : Hp} : ∀ {kvs : List (κ × L2.V)} {ds : List (κ × PyData)}, DV F kvs ds → kvs.length = ds.length
  | _, _, .nil => rfl
  | _, _, .cons h1 h2 => by rw [List.length_cons, List.length_cons, dv_len h2]
theorem dv_app {F : Hp} : ∀ {kvs us : List (κ × L2.V)} {ds es : List (κ × PyData)}, DV F kvs ds → DV F us es → DV F (kvs ++ us) (ds ++ es)
  | _, _, _, _, .nil, h => h
  | _, _, _, _, .cons h1 h2, h => .cons h1 (dv_app h2 h)
theorem dv_keys {F : Hp} : ∀ {kvs : List (κ × L2.V)} {ds : List (κ × PyData)}, DV F kvs ds → kvs.map (·.1) = ds.map (·.1)
  | _, _, .nil => rfl
  | _, _, .cons h1 h2 => by rw [List.map_cons, List.map_cons, dv_keys h2]
theorem dv_vals {F : Hp} : ∀ {kvs : List (κ × L2.V)} {ds : List (κ × PyData)}, DV F kvs ds → DqAll F (kvs.map (·.2)) (ds.map (·.2))
  | _, _, .nil => .nil
  | _, _, .cons h1 h2 => .cons h1 (dv_vals h2)
variable [DecidableEq κ]
theorem dv_get {F : Hp} (k : κ) : ∀ {kvs : List (κ × L2.V)} {ds : List (κ × PyData)}, DV F kvs ds → (∀ d, dGet ds k = some d → ∃ v, dGet kvs k = some v ∧ Dq F v d) ∧ (dGet ds k = none → dGet kvs k = none)
  | _, _, .nil => ⟨fun d h => (nomatch h), fun _ => rfl⟩
  | _, _, .cons (k := j) h1 h2 => by
    have ih := dv_get k h2
    unfold dGet at ih ⊢
    rw [List.find?_cons, List.find?_cons]
    by_cases e : j = k
    · simp only [e, decide_true]
      exact ⟨fun d h => by cases h; exact ⟨_, rfl, h1⟩, fun h => nomatch h⟩
    · simp only [e, decide_false]
      exact ih
theorem dv_any {F : Hp} (k : κ) : ∀ {kvs : List (κ × L2.V)} {ds : List (κ × PyData)}, DV F kvs ds → (kvs.any fun kv => decide (kv.1 = k)) = ds.any fun kv => decide (kv.1 = k)
  | _, _, .nil => rfl
  | _, _, .cons (k := j) h1 h2 => by
    rw [List.any_cons, List.any_cons, dv_any k h2]
theorem dv_rep {F : Hp} (k : κ) {v : L2.V} {d : PyData} (hd : Dq F v d) : ∀ {kvs : List (κ × L2.V)} {ds : List (κ × PyData)}, DV F kvs ds → DV F (kvs.map fun kv => if kv.1 = k then (kv.1, v) else kv) (ds.map fun kv => if kv.1 = k then (kv.1, d) else kv)
  | _, _, .nil => .nil
  | _, _, .cons (k := j) h1 h2 => by
    rw [List.map_cons, List.map_cons]
    by_cases e : j = k
    · simp only [e, if_true]
      exact .cons hd (dv_rep k hd h2)
    · simp only [e, if_false]
      exact .cons h1 (dv_rep k hd h2)
theorem dv_put {F : Hp} (k : κ) {v : L2.V} {d : PyData} (hd : Dq F v d) {kvs : List (κ × L2.V)} {ds : List (κ × PyData)} (h : DV F kvs ds) : DV F (dPut kvs k v) (dPut ds k d) := by
  unfold dPut
  rw [dv_any k h]
  split
  · exact dv_rep k hd h
  · exact dv_app h (.cons hd .nil)
end
section
variable {κ : Type}
def od (kd : Kd κ) (d : List (κ × PyData)) : Ent := fun p F h => ∃ kvs, h = one p (kd.ho kvs) ∧ DV F kvs d
theorem uni_od {kd : Kd κ} {d : List (κ × PyData)} : Uni (od kd d) (fun F o => ∃ kvs, o = kd.ho kvs ∧ DV F kvs d) := fun p F h ⟨kvs, e, x⟩ => ⟨_, e, kvs, rfl, x⟩
theorem od_one {kd : Kd κ} {d : List (κ × PyData)} {p : Addr} {F : Hp} {kvs : List (κ × L2.V)} (h : DV F kvs d) : ∀ F', Same F F' → od kd d p F' (one p (kd.ho kvs)) := fun _ g => ⟨kvs, rfl, dv_mono g h⟩
theorem dq_pd {F : Hp} {kd : Kd κ} {a : Addr} {ob : Obj} {kvs : List (κ × L2.V)} {d : List (κ × PyData)} (h : F a = some (.frz ob (kd.ho kvs))) (k : DV F kvs d) : Dq F (.ref a) (kd.pd d) := by
  have kk := dv_keys k
  have kv := dv_vals k
  cases kd with
  | fl f =>
    refine .dctK h ?_ ?_
    · rw [List.map_map, List.map_map]
      have : (kvs.map (·.1)).map (fun x => kPD (f x)) = (d.map (·.1)).map (fun x => kPD (f x)) := by rw [kk]
      rw [List.map_map, List.map_map] at this
      exact this
    · rw [List.map_map, List.map_map]
      exact kv
  | tu f =>
    refine .dctT h ?_ ?_
    · rw [List.map_map, List.map_map]
      have : (kvs.map (·.1)).map (fun x => PyData.tuple ((f x).map kPD)) = (d.map (·.1)).map (fun x => PyData.tuple ((f x).map kPD)) := by rw [kk]
      rw [List.map_map, List.map_map] at this
      exact this
    · rw [List.map_map, List.map_map]
      exact kv
theorem dv_of {F : Hp} {κ' : Type} {f : κ → κ'} {g : κ' → PyData} (hg : ∀ a b, g a = g b → a = b) : ∀ {kvs : List (κ' × L2.V)} {d : List (κ × PyData)}, kvs.map (fun p => g p.1) = d.map (fun p => g (f p.1)) → DqAll F (kvs.map (·.2)) (d.map (·.2)) → ∃ kvs' : List (κ × L2.V), kvs = kvs'.map (fun p => (f p.1, p.2)) ∧ DV F kvs' d
  | [], [], _, _ => ⟨[], rfl, .nil⟩
  | [], _ :: _, h, _ => nomatch h
  | _ :: _, [], h, _ => nomatch h
  | (a, v) :: kvs, (k, x) :: d, h, hv => by
    rw [List.map_cons, List.map_cons] at h hv
    injection h with h1 h2
    cases hv with
    | cons v1 v2 =>
      obtain ⟨r, rfl, hr⟩ := dv_of hg h2 v2
      exact ⟨(k, v) :: r, by rw [List.map_cons, ← hg _ _ h1], .cons v1 hr⟩
theorem pd_dq {F : Hp} {kd : Kd κ} {v : L2.V} {d : List (κ × PyData)} (h : Dq F v (kd.pd d)) : ∃ a ob kvs, v = .ref a ∧ F a = some (.frz ob (kd.ho kvs)) ∧ DV F kvs d := by
  cases kd with
  | fl f =>
    generalize e : (Kd.fl f).pd d = x at h
    cases h with
    | dctK h1 h2 h3 =>
      injection e with e
      subst e
      rw [List.map_map] at h2 h3
      obtain ⟨r, rfl, hr⟩ := dv_of (f := f) (g := kPD) (fun _ _ => kPD_inj) h2 h3
      exact ⟨_, _, r, rfl, h1, hr⟩
    | dctT h1 h2 h3 =>
      injection e with e
      cases d with
      | nil => cases e
      | cons p d =>
        rw [List.map_cons] at e
        injection e with e _
        injection e with e _
        cases hk : f p.1 <;> rw [hk] at e <;> cases e
    | _ => cases e
  | tu f =>
    generalize e : (Kd.tu f).pd d = x at h
    cases h with
    | dctT h1 h2 h3 =>
      injection e with e
      injection e with _ e
      subst e
      rw [List.map_map] at h2 h3
      obtain ⟨r, rfl, hr⟩ := dv_of (f := f) (g := fun l : List Key => PyData.tuple (l.map kPD)) (fun a b z => kPDs_inj (by injection z)) h2 h3
      exact ⟨_, _, r, rfl, h1, hr⟩
    | @dctK a ob kvs ps h1 h2 h3 =>
      injection e with e
      subst e
      cases kvs with
      | nil => cases h2
      | cons p kvs =>
        rw [List.map_cons, List.map_cons] at h2
        injection h2 with e _
        cases hk : p.1 <;> rw [hk] at e <;> cases e
    | _ => cases e
theorem frb_od {kd : Kd κ} {d : List (κ × PyData)} : Frb (od kd d) (kd.pd d) := fun p F os H Q ow q => by
  obtain ⟨fp, o, ho, _, kvs, rfl, hv⟩ := ow.atU uni_od
  refine .lock p _ ho (kd.mut kvs) fun ob => .now ?_
  have o1 : Ow F ((p, fun q G h => h = one q (.frz ob (kd.ho kvs)) ∧ DV G kvs d) :: os) (upd H p (.frz ob (kd.ho kvs))) := ow.putU uni_od fun G g => ⟨rfl, dv_mono g hv⟩
  obtain ⟨o', ho', ⟨rfl, hv'⟩, s, o2⟩ := o1.freezeU (r := fun G o => o = .frz ob (kd.ho kvs) ∧ DV G kvs d) fun q G h ⟨e, x⟩ => ⟨_, e, rfl, x⟩
  exact q _ _ s o2 (dq_pd upd_same (dv_mono s hv'))
end
end Z
namespace Z
open PySem PySem.Spec PyProof.Rows L2
abbrev eM {κ β : Type} (e : β → PyData) (w : List (κ × β)) : List (κ × PyData) := w.map fun p => (p.1, e p.2)
section
variable {κ β : Type} {kd : Kd κ} {enc : β → PyData}
def KeyV (kd : Kd κ) (k : κ) (F : Hp) (y : L2.V) : Prop := match kd with
  | .fl f => y = kV (f k)
  | .tu f => ∃ b, y = .ref b ∧ F b = some (.tup ((f k).map kV))
theorem dq_key {F : Hp} : ∀ {k : Key} {v : L2.V}, Dq F v (kPD k) → v = kV k
  | .inl _, _, h => by cases h; rfl
  | .inr _, _, h => by cases h; rfl
theorem dqall_keys {F : Hp} : ∀ {ks : List Key} {vs : List L2.V}, DqAll F vs (ks.map kPD) → vs = ks.map kV
  | [], _, h => by cases h; rfl
  | k :: ks, _, h => by
    cases h with
    | cons h1 h2 => rw [dq_key h1, dqall_keys h2, List.map_cons]
theorem key_val {k : κ} {F : Hp} {y : L2.V} (h : Cl (dat (kd.ek k)) F y) : KeyV kd k F y := by
  have q := h.now
  cases kd with
  | fl f => exact dq_key q
  | tu f =>
    have q : Dq F y (.tuple ((f k).map kPD)) := q
    cases q with
    | tup a b => exact ⟨_, rfl, by rw [← dqall_keys b]; exact a⟩
variable [DecidableEq κ]
theorem dget_of (hi : kd.Inj) {F H : Hp} (s : Same F H) {a : Addr} {kvs : List (κ × L2.V)} {k : κ} {y : L2.V} (e : Rd H a (kd.ho kvs)) (hk : KeyV kd k F y) : DGet H a y (dGet kvs k) := by
  cases kd with
  | fl f => exact .inl ⟨_, f k, e, hk, (dGet_key hi k kvs).symm⟩
  | tu f =>
    obtain ⟨b, rfl, hb⟩ := hk
    exact .inr ⟨_, f k, b, e, rfl, s _ _ hb, (dGet_key hi k kvs).symm⟩
theorem dput_of (hi : kd.Inj) {F H : Hp} (s : Same F H) {a : Addr} {kvs : List (κ × L2.V)} {k : κ} {y v : L2.V} (e : H a = some (kd.ho kvs)) (hk : KeyV kd k F y) (hl : kvs.length < sizeLine) : DPut H a y v (upd H a (kd.ho (dPut kvs k v))) := by
  cases kd with
  | fl f => exact .inl ⟨_, f k, e, hk, by rw [List.length_map]; exact hl, by rw [putK_dPut, dPut_key hi]; rfl⟩
  | tu f =>
    obtain ⟨b, rfl, hb⟩ := hk
    exact .inr ⟨_, f k, b, e, rfl, s _ _ hb, by rw [List.length_map]; exact hl, by rw [putK_dPut, dPut_key hi]; rfl⟩
end
theorem Bd.u1 {X : Cx} {N V G : List Str} {n : Nat} (B : Bd X N V G n) : X.A.units + 1 < cLine := by
  have := B.room.units
  omega
section
variable {κ β : Type}
def RdD (kd : Kd κ) (φ : VP) (os : Os) (d : List (κ × PyData)) : Prop := ∀ F H v, Ow F os H → Cl φ F v → ∃ a kvs, v = .ref a ∧ Rd H a (kd.ho kvs) ∧ DV F kvs d
theorem rdd_dat {kd : Kd κ} {os : Os} {d : List (κ × PyData)} : RdD kd (dat (kd.pd d)) os d := fun F H v ow c => by
  obtain ⟨a, ob, kvs, rfl, h1, h2⟩ := pd_dq c.now
  exact ⟨a, kvs, rfl, .inr ⟨ob, ow.ex _ _ h1⟩, h2⟩
theorem rdd_own {kd : Kd κ} {os : Os} {d : List (κ × PyData)} {p : Addr} (k : Nat) (h : os[k]? = some (p, od kd d)) : RdD kd (own p) os d := fun F H v ow c => by
  obtain ⟨_, o, ho, _, kvs, rfl, hv⟩ := (ow.perm (perm_at h)).atU uni_od
  exact ⟨p, kvs, c.now, .inl ho, hv⟩
/-- at q stands an entry of one thing, of the content d; another content may take its place -/
def WrT {γ : Type} (os : Os) (q : Addr) (f : γ → Ent) (d : γ) (os' : γ → Os) : Prop := ∀ F H (r : Hp → HO → Prop), Uni (f d) r → Ow F os H → F q = none ∧ ∃ o, H q = some o ∧ f d q F (one q o) ∧ r F o ∧
  ∀ o' d', (∀ xs, o' ≠ .tup xs) → (∀ F', Same F F' → f d' q F' (one q o')) → Ow F (os' d') (upd H q o')
theorem wr_flat {γ : Type} {os : Os} {q : Addr} {f : γ → Ent} {d : γ} (j : Nat) (h : os[j]? = some (q, f d)) : WrT os q f d (fun d' => os.set j (q, f d')) := fun F H r u ow => by
  have o1 := ow.perm (perm_at h)
  obtain ⟨a, o, b, c, d⟩ := o1.atU u
  exact ⟨a, o, b, c, d, fun o' e' nt he => (o1.putU u he nt).perm (perm_set h)⟩
abbrev odT (kd : Kd κ) (e : β → PyData) : List (κ × β) → Ent := fun w => od kd (eM e w)
abbrev olT (e : β → PyData) : List β → Ent := fun w => ol (w.map e)
theorem rdl_wr {X : Cx} {enc : β → PyData} {os : Os} {d : List β} {q : Addr} {os' : List β → Os} (h : WrT os q (olT enc) d os') : RdL X (own q) os (d.map enc) := fun F H v ow c => by
  obtain ⟨_, o, ho, _, ⟨vs, rfl, hv⟩, _⟩ := h F H _ uni_ol ow
  exact ⟨q, vs, c.now, .of ho, hv⟩
end
section
variable {X : Cx} {es es' : List Slot} {os os1 os2 os3 : Os} {F0 : Hp} {rest : List Stmt} {D : Ends} {N V G W : List Str} {n i vi gi : Nat} {p pos apos cpos : Pos} {e a b c : Expr} {φ : VP} {κ β : Type} [DecidableEq κ] {kd : Kd κ} {enc : β → PyData} {w : List (κ × β)} {k : κ} {x : β}
theorem EN.exF {m : Ent} {d : PyData} (h : EN X es os e m os1) (f : Frb m d) : EX X es os e (dat d) os1 := fun F σ H Q ow sl q =>
  we_lk (h F σ H _ ow sl fun F' H' p e o => f p F' os1 H' _ o fun F2 H2 s o2 dq => q F2 H2 _ (e.trans s) o2 (cl_dat dq))
theorem sx_frzF {j : Nat} {q : Addr} {m : Ent} {d : PyData} (f : Frb m d) (hj : os[j]? = some (q, m)) (hi : es[i]? = some (sl (own q))) (h : SX X (es.set i (sl (dat d))) (os.eraseIdx j) F0 rest D) : SX X es os F0 rest D := fun F σ H s ow sl =>
  wps_lk (f q F _ H _ (ow.perm (perm_at hj)) fun F2 H2 s2 o2 dq => by
    obtain ⟨v, ev, cv⟩ := sl.val hi
    obtain rfl : v = .ref q := cv.now
    have sl2 := (sl.mono s2).put (i := i) (v := .ref q) (φ := dat d) (cl_dat dq)
    have e2 : σ.set i (some (.ref q)) = σ := by
      refine List.ext_getElem? fun m => ?_
      by_cases hm : i = m
      · subst hm
        rw [List.getElem?_set_self (List.getElem?_eq_some_iff.mp ev).1, ev]
      · rw [List.getElem?_set_ne hm]
    rw [e2] at sl2
    exact h F2 σ H2 (s.trans s2) o2 sl2)
theorem ex_dget (hi : kd.Inj) (hk : dGet w k = some x) (B : Bd X N W G n) (hr : RdD kd φ os2 (eM enc w)) (ha : EX X es os a φ os1) (hb : EX X es os1 b (dat (kd.ek k)) os2) (hs : NoSl b := by intro _ _; rfl) : EX X es os (.Subscript a b pos) (dat (enc x)) os2 := fun F σ H Q ow sl q =>
  we_of (pe_dget B.u1 pe_u pe_u hs) (ha F σ H _ ow sl fun F1 H1 v e1 o1 c1 => hb F1 σ H1 _ o1 (sl.mono e1) fun F2 H2 y e2 o2 c2 => by
    obtain ⟨p, kvs, rfl, rd, dv⟩ := hr F2 H2 v o2 (c1.mono e2)
    obtain ⟨u, hu, hd⟩ := (dv_get k dv).1 (enc x) (by rw [dGet_map, hk]; rfl)
    exact ⟨p, u, rfl, hu ▸ dget_of hi o2.ex rd (key_val c2), q F2 H2 u (e1.trans e2) o2 (cl_dat hd)⟩)
theorem dget_some (hi : kd.Inj) {F H : Hp} {p : Addr} {kvs : List (κ × L2.V)} (dv : DV F kvs (eM enc w)) : (dGet kvs k).isSome = (dGet w k).isSome := by
  cases h : dGet w k with
  | none =>
    rw [(dv_get k dv).2 (by rw [dGet_map, h]; rfl)]
    rfl
  | some x =>
    obtain ⟨u, hu, _⟩ := (dv_get k dv).1 (enc x) (by rw [dGet_map, h]; rfl)
    rw [hu]
    rfl
/-- {} -/
theorem en_dnew : EN X es os (.Dict [] [] pos) (od kd []) os := fun F σ H Q ow sl q => by
  cases kd with
  | fl f => exact we_of pe_dnewK fun p hp => q F _ p (Same.refl F) (ow.new hp (od_one (kd := .fl f) .nil))
  | tu f => exact we_of pe_dnewT fun p hp => q F _ p (Same.refl F) (ow.new hp (od_one (kd := .tu f) .nil))
theorem dput_enc {F : Hp} {kvs : List (κ × L2.V)} {v : L2.V} (dv : DV F kvs (eM enc w)) (hd : Dq F v (enc x)) : DV F (dPut kvs k v) (eM enc (dPut w k x)) := by
  have := dv_put k hd dv
  rw [dPut_map] at this
  exact this
/-- a[b] = e -/
theorem sx_dput {w' : List (κ × β)} {tpos : Pos} {q : Addr} {os' : List (κ × β) → Os} (hi : kd.Inj) (hp : dPutO w k x = some w') (B : Bd X N W G n) (he : EX X es os e (dat (enc x)) os1) (ho : EX X es os1 a (own q) os2) (hb : EX X es os2 b (dat (kd.ek k)) os3) (hw : WrT os3 q (odT kd enc) w os')
    (h : SX X es (os' w') F0 rest D) (hs : swapsWith e (some (.Subscript a b tpos)) pos.line X.env = pure false := by rfl) : SX X es os F0 (.Assign [.Subscript a b tpos] e pos :: rest) D := fun F σ H s ow sl => by
  unfold dPutO at hp
  split at hp
  · rename_i hl
    cases hp
    refine wps_cons (ws_of (ps_dput B.u1 pe_u pe_u pe_u hs) (he F σ H _ ow sl fun F1 H1 v e1 o1 c1 => ho F1 σ H1 _ o1 (sl.mono e1) fun F2 H2 u e2 o2 c2 => hb F2 σ H2 _ o2 (sl.mono (e1.trans e2)) fun F3 H3 y e3 o3 c3 => ?_))
    obtain rfl : u = .ref q := c2.now
    obtain ⟨_, o, hq, _, ⟨kvs, rfl, dv⟩, z⟩ := hw F3 H3 _ uni_od o3
    have e := (e1.trans e2).trans e3
    refine ⟨q, _, rfl, dput_of hi o3.ex hq (key_val c3) (by rw [dv_len dv, List.length_map]; exact hl), ?_⟩
    exact h F3 σ _ (s.trans e) (z _ _ (Kd.ntup _ _) (od_one (dput_enc dv ((c1.mono e2).mono e3).now))) (sl.mono e)
  · cases hp
end
end Z
namespace Z
open PySem PySem.Spec PyProof.Rows L2
def uniH : List Hp → Hp
  | [] => fun _ => none
  | h :: hs => ov h (uniH hs)
theorem uniH_some : ∀ {l : List Hp} {a : Addr} {o : HO}, uniH l a = some o → ∃ h ∈ l, h a = some o
  | [], _, _, e => nomatch e
  | h :: l, a, o, e => by
    unfold uniH at e
    cases q : h a with
    | some u =>
      rw [ov_some q] at e
      exact ⟨h, List.mem_cons_self, q.trans e⟩
    | none =>
      rw [ov_none q] at e
      obtain ⟨k, hk, e2⟩ := uniH_some e
      exact ⟨k, List.mem_cons_of_mem _ hk, e2⟩
theorem uniH_same : ∀ {l : List Hp} {h : Hp}, l.Pairwise Ap → h ∈ l → Same h (uniH l)
  | [], _, _, m => nomatch m
  | k :: l, h, p, m => by
    obtain ⟨p1, p2⟩ := List.pairwise_cons.mp p
    intro a o e
    unfold uniH
    rcases List.mem_cons.mp m with rfl | m
    · exact ov_some e
    · have : k a = none := (p1 h m).symm a (by rw [e]; simp)
      rw [ov_none this]
      exact uniH_same p2 m a o e
theorem uniH_none {l : List Hp} {a : Addr} (h : ∀ k ∈ l, k a = none) : uniH l a = none := by
  cases e : uniH l a with
  | none => rfl
  | some o =>
    obtain ⟨k, hk, q⟩ := uniH_some e
    rw [h k hk] at q
    cases q
def onl (qs : List Addr) (es : List Ent) : Ent := fun p F h => ∃ hs, h = uniH (one p (.lst (qs.map .ref)) :: hs) ∧ Pcs F (qs.zip es) hs ∧ (one p (.lst (qs.map .ref)) :: hs).Pairwise Ap ∧ (∀ k ∈ hs, NT k) ∧ qs.length = es.length
def onx (es : List Ent) : Ent := fun p F h => ∃ qs, onl qs es p F h
def orf (qs : List Addr) : Ent := fun p _ h => h = one p (.lst (qs.map .ref))
theorem uni_orf {qs : List Addr} : Uni (orf qs) (fun _ o => o = .lst (qs.map .ref)) := fun p F h e => ⟨_, e, rfl⟩
theorem onl_mono {qs : List Addr} {es : List Ent} {p : Addr} {F F' h : Hp} (e : Same F F') (x : onl qs es p F h) : onl qs es p F' h := by
  obtain ⟨hs, a, b, c, d, l⟩ := x
  exact ⟨hs, a, b.mono e, c, d, l⟩
theorem pcs_app {F : Hp} : ∀ {os os' : Os} {hs hs' : List Hp}, Pcs F os hs → Pcs F os' hs' → Pcs F (os ++ os') (hs ++ hs')
  | _, _, _, _, .nil, h => h
  | _, _, _, _, .cons h1 h2, h => .cons h1 (pcs_app h2 h)
theorem pcs_split {F : Hp} : ∀ {os os' : Os} {l : List Hp}, Pcs F (os ++ os') l → ∃ hs hs', l = hs ++ hs' ∧ Pcs F os hs ∧ Pcs F os' hs'
  | [], os', l, h => ⟨[], l, rfl, .nil, h⟩
  | q :: os, os', _, .cons h1 h2 => by
    obtain ⟨hs, hs', rfl, a, b⟩ := pcs_split h2
    exact ⟨_ :: hs, hs', rfl, .cons h1 a, b⟩
section
variable {F H : Hp} {os : Os} {p : Addr} {qs : List Addr} {es : List Ent}
theorem Ow.opn (h : Ow F ((p, onl qs es) :: os) H) : Ow F ((p, orf qs) :: (qs.zip es ++ os)) H ∧ qs.length = es.length := by
  obtain ⟨l, a, b, c⟩ := h.ps
  cases a with
  | @cons _ _ k r h1 h2 =>
    obtain ⟨hs, rfl, p1, pw, nt, hl⟩ := h1 F (Same.refl F)
    obtain ⟨c1, c2⟩ := List.pairwise_cons.mp c
    obtain ⟨s, x, _⟩ := b _ List.mem_cons_self
    have sub : ∀ g ∈ one p (.lst (qs.map .ref)) :: hs, Same g H ∧ Ap F g := fun g hg =>
      ⟨(uniH_same pw hg).trans s, fun z hz => (uniH_same pw hg).free (x z hz)⟩
    have far : ∀ g ∈ one p (.lst (qs.map .ref)) :: hs, ∀ t ∈ r, Ap g t := fun g hg t ht z hz => by
      refine c1 t ht z ?_
      cases e : g z with
      | none => exact (hz e).elim
      | some o => rw [uniH_same pw hg z o e]; simp
    refine ⟨⟨h.ex, one p (.lst (qs.map .ref)) :: (hs ++ r), .cons (fun _ _ => rfl) (pcs_app p1 h2), fun g hg => ?_, ?_⟩, hl⟩
    · rcases List.mem_cons.mp hg with rfl | hg
      · exact ⟨(sub _ List.mem_cons_self).1, (sub _ List.mem_cons_self).2, nt_one (fun _ z => by cases z)⟩
      · rcases List.mem_append.mp hg with hg | hg
        · exact ⟨(sub g (List.mem_cons_of_mem _ hg)).1, (sub g (List.mem_cons_of_mem _ hg)).2, nt g hg⟩
        · exact b g (List.mem_cons_of_mem _ hg)
    · rw [← List.cons_append]
      exact List.pairwise_append.mpr ⟨pw, c2, fun g hg t ht => far g hg t ht⟩
theorem Ow.cls (h : Ow F ((p, orf qs) :: (qs.zip es ++ os)) H) (hl : qs.length = es.length) : Ow F ((p, onl qs es) :: os) H := by
  obtain ⟨l, a, b, c⟩ := h.ps
  cases a with
  | @cons _ _ k r h1 h2 =>
    obtain rfl : k = one p (.lst (qs.map .ref)) := h1 F (Same.refl F)
    obtain ⟨hs, r', rfl, p1, p2⟩ := pcs_split h2
    rw [← List.cons_append] at c
    obtain ⟨c1, c2, c3⟩ := List.pairwise_append.mp c
    have bb : ∀ g ∈ one p (.lst (qs.map .ref)) :: hs, Same g H ∧ Ap F g ∧ NT g := fun g hg => b g (by
      rcases List.mem_cons.mp hg with rfl | hg
      · exact List.mem_cons_self
      · exact List.mem_cons_of_mem _ (List.mem_append_left _ hg))
    refine ⟨h.ex, uniH (one p (.lst (qs.map .ref)) :: hs) :: r', .cons (fun F' s => ⟨hs, rfl, p1.mono s, c1, fun k hk => (bb k (List.mem_cons_of_mem _ hk)).2.2, hl⟩) p2, fun g hg => ?_, List.pairwise_cons.mpr ⟨fun t ht => ?_, c2⟩⟩
    · rcases List.mem_cons.mp hg with rfl | hg
      · refine ⟨fun z o e => ?_, fun z hz => uniH_none fun k hk => (bb k hk).2.1 z hz, fun z xs e => ?_⟩
        · obtain ⟨k, hk, q⟩ := uniH_some e
          exact (bb k hk).1 z o q
        · obtain ⟨k, hk, q⟩ := uniH_some e
          exact (bb k hk).2.2 z xs q
      · exact b g (List.mem_cons_of_mem _ (List.mem_append_right _ hg))
    · intro z hz
      cases e : uniH (one p (.lst (qs.map .ref)) :: hs) z with
      | none => exact (hz e).elim
      | some o =>
        obtain ⟨k, hk, q⟩ := uniH_some e
        exact c3 k hk t ht z (by rw [q]; simp)
theorem Ow.opx (h : Ow F ((p, onx es) :: os) H) : ∃ qs, Ow F ((p, onl qs es) :: os) H := by
  obtain ⟨l, a, b, c⟩ := h.ps
  cases a with
  | cons h1 h2 =>
    obtain ⟨qs, x⟩ := h1 F (Same.refl F)
    exact ⟨qs, h.ex, _, .cons (fun F' s => onl_mono s x) h2, b, c⟩
theorem Ow.clx (h : Ow F ((p, onl qs es) :: os) H) : Ow F ((p, onx es) :: os) H := h.weak fun _ _ x => ⟨qs, x⟩
end
def ixD (n : Nat) (z : Int) : Nat := (ixN n z).getD 0
/-- the address at the place z -/
def qa (qs : List Addr) (z : Int) : Addr := qs.getD (ixD qs.length z) 0
def setI {α : Type} (xs : List α) (z : Int) (x : α) : List α := xs.set (ixD xs.length z) x
theorem setI_len {α : Type} (xs : List α) (z : Int) (x : α) : (setI xs z x).length = xs.length := by
  unfold setI
  rw [List.length_set]
theorem idx_at {α : Type} {xs : List α} {z : Int} {x : α} (h : idx xs z = some x) : ixN xs.length z = some (ixD xs.length z) ∧ xs[ixD xs.length z]? = some x := by
  unfold idx atI at h
  unfold ixD
  cases e : ixN xs.length z with
  | none => rw [e] at h; cases h
  | some j =>
    rw [e] at h
    exact ⟨rfl, h⟩
theorem zip_at {α β : Type} : ∀ {qs : List α} {es : List β} {i : Nat} {q : α} {e : β}, qs[i]? = some q → es[i]? = some e → (qs.zip es)[i]? = some (q, e)
  | [], _, _, _, _, h, _ => by simp at h
  | _ :: _, [], _, _, _, _, h => by simp at h
  | a :: qs, b :: es, 0, q, e, h, k => by simp at h k; subst h; subst k; rfl
  | a :: qs, b :: es, i + 1, q, e, h, k => zip_at (i := i) (qs := qs) (es := es) (by simpa using h) (by simpa using k)
theorem zip_set {α β : Type} : ∀ {qs : List α} {es : List β} {i : Nat} {q : α} {e' : β}, qs[i]? = some q → (qs.zip es).set i (q, e') = qs.zip (es.set i e')
  | [], _, _, _, _, h => by simp at h
  | _ :: _, [], _, _, _, _ => by simp
  | a :: qs, b :: es, 0, q, e', h => by simp at h; subst h; rfl
  | a :: qs, b :: es, i + 1, q, e', h => by
    rw [List.zip_cons_cons, List.set_cons_succ, List.set_cons_succ, List.zip_cons_cons, zip_set (by simpa using h)]
theorem getD_at {α : Type} {l : List α} {i : Nat} {d : α} (h : i < l.length) : l[i]? = some (l.getD i d) := by
  rw [List.getD_eq_getElem?_getD, List.getElem?_eq_getElem h]
  rfl
section
variable {γ : Type} {os : Os} {p : Addr} {qs : List Addr} {f : γ → Ent} {ws : List γ} {z : Int} {d : γ}
/-- the entry at the place z of an owned list of owned things -/
theorem wr_nest (j : Nat) (h : os[j]? = some (p, onl qs (ws.map f))) (hk : idx ws z = some d) : WrT os (qa qs z) f d (fun d' => os.set j (p, onl qs ((setI ws z d').map f))) := fun F H r u ow => by
  obtain ⟨o1, hl⟩ := (ow.perm (perm_at h)).opn
  rw [List.length_map] at hl
  obtain ⟨k1, k2⟩ := idx_at hk
  have hi : ixD ws.length z < ws.length := (List.getElem?_eq_some_iff.mp k2).1
  have hq : qs[ixD ws.length z]? = some (qa qs z) := by
    unfold qa
    rw [hl]
    exact getD_at (by rw [hl]; exact hi)
  have he : (ws.map f)[ixD ws.length z]? = some (f d) := by rw [List.getElem?_map, k2]; rfl
  have hz : ((p, orf qs) :: (qs.zip (ws.map f) ++ os.eraseIdx j))[ixD ws.length z + 1]? = some (qa qs z, f d) := by
    rw [List.getElem?_cons_succ, List.getElem?_append_left (by rw [List.length_zip, List.length_map]; omega)]
    exact zip_at hq he
  have o2 := o1.perm (perm_at hz)
  obtain ⟨a, o, b, c, e⟩ := o2.atU u
  refine ⟨a, o, b, c, e, fun o' d' nt hd => ?_⟩
  have o3 := (o2.putU u hd nt).perm (perm_set hz)
  rw [List.set_cons_succ, List.set_append_left _ _ (by rw [List.length_zip, List.length_map]; omega), zip_set hq] at o3
  have o4 := o3.cls (by rw [List.length_set, List.length_map]; exact hl)
  have e5 : (ws.map f).set (ixD ws.length z) (f d') = (setI ws z d').map f := by
    unfold setI
    rw [List.map_set]
  rw [e5] at o4
  exact o4.perm (perm_set h)
/-- read as a list of addresses -/
theorem nest_at {F H : Hp} {os : Os} (j : Nat) (h : os[j]? = some (p, onl qs (ws.map f))) (ow : Ow F os H) : H p = some (.lst (qs.map .ref)) ∧ qs.length = ws.length := by
  obtain ⟨o1, hl⟩ := (ow.perm (perm_at h)).opn
  rw [List.length_map] at hl
  obtain ⟨_, o, ho, _, rfl⟩ := o1.atU uni_orf
  exact ⟨ho, hl⟩
end
section
variable {X : Cx} {es es' : List Slot} {os os1 os2 os3 : Os} {F0 : Hp} {rest : List Stmt} {D : Ends} {N V G W : List Str} {n i vi gi : Nat} {p pos apos cpos : Pos} {e a b c : Expr} {φ : VP} {γ : Type} {f : γ → Ent} {ws : List γ} {d : γ} {z : Int} {q : Addr} {qs : List Addr}
theorem sx_open (j : Nat) (h : os[j]? = some (q, onx es0)) (k : ∀ qs, SX X es (os.set j (q, onl qs es0)) F0 rest D) : SX X es os F0 rest D := fun F σ H s ow sl => by
  obtain ⟨qs, o1⟩ := (ow.perm (perm_at h)).opx
  exact k qs F σ H s (o1.perm (perm_set h)) sl
theorem sx_clos (j : Nat) (h : os[j]? = some (q, onl qs es0)) (k : SX X es (os.set j (q, onx es0)) F0 rest D) : SX X es os F0 rest D := fun F σ H s ow sl =>
  k F σ H s ((ow.perm (perm_at h)).clx.perm (perm_set h)) sl
theorem At.clos {σ : L2.St} {H : Hp} (j : Nat) (h : os[j]? = some (q, onl qs es0)) (k : At F0 es os σ H) : At F0 es (os.set j (q, onx es0)) σ H := let ⟨F, s, o, l⟩ := k; ⟨F, s, (o.perm (perm_at h)).clx.perm (perm_set h), l⟩
theorem Ow.clos {F H : Hp} (j : Nat) (h : os[j]? = some (q, onl qs es0)) (k : Ow F os H) : Ow F (os.set j (q, onx es0)) H := (k.perm (perm_at h)).clx.perm (perm_set h)
theorem EX.clos (j : Nat) (h : os[j]? = some (q, onl qs es0)) (k : EX X es (os.set j (q, onx es0)) e φ os1) : EX X es os e φ os1 := fun F σ H Q ow sl qq => k F σ H Q (ow.clos j h) sl qq
theorem EN.clos {m : Ent} (j : Nat) (h : os[j]? = some (q, onl qs es0)) (k : EN X es (os.set j (q, onx es0)) e m os1) : EN X es os e m os1 := fun F σ H Q ow sl qq => k F σ H Q (ow.clos j h) sl qq
theorem frz_all {g : γ → PyData} (hf : ∀ w, Frb (f w) (g w)) : ∀ (qs : List Addr) (ws : List γ) (F : Hp) (os : Os) (H : Hp) (Q : Hp → Prop), qs.length = ws.length → Ow F (qs.zip (ws.map f) ++ os) H → (∀ F' H', Same F F' → Ow F' os H' → DqAll F' (qs.map .ref) (ws.map g) → Q H') → Lk Q H
  | [], [], F, os, H, Q, _, ow, k => .now (k F H (Same.refl F) ow .nil)
  | [], _ :: _, _, _, _, _, h, _, _ => by simp at h
  | _ :: _, [], _, _, _, _, h, _, _ => by simp at h
  | q :: qs, w :: ws, F, os, H, Q, hl, ow, k => by
    rw [List.map_cons, List.zip_cons_cons, List.cons_append] at ow
    refine Lk.bind (Q := fun H' => ∃ F', Same F F' ∧ Ow F' (qs.zip (ws.map f) ++ os) H' ∧ Dq F' (.ref q) (g w)) (hf w q F _ H _ ow fun F' H' s o d => ⟨F', s, o, d⟩) ?_
    rintro H1 ⟨F1, s1, o1, d1⟩
    refine frz_all hf qs ws F1 os H1 Q (by simpa using hl) o1 fun F2 H2 s2 o2 d2 => ?_
    exact k F2 H2 (s1.trans s2) o2 (.cons (dq_mono s2 _ _ d1) d2)
theorem frb_onl {g : γ → PyData} (hf : ∀ w, Frb (f w) (g w)) : Frb (onl qs (ws.map f)) (.list (ws.map g)) := fun p F os H Q ow k => by
  obtain ⟨o1, hl⟩ := ow.opn
  rw [List.length_map] at hl
  have o2 : Ow F (qs.zip (ws.map f) ++ (p, orf qs) :: os) H := o1.perm (List.perm_middle.symm)
  refine frz_all hf qs ws F _ H Q hl o2 fun F1 H1 s1 o3 d1 => ?_
  obtain ⟨o, ho, rfl, s2, o4⟩ := o3.freezeU uni_orf
  exact k _ H1 (s1.trans s2) o4 (.lst upd_same (dqall_mono s2 _ _ d1))
theorem frb_onx {g : γ → PyData} (hf : ∀ w, Frb (f w) (g w)) : Frb (onx (ws.map f)) (.list (ws.map g)) := fun p F os H Q ow k => by
  obtain ⟨qs, o1⟩ := ow.opx
  exact frb_onl hf p F os H Q o1 k
end
end Z
namespace Z
open PySem PySem.Spec PyProof.Rows L2
end Z
namespace Z
open PySem PySem.Spec PyProof.Rows L2
theorem zip_snoc {α β : Type} : ∀ {qs : List α} {es : List β} {q : α} {e : β}, qs.length = es.length → (qs ++ [q]).zip (es ++ [e]) = qs.zip es ++ [(q, e)]
  | [], [], _, _, _ => rfl
  | [], _ :: _, _, _, h => by simp at h
  | _ :: _, [], _, _, h => by simp at h
  | a :: qs, b :: es, q, e, h => by
    rw [List.cons_append, List.cons_append, List.zip_cons_cons, List.zip_cons_cons, zip_snoc (by simpa using h)]
    rfl
theorem Ow.snoc {F H : Hp} {os : Os} {p q : Addr} {qs : List Addr} {es : List Ent} {e : Ent} (h : Ow F ((q, e) :: (p, onl qs es) :: os) H) : H p = some (.lst (qs.map .ref)) ∧ qs.length = es.length ∧
    Ow F ((p, onl (qs ++ [q]) (es ++ [e])) :: os) (upd H p (.lst (qs.map .ref ++ [.ref q]))) := by
  obtain ⟨o1, hl⟩ := (h.perm (List.Perm.swap _ _ _)).opn
  obtain ⟨_, o, ho, _, rfl⟩ := o1.atU uni_orf
  refine ⟨ho, hl, ?_⟩
  have o2 := o1.putU (e' := orf (qs ++ [q])) (o := .lst ((qs ++ [q]).map .ref)) uni_orf fun _ _ => rfl
  rw [List.map_append] at o2
  refine Ow.cls ?_ (by rw [List.length_append, List.length_append, hl]; rfl)
  rw [zip_snoc hl, List.append_assoc]
  exact o2
section
variable {X : Cx} {es : List Slot} {os os0 os1 os2 : Os} {F0 : Hp} {rest : List Stmt} {D : Ends} {N V G W : List Str} {k i j vi gi : Nat} {x y : Str} {p pos tpos : Pos} {e : Expr} {α β κ γ : Type} {scope : Scope} {iter tg elt kx vx : Expr} {ifs : List Expr} {own : List (Str × Nat)} {xs : List α} {vp : α → VP} {c : Os → Prop} {g : TG} {up : α → List Slot → List Slot}
theorem dput_len [DecidableEq κ] (w : List (κ × β)) (k : κ) (v : β) : (dPut w k v).length ≤ w.length + 1 := by
  unfold dPut
  split
  · rw [List.length_map]; omega
  · rw [List.length_append]; simp
end
end Z
namespace Z
open PySem PySem.Spec PyProof.Rows L2
/-- to assign a value of ψ to tg: slots and what is owned change -/
def GY (X : Cx) (tg : Expr) (ψ : VP) (es : List Slot) (os : Os) (es' : List Slot) (os' : Os) : Prop := ∀ F σ H v (Q : L2.St → Hp → Prop), Ow F os H → Sl F es σ → Cl ψ F v → (∀ F' σ' H', Same F F' → Ow F' os' H' → Sl F' es' σ' → Q σ' H') → WG X tg v σ H Q
section
variable {X : Cx} {es es1 es2 : List Slot} {os os1 os2 os3 os4 : Os} {F0 : Hp} {rest : List Stmt} {D : Ends} {N V G W : List Str} {n i j vi gi : Nat} {x : Str} {p pos tpos apos cpos : Pos} {e a b tg tg1 tg2 : Expr} {φ ψ : VP} {κ β γ : Type} {enc : β → PyData}
/-- d[k] = v -/
theorem gy_dput [DecidableEq κ] {kd : Kd κ} {w w' : List (κ × β)} {k : κ} {y : β} {q : Addr} {os' : List (κ × β) → Os} (hi : kd.Inj) (hp : dPutO w k y = some w') (B : Bd X N W G n) (ho : EX X es os a (own q) os1) (hb : EX X es os1 b (dat (kd.ek k)) os2) (hw : WrT os2 q (odT kd enc) w os')
    (ha : ∀ v, assign (.Subscript a b tpos) X.env v = (do
      let ov ← holding [v] (eval a X.env)
      let iv ← holding [v, ov] (eval b X.env)
      standAt tpos
      holding [v, ov, iv] (setItem ov iv v)
      release [v, ov, iv] []) := by intro _; rfl) : GY X (.Subscript a b tpos) (dat (enc y)) es os es (os' w') := fun F σ H v Q ow s c qq => by
  unfold dPutO at hp
  split at hp
  · rename_i hl
    cases hp
    refine wg_of (pg_sub pe_u pe_u (set_dict B.u1) ha) (ho F σ H _ ow s fun F1 H1 u e1 o1 c1 => hb F1 σ H1 _ o1 (s.mono e1) fun F2 H2 z e2 o2 c2 => ?_)
    obtain rfl : u = .ref q := c1.now
    obtain ⟨_, o, hq, _, ⟨kvs, rfl, dv⟩, zz⟩ := hw F2 H2 _ uni_od o2
    have e := e1.trans e2
    refine ⟨q, _, rfl, dput_of hi o2.ex hq (key_val c2) (by rw [dv_len dv, List.length_map]; exact hl), ?_⟩
    exact qq F2 σ _ e (zz _ _ (Kd.ntup _ _) (od_one (dput_enc dv (c.mono e).now))) (s.mono e)
  · cases hp
theorem GY.clos {q : Addr} {es0 : List Ent} {es' : List Slot} (k : GY X tg ψ es os es' os1) (h : os1[j]? = some (q, onl qs es0)) : GY X tg ψ es os es' (os1.set j (q, onx es0)) := fun F σ H v Q ow s c qq => k F σ H v Q ow s c fun F' σ' H' e o l => qq F' σ' H' e (o.clos j h) l
/-- t1, t2 = a, b -/
theorem sx_asgQ2 {pt p2 : Pos} {kt k2 : Nat} {Rel : List VP → Os → Prop} (sc : Scope) (hsc : X.env.scope = sc) (B : Bd X N W G n) (hw : nswB sc [.Tuple [tg1, tg2] kt pt] (.Tuple [a, b] k2 p2))
    (ha : AQ X es [a, b] os Rel) (hR : ∀ φs os', Rel φs os' → ∃ φ ψ, φs = [φ, ψ]) (h : ∀ φ ψ os', Rel [φ, ψ] os' → ∃ es1 os1 es2 os2, GY X tg1 φ es os' es1 os1 ∧ GY X tg2 ψ es1 os1 es2 os2 ∧ SX X es2 os2 F0 rest D)
    (hs : swapsWithSole [.Tuple [tg1, tg2] kt pt] (.Tuple [a, b] k2 p2) pos.line X.env = pure false := by rfl) (h1 : (assignEach [.Tuple [tg1, tg2] kt pt] X.env).map (·.2) = [assign (.Tuple [tg1, tg2] kt pt) X.env] := by rfl)
    (hn : (assignEach [tg1, tg2] X.env).length = 2 := by rfl) (hst : (assignEach [tg1, tg2] X.env).findIdx? (·.1) = none := by rfl) (hs1 : (assignEach [tg1, tg2] X.env).map (·.2) = assign tg1 X.env :: (assignEach [tg2] X.env).map (·.2) := by rfl) (hs2 : (assignEach [tg2] X.env).map (·.2) = assign tg2 X.env :: (assignEach [] X.env).map (·.2) := by rfl) :
    SX X es os F0 (.Assign [.Tuple [tg1, tg2] kt pt] (.Tuple [a, b] k2 p2) pos :: rest) D := fun F σ H s ow sl =>
  wps_cons (ws_of (ps_asg (pe_tup pa_u) (pg_tup (n := 2) B.calm (pgs_cons pg_u (pgs_cons pg_u pgs_nil hs2) hs1) hn hst) hs (hw _ hsc) h1) (ha F σ H _ ow sl fun F1 H1 vs φs os' e1 rel o1 c1 => by
    obtain ⟨φ, ψ, rfl⟩ := hR φs os' rel
    obtain ⟨v, u, rfl, c2, c3⟩ := cla2 c1
    obtain ⟨es1, os1, es2, os2, g1, g2, k⟩ := h φ ψ os' rel
    refine ⟨by show 2 ≤ sizeLine; decide, fun p hp => ?_⟩
    refine ⟨p, _, rfl, .of upd_same, rfl, _, _, rfl, ?_⟩
    refine g1 F1 σ _ v _ (o1.grow (same_upd hp)) (sl.mono e1) c2 fun F2 σ2 H2 e2 o2 s2 => ⟨_, _, rfl, ?_⟩
    exact g2 F2 σ2 H2 u _ o2 s2 (c3.mono e2) fun F3 σ3 H3 e3 o3 s3 => ⟨rfl, k F3 σ3 H3 (s.trans (e1.trans (e2.trans e3))) o3 s3⟩))
/-- .append of a list wherever it stands -/
theorem ex_appW {xs xs0 ys : List β} {y : β} {q : Addr} {os' os0' : List β → Os} (hz : appO xs y = some ys) (ho : EX X es os a (own q) os1) (h0 : WrT os1 q (olT enc) xs0 os0') (he : EX X es os1 e (dat (enc y)) os2) (hw : WrT os2 q (olT enc) xs os')
    (hbase : attributeBase a "append" X.env (eval a X.env) = eval a X.env := by rfl) (hline : (apos.endLine == cpos.line) = true := by rfl) (hs : starEach [e] X.env = (false, eval e X.env) :: starEach [] X.env := by rfl)
    (hfew : ((backTo cpos (starEach [e] X.env)).all (fun x => !x.1) && (backToKw cpos (keywordEach [] X.env)).all (fun x => x.1.isSome) && decide ([e].length + ([] : List Keyword).length + (if ([] : List Keyword).isEmpty then 0 else 1) < 30)) = true := by rfl)
    (hplain : (backTo cpos (starEach [] X.env)).any (·.1) = false := by rfl) : EX X es os (.Call (.Attribute a "append" apos) [e] [] cpos) (dat .none) (os' ys) := fun F σ H Q ow sl q => by
  unfold appO at hz
  split at hz
  · rename_i hl
    cases hz
    refine we_of (pe_bm PySem.F.plainAttrs_list PySem.F.slot_list_append PySem.F.type_list_append mt_append pe_u pa_u hbase hfew hline hs hplain) (ho F σ H _ ow sl fun F1 H1 v e1 o1 c1 => ?_)
    obtain ⟨_, o, hq, _, ⟨vs0, rfl, _⟩, _⟩ := h0 F1 H1 _ uni_ol o1
    cases c1.now
    refine ⟨.inl ⟨rfl, vs0, .of hq⟩, wa_of (pa_cons pe_u pa_nil hs) (he F1 σ H1 _ o1 (sl.mono e1) fun F2 H2 u e2 o2 c2 => ?_)⟩
    obtain ⟨_, o, hq, _, ⟨vs, rfl, dv⟩, zz⟩ := hw F2 H2 _ uni_ol o2
    have hlen := dqall_len dv
    rw [List.length_map] at hlen
    refine ⟨_, vs, u, rfl, rfl, hq, by rw [hlen]; exact hl, q F2 _ .non (e1.trans e2) (zz _ (xs ++ [y]) (fun _ h => by cases h) fun G g => ⟨_, rfl, ?_⟩) (cl_dat .non)⟩
    rw [List.map_append]
    exact dqall_mono g _ _ (dqall_app dv (.cons c2.now .nil))
  · cases hz
/-- xs.append(a new owned thing), xs a list of owned things -/
theorem ex_appN {qs0 : List Addr} {ws0 : List γ} {f : γ → Ent} {ws ws' : List γ} {d0 : γ} {q : Addr} {qs : List Addr} (hz : appO ws d0 = some ws') (ho : EX X es os a (own q) os) (h0 : os[i]? = some (q, onl qs0 (ws0.map f))) (he : EN X es os e (f d0) os1) (hj : os1[j]? = some (q, onl qs (ws.map f)))
    (hbase : attributeBase a "append" X.env (eval a X.env) = eval a X.env := by rfl) (hline : (apos.endLine == cpos.line) = true := by rfl) (hs : starEach [e] X.env = (false, eval e X.env) :: starEach [] X.env := by rfl)
    (hfew : ((backTo cpos (starEach [e] X.env)).all (fun x => !x.1) && (backToKw cpos (keywordEach [] X.env)).all (fun x => x.1.isSome) && decide ([e].length + ([] : List Keyword).length + (if ([] : List Keyword).isEmpty then 0 else 1) < 30)) = true := by rfl)
    (hplain : (backTo cpos (starEach [] X.env)).any (·.1) = false := by rfl) : EX X es os (.Call (.Attribute a "append" apos) [e] [] cpos) (dat .none) (os1.set j (q, onx (ws'.map f))) := fun F σ H Q ow sl qq => by
  unfold appO at hz
  split at hz
  · rename_i hl
    cases hz
    refine we_of (pe_bm PySem.F.plainAttrs_list PySem.F.slot_list_append PySem.F.type_list_append mt_append pe_u pa_u hbase hfew hline hs hplain) (ho F σ H _ ow sl fun F1 H1 v e1 o1 c1 => ?_)
    obtain rfl : v = .ref q := c1.now
    obtain ⟨hq0, _⟩ := nest_at i h0 o1
    refine ⟨.inl ⟨rfl, _, .of hq0⟩, wa_of (pa_cons pe_u pa_nil hs) (he F1 σ H1 _ o1 (sl.mono e1) fun F2 H2 r e2 o2 => ?_)⟩
    have o3 := o2.perm ((perm_at hj).cons _)
    obtain ⟨hq, hlen, o4⟩ := o3.snoc
    rw [List.length_map] at hlen
    refine ⟨q, _, .ref r, rfl, rfl, hq, by rw [List.length_map, hlen]; exact hl, qq F2 _ .non (e1.trans e2) ?_ (cl_dat .non)⟩
    rw [List.map_append]
    exact (o4.clx).perm (perm_set hj)
  · cases hz
end
end Z
namespace Z
open PySem PySem.Spec PyProof.Rows L2
section
variable {X : Cx} {es es1 es2 : List Slot} {os os1 os2 os3 : Os} {F0 : Hp} {rest : List Stmt} {D : Ends} {N V G W : List Str} {n i j vi gi : Nat} {x y : Str} {p pos tpos apos cpos : Pos} {e a b c k v : Expr} {φ ψ : VP} {α κ β γ : Type} {enc : β → PyData}
theorem SX.clos {q : Addr} {qs : List Addr} {es0 : List Ent} (j : Nat) (h : os[j]? = some (q, onl qs es0)) (k : SX X es (os.set j (q, onx es0)) F0 rest D) : SX X es os F0 rest D := sx_clos j h k
theorem en_nil {f : γ → Ent} : EN X es os (.List [] pos) (onx (([] : List γ).map f)) os := fun F σ H Q ow sl q =>
  we_of (pe_lst pa_u) (wa_of pa_nil ⟨by decide, fun p hp => q F _ p (Same.refl F) (ow.new hp fun G s => ⟨[], [], by
    show one p (.lst []) = ov (one p (.lst [])) (fun _ => none)
    funext a
    cases z : one p (.lst []) a with
    | none => rw [ov_none z]
    | some u => rw [ov_some z], .nil, List.pairwise_cons.mpr ⟨(fun _ z => nomatch z), .nil⟩, (fun _ z => nomatch z), rfl⟩)⟩)
def popI {α : Type} (xs : List α) (i : Int) : Option (α × List α) := if -(2 ^ 63) ≤ i ∧ i < 2 ^ 63 then (match seqIndex? i xs.length with
  | some k => (xs[k]?).map fun y => (y, xs.eraseIdx k)
  | none => none) else none
theorem dqall_erase {F : Hp} : ∀ {ds : List PyData} {vs : List L2.V} (i : Nat), DqAll F vs ds → DqAll F (vs.eraseIdx i) (ds.eraseIdx i)
  | _, _, _, .nil => .nil
  | _, _, 0, .cons h1 h2 => h2
  | _, _, i + 1, .cons h1 h2 => .cons h1 (dqall_erase i h2)
theorem map_eraseIdx {α β : Type} (f : α → β) : ∀ (xs : List α) (i : Nat), (xs.eraseIdx i).map f = (xs.map f).eraseIdx i
  | [], _ => rfl
  | x :: xs, 0 => rfl
  | x :: xs, i + 1 => by
    rw [List.eraseIdx_cons_succ, List.map_cons, List.map_cons, List.eraseIdx_cons_succ, map_eraseIdx f xs i]
end
section
variable {X : Cx} {es : List Slot} {os os0 : Os} {N V G W : List Str} {k i j : Nat} {x y : Str} {pos tpos p1 p2 : Pos} {e : Expr} {α β S : Type} {scope : Scope} {elt iter : Expr} {ifs : List Expr} {xs : List α} {enc : β → PyData}
theorem lc_mk2 {c : Os → Prop} {d1 d2 : α → PyData} {kk : Nat} (f : S → α → Option (Option β × S)) (OS : S → Os → Os) (s0 : S) (ys : List β) (sf : S) (B : Bd X N W G k) (hi : N[i]? = some x) (hj : N[j]? = some y) (hij : i ≠ j) (hu1 : es[i]? = some un) (hu2 : es[j]? = some un) (hblk : blkC X.N X.env.scope scope [(x, i), (y, j)] = true)
    (ho1 : ownB scope X.env.scope x = true) (ho2 : ownB scope X.env.scope y = true) (hif : ifs.length ≤ 1)
    (hl : xs.length < sizeLine ∧ lcS f xs s0 = some (ys, sf)) (hx : IX X (.Tuple [.Name x p1, .Name y p2] kk tpos) es os iter xs (fun z => dat (.tuple [d1 z, d2 z])) c (OS s0 os0)) (hc : ∀ s tl, c (OS s tl)) (hperm : ∀ s q tl, (OS s (q :: tl)).Perm (q :: OS s tl))
    (hb : ∀ s z t tl, z ∈ xs → f s z = some t → ∃ b os1, ∀ X', Fam X scope X' → PTX X' ((es.set i (sl (dat (d1 z)))).set j (sl (dat (d2 z)))) (OS s tl) ifs b os1 ∧ (b = true → ∃ y, t.1 = some y ∧ EX X' ((es.set i (sl (dat (d1 z)))).set j (sl (dat (d2 z)))) os1 elt (dat (enc y)) (OS t.2 tl)) ∧ (b = false → t.1 = none ∧ os1 = OS t.2 tl)) :
    LcOk X es os (.Tuple [.Name x p1, .Name y p2] kk tpos) iter elt ifs scope [(x, i), (y, j)] xs (fun z => dat (.tuple [d1 z, d2 z])) c (gTup X.K 2 (gCons (gName i) (gCons (gName j) gNil))) (fun z es => (es.set i (sl (dat (d1 z)))).set j (sl (dat (d2 z)))) enc f OS s0 os0 ys sf where
  calm := B.calm
  nd := B.hN ▸ B.nd
  ok := blkOk_by hblk
  pg := fun X' hX => by
    have hK : X'.K = X.K := by
      obtain ⟨_, _, _, _, _, rfl⟩ := hX
      rfl
    have := pg_own2 (tpos := tpos) (kk := kk) (p1 := p1) (p2 := p2) hX B hi hj ho1 ho2
    rw [hK] at this
    exact this
  hv := fun m hm => by
    have e : m = i ∨ m = j := by simpa using hm
    rcases e with rfl | rfl
    · exact hu1
    · exact hu2
  hid := lc_id2 hij
  hg := fun x F σ H v Q os2 sl hw ow c q => lc_gpair hij x F σ H v Q os2 sl hw ow c q
  hif := hif
  hl := hl.2
  hz := hl.1
  hi := hx
  hc := hc
  hperm := hperm
  hb := hb
end
end Z
namespace Z
open PySem PySem.Spec PyProof.Rows L2
section
variable {X : Cx} {es es1 es2 : List Slot} {os os1 os2 os3 : Os} {F0 : Hp} {rest : List Stmt} {D : Ends} {N V G W : List Str} {n i j vi gi gj : Nat} {x y : Str} {p p2 q pos tpos apos cpos : Pos} {e a b c k v : Expr} {φ ψ : VP} {α κ β γ : Type} {enc : β → PyData}
/-- a comprehension stored into a name that is no plain local one is an ordinary store -/
theorem sw_no {elt : Expr} {gs : List Comprehension} {scope : Scope} {py : Pos} {l : Nat} {env : Env} (hy : (env.scope.names.lookup y == some .local) = false) : swapsWith (.ListComp elt gs scope pos) (some (.Name y py)) l env = pure false := by
  unfold swapsWith
  have ky : (env.kindOf y == some NameKind.local) = false := hy
  simp only [ky, Bool.and_false, Bool.false_and]
theorem tx_dnotin [DecidableEq κ] {kd : Kd κ} {w : List (κ × β)} {k : κ} (hi : kd.Inj) (B : Bd X N W G n) (hr : RdD kd φ os2 (eM enc w)) (ha : EX X es os a (dat (kd.ek k)) os1) (hb : EX X es os1 b φ os2) (hm : behindInMarks .NotIn b = false := by rfl) : TX X es os (.Compare a [.NotIn] [b] pos) (!(dGet w k).isSome) os2 := fun F σ H Q ow sl q =>
  wt_of (pt_cmp (pc_dnotin B.u1 pe_u pe_u) hm) (ha F σ H _ ow sl fun F1 H1 y e1 o1 c1 => hb F1 σ H1 _ o1 (sl.mono e1) fun F2 H2 v e2 o2 c2 => by
    obtain ⟨p, kvs, rfl, rd, dv⟩ := hr F2 H2 v o2 c2
    exact ⟨p, _, rfl, dget_of hi o2.ex rd (key_val (c1.mono e2)), _, rfl, by rw [dget_some (H := H2) (p := p) hi dv]; exact q F2 H2 (e1.trans e2) o2⟩)
theorem ex_popI2 {m : Nat} {xs xs0 : List β} {z : Int} {r : β × List β} {q : Addr} (hr : popI xs z = some r) (ho : EX X es os a (own q) os) (h0 : os[m]? = some (q, ol (xs0.map enc))) (he : EX X es os e (dat (.int z)) os1) (hj : os1[j]? = some (q, ol (xs.map enc)))
    (hbase : attributeBase a "pop" X.env (eval a X.env) = eval a X.env := by rfl) (hline : (apos.endLine == cpos.line) = true := by rfl) (hs : starEach [e] X.env = (false, eval e X.env) :: starEach [] X.env := by rfl)
    (hfew : ((backTo cpos (starEach [e] X.env)).all (fun x => !x.1) && (backToKw cpos (keywordEach [] X.env)).all (fun x => x.1.isSome) && decide ([e].length + ([] : List Keyword).length + (if ([] : List Keyword).isEmpty then 0 else 1) < 30)) = true := by rfl)
    (hplain : (backTo cpos (starEach [] X.env)).any (·.1) = false := by rfl) : EX X es os (.Call (.Attribute a "pop" apos) [e] [] cpos) (dat (enc r.1)) (os1.set j (q, ol (r.2.map enc))) := fun F σ H Q ow sl qq => by
  unfold popI at hr
  split at hr
  · rename_i hl
    split at hr
    · rename_i k hk
      cases hy : xs[k]? with
      | none =>
        rw [hy] at hr
        cases hr
      | some y =>
        rw [hy] at hr
        cases hr
        refine we_of (pe_bm PySem.F.plainAttrs_list PySem.F.slot_list_pop PySem.F.type_list_pop mt_popAt pe_u pa_u hbase hfew hline hs hplain) (ho F σ H _ ow sl fun F1 H1 v e1 o1 c1 => ?_)
        obtain rfl : v = .ref q := c1.now
        obtain ⟨_, _, _, ty⟩ := ty_own (K := X.K) o1 h0
        refine ⟨ty, wa_of (pa_cons pe_u pa_nil hs) (he F1 σ H1 _ o1 (sl.mono e1) fun F2 H2 u e2 o2 c2 => ?_)⟩
        obtain ⟨vs, hp, hv, _⟩ := ty_own (K := X.K) o2 hj
        have hlen := dqall_len hv
        rw [List.length_map] at hlen
        obtain ⟨u', hu, hd⟩ := dqall_map hv hy
        refine ⟨q, vs, z, k, u', rfl, by rw [clv_int c2], hp, hl.1, hl.2, by rw [hlen]; exact hk, hu, ?_⟩
        have o3 := ow_set o2 hj (dqall_erase k hv)
        rw [← map_eraseIdx] at o3
        exact qq F2 _ u' (e1.trans e2) o3 (cl_dat hd)
    · cases hr
  · cases hr
end
end Z
namespace Z
open PySem PySem.Spec PyProof.Rows L2
section
variable {X : Cx} {es es1 es2 : List Slot} {os os1 os2 os3 : Os} {F0 : Hp} {rest : List Stmt} {D : Ends} {N V G W : List Str} {n i j k vi gi gj : Nat} {x y : Str} {p p2 q' pos pos' tpos apos cpos : Pos} {e a b c v : Expr} {φ ψ : VP} {q : Addr} {d : PyData} {ds ds' : List PyData}
theorem rc_reprX {t : Str} (r : RdX X φ os d) (h : reprO d = some t) : RCX (rRepr X.K) [φ] os (dat (.str t)) os := fun F H vs Q ow c qq => by
  unfold reprO at h
  split at h
  · rename_i hl
    cases h
    obtain ⟨v, rfl, h⟩ := cla1 c
    exact ⟨v, d, rfl, r hl.2.1 F H v ow h, hl.1, hl.2.1, hl.2.2.1, hl.2.2.2, qq F H _ (Same.refl F) ow (cl_dat (.str _))⟩
  · cases h
end
/-- a product: one factor is small, or both are not too long -/
def mulW (i j : Int) : Option Int := if (-(2 ^ 64) < i ∧ i < 2 ^ 64) ∨ (-(2 ^ 64) < j ∧ j < 2 ^ 64) ∨ i.natAbs.log2 + j.natAbs.log2 < 1000000 then some (i * j) else none
theorem ex_mulW {X : Cx} {es : List Slot} {os os1 os2 : Os} {a b : Expr} {pos : Pos} {i j m : Int} (hm : mulW i j = some m) (ha : EX X es os a (dat (.int i)) os1) (hb : EX X es os1 b (dat (.int j)) os2) : EX X es os (.BinOp a .Mult b pos) (dat (.int m)) os2 := by
  unfold mulW at hm
  split at hm
  · rename_i h
    cases hm
    rcases h with h | h | h
    · exact ex_mulL h ha hb
    · exact ex_mulR h ha hb
    · exact ex_mul (if_pos h) ha hb
  · cases hm
end Z
namespace Z
open PySem PySem.Spec PyProof.Rows L2
end Z
namespace Z
open PySem PySem.Spec PyProof.Rows L2
section
variable {X : Cx} {es es1 es2 : List Slot} {os os1 os2 os3 : Os} {F0 : Hp} {rest : List Stmt} {D : Ends} {N V G W : List Str} {n i j k vi gi gj : Nat} {x y : Str} {pos pos' tpos apos cpos pp : Pos} {p q : Addr} {e a b c v : Expr} {φ ψ : VP} {γ : Type} {f : γ → Ent} {ws : List γ} {d d' : γ} {z : Int} {qs : List Addr}
/-- one of a list of owned things, opened for a call -/
theorem Ow.sub {F H : Hp} (j : Nat) (h : os[j]? = some (p, onl qs (ws.map f))) (hk : idx ws z = some d) (ow : Ow F os H) : ∃ tl, qs.length = ws.length ∧ Ow F ((qa qs z, f d) :: (p, orf qs) :: (os.eraseIdx j ++ tl)) H ∧
    ∀ d' F' H', Ow F' ((qa qs z, f d') :: (p, orf qs) :: (os.eraseIdx j ++ tl)) H' → Ow F' (os.set j (p, onl qs ((setI ws z d').map f))) H' := by
  obtain ⟨o1, hl⟩ := (ow.perm (perm_at h)).opn
  rw [List.length_map] at hl
  obtain ⟨k1, k2⟩ := idx_at hk
  have hi : ixD ws.length z < ws.length := (List.getElem?_eq_some_iff.mp k2).1
  have hq : qs[ixD ws.length z]? = some (qa qs z) := by
    unfold qa
    rw [hl]
    exact getD_at (by rw [hl]; exact hi)
  have he : (ws.map f)[ixD ws.length z]? = some (f d) := by rw [List.getElem?_map, k2]; rfl
  have hz : (qs.zip (ws.map f))[ixD ws.length z]? = some (qa qs z, f d) := zip_at hq he
  have pz : ∀ e' : Ent, (qs.zip (ws.map f)).set (ixD ws.length z) (qa qs z, e') = qs.zip ((ws.map f).set (ixD ws.length z) e') := fun e' => zip_set hq
  have pm : ∀ e' : Ent, ((p, orf qs) :: (((qs.zip (ws.map f)).set (ixD ws.length z) (qa qs z, e')) ++ os.eraseIdx j)).Perm ((qa qs z, e') :: (p, orf qs) :: (os.eraseIdx j ++ (qs.zip (ws.map f)).eraseIdx (ixD ws.length z))) := fun e' => by
    have hs : ((qs.zip (ws.map f)).set (ixD ws.length z) (qa qs z, e')).Perm ((qa qs z, e') :: (qs.zip (ws.map f)).eraseIdx (ixD ws.length z)) := (perm_set hz).symm
    refine (List.Perm.cons _ (hs.append_right _)).trans ?_
    refine (List.Perm.swap _ _ _).trans (List.Perm.cons _ (List.Perm.cons _ List.perm_append_comm))
  refine ⟨(qs.zip (ws.map f)).eraseIdx (ixD ws.length z), hl, ?_, fun d' F' H' o' => ?_⟩
  · have := pm (f d)
    rw [show (qs.zip (ws.map f)).set (ixD ws.length z) (qa qs z, f d) = qs.zip (ws.map f) from by
      obtain ⟨q1, q2⟩ := List.getElem?_eq_some_iff.mp hz
      rw [← q2, List.set_getElem_self]] at this
    exact o1.perm this
  · have o2 := o'.perm (pm (f d')).symm
    rw [pz] at o2
    have o3 := o2.cls (by rw [List.length_set, List.length_map]; exact hl)
    have e5 : (ws.map f).set (ixD ws.length z) (f d') = (setI ws z d').map f := by
      unfold setI
      rw [List.map_set]
    rw [e5] at o3
    exact o3.perm (perm_set h)
theorem EX.sub (j : Nat) (h : os[j]? = some (p, onl qs (ws.map f))) (hk : idx ws z = some d) (k : ∀ tl, qs.length = ws.length → EX X es ((qa qs z, f d) :: (p, orf qs) :: (os.eraseIdx j ++ tl)) e φ ((qa qs z, f d') :: (p, orf qs) :: (os.eraseIdx j ++ tl))) : EX X es os e φ (os.set j (p, onl qs ((setI ws z d').map f))) := fun F σ H Q ow sl qq => by
  obtain ⟨tl, hl, o1, back⟩ := ow.sub j h hk
  exact k tl hl F σ H Q o1 sl fun F' H' v e' o' c' => qq F' H' v e' (back d' F' H' o') c'
theorem rng_get {n i : Nat} {x : Int} (h : (range' 0 (n : Int))[i]? = some x) : x = (i : Int) ∧ i < n := by
  unfold range' at h
  obtain ⟨h1, h2⟩ := range_get h
  exact ⟨by omega, by omega⟩
theorem rng_none {n i : Nat} (h : (range' 0 (n : Int)).length ≤ i) : n ≤ i := by
  unfold range' at h
  rw [List.length_map, List.length_range] at h
  omega
end
end Z
namespace Z
open PySem PySem.Spec PyProof.Rows L2
section
variable {P : Program} {w : World} {K : PySem.W.Frag} {mg : Str → Option Value} {base : Heap}
variable {α β : Type} {ps : α → List VP} {pre : α → Os} {m : α → Option β} {res : α → β → VP} {post : α → β → Os} {n : α → β → Ent} {x : Str} {st : Stmt} {f : Addr} {fd : FuncData} {N V Gs pn : List Str} {k nl : Nat}
theorem cal_ZQ {sts : List Stmt} (hst : defBody st = sts) (Fn : Fun K x x st f fd) (S : FnScope N pn (defScope st)) (nam : namB (defScope st) V Gs = true) (loc : V.all (locB (defScope st)) = true) (hmg : mg x = some (.ref f)) (hb : Binds K fd pn []) (hps : ∀ a, (ps a).length = pn.length) (hN : N.length = pn.length + nl)
    (body : ∀ (f : Addr) (cdv : Value) (A : Around) (outer : List Env) (s : Shared) (H : Hp) (E : XK) (a : α) (b : β) (F0 : Hp) (os : Os) (D : Ends), Bd (cxOf CX0 P w K mg base N x (defScope st) f cdv A outer s H E).nox N V Gs k → Bt (cxOf CX0 P w K mg base N x (defScope st) f cdv A outer s H E).nox V →
      m a = some b → RetZ F0 (post a b ++ os) (res a b) D → SX (cxOf CX0 P w K mg base N x (defScope st) f cdv A outer s H E).nox ((ps a).map sl ++ List.replicate nl un) (pre a ++ os) F0 sts D) : Cal P w K mg base (k + 1) x st pn (spZ ps pre m res post) := by
  subst hst
  exact cal_Z Fn S nam loc hmg hb hps hN body
theorem cal_NQ {sts : List Stmt} (hst : defBody st = sts) (Fn : Fun K x x st f fd) (S : FnScope N pn (defScope st)) (nam : namB (defScope st) V Gs = true) (loc : V.all (locB (defScope st)) = true) (hmg : mg x = some (.ref f)) (hb : Binds K fd pn []) (hps : ∀ a, (ps a).length = pn.length) (hN : N.length = pn.length + nl)
    (body : ∀ (f : Addr) (cdv : Value) (A : Around) (outer : List Env) (s : Shared) (H : Hp) (E : XK) (a : α) (b : β) (F0 : Hp) (os : Os) (D : Ends), Bd (cxOf CX0 P w K mg base N x (defScope st) f cdv A outer s H E).nox N V Gs k → Bt (cxOf CX0 P w K mg base N x (defScope st) f cdv A outer s H E).nox V →
      m a = some b → RetN F0 (post a b ++ os) (n a b) D → SX (cxOf CX0 P w K mg base N x (defScope st) f cdv A outer s H E).nox ((ps a).map sl ++ List.replicate nl un) (pre a ++ os) F0 sts D) : Cal P w K mg base (k + 1) x st pn (spN ps pre m n post) := by
  subst hst
  exact cal_N Fn S nam loc hmg hb hps hN body
end
end Z
namespace Z
open PySem PySem.Spec PyProof.Rows L2
def ltI : Int → Int → Bool := fun a b => decide (a < b)
def ltL {α : Type} [DecidableEq α] (lt : α → α → Bool) : List α → List α → Bool
  | x :: xs, y :: ys => if x = y then ltL lt xs ys else lt x y
  | [], _ :: _ => true
  | _, [] => false
def ltP2 {α β : Type} [DecidableEq α] (l1 : α → α → Bool) (l2 : β → β → Bool) : α × β → α × β → Bool := fun a b => if a.1 = b.1 then l2 a.2 b.2 else l1 a.1 b.1
def insI (x : Int) : List Int → List Int
  | [] => [x]
  | y :: ys => if x ≤ y then x :: y :: ys else y :: insI x ys
def srtI : List Int → List Int
  | [] => []
  | x :: xs => insI x (srtI xs)
theorem insI_perm (x : Int) : ∀ ys : List Int, (insI x ys).Perm (x :: ys)
  | [] => .refl _
  | y :: ys => by
    unfold insI
    split
    · exact .refl _
    · exact ((insI_perm x ys).cons y).trans (.swap x y ys)
theorem srtI_perm : ∀ xs : List Int, (srtI xs).Perm xs
  | [] => .refl _
  | x :: xs => (insI_perm x _).trans ((srtI_perm xs).cons x)
theorem insI_srt (x : Int) : ∀ {ys : List Int}, ys.Pairwise (· ≤ ·) → (insI x ys).Pairwise (· ≤ ·)
  | [], _ => List.pairwise_singleton _ _
  | y :: ys, h => by
    unfold insI
    rw [List.pairwise_cons] at h
    split
    · rename_i hxy
      refine List.pairwise_cons.mpr ⟨fun z hz => ?_, List.pairwise_cons.mpr h⟩
      rcases List.mem_cons.mp hz with rfl | hz
      · exact hxy
      · exact Int.le_trans hxy (h.1 z hz)
    · rename_i hxy
      refine List.pairwise_cons.mpr ⟨fun z hz => ?_, insI_srt x h.2⟩
      rcases List.mem_cons.mp ((insI_perm x ys).mem_iff.mp hz) with rfl | hz
      · omega
      · exact h.1 z hz
theorem srtI_srt : ∀ xs : List Int, (srtI xs).Pairwise (· ≤ ·)
  | [] => .nil
  | x :: xs => insI_srt x (srtI_srt xs)
theorem srt_one : ∀ {a b : List Int}, a.Perm b → a.Pairwise (· ≤ ·) → b.Pairwise (· ≤ ·) → a = b
  | [], b, p, _, _ => p.nil_eq
  | x :: a, [], p, _, _ => by have := p.length_eq; simp at this
  | x :: a, y :: b, p, h1, h2 => by
    rw [List.pairwise_cons] at h1 h2
    have hxy : x = y := by
      have a1 : y ∈ x :: a := p.mem_iff.mpr List.mem_cons_self
      have b1 : x ∈ y :: b := p.mem_iff.mp List.mem_cons_self
      rcases List.mem_cons.mp a1 with e | a1
      · exact e.symm
      · rcases List.mem_cons.mp b1 with e | b1
        · exact e
        · have := h1.1 y a1
          have := h2.1 x b1
          omega
    subst hxy
    rw [srt_one (List.Perm.cons_inv p) h1.2 h2.2]
theorem rc_sortedI {X : Cx} {os : Os} {φ : VP} {ns : List Int} (hr : RdL X φ os (ns.map PyData.int)) : RCN (rSortedI X.K) [φ] os (ol ((srtI ns).map PyData.int)) os := fun F H vs Q ow c q => by
  obtain ⟨v, rfl, h⟩ := cla1 c
  obtain ⟨a, us, rfl, h1, h2⟩ := hr F H v ow h
  have e := dqall_of_ints ns h2
  subst e
  refine ⟨a, ns, rfl, h1, fun ns' p pm st hp => ?_⟩
  have : ns' = srtI ns := srt_one (pm.trans (srtI_perm ns).symm) st (srtI_srt ns)
  subst this
  exact q F _ p (Same.refl F) (ow.new hp fun G g => ⟨_, rfl, dqall_ints _⟩)
end Z
namespace Z
open PySem PySem.Spec PyProof.Rows L2
end Z
namespace Z
open PySem PySem.Spec PyProof.Rows L2
end Z
namespace Z
open PySem PySem.Spec PyProof.Rows L2
def idxH {γ : Type} (ws : List (Option γ)) (z : Int) : Option γ := (idx ws z).bind id
def unH {γ : Type} : List (Option γ) → Option (List γ)
  | [] => some []
  | o :: r => o.bind fun x => (unH r).bind fun xs => some (x :: xs)
theorem idx_mapS {γ : Type} {ws : List γ} {z : Int} {d : γ} (h : idx ws z = some d) : idx (ws.map some) z = some (some d) := by
  obtain ⟨k1, k2⟩ := idx_at h
  unfold idx atI
  rw [List.length_map, k1]
  show (ws.map some)[ixD ws.length z]? = _
  rw [List.getElem?_map, k2]
  rfl
section
variable {X : Cx} {es es1 : List Slot} {os os1 os2 : Os} {F0 : Hp} {rest : List Stmt} {D : Ends} {N V G W : List Str} {n k i j vi gi : Nat} {x : Str} {p q pos apos cpos tpos : Pos} {e a b tg : Expr} {φ ψ : VP} {γ : Type} {f : γ → Ent} {g : γ → PyData} {m : Ent}
theorem GY.drop {es' : List Slot} {u : Addr × Ent} (k : GY X tg ψ es os es' (u :: os1)) : GY X tg ψ es os es' os1 := fun F σ H v Q ow s c qq => k F σ H v Q ow s c fun F' σ' H' e o l => qq F' σ' H' e o.drop l
end
end Z
namespace Z
open PySem PySem.Spec PyProof.Rows L2
def AN (X : Cx) (es : List Slot) (as : List Expr) (os : Os) (φs : Addr → List VP) (os' : Addr → Os) : Prop := ∀ F σ H Q, Ow F os H → Sl F es σ → (∀ F' H' vs q, Same F F' → Ow F' (os' q) H' → ClA (φs q) F' vs → Q vs H') → WA X as σ H Q
section
variable {X : Cx} {es : List Slot} {os os1 rest : Os} {N V G : List Str} {k j : Nat} {x : Str} {p pos : Pos} {e : Expr} {as : List Expr} {st : Stmt} {pn : List Str} {α β : Type} {ps : α → List VP} {pre : α → Os} {m : α → Option β} {res : α → β → VP} {post : α → β → Os} {n : Ent} {ne : α → β → Ent} {gi : Nat} {φ : VP}
theorem an_n {φs : List VP} {os' : Addr → Os} (ha : EN X es os e n os1) (hr : ∀ q, AX X es ((q, n) :: os1) as φs (os' q)) (hs : starEach (e :: as) X.env = (false, eval e X.env) :: starEach as X.env := by rfl) : AN X es (e :: as) os (fun q => own q :: φs) os' := fun F σ H Q ow sl qq =>
  wa_of (pa_cons pe_u pa_u hs) (ha F σ H _ ow sl fun F1 H1 q e1 o1 => hr q F1 σ H1 _ o1 (sl.mono e1) fun F2 H2 vs e2 o2 c2 => qq F2 H2 _ q (e1.trans e2) o2 ⟨_, vs, rfl, cl_own, c2⟩)
end
end Z
namespace Z
open PySem PySem.Spec PyProof.Rows L2
abbrev T3 : Type := Tri Int Int Int
abbrev e3 : T3 → PyData := eP3 PyData.int PyData.int PyData.int
/-- the place of a triple in the order, if its parts lie in [0, 10^6) -/
def cd3 (t : T3) : Int := (t.a * 1000000 + t.b) * 1000000 + t.c
end Z
namespace Z
open PySem PySem.Spec PyProof.Rows L2
end Z
namespace Z
open PySem PySem.Spec PyProof.Rows L2
theorem onx_nil {F : Hp} {p : Addr} {γ : Type} {f : γ → Ent} : onx (([] : List γ).map f) p F (one p (.lst [])) := ⟨[], [], by
    show one p (.lst []) = ov (one p (.lst [])) (fun _ => none)
    funext a
    cases z : one p (.lst []) a with
    | none => rw [ov_none z]
    | some u => rw [ov_some z], .nil, List.pairwise_cons.mpr ⟨(fun _ z => nomatch z), .nil⟩, (fun _ z => nomatch z), rfl⟩
end Z
namespace Z
open PySem PySem.Spec PyProof.Rows L2
structure SXw (X : Cx) (es : List Slot) (os : Os) (F0 : Hp) (sts : List Stmt) (D : Ends) : Prop where
  run : SX X es os F0 sts D
def nsE : Expr → Bool
  | .Starred .. => false
  | _ => true
theorem star_ns {a : Expr} (as : List Expr) (env : Env) (h : nsE a = true) : starEach (a :: as) env = (false, eval a env) :: starEach as env := by
  cases a <;> first | rfl | (exact Bool.noConfusion h)
section
variable {X : Cx} {es : List Slot} {os os1 : Os} {a : Expr} {as : List Expr} {n : Ent} {φ : VP}
theorem aq_nS {Rel : Addr → List VP → Os → Prop} (ha : EN X es os a n os1) (hr : ∀ p, AQ X es as ((p, n) :: os1) (Rel p)) (h : nsE a = true := by rfl) : AQ X es (a :: as) os (fun φs os' => ∃ p r, φs = own p :: r ∧ Rel p r os') := aq_n ha hr (star_ns as X.env h)
end
section
variable {X : Cx} {es : List Slot} {os : Os} {F0 : Hp} {rest : List Stmt} {D : Ends} {N V G W : List Str} {k i j : Nat} {x y : Str} {pos : Pos} {a b : Expr}
/-- two new things side by side, stored from the right -/
theorem sx_newp2 {px py pt p2 : Pos} {kt k2 : Nat} {n1 n2 : Ent} (sc : Scope) (hsc : X.env.scope = sc) (B : Bd X N W G k) (hi : N[i]? = some x) (hj : N[j]? = some y) (hij : i ≠ j) (hx : lclB sc x = true) (hy : lclB sc y = true) (hw : swpB sc [.Tuple [.Name x px, .Name y py] kt pt] (.Tuple [a, b] k2 p2) [x, y])
    (a1 : EN X es os a n1 os) (a2 : ∀ p1, EN X es ((p1, n1) :: os) b n2 ((p1, n1) :: os)) (h : ∀ p1 p2, SX X ((es.set i (sl (own p1))).set j (sl (own p2))) ((p2, n2) :: (p1, n1) :: os) F0 rest D)
    (s1 : nsE a = true := by rfl) (s2 : nsE b = true := by rfl) (hs : swapsWithSole [.Tuple [.Name x px, .Name y py] kt pt] (.Tuple [a, b] k2 p2) pos.line X.env = pure false := by rfl) : SXw X es os F0 (.Assign [.Tuple [.Name x px, .Name y py] kt pt] (.Tuple [a, b] k2 p2) pos :: rest) D :=
  ⟨sx_par2 (Rel := fun φs os' => ∃ p1 r1, φs = own p1 :: r1 ∧ ∃ p2 r2, r1 = own p2 :: r2 ∧ (r2 = [] ∧ os' = (p2, n2) :: (p1, n1) :: os)) sc hsc B hi hj hij hx hy hw
    (aq_nS a1 (fun p1 => aq_nS (a2 p1) (fun _ => aq_nil) s2) s1)
    (fun φ ψ os' hr => by
      obtain ⟨p1, r1, q1, p2, r2, q2, q3, rfl⟩ := hr
      subst q3 q2
      cases q1
      exact h p1 p2)
    (fun φs os' hr => by
      obtain ⟨p1, r1, q1, p2, r2, q2, q3, rfl⟩ := hr
      subst q3 q2 q1
      exact ⟨_, _, rfl⟩) hs⟩
end
end Z
namespace Z
open PySem PySem.Spec L2
def minO : List Int → Option Int
  | [] => none
  | x :: t => some (t.foldl (fun a b => if b < a then b else a) x)
theorem fold_min : ∀ (t : List Int) (x : Int), (t.foldl (fun a b => if b < a then b else a) x = x ∨ t.foldl (fun a b => if b < a then b else a) x ∈ t) ∧ t.foldl (fun a b => if b < a then b else a) x ≤ x ∧ ∀ y ∈ t, t.foldl (fun a b => if b < a then b else a) x ≤ y
  | [], x => ⟨.inl rfl, Int.le_refl _, fun _ z => nomatch z⟩
  | b :: t, x => by
    obtain ⟨h1, h2, h3⟩ := fold_min t (if b < x then b else x)
    rw [List.foldl_cons]
    have hb : (if b < x then b else x) ≤ x ∧ (if b < x then b else x) ≤ b := by split <;> omega
    refine ⟨?_, by omega, fun y hy => ?_⟩
    · rcases h1 with h1 | h1
      · rw [h1]
        split
        · exact .inr List.mem_cons_self
        · exact .inl rfl
      · exact .inr (List.mem_cons_of_mem _ h1)
    · rcases List.mem_cons.mp hy with rfl | hy
      · omega
      · exact h3 y hy
theorem minO_ok {ns : List Int} {r : Int} (h : minO ns = some r) : r ∈ ns ∧ ∀ y ∈ ns, r ≤ y := by
  cases ns with
  | nil => cases h
  | cons x t =>
    cases h
    obtain ⟨h1, h2, h3⟩ := fold_min t x
    refine ⟨h1.elim (fun e => by rw [e]; exact List.mem_cons_self) fun e => List.mem_cons_of_mem _ e, fun y hy => ?_⟩
    rcases List.mem_cons.mp hy with rfl | hy
    · exact h2
    · exact h3 y hy
section
variable {X : Cx} {os : Os}
theorem rc_minL {φ : VP} {ns : List Int} {r : Int} (h : minO ns = some r) (hr : RdL X φ os (ns.map PyData.int)) : RCX (rMin X.K) [φ] os (dat (.int r)) os := fun F H vs Q ow c q => by
  obtain ⟨v, rfl, hv⟩ := cla1 c
  obtain ⟨a, us, rfl, h1, h2⟩ := hr F H v ow hv
  have e := dqall_of_ints ns h2
  subst e
  obtain ⟨m1, m2⟩ := minO_ok h
  refine ⟨a, ns, rfl, h1, List.length_pos_of_mem m1, fun m hm hle => ?_⟩
  have : m = r := Int.le_antisymm (hle r m1) (m2 m hm)
  subst this
  exact q F H _ (Same.refl F) ow (cl_dat (.int _))
end
end Z
namespace Z
open PySem PySem.Spec PyProof.Rows L2
end Z
namespace Z
open PySem PySem.Spec PyProof.Rows L2
open PySem.Sem (wp)
/-- one step deeper -/
def a1 (X : Cx) : Cx := { X with A := X.A.in1 }
section
variable {X : Cx} {pins : List (Addr × Obj)} {σ : L2.St} {H : Hp} {s : Shared}
/-- a new place -/
structure Fsh (X : Cx) (pins : List (Addr × Obj)) (a : Addr) : Prop where
  sz : X.s_0.heap.objs.size ≤ a
  loc : a ≠ X.env.locals
  cell : ∀ x c, X.env.cells.lookup x = some c → c ≠ a
  pin : ∀ p ∈ X.pn ++ pins, p.1 ≠ a
  fs : a ∉ X.fs
theorem list_raw {l : Addr} {xs : List V} (I : Inv X pins σ H s) (h : H l = some (.lst xs)) : ∃ its : List Value, Vals xs its ∧ s.heap.IsList l its.toArray := by
  obtain ⟨_, its, n, r, e⟩ := I.hok l _ h
  exact ⟨its, r, _, e, rfl, n, rfl⟩
theorem inv_turned {it : Addr} {h' : Heap} {t' : Nat} (I : Inv X pins σ H s) (f : Fsh X pins it) (hn : H it = none) (k : ∀ b o, b ≠ it → s.heap.get? b = some o → h'.get? b = some o) : Inv X pins σ H { s with heap := h', toks := t' } :=
  I.turned k hn f.loc (.inr f.sz) f.cell f.pin
end
section
variable {X : Cx} {pins : List (Addr × Obj)} {σ : L2.St} {os : Os} {F0 : Hp} {l S I f : Addr} {xs : List V} {kd : Nat → PyData} {k : Nat} {fd : FuncData} {ps : List Str} {sp : Sp}
/-- the state between two keys -/
def Btw (X : Cx) (pins : List (Addr × Obj)) (σ : L2.St) (os : Os) (F0 : Hp) (S I : Addr) (s : Shared) (P : Hp → Prop) : Prop := ∃ H F, Inv X pins σ H s ∧ Ow F os H ∧ Same F0 F ∧ H S = none ∧ H I = none ∧ P F
theorem Btw.turned {s : Shared} {it : Addr} {h' : Heap} {t' : Nat} {P : Hp → Prop} (b : Btw X pins σ os F0 S I s P) (f : Fsh X pins it) (hi : it = S ∨ it = I) (k : ∀ b o, b ≠ it → s.heap.get? b = some o → h'.get? b = some o) : Btw X pins σ os F0 S I { s with heap := h', toks := t' } P := by
  obtain ⟨H, F, inv, ow, sf, nS, nI, hP⟩ := b
  exact ⟨H, F, inv_turned inv f (hi.elim (fun e => e ▸ nS) fun e => e ▸ nI) k, ow, sf, nS, nI, hP⟩
theorem Btw.list {s : Shared} {P : Hp → Prop} (b : Btw X pins σ os F0 S I s P) (hl : F0 l = some (.lst xs)) : ∃ its : List Value, Vals xs its ∧ s.heap.IsList l its.toArray := by
  obtain ⟨H, F, inv, ow, sf, nS, nI, hP⟩ := b
  exact list_raw inv (ow.ex l _ (sf l _ hl))
end
end Z
namespace Z
open PySem PySem.Spec PyProof.Rows L2
end Z
namespace Z
open PySem PySem.Spec PyProof.Rows L2
end Z
namespace Z
open PySem PySem.Spec L2
end Z
namespace Z
open PySem PySem.Spec L2
end Z
namespace Z
open PySem PySem.Spec PyProof.Rows L2
end Z
namespace Z
open PySem PySem.Spec PyProof.Rows L2
section
variable {X : Cx} {es : List Slot} {os os1 : Os} {N V G W : List Str} {k gi gj : Nat} {p pos : Pos} {e : Expr}
theorem ex_rgT1 {b : Int} {xs : List Int} (B : Bd X N W G k) (hj : G[gi]? = some "tuple") (hj2 : G[gj]? = some "range") (hm : X.mg "tuple" = none) (hm2 : X.mg "range" = none) (hr : rgO 0 b = some xs) (ha : EX X es os e (dat (.int b)) os1) {p2 pos2 : Pos}
    (na : starEach [(.Call (.Name "range" p2) [e] [] pos2)] X.env = (false, eval (.Call (.Name "range" p2) [e] [] pos2) X.env) :: starEach [] X.env := by rfl) (nb : starEach [e] X.env = (false, eval e X.env) :: starEach [] X.env := by rfl) :
    EX X es os (.Call (.Name "tuple" p) [.Call (.Name "range" p2) [e] [] pos2] [] pos) (dat (.tuple (xs.map PyData.int))) os1 := fun F σ H Q ow sl q => by
  unfold rgO at hr
  split at hr
  · rename_i hl
    cases hr
    refine we_of (pe_tupRg B.calm (B.gl _ (List.mem_of_getElem? hj)).1 hm (prg_1 (B.gl _ (List.mem_of_getElem? hj2)).1 hm2 pe_u nb) na) (ha F σ H _ ow sl fun F1 H1 v e1 o1 c1 => ⟨b, clv_int c1, hl, fun r hr => ?_⟩)
    rw [rgV_map]
    exact q _ _ (.ref r) (e1.trans (same_upd (o1.ex.free hr))) (o1.frozen hr) (cl_dat (.tup upd_same (dqall_ints _)))
  · cases hr
end
end Z
namespace Z
end Z
namespace Z
open PySem PySem.Spec PyProof.Rows L2
section
variable {prog : Program} {w : World} {A : Around} {E : Value → Shared → Prop} {s : Shared}
theorem collect_tupZ {l : Addr} {us : List Value} {Q : List Value → Shared → Prop} (hl : IsTup s.heap l us.toArray) (hz : us.length ≤ sizeLine)
    (q : Q us { s with heap := (s.heap.push (seqObj "list" #[] 0)).update s.heap.objs.size (Obj.mapSeq (· ++ us.toArray)) }) : wpAny (model prog w) A (collect (.ref l)) Q E s := by
  obtain ⟨ob, hob, hcls, m, hdat⟩ := hl
  unfold collect
  refine wpAny_bind (wpAny_runValue (codeAny_builtin entry_proto_collect' ?_))
  refine wpAny_bind (m := newList []) (wpAny_newList (wpAny_pure ⟨Code.quiet_builtin _ (by decide +kernel), codeAny_builtin entry_list_iadd' ?_⟩))
  show wpAny (model prog w) _ (Builtin.List.listExtendWith (.ref s.heap.objs.size) (.ref l) (.ref s.heap.objs.size)) _ _ { s with heap := s.heap.push (seqObj "list" #[] 0) }
  unfold Builtin.List.listExtendWith
  have hob2 : (s.heap.push (seqObj "list" #[] 0)).get? l = some ob := Heap.get?_push_of_some _ hob
  have hnew : (s.heap.push (seqObj "list" #[] 0)).get? s.heap.objs.size = some (seqObj "list" #[] 0) := Heap.get?_push_size _ rfl
  refine wpAny_bind (wpAny_typeOf (T := "tuple") ⟨ob, hob2, hcls⟩ ?_)
  have ht : (Value.type "tuple" == Value.type "tuple") = true := by rfl
  rw [if_pos (by rw [ht]; simp)]
  refine wpAny_bind (listItems_at hob2 hdat ?_)
  refine wpAny_bind (listItems_at (xs := #[]) (n := 0) hnew rfl ?_)
  rw [if_neg (by simp)]
  have hb : (#[] ++ us.toArray).size ≤ sizeLine + 1 := by
    simp only [Array.size_append, List.size_toArray, List.length_nil]
    omega
  refine wpAny_bind (listUpdate_at (xs := #[]) (n := 0) hnew rfl ?_ (Nat.zero_le _) hb)
  refine wpAny_pure ?_
  show wpAny (model prog w) A (load s.heap.objs.size >>= fun o => match o.data with | .seq xs _ => pure xs.toList | _ => unsupported "internal:collect") Q E { s with heap := (s.heap.push (seqObj "list" #[] 0)).update s.heap.objs.size (Obj.mapSeq (· ++ us.toArray)) }
  refine wpAny_bind (wpAny_load (get?_update_seq hnew _) ?_)
  show wpAny (model prog w) A (pure ((#[] : Array Value) ++ us.toArray).toList) Q E _
  have e2 : ((#[] : Array Value) ++ us.toArray).toList = us := by simp
  rw [e2]
  exact wpAny_pure q
open SrtO in
theorem sorted_tupZ {l : Addr} {us : List Value} {ns : List Int} {Q : Value → Shared → Prop} (hl : IsTup s.heap l us.toArray) (hz : us.length ≤ sizeLine) (hI : IntsAre us ns)
    (q : ∀ out : List Value, Srtd ltIv out → Stb ltIv out us → Q (.ref (s.heap.objs.size + 1)) { s with heap := sortedAll s.heap us out.toArray }) : wpAny (model prog w) A (call (.builtin "sorted") [.ref l]) Q E s := by
  refine Calls.call_function_entry kind_sorted plain_sorted entry_sorted (args_sorted1 _) ?_
  unfold Builtin.«sorted»
  refine wpAny_bind (m := checkCount "sorted" 1 1 _) (wpAny_pure ?_)
  refine wpAny_bind (collect_tupZ hl hz ?_)
  refine wpAny_bind (wpAny_newList ?_ hz)
  have hsz : ((s.heap.push (seqObj "list" #[] 0)).update s.heap.objs.size (Obj.mapSeq (· ++ us.toArray))).objs.size = s.heap.objs.size + 1 := (Heap.size_update ..).trans (size_push' ..)
  have hat : (((s.heap.push (seqObj "list" #[] 0)).update s.heap.objs.size (Obj.mapSeq (· ++ us.toArray))).push (seqObj "list" us.toArray 0)).get? (s.heap.objs.size + 1) = some (seqObj "list" us.toArray 0) := hsz ▸ Heap.get?_push_size _ rfl
  show wpAny (model prog w) _ _ _ _ { s with heap := ((s.heap.push (seqObj "list" #[] 0)).update s.heap.objs.size (Obj.mapSeq (· ++ us.toArray))).push (seqObj "list" us.toArray 0) }
  rw [hsz]
  have fin : ∀ out : List Value, Srtd ltIv out → Stb ltIv out us → _ := fun out a b => q out a b
  refine wpAny_bind (wpAny_holding (wpAny_call_entry slot_list_sort ⟨_, hat, rfl⟩ entry_list_sort (list_sort_ord swo_int hat hz (fun h2 => ints_sortable hI h2) fun out a b => ⟨_, rfl, ?_⟩) (args_list_sort _)))
  exact wpAny_pure ⟨_, rfl, q out a b⟩
end
def rSortedTI : List L2.V → Hp → VK → Prop := fun vs H Q => ∃ (a : Addr) (ns : List Int), vs = [V.ref a] ∧ H a = some (.tup (ns.map V.int)) ∧
  ∀ (ms : List Int) (p : Addr), ms.Perm ns → ms.Pairwise (· ≤ ·) → H p = none → Q (.ref p) (upd H p (.lst (ms.map V.int)))
theorem cr_sortedTI {X : Cx} : CallR X (.builtin "sorted") rSortedTI := by
  intro pins s σ H vs us Q I r h
  obtain ⟨a, ns, rfl, ha, q⟩ := h
  obtain ⟨its, rv, hl, hz⟩ := I.tuple (.of ha)
  rw [Vals.ref1 r]
  have hi := rv.ints
  have hn : its.length ≤ sizeLine := by rw [← rv.length]; exact hz
  refine sorted_tupZ hl hn hi fun out h1 h2 => ?_
  obtain ⟨k1, k2, k3⟩ := SrtO.ints_out hi h1 h2
  obtain ⟨ep, he⟩ := PyProof.Rows.sortedAll_at s.heap its out.toArray
  have hlen : ((out.map SrtO.iv).map V.int).length ≤ sizeLine := by
    have := k2.length_eq
    rw [List.length_map] at hz ⊢
    omega
  exact ⟨.ref _, upd H (s.heap.objs.size + 1) (.lst ((out.map SrtO.iv).map V.int)), I.laid (t' := s.toks) (fun _ _ => PyProof.Rows.sortedAll_old) (Nat.le_succ _) ⟨hlen, out, ep, vals_of_ints k1, he⟩, rfl, q _ _ k2 k3 (I.hok.fresh (Nat.le_succ _))⟩
theorem rc_sortedTI {os : Os} {φ : VP} {ns : List Int} (hr : RdT φ (ns.map PyData.int)) : RCN rSortedTI [φ] os (ol ((srtI ns).map PyData.int)) os := fun F H vs Q ow c q => by
  obtain ⟨v, rfl, h⟩ := cla1 c
  obtain ⟨a, us, rfl, h1, h2⟩ := hr F v h
  have e := dqall_of_ints ns h2
  subst e
  refine ⟨a, ns, rfl, ow.ex _ _ h1, fun ms p pm st hp => ?_⟩
  have : ms = srtI ns := srt_one (pm.trans (srtI_perm ns).symm) st (srtI_srt ns)
  subst this
  exact q F _ p (Same.refl F) (ow.new hp fun G g => ⟨_, rfl, dqall_ints _⟩)
end Z
namespace Z
open PySem PySem.Spec PyProof.Rows L2
section
variable {X : Cx} {es : List Slot} {os os1 : Os} {p : Addr} {e tg : Expr} {γ : Type} {f : γ → Ent} {ws : List γ} {qs : List Addr}
theorem ix_nest (j : Nat) (he : EX X es os e (own p) os1) (h : os1[j]? = some (p, onl qs (ws.map f))) :
    IX X tg es os e (range' 0 (ws.length : Int)) (fun x => own (qa qs x)) (fun o => ∃ ws' : List γ, o[j]? = some (p, onl qs (ws'.map f))) os1 := fun F σ H R ow sl q =>
  wi_of (pi_list pe_u) (he F σ H _ ow sl fun F1 H1 v e1 o1 c1 => by
    obtain rfl : v = .ref p := c1.now
    obtain ⟨h1, hl⟩ := nest_at j h o1
    refine ⟨p, rfl, ⟨qs.map .ref, .of h1⟩, q F1 H1 _ e1 o1 fun F2 H2 os2 i s ow2 k2 => ?_⟩
    obtain ⟨ws', k2⟩ := k2
    obtain ⟨g1, _⟩ := nest_at j k2 ow2
    refine ⟨fun h => ⟨qs.map .ref, .of g1, by
      have := rng_none h
      rw [List.length_map]
      omega⟩, fun x hx => ?_⟩
    obtain ⟨rfl, hi⟩ := rng_get hx
    have hq : qs[i]? = some (qa qs (i : Int)) := by
      unfold qa
      have : ixD qs.length (i : Int) = i := by
        unfold ixD ixN
        rw [if_pos (by omega), if_pos (by omega)]
        show ((i : Int)).toNat = i
        omega
      rw [this]
      exact getD_at (by omega)
    have hu : (qs.map L2.V.ref)[i]? = some (.ref (qa qs (i : Int))) := by rw [List.getElem?_map, hq]; rfl
    refine ⟨⟨qs.map .ref, _, .of g1, hu⟩, fun w H3 y => ?_⟩
    obtain ⟨rfl, hy⟩ := y
    have ew : (qs.map L2.V.ref)[i]? = some w := hy _ (.of g1)
    rw [hu] at ew
    cases ew
    exact ⟨F2, Same.refl F2, ow2, cl_own⟩)
end
end Z
namespace Z
open PySem PySem.Spec PyProof.Rows L2
section
variable {X : Cx} {os : Os}
def lcmO (a b : Int) : Option Int := if a.natAbs < 2 ^ 64 ∧ b.natAbs < 2 ^ 64 then some ((a.natAbs.lcm b.natAbs : Nat) : Int) else none
def rLcm : List L2.V → Hp → VK → Prop := fun vs H Q => ∃ a b : Int, vs = [.int a, .int b] ∧ a.natAbs < 2 ^ 64 ∧ b.natAbs < 2 ^ 64 ∧ Q (.int ((a.natAbs.lcm b.natAbs : Nat) : Int)) H
theorem cr_lcm : CallR X (.builtin "math.lcm") rLcm := by
  intro pins s σ H vs us Q I r h
  obtain ⟨a, b, rfl, h0, h1, q⟩ := h
  obtain ⟨t, u, rfl⟩ := Vals.int2 r
  exact PySem.W.mc_lcm h0 h1 fun _ => ⟨.int _, H, I.tok _, ⟨_, rfl⟩, q⟩
theorem rc_lcm {a b t : Int} (h : lcmO a b = some t) : RCX rLcm [dat (.int a), dat (.int b)] os (dat (.int t)) os := fun F H vs Q ow c qq => by
  unfold lcmO at h
  split at h
  · rename_i hl
    cases h
    obtain ⟨v, u, rfl, h, h2⟩ := cla2 c
    exact ⟨a, b, by rw [clv_int h, clv_int h2], hl.1, hl.2, qq _ _ _ (Same.refl F) ow (cl_dat (.int _))⟩
  · cases h
end
end Z
set_option maxHeartbeats 3200000
namespace Z
open PySem PySem.Spec PyProof.Rows L2
section
variable {P : Program} {w : World} {A : Around} {E : Value → Shared → Prop} {s : Shared}
/-- a set that was made just now -/
abbrev bare0 (w : World) : Obj := { cls := .type "set", dict := none, data := .set #[] 0 (.fresh 0 0 (!w.params.followText "set-order")) }
/-- it is filled from a list -/
theorem upd_list {l : Addr} {items : Array Value} (ns : List Int) (hh : A.handled = none) (hl : s.heap.IsList l items) (hit : IntsAre items.toList ns) (hb : ns.length + 1 < scanBound) {R : Result → Shared → Prop}
    (h : ∀ (h' : Heap) (tk c : Nat), SetR w h' s.heap.objs.size (fun j => decide (j ∈ ns)) c → c ≤ ns.length → (∀ b o, s.heap.get? b = some o → h'.get? b = some o) → R (.ok (.ret .none)) { s with heap := h', toks := tk }) :
    codeAny (model P w) A (.builtin "set.update.loop" ⟨[.ref s.heap.objs.size, .ref (s.heap.push (bare0 w)).objs.size], []⟩) R { s with heap := (s.heap.push (bare0 w)).push { cls := .type "list_iterator", data := .fields #[.ref l, .int 0 0] } } := by
  have hn : items.size = ns.length := by rw [← Array.length_toList]; exact IntsAre.length hit
  have hlt : l < s.heap.objs.size := by
    obtain ⟨o, ho, _⟩ := hl
    exact Heap.lt_size ho
  have z1 : (s.heap.push (bare0 w)).objs.size = s.heap.objs.size + 1 := Heap.size_push ..
  have g0 : (s.heap.push (bare0 w)).get? s.heap.objs.size = some (bare0 w) := Heap.get?_push_size _ rfl
  have ne1 : l ≠ (s.heap.push (bare0 w)).objs.size := by rw [z1]; exact Nat.ne_of_lt (Nat.lt_succ_of_lt hlt)
  have val : ∀ (i : Nat) (v : Value), items[i]? = some v → ∃ k t, ns[i]? = some k ∧ v = .int k t := fun i v hv => by
    obtain ⟨t, e⟩ := IntsAre.int_at hit i v (by rw [Array.getElem?_toList]; exact hv)
    have hi : i < ns.length := hn ▸ (Array.getElem?_eq_some_iff.mp hv).1
    exact ⟨ns[i], t, List.getElem?_eq_getElem hi, by rw [e, List.getD_eq_getElem?_getD, List.getElem?_eq_getElem hi] <;> rfl⟩
  refine set_update_ints ((Walks.list (by simp [hh]) (s.heap.push (bare0 w)).objs.size l ne1 items).toS) s.heap.objs.size (fun hm => ?_) ns hn hb val (items.size - 0) 0 _ rfl (Nat.zero_le _)
    ⟨⟨_, Heap.get?_push_size _ rfl, rfl, rfl⟩, (hl.push _).push _⟩ ⟨0, Nat.le_refl 0, setR_new_at (Heap.get?_push_of_some _ g0)⟩ fun s' c hm hc hS => ?_
  · rcases List.mem_cons.mp hm with e | e
    · rw [z1] at e
      exact absurd e (Nat.ne_of_lt (Nat.lt_succ_self _))
    · exact absurd (List.mem_singleton.mp e) (Nat.ne_of_gt hlt)
  · have eg : s'.gens = s.gens := hm.gens
    have ed : s'.drawn = s.drawn := hm.drawn
    have eo : s'.os = s.os := hm.os
    have es : s' = { s with heap := s'.heap, toks := s'.toks } := by
      cases s'
      cases s
      cases eg
      cases ed
      cases eo
      rfl
    rw [es]
    refine h s'.heap s'.toks c hS (by omega) fun b o e => ?_
    have hb0 : b < s.heap.objs.size := Heap.lt_size e
    refine hm.heap b o (fun q => ?_) (Heap.get?_push_of_some _ (Heap.get?_push_of_some _ e))
    rcases List.mem_cons.mp q with q | q
    · exact absurd q (Nat.ne_of_lt hb0)
    · have := List.mem_singleton.mp q
      rw [z1] at this
      exact absurd this (Nat.ne_of_lt (Nat.lt_succ_of_lt hb0))
/-- set(xs) as a call -/
theorem set_of_list {l : Addr} {items : Array Value} (ns : List Int) {Q : Value → Shared → Prop} (hh : A.handled = none) (hl : s.heap.IsList l items) (hit : IntsAre items.toList ns) (hb : ns.length + 1 < scanBound)
    (h : ∀ (h' : Heap) (tk c : Nat), SetR w h' s.heap.objs.size (fun j => decide (j ∈ ns)) c → c ≤ ns.length → (∀ b o, s.heap.get? b = some o → h'.get? b = some o) → Q (.ref s.heap.objs.size) { s with heap := h', toks := tk }) :
    wpAny (model P w) A (call (.type "set") [.ref l]) Q E s := by
  obtain ⟨c0, tl, hmro⟩ := F.called_set.mro
  have k1 := F.called_set.made
  have k2 := F.called_set.sub
  have k3 := F.called_set.notType
  have k4 := F.called_set.canCreate
  have k5 := F.typeCall_set_1 (.ref l)
  have k6 := F.called_set.init.lookup
  have k7 := F.called_set.init.bind (.ref s.heap.objs.size)
  have g0 : (s.heap.push (bare0 w)).get? s.heap.objs.size = some (bare0 w) := Heap.get?_push_size _ rfl
  have ty : Shared.TypeIs { s with heap := s.heap.push (bare0 w) } (.ref s.heap.objs.size) "set" := ⟨_, g0, rfl⟩
  refine wpAny_call (codeAny_of_tree (wpAny_pure (M := model P w) ⟨Code.quiet_builtin _ (by decide +kernel), codeAny_builtin F.entry_type_call ?_⟩))
  rw [Around.under_plain (weight_type_call_type "set" [.ref l] []) rfl]
  repeat (any_goals (first | assumption | wp_step))
  refine codeAny_mono (code_set_led1 (.ref l) (E := E) (Q₁ := fun obj s₁ => obj = .ref s.heap.objs.size ∧ s₁ = { s with heap := s.heap.push (bare0 w) }) ⟨rfl, rfl⟩) fun r s₁ hr => ?_
  rcases r with e | fl
  · exact hr
  · cases fl with
    | ret obj =>
      obtain ⟨rfl, rfl⟩ := hr
      repeat (any_goals (first | assumption | wp_step))
      refine codeAny_mono (codeAny_call_builtin (R := wants (fun r s₂ => r = .none ∧ ∃ h' tk c, s₂ = { s with heap := h', toks := tk } ∧ SetR w h' s.heap.objs.size (fun j => decide (j ∈ ns)) c ∧ c ≤ ns.length ∧ (∀ b o, s.heap.get? b = some o → h'.get? b = some o)) E) F.called_set.init.plain F.entry_set_init (check_set_init_1 ty ?_)) fun r₂ s₂ hr₂ => ?_
      · have hl1 : (s.heap.push (bare0 w)).IsList l items := hl.push _
        obtain ⟨ol, hol, hcl, nl, hdl⟩ := hl
        obtain ⟨ocls, odict, odata, oslots⟩ := ol
        simp only at hcl hdl
        subst hcl; subst hdl
        have hol' : (s.heap.push (bare0 w)).get? l = some { cls := .type "list", dict := odict, data := .seq items nl, slots := oslots } := Heap.get?_push_of_some _ hol
        have t1 := F.sub_list_set
        have t2 := F.sub_list_frozenset
        have t3 : (Value.type "list" == Value.type "dict") = false := by decide
        unfold Builtin.«set.__init__» noKeywords Builtin.Frozenset.updateFrom
        generalize hPI : pyIter = PI
        wp_walk
        subst hPI
        refine wpAny_pyIter_list hl1 (wpAny_bind (wpAny_runValue (upd_list ns (by simp [hh]) ⟨_, hol, rfl, nl, rfl⟩ hit hb fun h' tk c a b e => ?_)))
        exact wpAny_pure (wpAny_pure ⟨rfl, h', tk, c, rfl, a, b, e⟩)
      · rcases r₂ with e | fl₂
        · exact hr₂
        · cases fl₂ with
          | ret r =>
            obtain ⟨rfl, h', tk, c, rfl, a, b, e⟩ := hr₂
            repeat (any_goals (first | assumption | wp_step))
            exact h _ _ _ a b e
          | _ => exact hr₂.elim
    | _ => exact hr.elim
end
end Z
namespace Z
open PySem PySem.Spec PyProof.Rows L2
def nubI : List Int → List Int
  | [] => []
  | x :: xs => if x ∈ xs then nubI xs else x :: nubI xs
theorem mem_nubI {y : Int} : ∀ {xs : List Int}, y ∈ nubI xs ↔ y ∈ xs
  | [] => Iff.rfl
  | x :: xs => by
    unfold nubI
    split
    · rename_i h
      rw [mem_nubI, List.mem_cons]
      exact ⟨.inr, fun k => k.elim (fun e => e ▸ h) id⟩
    · rw [List.mem_cons, List.mem_cons, mem_nubI]
theorem nubI_nd : ∀ xs : List Int, (nubI xs).Nodup
  | [] => .nil
  | x :: xs => by
    unfold nubI
    split
    · exact nubI_nd xs
    · rename_i h
      exact List.nodup_cons.mpr ⟨fun k => h (mem_nubI.mp k), nubI_nd xs⟩
/-- sorted(set(xs)) -/
def srtS (xs : List Int) : List Int := srtI (nubI xs)
theorem mem_srtS {y : Int} {xs : List Int} : y ∈ srtS xs ↔ y ∈ xs := ((srtI_perm _).mem_iff).trans mem_nubI
theorem srtS_nd (xs : List Int) : (srtS xs).Nodup := (srtI_perm _).nodup_iff.mpr (nubI_nd xs)
theorem srtS_srt (xs : List Int) : (srtS xs).Pairwise (· ≤ ·) := srtI_srt _
theorem srtS_one {xs ys : List Int} (h : ys.Pairwise (· < ·)) (m : ∀ k, k ∈ ys ↔ k ∈ xs) : ys = srtS xs := by
  refine srt_one ((List.perm_ext_iff_of_nodup (h.imp fun a e => by omega) (srtS_nd xs)).mpr fun k => (m k).trans mem_srtS.symm) (h.imp fun a => by omega) (srtS_srt xs)
def srtSO (xs : List Int) : Option (List Int) := if xs.length < 64 then some (srtS xs) else none
def rSetOfI (K : PySem.W.Frag) (w : World) : List L2.V → Hp → VK → Prop := fun xs H Q => ∃ l ns, xs = [L2.V.ref l] ∧ SqL K H l (List.map L2.V.int ns) ∧ ns.length < 64 ∧ ∀ a c, c ≤ ns.length → H a = none → Q (.ref a) (upd H a (SetO w a (fun j => decide (j ∈ ns)) c))
theorem cr_setOfI {X : Cx} (hc : X.calm = true) : CallR X (.type "set") (rSetOfI X.K X.w) := by
  intro pins s σ H xs us Q I r h
  obtain ⟨l, ns, rfl, hl, hn, q⟩ := h
  obtain ⟨its, rv, pl, hz⟩ := I.list hl
  rw [Vals.ref1 r]
  have fr : H s.heap.objs.size = none := I.hok.fresh (Nat.le_refl _)
  have hi : IntsAre its ns := by simpa using rv.ints
  refine set_of_list (items := its.toArray) ns (I.ok.hd hc) pl.isList (by simpa using hi) (by show ns.length + 1 < 4096; omega) fun h' tk c a b e => ?_
  exact ⟨.ref s.heap.objs.size, _, I.laid (t' := tk) e (Nat.le_refl _) (setO_new a), rfl, q _ c b fr⟩
/-- a set of the ints of a list -/
def oset (w : World) (ns : List Int) : Ent := fun p _ h => ∃ c, c ≤ ns.length ∧ h = one p (SetO w p (fun j => decide (j ∈ ns)) c)
theorem uni_oset {w : World} {ns : List Int} : Uni (oset w ns) (fun _ _ => True) := fun p F h e => by
  obtain ⟨c, _, e⟩ := e
  exact ⟨_, e, trivial⟩
theorem rc_setOfI {X : Cx} {os : Os} {φ : VP} {ns : List Int} (hn : ns.length < 64) (hr : RdL X φ os (ns.map PyData.int)) : RCN (rSetOfI X.K X.w) [φ] os (oset X.w ns) os := fun F H vs Q ow c q => by
  obtain ⟨v, rfl, h⟩ := cla1 c
  obtain ⟨l, us, rfl, h1, h2⟩ := hr F H v ow h
  have e := dqall_of_ints ns h2
  subst e
  exact ⟨l, ns, rfl, h1, hn, fun a c hc ha => q F _ a (Same.refl F) (ow.new ha fun G g => ⟨c, hc, rfl⟩)⟩
section
variable {X : Cx} {es : List Slot} {os os1 : Os} {N V G : List Str} {n gi gj : Nat} {p p2 q pos : Pos} {a : Expr} {φ : VP}
theorem en_sortedSet {ns ms : List Int} (B : Bd X N V G n) (hj : G[gi]? = some "sorted") (hm : X.mg "sorted" = none) (hj2 : G[gj]? = some "set") (hm2 : X.mg "set" = none) (h : srtSO ns = some ms) (hr : RdL X φ os1 (ns.map PyData.int)) (ha : EX X es os a φ os1)
    (na : starEach [a] X.env = (false, eval a X.env) :: starEach [] X.env := by rfl) (nb : starEach [Expr.Call (.Name "set" p2) [a] [] q] X.env = (false, eval (Expr.Call (.Name "set" p2) [a] [] q) X.env) :: starEach [] X.env := by rfl)
    (h1 : (backTo q (starEach [] X.env)).any (·.1) = false := by rfl) (h2 : (backTo pos (starEach [] X.env)).any (·.1) = false := by rfl) : EN X es os (.Call (.Name "sorted" p) [.Call (.Name "set" p2) [a] [] q] [] pos) (ol (ms.map PyData.int)) os1 := by
  unfold srtSO at h
  split at h
  · rename_i hn
    cases h
    have inner : EN X es os (.Call (.Name "set" p2) [a] [] q) (oset X.w ns) os1 := en_ty (T := "set") B hj2 hm2 (by decide +kernel) (cr_setOfI B.calm) (rc_setOfI hn hr) (ax_cons ha ax_nil na) na h1
    obtain ⟨b1, b2⟩ := B.gl _ (List.mem_of_getElem? hj)
    intro F σ H Q ow sl qq
    refine we_of (pe_callB (cr_sortedSet B.calm) b1 hm (by decide +kernel) pa_u (dun_n b2) (dun_d b2) nb h2) (an_n inner (fun q => ax_nil) nb F σ H _ ow sl fun F1 H1 vs r e1 o1 c1 => ?_)
    obtain ⟨v, rfl, hc⟩ := cla1 c1
    obtain rfl : v = .ref r := hc.now
    obtain ⟨_, o, ho, ⟨c, hc', e⟩, _⟩ := Ow.atU uni_oset o1
    have e2 : o = SetO X.w r (fun j => decide (j ∈ ns)) c := by
      have := congrFun e r
      rw [one_at, one_at] at this
      exact Option.some.inj this
    subst e2
    refine ⟨r, _, c, rfl, ho, by omega, fun ks p hp hk hl hf => ?_⟩
    have : ks = srtS ns := srtS_one hp fun k => (hk k).trans (by simp)
    subst this
    exact qq F1 _ p e1 (o1.drop.new hf fun G g => ⟨_, rfl, dqall_ints _⟩)
  · cases h
end
end Z
namespace Z
open PySem PySem.Spec PyProof.Rows L2
def RdE (K : PySem.W.Frag) (e : Ent) (d : PyData) : Prop := d.hasDict = false → ∀ p F os H, Ow F ((p, e) :: os) H → Dp K H (.ref p) d
theorem rde_ol {K : PySem.W.Frag} {ds : List PyData} : RdE K (ol ds) (.list ds) := fun z p F os H ow => by
  obtain ⟨_, vs, ho, hv⟩ := ow.atL
  exact .lst (.of ho) (dqall_dp _ _ _ (by simpa [PyData.hasDict] using z) (dqall_mono ow.ex _ _ hv))
section
variable {K : PySem.W.Frag} {γ : Type} {f : γ → Ent} {g : γ → PyData}
theorem dpall_zip (hf : ∀ w, RdE K (f w) (g w)) : ∀ (qs : List Addr) (ws : List γ) (F : Hp) (os : Os) (H : Hp), qs.length = ws.length → PyData.hasDictAll (ws.map g) = false → Ow F (qs.zip (ws.map f) ++ os) H → DpAll K H (qs.map .ref) (ws.map g)
  | [], [], _, _, _, _, _, _ => .nil
  | [], _ :: _, _, _, _, h, _, _ => by cases h
  | _ :: _, [], _, _, _, h, _, _ => by cases h
  | q :: qs, w :: ws, F, os, H, h, z, ow => by
    have z' : ((g w).hasDict || PyData.hasDictAll (ws.map g)) = false := z
    rw [Bool.or_eq_false_iff] at z'
    exact .cons (hf w z'.1 q F _ H ow) (dpall_zip hf qs ws F ((q, f w) :: os) H (Nat.succ.inj h) z'.2 (ow.perm List.perm_middle.symm))
theorem rde_onl {qs : List Addr} {ws : List γ} (hf : ∀ w, RdE K (f w) (g w)) : RdE K (onl qs (ws.map f)) (.list (ws.map g)) := fun z p F os H ow => by
  obtain ⟨o2, hl⟩ := ow.opn
  obtain ⟨_, o, ho, _, e⟩ := o2.atU uni_orf
  have e : o = .lst (qs.map .ref) := e
  subst e
  exact .lst (.of ho) (dpall_zip hf qs ws F ((p, orf qs) :: os) H (by simpa using hl) (by simpa [PyData.hasDict] using z) (o2.perm List.perm_middle.symm))
theorem rde_onx {ws : List γ} (hf : ∀ w, RdE K (f w) (g w)) : RdE K (onx (ws.map f)) (.list (ws.map g)) := fun z p F os H ow => by
  obtain ⟨qs, o⟩ := ow.opx
  exact rde_onl hf z p F os H o
end
section
variable {X : Cx} {es : List Slot} {os os1 os2 : Os} {N V G W : List Str} {n k : Nat} {p q : Addr} {γ : Type} {f : γ → Ent} {ws : List γ} {w : γ} {d : PyData} {qs : List Addr} {z : Int} {e1 e2 : Expr} {pos : Pos}
theorem rdx_nst (m : Nat) (h : os[m]? = some (p, onl qs (ws.map f))) (hk : idx ws z = some w) (r : RdE X.K (f w) d) : RdX X (own (qa qs z)) os d := fun z F H v ow c => by
  obtain rfl : v = .ref (qa qs _) := c.now
  obtain ⟨tl, _, o, _⟩ := Ow.sub m h hk ow
  exact r z _ F _ H o
theorem en_new2 {y1 y2 : γ} (h1 : EN X es os e1 (f y1) os1) (h2 : ∀ q, EN X es ((q, f y1) :: os1) e2 (f y2) ((q, f y1) :: os2)) (hs : starEach [e1, e2] X.env = [(false, eval e1 X.env), (false, eval e2 X.env)] := by rfl)
    (hs2 : starEach [e2] X.env = [(false, eval e2 X.env)] := by rfl) : EN X es os (.List [e1, e2] pos) (onx ([y1, y2].map f)) os2 := fun F σ H Q ow sl qq =>
  we_of (pe_lst (pa_cons pe_u (pa_cons pe_u pa_nil hs2) (by rw [hs, hs2]))) (h1 F σ H _ ow sl fun F1 H1 p1 a1 o1 => h2 p1 F1 σ H1 _ o1 (sl.mono a1) fun F2 H2 p2 a2 o2 => by
    refine ⟨by show 2 ≤ sizeLine; decide, fun p hp => ?_⟩
    obtain ⟨qs, o3⟩ := (o2.new (p := p) (o := .lst []) (e := onx (([] : List γ).map f)) hp fun G s => onx_nil).opx
    have o3 : Ow F2 ((p1, f y1) :: (p, onl qs (([] : List γ).map f)) :: (p2, f y2) :: os2) _ := o3.perm (((List.Perm.swap _ _ _).cons _).trans (List.Perm.swap _ _ _))
    obtain ⟨_, hl, o4⟩ := o3.snoc
    obtain rfl : qs = [] := List.eq_nil_of_length_eq_zero hl
    obtain ⟨_, hl, o5⟩ := (o4.perm (List.Perm.swap _ _ _)).snoc
    rw [upd_upd, upd_upd] at o5
    exact qq F2 _ p (a1.trans a2) o5.clx)
end
end Z
namespace Z
open PySem PySem.Spec PyProof.Rows L2
section
variable {X : Cx} {es : List Slot} {os os1 os2 : Os} {F0 : Hp} {rest : List Stmt} {D : Ends} {N V G W : List Str} {k : Nat} {α : Type}
/-- as sx_forR; what is walked may be known only when it has been made (ι) -/
theorem sx_forI {ι R S : Type} {tg iter : Expr} {body : List Stmt} {xs : List α} {vp : ι → α → VP} {c : ι → Os → Prop} {up : ι → α → List Slot → List Slot} {fpos : Pos} (f : S → α → Option (Step R S)) (ES : ι → S → List Slot) (OS : ι → S → Os) (RT : R → L2.V → Hp → Prop)
    (B : Bd X N W G k) (T : Bt X V) (hg : ∀ i x, GX X tg (vp i x) (up i x)) (s0 : S) (o : Sum R S) (hl : lpR f xs s0 = some o)
    (hi : ∀ F σ H Q, Ow F os H → Sl F es σ → (∀ F' H' J i, Same F F' → Ow F' (OS i s0) H' → Good J F' xs (vp i) (c i) → Q J H') → WI X tg iter σ H Q) (h0 : ∀ i, Wk es (ES i s0)) (hc : ∀ i s, c i (OS i s))
    (hb : ∀ i F1, Same F0 F1 → ∀ s x t, x ∈ xs → f s x = some t → SX X (up i x (ES i s)) (OS i s) F1 body (LpD F1 (fun s (_ : Unit) => ES i s) (fun s _ => OS i s) RT t))
    (hn : ∀ i s, o = .inr s → SX X (ES i s) (OS i s) F0 rest D) (hr : ∀ r v H, o = .inl r → RT r v H → D.rt v H) (hs : ∀ x, foldedSetIterable iter X.env x = pure x := by intro _; rfl) : SX X es os F0 (.For tg iter body [] fpos :: rest) D := fun F σ H s ow sl => by
  refine wps_cons (ws_of (ps_for T.po B.calm pi_u pg_u pss_u hs) (hi F σ H _ ow sl fun F1 H1 J i e1 o1 good => ?_))
  refine ⟨fun a m σ' H' => m = xs.length - a ∧ a ≤ xs.length ∧ ∃ s', lpR f (xs.drop a) s' = some o ∧ ∃ F', Same F1 F' ∧ Ow F' (OS i s') H' ∧ Sl F' (ES i s') σ', ⟨_, rfl, Nat.zero_le _, s0, hl, F1, Same.refl F1, o1, (sl.mono e1).weak (h0 i)⟩, ?_⟩
  rintro a m σ' H' ⟨rfl, ha, s', hl', F', e', o', sl'⟩
  obtain ⟨stop, go⟩ := good F' H' (OS i s') a e' o' (hc i s')
  cases hx : xs[a]? with
  | none =>
    have ha2 : xs.length ≤ a := List.getElem?_eq_none_iff.mp hx
    refine .inl ⟨stop ha2, ?_⟩
    rw [List.drop_eq_nil_of_le ha2] at hl'
    cases hl'
    exact hn i s' rfl F' σ' H' ((s.trans e1).trans e') o' sl'
  | some x =>
    obtain ⟨hgo, hy⟩ := go x hx
    have hlt : a < xs.length := (List.getElem?_eq_some_iff.mp hx).1
    rw [drop_cons' hx] at hl'
    cases hf : f s' x with
    | none =>
      unfold lpR at hl'
      rw [hf] at hl'
      cases hl'
    | some t =>
      unfold lpR at hl'
      rw [hf] at hl'
      have hl2 : Step.aft (lpR f (xs.drop (a + 1))) t = some o := hl'
      refine .inr ⟨hgo, fun σ2 H2 => ∃ s2, t = .go s2 ∧ ∃ F2, Same F1 F2 ∧ Ow F2 (OS i s2) H2 ∧ Sl F2 (ES i s2) σ2, ?_, ?_⟩
      · rintro σ2 H2 ⟨s2, rfl, F2, e2, o2, sl2⟩
        exact ⟨_, by omega, rfl, by omega, s2, hl2, F2, e2, o2, sl2⟩
      · intro v H3 yv
        obtain ⟨F3, e3, o3, c3⟩ := hy v H3 yv
        refine hg i x _ _ F3 σ' H3 v _ o3 (sl'.mono e3) c3 fun σ4 sl4 => ?_
        have key := hb i F1 (s.trans e1) s' x t (List.mem_of_getElem? hx) hf
        have q3 : Same F1 F3 := e'.trans e3
        intro pins sh I
        refine wpAny_mono (key F3 σ4 H3 q3 o3 sl4 pins sh I) (fun fl s5 z => ?_) fun _ _ z => z
        cases fl with
        | next =>
          obtain ⟨σ5, H5, J5, s5', g5, et, F5, e5, o5, sl5⟩ := z
          exact ⟨σ5, H5, J5, s5', et, F5, e5, o5, sl5⟩
        | cont =>
          obtain ⟨σ5, H5, J5, s5', g5, et, F5, e5, o5, sl5⟩ := z
          exact ⟨σ5, H5, J5, s5', et, F5, e5, o5, sl5⟩
        | brk =>
          obtain ⟨σ5, H5, J5, s5', g5, et, F5, e5, o5, sl5⟩ := z
          subst et
          cases hl2
          exact ⟨σ5, H5, J5, hn i s5' rfl F5 σ5 H5 ((s.trans e1).trans e5) o5 sl5⟩
        | ret u =>
          obtain ⟨w, σ5, H5, J5, rv, r, et, rr⟩ := z
          subst et
          cases hl2
          exact ⟨w, σ5, H5, J5, rv, hr r w H5 rfl rr⟩
/-- a new list of owned things in a walk's head -/
theorem in_nest {γ : Type} {tg e : Expr} {f : γ → Ent} {ws : List γ} (he : EN X es os e (onx (ws.map f)) os1) : ∀ F σ H (Q : It → Hp → Prop), Ow F os H → Sl F es σ →
    (∀ F' H' J (i : Addr × List Addr), Same F F' → Ow F' ((i.1, onl i.2 (ws.map f)) :: os1) H' → Good J F' (range' 0 (ws.length : Int)) (fun x => own (qa i.2 x)) (fun o => ∃ ws' : List γ, o[0]? = some (i.1, onl i.2 (ws'.map f))) → Q J H') → WI X tg e σ H Q := fun F σ H R ow sl q =>
  wi_of (pi_list pe_u) (he F σ H _ ow sl fun F1 H1 p e1 o1 => by
    obtain ⟨qs, o1⟩ := o1.opx
    obtain ⟨h1, hl⟩ := nest_at 0 rfl o1
    refine ⟨p, rfl, ⟨qs.map .ref, .of h1⟩, q F1 H1 _ (p, qs) e1 o1 fun F2 H2 os2 i s ow2 k2 => ?_⟩
    obtain ⟨ws', k2⟩ := k2
    obtain ⟨g1, _⟩ := nest_at 0 k2 ow2
    refine ⟨fun h => ⟨qs.map .ref, .of g1, by
      have := rng_none h
      rw [List.length_map]
      omega⟩, fun x hx => ?_⟩
    obtain ⟨rfl, hi⟩ := rng_get hx
    have hq : qs[i]? = some (qa qs (i : Int)) := by
      unfold qa
      have : ixD qs.length (i : Int) = i := by
        unfold ixD ixN
        rw [if_pos (by omega), if_pos (by omega)]
        show ((i : Int)).toNat = i
        omega
      rw [this]
      exact getD_at (by omega)
    have hu : (qs.map L2.V.ref)[i]? = some (.ref (qa qs (i : Int))) := by rw [List.getElem?_map, hq]; rfl
    refine ⟨⟨qs.map .ref, _, .of g1, hu⟩, fun w H3 y => ?_⟩
    obtain ⟨rfl, hy⟩ := y
    have ew : (qs.map L2.V.ref)[i]? = some w := hy _ (.of g1)
    rw [hu] at ew
    cases ew
    exact ⟨F2, Same.refl F2, ow2, cl_own⟩)
end
end Z
namespace L31
open PySem PySem.Spec L2 Z
/-- straightened -/
def m_p_straightened (walk : (List Int)) : Option (List Int) :=
  ((lp (fun (s1 : (List Int)) (step2 : Int) => ((if (decide (0 < (s1.length : Int))) = true then ((idx s1 (-1)).bind fun t6 => some (decide (t6 = (-step2)))) else some false).bind fun t7 => ((if t7 = true then ((popO s1).bind fun t8 => some t8.2) else ((appO s1 step2).bind fun t9 => some t9) : Option (List Int)).bind fun s10 => some s10))) walk ([] : (List Int))).bind fun f3 => some f3)
/-- turned_back -/
def m_p_turned_back (walk : (List Int)) : Option (List Int) :=
  ((lcT (fun (step1 : Int) => (-step1)) walk.reverse).bind fun t3 => some t3)
/-- is_integer -/
def m_p_is_integer (value : Int) : Option Bool :=
  some (true && true)
/-- is_letters -/
def m_p_is_letters (value : Int) : Option Bool :=
  ((m_p_is_integer value).bind fun t1 => some (t1 && (decide (1 ≤ value) && decide (value ≤ 4))))
/-- is_step -/
def m_p_is_step (value : Int) (letters : Int) : Option Bool :=
  ((m_p_is_integer value).bind fun t1 => some (t1 && (decide (1 ≤ (absI value)) && decide ((absI value) ≤ letters))))
/-- is_a_walk -/
def m_p_is_a_walk (value : (List Int)) (letters : Int) : Option Bool :=
  ((if true = true then ((lcO (β := Bool) (fun (step1 : Int) => ((m_p_is_step step1 letters).bind fun t3 => some t3)) value).bind fun t4 => some (t4.all id)) else some false).bind fun t5 => some t5)
/-- need_walk -/
def m_p_need_walk (walk : (List Int)) (letters : Int) : Option Unit :=
  ((m_p_is_a_walk walk letters).bind fun t1 => (if (!t1) = true then none else some ()))
/-- need_number -/
def m_p_need_number (number : Int) (low : Int) (high : Int) : Option Unit :=
  (if ((decide (number < low)) || (true && (decide (high < number)))) = true then none else some ())
/-- is_a_part -/
def m_p_is_a_part (value : ((List Int) × Int)) (letters : Int) : Option Bool :=
  ((if false = true then some true else ((if (!decide (2 = 2)) = true then some true else ((m_p_is_a_walk value.1 letters).bind fun t1 => some (!t1))).bind fun t2 => some t2)).bind fun t3 => (if t3 = true then some false else ((m_p_is_integer value.2).bind fun t4 => some (t4 && (decide (1 ≤ (absI value.2)) && decide ((absI value.2) ≤ 1000000000000000000000000000000))))))
/-- is_a_short -/
def m_p_is_a_short (value : (List ((List Int) × Int))) (letters : Int) : Option Bool :=
  (if (false || (decide (60 < (value.length : Int)))) = true then some false else ((lcO (β := Bool) (fun (part_1 : ((List Int) × Int)) => ((m_p_is_a_part part_1 letters).bind fun t3 => some t3)) value).bind fun t4 => some (t4.all id)))
/-- need_short -/
def m_p_need_short (short : (List ((List Int) × Int))) (letters : Int) : Option Unit :=
  ((m_p_is_a_short short letters).bind fun t1 => (if (!t1) = true then none else some ()))
/-- is_a_turn -/
def m_p_is_a_turn (value : (List Int)) (many : Int) : Option Bool :=
  ((if false = true then some true else ((if (!decide ((value.length : Int) = many)) = true then some true else ((lcO (β := Bool) (fun (place1 : Int) => ((m_p_is_integer place1).bind fun t3 => some t3)) value).bind fun t4 => some (!(t4.all id)))).bind fun t5 => some t5)).bind fun t6 => (if t6 = true then some false else ((rgO 0 many).bind fun t7 => some (decide ((srtI value) = t7)))))
/-- is_a_book -/
def m_p_is_a_book (value : (Int × (List (List Int)))) : Option Bool :=
  ((if false = true then some true else ((if (!decide (2 = 2)) = true then some true else ((m_p_is_letters value.1).bind fun t1 => some (!t1))).bind fun t2 => some t2)).bind fun t3 => (if t3 = true then some false else ((if false = true then some true else ((if (!decide ((value.2.length : Int) = value.1)) = true then some true else ((idx value.2 0).bind fun t4 => some false)).bind fun t5 => some t5)).bind fun t6 => (if t6 = true then some false else ((idx value.2 0).bind fun t7 => ((if (decide (1 ≤ (t7.length : Int)) && decide ((t7.length : Int) ≤ 40)) = true then ((lcO (β := Bool) (fun (turn8 : (List Int)) => ((m_p_is_a_turn turn8 (t7.length : Int)).bind fun t10 => some t10)) value.2).bind fun t11 => some (t11.all id)) else some false).bind fun t12 => some t12))))))
/-- is_book -/
def m_p_is_book (value : (Int × (List (List Int)))) : Option Bool :=
  ((m_p_is_a_book value).bind fun t1 => some t1)
/-- need_book -/
def m_p_need_book (book : (Int × (List (List Int)))) : Option Unit :=
  ((m_p_is_a_book book).bind fun t1 => (if (!t1) = true then none else some ()))
/-- places_of -/
def m_p_places_of (book : (Int × (List (List Int)))) : Option Int :=
  ((idx book.2 0).bind fun t1 => some (t1.length : Int))
/-- need_place -/
def m_p_need_place (book : (Int × (List (List Int)))) (place : Int) : Option Unit :=
  ((m_p_places_of book).bind fun t1 => (m_p_need_number place 0 (t1 - 1)).bind fun t2 => some ())
/-- turns_by_step -/
def m_p_turns_by_step (book : (Int × (List (List Int)))) : Option (List (Int × (List Int))) :=
  ((rngO 1 (book.1 + 1)).bind fun t1 => ((lp (fun (s2 : (List (Int × (List Int)))) (letter3 : Int) => ((idx book.2 (letter3 - 1)).bind fun t7 => ((repO ([0]) (t7.length : Int)).bind fun t8 => ((lp (fun (s9 : (List Int)) (x10 : (Int × Int)) => ((setO s9 x10.2 x10.1).bind fun t14 => some t14)) (enum t7) t8).bind fun f11 => ((dPutO s2 letter3 t7).bind fun t16 => (dPutO t16 (-letter3) f11).bind fun t17 => some t17))))) t1 ([] : (List (Int × (List Int))))).bind fun f4 => some f4))
/-- turned_by -/
def m_p_turned_by (book : (Int × (List (List Int)))) (walk : (List Int)) : Option (List Int) :=
  ((m_p_turns_by_step book).bind fun t1 => (m_p_places_of book).bind fun t2 => (rgO 0 t2).bind fun t3 => ((lp (fun (s4 : (List Int)) (step5 : Int) => ((lcO (β := Int) (fun (place9 : Int) => ((dGet t1 step5).bind fun t11 => (idx t11 place9).bind fun t12 => some t12)) s4).bind fun t13 => some t13)) walk t3).bind fun f6 => some f6))
/-- circles_of -/
def m_p_circles_of (turn : (List Int)) : Option (List (List Int)) :=
  ((rngO 0 (turn.length : Int)).bind fun t4 => ((lp (fun (s5 : ((List (Int × Bool)) × (List (List Int)))) (first6 : Int) => ((wh (fun (s12 : (Int × (List Int) × (List (Int × Bool)))) => some (!(dGet s12.2.2 s12.1).isSome)) (fun (s12 : (Int × (List Int) × (List (Int × Bool)))) => (((dPutO s12.2.2 s12.1 true).bind fun t16 => ((appO s12.2.1 s12.1).bind fun t17 => ((idx turn s12.1).bind fun t18 => some (Step.go (t18, t17, t16))))) : Option (Step (List (List Int)) (Int × (List Int) × (List (Int × Bool)))))) 10000 (first6, ([] : (List Int)), s5.1)).bind fun f13o => Sum.elim (fun r21 => none) (fun f13 => ((if (decide (0 < (f13.2.1.length : Int))) = true then ((appO s5.2 (srtI f13.2.1)).bind fun t19 => some t19) else some s5.2 : Option (List (List Int))).bind fun s20 => some (f13.2.2, s20))) f13o)) t4 (([] : (List (Int × Bool))), ([] : (List (List Int))))).bind fun f7 => some f7.2))
/-- turned_often -/
def m_p_turned_often (turn : (List Int)) (times : Int) : Option (List Int) :=
  ((rngO 0 (turn.length : Int)).bind fun t1 => ((lp (fun (s2 : (List Int)) (first3 : Int) => ((idx turn first3).bind fun t8 => ((wh (fun (s9 : (Int × (List Int))) => some (!decide (s9.1 = first3))) (fun (s9 : (Int × (List Int))) => (((appO s9.2 s9.1).bind fun t13 => ((idx turn s9.1).bind fun t14 => some (Step.go (t14, t13)))) : Option (Step (List Int) (Int × (List Int))))) 10000 (t8, [first3])).bind fun f10o => Sum.elim (fun r18 => none) (fun f10 => ((modO times (f10.2.length : Int)).bind fun t15 => (idx f10.2 t15).bind fun t16 => (setO s2 first3 t16).bind fun t17 => some t17)) f10o))) t1 turn).bind fun f4 => some f4))
/-- short_turn -/
def m_p_short_turn (book : (Int × (List (List Int)))) (short : (List ((List Int) × Int))) : Option (List Int) :=
  ((m_p_need_book book).bind fun t1 => ((m_p_need_short short book.1).bind fun t2 => ((m_p_places_of book).bind fun t3 => (rgO 0 t3).bind fun t4 => ((lp (fun (s5 : (List Int)) (x6 : ((List Int) × Int)) => ((if (decide (0 < x6.2)) = true then some x6.1 else ((m_p_turned_back x6.1).bind fun t10 => some t10)).bind fun t11 => ((m_p_turned_by book t11).bind fun t12 => (m_p_turned_often t12 (absI x6.2)).bind fun t13 => ((lcO (β := Int) (fun (place14 : Int) => ((idx t13 place14).bind fun t16 => some t16)) s5).bind fun t17 => some t17)))) short t4).bind fun f7 => some f7))))
/-- turn_of -/
def m_p_turn_of (book : (Int × (List (List Int)))) (walk : (List Int)) : Option (List Int) :=
  ((m_p_need_book book).bind fun t1 => ((m_p_need_walk walk book.1).bind fun t2 => ((m_p_turned_by book walk).bind fun t3 => some t3)))
/-- place_after -/
def m_p_place_after (book : (Int × (List (List Int)))) (place : Int) (walk : (List Int)) : Option Int :=
  ((m_p_need_book book).bind fun t1 => ((m_p_need_place book place).bind fun t2 => ((m_p_need_walk walk book.1).bind fun t3 => ((m_p_turned_by book walk).bind fun t4 => (idx t4 place).bind fun t5 => some t5))))
/-- circles -/
def m_p_circles (book : (Int × (List (List Int)))) (walk : (List Int)) : Option (List (List Int)) :=
  ((m_p_need_book book).bind fun t1 => ((m_p_need_walk walk book.1).bind fun t2 => ((m_p_turned_by book walk).bind fun t3 => (m_p_circles_of t3).bind fun t4 => some t4)))
/-- times_round -/
def m_p_times_round (book : (Int × (List (List Int)))) (walk : (List Int)) : Option Int :=
  ((m_p_circles book walk).bind fun t1 => ((lp (fun (s2 : Int) (circle3 : (List Int)) => ((lcmO s2 (circle3.length : Int)).bind fun t7 => some t7)) t1 1).bind fun f4 => some f4))
/-- parts -/
def m_p_parts (book : (Int × (List (List Int)))) : Option (List (List Int)) :=
  ((m_p_need_book book).bind fun t1 => ((m_p_places_of book).bind fun t5 => (rngO 0 t5).bind fun t6 => ((lp (fun (s7 : ((List (Int × Bool)) × (List (List Int)))) (first8 : Int) => ((if (!(dGet s7.1 first8).isSome) = true then ((dPutO s7.1 first8 true).bind fun t14 => ((wh (fun (s15 : (Int × (List Int) × (List (Int × Bool)))) => some (decide (s15.1 < (s15.2.1.length : Int)))) (fun (s15 : (Int × (List Int) × (List (Int × Bool)))) => (((lp (fun (s19 : ((List Int) × (List (Int × Bool)))) (turn20 : (List Int)) => ((idx s19.1 s15.1).bind fun t24 => (idx turn20 t24).bind fun t25 => ((if (!(dGet s19.2 t25).isSome) = true then ((dPutO s19.2 t25 true).bind fun t26 => ((appO s19.1 t25).bind fun t27 => some (t27, t26))) else some (s19.1, s19.2) : Option ((List Int) × (List (Int × Bool)))).bind fun s28 => some (s28.1, s28.2)))) book.2 (s15.2.1, s15.2.2)).bind fun f21 => some (Step.go ((s15.1 + 1), f21.1, f21.2))) : Option (Step (List (List Int)) (Int × (List Int) × (List (Int × Bool)))))) 10000 (0, [first8], t14)).bind fun f16o => Sum.elim (fun r32 => none) (fun f16 => ((appO s7.2 (srtI f16.2.1)).bind fun t31 => some (f16.2.2, t31))) f16o)) else some (s7.1, s7.2) : Option ((List (Int × Bool)) × (List (List Int)))).bind fun s35 => some (s35.1, s35.2))) t6 (([] : (List (Int × Bool))), ([] : (List (List Int))))).bind fun f9 => some f9.2)))
/-- power -/
def m_p_power (walk : (List Int)) (times : Int) : Option (List Int) :=
  ((m_p_need_walk walk 4).bind fun t1 => ((m_p_need_number times (-20) 20).bind fun t2 => ((m_p_straightened walk).bind fun t3 => ((if (decide (times < 0)) = true then ((m_p_turned_back t3).bind fun t4 => some t4) else some t3 : Option (List Int)).bind fun s5 => ((repT s5 (absI times)).bind fun t6 => (m_p_straightened t6).bind fun t7 => some t7)))))
/-- _law_well -/
def m_l_well (script : (List Int)) (k_ : Int) : Option (List Int) :=
  ((if (decide (k_ < (script.length : Int))) = true then ((idx script k_).bind fun t1 => some t1) else some (((43 * k_) + 29) + (7 * (script.length : Int))) : Option Int).bind fun s2 => ((lcT (fun (other3 : Int) => (other3 % 1000000000000000000000007)) script).bind fun t5 => ((some ((((((absI s2) * 60013) + (11 * (if (decide (s2 < 0)) = true then 1 else 0))) + (t5.sum * 1327217)) + (97 * k_)) % 1000000000000000000000000000057)).bind fun seed6 => some [(maxI 0 (s2 - 1000000000000000000)), seed6, 0])))
/-- _law_pick -/
def m_l_pick (w_well_here : (List Int)) (many : Int) : Option (Int × (List Int)) :=
  ((idx w_well_here 0).bind fun t1 => (if (decide (0 < t1)) = true then ((idx w_well_here 0).bind fun t2 => (modO t2 many).bind fun t3 => ((idx w_well_here 0).bind fun t4 => (fdivO t4 many).bind fun t5 => (setO w_well_here 0 t5).bind fun t6 => some (t3, t6))) else ((idx w_well_here 2).bind fun t7 => (setO w_well_here 2 (t7 + 1)).bind fun t8 => ((idx t8 1).bind fun t9 => (idx t8 2).bind fun t10 => (powO (t9 + (161803398 * t10)) 3).bind fun t11 => (idx t8 2).bind fun t12 => ((idx t8 2).bind fun t13 => (mulW ((t11 + (29 * t12)) % 10000000000000000000000000000033) (((t11 + (29 * t12)) % 10000000000000000000000000000033) + (5113 * t13))).bind fun t14 => ((modO ((t14 % 100000000000000000000000000319) / 12289) many).bind fun t15 => some (t15, t8)))))))
/-- _law_back -/
def m_l_back (walk_here : (List Int)) : Option (List Int) :=
  ((lcT (fun (step1 : Int) => (-step1)) walk_here.reverse).bind fun t3 => some t3)
/-- _law_straight -/
def m_l_straight (walk_here : (List Int)) : Option (List Int) :=
  ((lp (fun (s1 : (List Int)) (step2 : Int) => ((if (decide (0 < (s1.length : Int))) = true then ((idx s1 (-1)).bind fun t6 => some (decide (t6 = (-step2)))) else some false).bind fun t7 => ((if t7 = true then ((popO s1).bind fun t8 => some t8.2) else ((appO s1 step2).bind fun t9 => some t9) : Option (List Int)).bind fun s10 => some s10))) walk_here ([] : (List Int))).bind fun f3 => some f3)
/-- _law_walk -/
def m_l_walk (w_well_here : (List Int)) (letters : Int) (most : Int) : Option ((List Int) × (List Int)) :=
  ((m_l_pick w_well_here (most + 1)).bind fun t1 => (rngO 0 t1.1).bind fun t2 => ((lp (fun (s3 : ((List Int) × (List Int))) (turn_here4 : Int) => ((m_l_pick s3.1 letters).bind fun t8 => ((m_l_pick t8.2 2).bind fun t9 => (appO s3.2 (if (decide (t9.1 = 0)) = true then (1 + t8.1) else (-(1 + t8.1)))).bind fun t10 => some (t9.2, t10)))) t2 (t1.2, ([] : (List Int)))).bind fun f5 => some (f5.2, f5.1)))
/-- _law_turn -/
def m_l_turn (w_well_here : (List Int)) (many : Int) : Option ((List Int) × (List Int)) :=
  ((rgO 0 many).bind fun t1 => ((wh (fun (s4 : ((List Int) × (List Int) × (List Int))) => some (decide (0 < (s4.2.1.length : Int)))) (fun (s4 : ((List Int) × (List Int) × (List Int))) => (((m_l_pick s4.2.2 (s4.2.1.length : Int)).bind fun t8 => (popI s4.2.1 t8.1).bind fun t9 => (appO s4.1 t9.1).bind fun t10 => some (Step.go (t10, t9.2, t8.2))) : Option (Step ((List Int) × (List Int)) ((List Int) × (List Int) × (List Int))))) 10000 (([] : (List Int)), t1, w_well_here)).bind fun f5o => Sum.elim (fun r11 => none) (fun f5 => some (f5.1, f5.2.2)) f5o))
/-- _law_book -/
def m_l_book (w_well_here : (List Int)) (letters : Int) (many : Int) : Option ((Int × (List (List Int))) × (List Int)) :=
  ((rngO 0 letters).bind fun t1 => ((lp (fun (s2 : ((List (List Int)) × (List Int))) (letter3 : Int) => ((m_l_pick s2.2 5).bind fun t7 => (m_l_pick t7.2 many).bind fun t8 => ((if (decide (t7.1 < 3)) = true then ((m_l_turn t8.2 many).bind fun t9 => (appO s2.1 t9.1).bind fun t10 => some (t9.2, t10)) else some (t8.2, s2.1) : Option ((List Int) × (List (List Int)))).bind fun s11 => ((if (decide (t7.1 = 3)) = true then ((rngO 0 many).bind fun t12 => (lcO (β := Int) (fun (place13 : Int) => ((modO (place13 + t8.1) many).bind fun t15 => some t15)) t12).bind fun t16 => (appO s11.2 t16).bind fun t17 => some t17) else some s11.2 : Option (List (List Int))).bind fun s18 => ((if (decide (t7.1 = 4)) = true then ((m_l_pick s11.1 many).bind fun t19 => (rgO 0 many).bind fun t20 => ((setO t20 t8.1 t19.1).bind fun t22 => ((setO t22 t19.1 t8.1).bind fun t23 => ((appO s18 t23).bind fun t24 => some (t19.2, t24))))) else some (s11.1, s18) : Option ((List Int) × (List (List Int)))).bind fun s25 => some (s25.2, s25.1)))))) t1 (([] : (List (List Int))), w_well_here)).bind fun f4 => some ((letters, f4.1), f4.2)))
/-- _law_short -/
def m_l_short (w_well_here : (List Int)) (letters : Int) (most : Int) : Option ((List ((List Int) × Int)) × (List Int)) :=
  ((m_l_pick w_well_here (most + 1)).bind fun t1 => (rngO 0 t1.1).bind fun t2 => ((lp (fun (s3 : ((List Int) × (List ((List Int) × Int)))) (turn_here4 : Int) => ((m_l_pick s3.1 3).bind fun t8 => (m_l_pick t8.2 9).bind fun t9 => ((if (decide (0 < t8.1)) = true then ((m_l_pick t9.2 3).bind fun t10 => (m_l_pick t10.2 1000000000000000000000000000000).bind fun t11 => (idx ([(1000000000000000000000000000000 - t10.1), (1 + t11.1)]) (t8.1 - 1)).bind fun t12 => some (t12, t11.2)) else some ((1 + t9.1), t9.2) : Option (Int × (List Int))).bind fun s13 => ((m_l_pick s13.2 3).bind fun t14 => (idx ([6, 6, 60]) t14.1).bind fun t15 => (m_l_walk t14.2 letters t15).bind fun t16 => ((m_l_pick t16.2 2).bind fun t17 => (appO s3.2 (t16.1, (if (decide (t17.1 = 0)) = true then s13.1 else (-s13.1)))).bind fun t18 => some (t17.2, t18)))))) t2 (t1.2, ([] : (List ((List Int) × Int))))).bind fun f5 => some (f5.2, f5.1)))
/-- _law_rows -/
def m_l_rows (book_here : (Int × (List (List Int)))) : Option (List (Int × (List Int))) :=
  ((lp (fun (s1 : (List (Int × (List Int)))) (x2 : (Int × (List Int))) => ((lp (fun (s6 : (List Int)) (x7 : (Int × Int)) => ((setO s6 x7.2 x7.1).bind fun t11 => some t11)) (enum x2.2) x2.2).bind fun f8 => ((dPutO s1 (x2.1 + 1) x2.2).bind fun t13 => ((dPutO t13 ((-x2.1) - 1) f8).bind fun t14 => some t14)))) (enum book_here.2) ([] : (List (Int × (List Int))))).bind fun f3 => some f3)
/-- _law_goals -/
def m_l_goals (book_here : (Int × (List (List Int)))) (walk_here : (List Int)) : Option (List Int) :=
  ((idx book_here.2 0).bind fun t1 => (rgO 0 (t1.length : Int)).bind fun t2 => (m_l_rows book_here).bind fun t3 => ((lp (fun (s4 : (List Int)) (step5 : Int) => ((lcO (β := Int) (fun (place9 : Int) => ((dGet t3 step5).bind fun t11 => (idx t11 place9).bind fun t12 => some t12)) s4).bind fun t13 => some t13)) walk_here t2).bind fun f6 => some f6))
/-- _law_far_goals -/
def m_l_far_goals (turn_here : (List Int)) (times : Int) : Option (List Int) :=
  ((rgO 0 (turn_here.length : Int)).bind fun t1 => ((wh (fun (s2 : ((List Int) × Int × (List Int))) => some (decide (0 < s2.2.1))) (fun (s2 : ((List Int) × Int × (List Int))) => (((if (decide ((s2.2.1 % 2) = 1)) = true then ((lcO (β := Int) (fun (here6 : Int) => ((idx s2.2.2 here6).bind fun t8 => some t8)) s2.1).bind fun t9 => some t9) else some s2.1 : Option (List Int)).bind fun s10 => ((lcO (β := Int) (fun (here11 : Int) => ((idx s2.2.2 here11).bind fun t13 => some t13)) s2.2.2).bind fun t14 => some (Step.go (s10, (s2.2.1 / 2), t14)))) : Option (Step (List Int) ((List Int) × Int × (List Int))))) 10000 (t1, times, turn_here)).bind fun f3o => Sum.elim (fun r15 => none) (fun f3 => some f3.1) f3o))
/-- _law_short_goals -/
def m_l_short_goals (book_here : (Int × (List (List Int)))) (short_here : (List ((List Int) × Int))) : Option (List Int) :=
  ((idx book_here.2 0).bind fun t1 => (rgO 0 (t1.length : Int)).bind fun t2 => ((lp (fun (s3 : (List Int)) (x4 : ((List Int) × Int)) => ((if (decide (0 < x4.2)) = true then some x4.1 else ((m_l_back x4.1).bind fun t8 => some t8)).bind fun t9 => (m_l_goals book_here t9).bind fun t10 => (m_l_far_goals t10 (absI x4.2)).bind fun t11 => ((lcO (β := Int) (fun (here12 : Int) => ((idx t11 here12).bind fun t14 => some t14)) s3).bind fun t15 => some t15))) short_here t2).bind fun f5 => some f5))
/-- _law_circles -/
def m_l_circles (turn_here : (List Int)) : Option (List (List Int)) :=
  ((rngO 0 (turn_here.length : Int)).bind fun t1 => ((lp (fun (s2 : (List (List Int))) (place3 : Int) => ((idx turn_here place3).bind fun t8 => ((wh (fun (s9 : (Int × (List Int))) => some (!decide (s9.1 = place3))) (fun (s9 : (Int × (List Int))) => (((appO s9.2 s9.1).bind fun t13 => ((idx turn_here s9.1).bind fun t14 => some (Step.go (t14, t13)))) : Option (Step (List (List Int)) (Int × (List Int))))) 10000 (t8, [place3])).bind fun f10o => Sum.elim (fun r18 => none) (fun f10 => ((minO f10.2).bind fun t15 => ((if (decide (t15 = place3)) = true then ((appO s2 (srtI f10.2)).bind fun t16 => some t16) else some s2 : Option (List (List Int))).bind fun s17 => some s17))) f10o))) t1 ([] : (List (List Int)))).bind fun f4 => some f4))
/-- _law_common_round -/
def m_l_common_round (circles_told : (List (List Int))) : Option Int :=
  ((lp (fun (s1 : Int) (circle2 : (List Int)) => ((wh (fun (s6 : (Int × Int)) => some (decide (0 < s6.2))) (fun (s6 : (Int × Int)) => (((modO s6.1 s6.2).bind fun t10 => some (Step.go (s6.2, t10))) : Option (Step Int (Int × Int)))) 10000 (s1, (circle2.length : Int))).bind fun f7o => Sum.elim (fun r13 => none) (fun f7 => ((mulO s1 (circle2.length : Int)).bind fun t11 => (fdivO t11 f7.1).bind fun t12 => some t12)) f7o)) circles_told 1).bind fun f3 => some f3)
/-- _law_parts -/
def m_l_parts (book_here : (Int × (List (List Int)))) : Option (List (List Int)) :=
  ((idx book_here.2 0).bind fun t1 => (rgO 0 (t1.length : Int)).bind fun t2 => ((lp (fun (s3 : (List Int)) (turn_here4 : (List Int)) => ((lp (fun (s8 : (List Int)) (x9 : (Int × Int)) => ((idx s8 x9.1).bind fun t13 => (idx s8 x9.2).bind fun t14 => ((lcT (fun (mark15 : Int) => (if (([t13, t14]).contains mark15) = true then (minI t13 t14) else mark15)) s8).bind fun t17 => some t17))) (enum turn_here4) s3).bind fun f10 => some f10)) book_here.2 t2).bind fun f5 => ((srtSO f5).bind fun t21 => (lcO (β := (List Int)) (fun (mark22 : Int) => ((lcF (fun (x24 : (Int × Int)) => (decide (x24.2 = mark22))) (fun (x24 : (Int × Int)) => x24.1) (enum f5)).bind fun t26 => some t26)) t21).bind fun t27 => some t27)))
/-- _law_spoilt -/
def m_l_spoilt (w_told : (List (List Int))) : Option (Bool × (List (List Int))) :=
  ((lcO (β := Int) (fun (one2 : Int) => ((idx w_told one2).bind fun t4 => some (t4.length : Int))) (range' 0 (w_told.length : Int))).bind fun t5 => ((lp (fun (s6 : (List (List Int))) (one7 : Int) => ((idx s6 one7).bind fun t11 => (appO t11 (-1)).bind fun t12 => some (setI s6 one7 t12))) (range' 0 (w_told.length : Int)) w_told).bind fun f8 => ((lcO (β := Int) (fun (one14 : Int) => ((idx f8 one14).bind fun t16 => some (t16.length : Int))) (range' 0 (f8.length : Int))).bind fun t17 => (lcT (fun (size18 : Int) => (size18 + 1)) t5).bind fun t20 => ((appO f8 ([] : (List Int))).bind fun t21 => some ((decide (t17 = t20)), t21)))))
/-- _law_lists_right -/
def m_l_lists_right (book_here : (Int × (List (List Int)))) (walk_here : (List Int)) (groups : (List (List Int))) : Option Bool :=
  ((reprO (PyData.list (List.map (eL PyData.int) groups))).bind fun t1 => (m_l_parts book_here).bind fun t2 => (reprO (PyData.list (List.map (eL PyData.int) t2))).bind fun t3 => ((m_p_circles book_here walk_here).bind fun t4 => (m_p_circles book_here walk_here).bind fun t6 => ((lpR (fun (s8 : (List (List (List Int)))) (told9 : Int) => (((idx s8 told9).bind fun t13 => (reprO (PyData.list (List.map (eL PyData.int) t13))).bind fun t14 => (if (!decide (t14 = t1)) = true then some (true, s8) else ((idx s8 told9).bind fun t15 => (m_l_spoilt t15).bind fun t18 => some ((!t18.1), (setI s8 told9 t18.2)))).bind fun t19 => (if t19.1 = true then some (Step.ret false) else some (Step.go t19.2))) : Option (Step Bool (List (List (List Int)))))) (range' 0 (([t4, t6]).length : Int)) ([t4, t6])).bind fun f10o => Sum.elim (fun r42 => some r42) (fun f10 => ((m_p_parts book_here).bind fun t21 => (m_p_parts book_here).bind fun t23 => ((lpR (fun (s25 : (List (List (List Int)))) (told26 : Int) => (((idx s25 told26).bind fun t30 => (reprO (PyData.list (List.map (eL PyData.int) t30))).bind fun t31 => (if (!decide (t31 = t3)) = true then some (true, s25) else ((idx s25 told26).bind fun t32 => (m_l_spoilt t32).bind fun t35 => some ((!t35.1), (setI s25 told26 t35.2)))).bind fun t36 => (if t36.1 = true then some (Step.ret false) else some (Step.go t36.2))) : Option (Step Bool (List (List (List Int)))))) (range' 0 (([t21, t23]).length : Int)) ([t21, t23])).bind fun f27o => Sum.elim (fun r40 => some r40) (fun f27 => ((m_p_circles book_here walk_here).bind fun t38 => (reprO (PyData.list (List.map (eL PyData.int) t38))).bind fun t39 => some (decide (t39 = t1)))) f27o))) f10o)))
/-- _law_walk_right -/
def m_l_walk_right (w_well_here : (List Int)) (book_here : (Int × (List (List Int)))) (walk_here : (List Int)) : Option (Bool × (List Int)) :=
  ((m_l_goals book_here walk_here).bind fun t1 => (idx book_here.2 0).bind fun t2 => ((m_p_turn_of book_here walk_here).bind fun t3 => (reprO (PyData.tuple (List.map PyData.int t3))).bind fun t4 => (reprO (PyData.tuple (List.map PyData.int t1))).bind fun t5 => (if (!decide (t4 = t5)) = true then some true else ((m_p_turn_of book_here walk_here).bind fun t6 => (reprO (PyData.tuple (List.map PyData.int t6))).bind fun t7 => (reprO (PyData.tuple (List.map PyData.int t1))).bind fun t8 => some (!decide (t7 = t8)))).bind fun t9 => (if t9 = true then some (false, w_well_here) else ((m_l_pick w_well_here (t2.length : Int)).bind fun t10 => ((lpR (fun (s11 : Unit) (place12 : Int) => (((m_p_place_after book_here place12 walk_here).bind fun t16 => (reprO (PyData.int t16)).bind fun t17 => (idx t1 place12).bind fun t18 => (reprO (PyData.int t18)).bind fun t19 => (if (!decide (t17 = t19)) = true then some (Step.ret (false, t10.2)) else ((m_p_place_after book_here place12 walk_here).bind fun t20 => (reprO (PyData.int t20)).bind fun t21 => (idx t1 place12).bind fun t22 => (reprO (PyData.int t22)).bind fun t23 => (if (!decide (t21 = t23)) = true then some (Step.ret (false, t10.2)) else some (Step.go ()))))) : Option (Step (Bool × (List Int)) Unit))) ([0, ((t2.length : Int) - 1), t10.1]) ()).bind fun f13o => Sum.elim (fun r34 => some r34) (fun f13 => ((m_l_circles t1).bind fun t25 => ((m_l_common_round t25).bind fun t26 => (reprO (PyData.int t26)).bind fun t27 => ((m_p_times_round book_here walk_here).bind fun t28 => (reprO (PyData.int t28)).bind fun t29 => (if (!decide (t29 = t27)) = true then some true else ((m_p_times_round book_here walk_here).bind fun t30 => (reprO (PyData.int t30)).bind fun t31 => some (!decide (t31 = t27)))).bind fun t32 => (if t32 = true then some (false, t10.2) else ((m_l_lists_right book_here walk_here t25).bind fun t33 => some (t33, t10.2))))))) f13o)))))
/-- law -/
def m_l_law (script : (List Int)) : Option Bool :=
  ((rngO 0 (maxI 1 (minI 3 (script.length : Int)))).bind fun t1 => ((lpR (fun (s2 : Unit) (k_3 : Int) => (((m_l_well script k_3).bind fun t7 => ((m_l_pick t7 4).bind fun t8 => (m_l_pick t8.2 4).bind fun t9 => (idx ([4, 9, 9, 40]) t9.1).bind fun t10 => ((m_l_pick t9.2 t10).bind fun t11 => ((if (decide (t10 = 40)) = true then ((m_l_pick t11.2 2).bind fun t12 => some ((decide (t12.1 = 0)), t12.2)) else some (false, t11.2)).bind fun t13 => ((m_l_book t13.2 (1 + t8.1) (if t13.1 = true then 40 else (1 + t11.1))).bind fun t14 => ((m_p_is_book t14.1).bind fun t15 => (if (!decide (t15 = true)) = true then some true else ((m_p_is_book t14.1).bind fun t16 => some (!decide (t16 = true)))).bind fun t17 => (if t17 = true then some (Step.ret false) else ((rngO 0 3).bind fun t18 => ((lpR (fun (s19 : (List Int)) (turn_here20 : Int) => (((m_l_pick s19 4).bind fun t24 => (idx ([0, 3, 8, 60]) t24.1).bind fun t25 => (m_l_walk t24.2 (1 + t8.1) t25).bind fun t26 => ((m_l_walk_right t26.2 t14.1 t26.1).bind fun t27 => (if (!t27.1) = true then some (Step.ret false) else ((m_l_short t27.2 (1 + t8.1) (if (decide ((if t13.1 = true then 40 else (1 + t11.1)) < 10)) = true then 8 else 3)).bind fun t28 => ((m_l_short_goals t14.1 t28.1).bind fun t29 => (reprO (PyData.tuple (List.map PyData.int t29))).bind fun t30 => ((m_p_short_turn t14.1 t28.1).bind fun t31 => (reprO (PyData.tuple (List.map PyData.int t31))).bind fun t32 => (if (!decide (t32 = t30)) = true then some true else ((m_p_short_turn t14.1 t28.1).bind fun t33 => (reprO (PyData.tuple (List.map PyData.int t33))).bind fun t34 => some (!decide (t34 = t30)))).bind fun t35 => (if t35 = true then some (Step.ret false) else some (Step.go t28.2)))))))) : Option (Step Bool (List Int)))) t18 t14.2).bind fun f21o => Sum.elim (fun r56 => some (Step.ret r56)) (fun f21 => ((m_l_walk f21 (1 + t8.1) 20).bind fun t37 => (m_l_straight t37.1).bind fun t38 => ((m_p_power t38 20).bind fun t39 => (repT t38 20).bind fun t40 => (m_l_straight t40).bind fun t41 => ((if (!decide (t39 = t41)) = true then some true else ((m_p_turn_of t14.1 t39).bind fun t42 => (reprO (PyData.tuple (List.map PyData.int t42))).bind fun t43 => (m_l_goals t14.1 t41).bind fun t44 => (reprO (PyData.tuple (List.map PyData.int t44))).bind fun t45 => some (!decide (t43 = t45)))).bind fun t46 => (if t46 = true then some (Step.ret false) else ((m_p_place_after t14.1 ((if t13.1 = true then 40 else (1 + t11.1)) - 1) t39).bind fun t47 => (reprO (PyData.int t47)).bind fun t48 => (m_l_goals t14.1 t41).bind fun t49 => (idx t49 ((if t13.1 = true then 40 else (1 + t11.1)) - 1)).bind fun t50 => (reprO (PyData.int t50)).bind fun t51 => (if (!decide (t48 = t51)) = true then some (Step.ret false) else ((m_p_turn_of t14.1 ([] : (List Int))).bind fun t52 => (reprO (PyData.tuple (List.map PyData.int t52))).bind fun t53 => (rgO 0 (if t13.1 = true then 40 else (1 + t11.1))).bind fun t54 => (reprO (PyData.tuple (List.map PyData.int t54))).bind fun t55 => (if (!decide (t53 = t55)) = true then some (Step.ret false) else some (Step.go ())))))))))) f21o))))))))) : Option (Step Bool Unit))) t1 ()).bind fun f4o => Sum.elim (fun r59 => some r59) (fun f4 => some true) f4o))
end L31
namespace L31
open PySem PySem.Spec PyProof.Rows L2 Z
def top (i : Nat) : Stmt := PySem.Challenge.pw_walkclubs_k31_books_walked.main.body.getD i (.Pass ⟨0, 0, 0, 0⟩)
abbrev s_p_straightened : Stmt := top 8
def N_p_straightened : List Str := ["walk", "found", "step"]
def V_p_straightened : List Str := ["walk", "found", "step"]
def G_p_straightened : List Str := ["len", "tuple"]
theorem sc_p_straightened : FnScope N_p_straightened ["walk"] (defScope s_p_straightened) := ⟨rfl, rfl, rfl, by decide +kernel, rfl, by decide +kernel, by decide +kernel⟩
abbrev sp_p_straightened (K : PySem.W.Frag) : Sp := spZ (α := (List Int)) (β := (List Int)) (fun a => [(dat (PyData.tuple (List.map PyData.int a)))]) (fun a => []) (fun a => m_p_straightened a) (fun a b => (dat (PyData.tuple (List.map PyData.int b)))) (fun a b => [])
set_option maxHeartbeats 4000000 in
theorem body_p_straightened {X : Cx} (hsc : X.env.scope = defScope s_p_straightened) {sts_ : List Stmt} (hst_ : defBody s_p_straightened = sts_) (B : Bd X N_p_straightened V_p_straightened G_p_straightened 0) (T : Bt X V_p_straightened) (g_len : X.mg "len" = none) (g_tuple : X.mg "tuple" = none) (walk : (List Int)) (b : (List Int)) (F0 : Hp) (os : Os) (D : Ends) (hm : m_p_straightened walk = some b) (R : RetZ F0 (os) (dat (PyData.tuple (List.map PyData.int b))) D) :
    SX X [sl (dat (PyData.tuple (List.map PyData.int walk))), un, un] (os) F0 sts_ D := by
  subst hst_
  unfold m_p_straightened at hm
  refine sx_asgN (i := 1) (vi := 1) (n := ol (List.map PyData.int ([] : (List Int)))) B T rfl rfl (en_lst (ds := []) ax_nil) (fun q_found0 => ?_)
  obtain ⟨f3, h11, hm⟩ := bnd hm
  refine sx_for (c := anyOs) _ (fun (s1 : (List Int)) (_ : Unit) => [sl (dat (PyData.tuple (List.map PyData.int walk))), sl (own q_found0), un]) (fun (s1 : (List Int)) (_ : Unit) => (q_found0, ol (List.map PyData.int s1)) :: os) B T (fun step2 => gx_name (i := 2) (vi := 2) (φ := (dat (PyData.int step2))) B T rfl rfl) ([] : (List Int)) () f3 h11 (ix_tup (enc := PyData.int) (ex_v (i := 0) (j := 0) B rfl rfl rfl) rdt_dat) ⟨.inl rfl, .inl rfl, .inl rfl, trivial⟩ (fun _ _ => trivial) (fun F5 e4 s1 _ step2 z12 hx hm => ?_) (fun _ => ?_)
  · clear h11
    obtain ⟨t7, h7, hm⟩ := bnd hm
    obtain ⟨s10, h_s10, hm⟩ := bnd hm
    refine sx_join [sl (dat (PyData.tuple (List.map PyData.int walk))), sl (own q_found0), sl (dat (PyData.int step2))] ((q_found0, ol (List.map PyData.int s10)) :: os) (?_) (fun Q => ?_)
    · clear h_s10
      obtain rfl := som hm
      exact sx_nil fun σ H a => ⟨(), (a.weak ⟨.inl rfl, .inl rfl, .inr rfl, trivial⟩)⟩
    · have hm := h_s10
      refine sx_if (WX.tx (wx_and (l := t7) (os2 := (q_found0, ol (List.map PyData.int s1)) :: os) (tx_cmp op_gt r2_gt (nomark _) (EX.to (ex_fn (j := 0) B rfl g_len (by decide +kernel) call_len_seq (rc_lenL (ds := List.map PyData.int s1) (rdl_own 0 rfl)) (ax_cons (ex_v (i := 1) (j := 1) B rfl rfl rfl) ax_nil)) (by rw [List.length_map])) ex_int) (fun hk => by (have hm := ifT h7 hk; obtain ⟨t6, h6, hm⟩ := bnd hm; obtain rfl := som hm; exact (wx_and1 (tx_cmp op_eq r2_eqI (nomark _) (ex_idxL (enc := PyData.int) h6 (rdl_own 0 rfl) (ex_v (i := 1) (j := 1) B rfl rfl rfl) (ex_neg ex_int)) (ex_neg (ex_v (i := 2) (j := 2) B rfl rfl rfl)))))) (fun hk => by (have hm := ifF h7 hk; obtain rfl := som hm; rfl)) (and_fix (fun hk => by (have hm := ifF h7 hk; obtain rfl := som hm; rfl))))) (fun hk => ?_) (fun hk => ?_)
      · have hm := ifT hm hk
        obtain ⟨t8, h8, hm⟩ := bnd hm
        refine sx_expr (ex_popO (enc := PyData.int) (j := 0) h8 (ex_v (i := 1) (j := 1) B rfl rfl rfl) rfl) ?_
        obtain rfl := som hm
        exact sx_fall Q rfl
      · have hm := ifF hm hk
        obtain ⟨t9, h9, hm⟩ := bnd hm
        refine sx_expr (ex_app (enc := PyData.int) (j := 0) (xs0 := s1) (xs := s1) (y := step2) h9 (ex_v (i := 1) (j := 1) B rfl rfl rfl) rfl (ex_v (i := 2) (j := 2) B rfl rfl rfl) rfl) ?_
        obtain rfl := som hm
        exact sx_fall Q rfl
  · skip
    refine sx_frz (j := 0) (i := 1) rfl rfl ?_
    obtain rfl := som hm
    exact sx_ret (ex_ty (j := 1) B rfl g_tuple (by decide +kernel) call_tuple_of (rc_tupL (ds := List.map PyData.int f3) rdl_dat) (ax_cons (ex_v (i := 1) (j := 1) B rfl rfl rfl) ax_nil)) (fun F H v e o c => R.rt F H v e o c)
theorem cal_p_straightened {P : Program} {w : World} {K : PySem.W.Frag} {mg : Str → Option Value} {base : Heap} {f : Addr} {fd : FuncData} (Fn : Fun K "straightened" "straightened" s_p_straightened f fd) (hmg : mg "straightened" = some (.ref f)) (hb : Binds K fd ["walk"] []) (g_len : mg "len" = none) (g_tuple : mg "tuple" = none) : Cal P w K mg base 1 "straightened" s_p_straightened ["walk"] (sp_p_straightened K) := by
  obtain ⟨sts_, hst_⟩ : ∃ z_, defBody s_p_straightened = z_ := ⟨_, rfl⟩
  exact cal_ZQ (V := V_p_straightened) (Gs := G_p_straightened) (nl := 2) hst_ Fn sc_p_straightened (by decide +kernel) (by decide +kernel) hmg hb (fun _ => rfl) rfl fun _ _ _ _ _ _ _ a b F0 os D B T hm R => body_p_straightened rfl hst_ B T g_len g_tuple a b F0 os D hm R
abbrev s_p_turned_back : Stmt := top 9
def N_p_turned_back : List Str := ["walk", "step"]
def V_p_turned_back : List Str := ["walk"]
def G_p_turned_back : List Str := ["tuple"]
theorem sc_p_turned_back : FnScope N_p_turned_back ["walk"] (defScope s_p_turned_back) := ⟨rfl, rfl, rfl, by decide +kernel, rfl, by decide +kernel, by decide +kernel⟩
abbrev sp_p_turned_back (K : PySem.W.Frag) : Sp := spZ (α := (List Int)) (β := (List Int)) (fun a => [(dat (PyData.tuple (List.map PyData.int a)))]) (fun a => []) (fun a => m_p_turned_back a) (fun a b => (dat (PyData.tuple (List.map PyData.int b)))) (fun a b => [])
set_option maxHeartbeats 4000000 in
theorem body_p_turned_back {X : Cx} (hsc : X.env.scope = defScope s_p_turned_back) {sts_ : List Stmt} (hst_ : defBody s_p_turned_back = sts_) (B : Bd X N_p_turned_back V_p_turned_back G_p_turned_back 0) (T : Bt X V_p_turned_back) (g_tuple : X.mg "tuple" = none) (walk : (List Int)) (b : (List Int)) (F0 : Hp) (os : Os) (D : Ends) (hm : m_p_turned_back walk = some b) (R : RetZ F0 (os) (dat (PyData.tuple (List.map PyData.int b))) D) :
    SX X [sl (dat (PyData.tuple (List.map PyData.int walk))), un] (os) F0 sts_ D := by
  subst hst_
  unfold m_p_turned_back at hm
  obtain ⟨t3, h3, hm⟩ := bnd hm
  obtain rfl := som hm
  exact sx_ret (ex_ty (j := 0) B rfl g_tuple (by decide +kernel) call_tuple_of (rc_tupL (ds := List.map PyData.int t3) rdl_dat) (ax_cons (EN.ex (en_lc (lc_mk1 (j := 1) (vp := fun step1 => (dat (PyData.int step1))) (c := anyOs) (enc := PyData.int) (fun (_ : Unit) (step1 : Int) => some (some (-step1), ())) (fun (_ : Unit) (tl1 : Os) => tl1) () (t3) () B rfl rfl (by rw [B.hN, hsc]; decide +kernel) (by rw [hsc]; decide +kernel) (by decide) (lcT_ok h3) (ix_tup (enc := PyData.int) (ex_revT (enc := PyData.int) rdt_dat (ex_v (i := 0) (j := 0) B rfl rfl rfl)) rdt_dat) (fun _ _ => trivial) (fun _ _ _ => List.Perm.refl _) (fun _ step1 t tl1 hx hf => by (obtain rfl := som hf; exact ⟨true, _, fun X1 hX => by (have B1 := Bd.fam (W' := ["step"]) (G' := []) B hX (by (try rw [hsc]); decide +kernel); exact ⟨.nil, fun _ => ⟨_, rfl, (ex_neg (ex_v (i := 1) (j := 0) B1 rfl rfl rfl))⟩, fun h => Bool.noConfusion h⟩)⟩))))) ax_nil)) (fun F H v e o c => R.rt F H v e o c)
theorem cal_p_turned_back {P : Program} {w : World} {K : PySem.W.Frag} {mg : Str → Option Value} {base : Heap} {f : Addr} {fd : FuncData} (Fn : Fun K "turned_back" "turned_back" s_p_turned_back f fd) (hmg : mg "turned_back" = some (.ref f)) (hb : Binds K fd ["walk"] []) (g_tuple : mg "tuple" = none) : Cal P w K mg base 1 "turned_back" s_p_turned_back ["walk"] (sp_p_turned_back K) := by
  obtain ⟨sts_, hst_⟩ : ∃ z_, defBody s_p_turned_back = z_ := ⟨_, rfl⟩
  exact cal_ZQ (V := V_p_turned_back) (Gs := G_p_turned_back) (nl := 1) hst_ Fn sc_p_turned_back (by decide +kernel) (by decide +kernel) hmg hb (fun _ => rfl) rfl fun _ _ _ _ _ _ _ a b F0 os D B T hm R => body_p_turned_back rfl hst_ B T g_tuple a b F0 os D hm R
abbrev s_p_is_integer : Stmt := top 12
def N_p_is_integer : List Str := ["value"]
def V_p_is_integer : List Str := ["value"]
def G_p_is_integer : List Str := ["isinstance", "int", "bool"]
theorem sc_p_is_integer : FnScope N_p_is_integer ["value"] (defScope s_p_is_integer) := ⟨rfl, rfl, rfl, by decide +kernel, rfl, by decide +kernel, by decide +kernel⟩
abbrev sp_p_is_integer (K : PySem.W.Frag) : Sp := spZ (α := Int) (β := Bool) (fun a => [(dat (PyData.int a))]) (fun a => []) (fun a => m_p_is_integer a) (fun a b => (dat (PyData.bool b))) (fun a b => [])
set_option maxHeartbeats 4000000 in
theorem body_p_is_integer {X : Cx} (hsc : X.env.scope = defScope s_p_is_integer) {sts_ : List Stmt} (hst_ : defBody s_p_is_integer = sts_) (B : Bd X N_p_is_integer V_p_is_integer G_p_is_integer 0) (T : Bt X V_p_is_integer) (g_isinstance : X.mg "isinstance" = none) (g_int : X.mg "int" = none) (g_bool : X.mg "bool" = none) (value : Int) (b : Bool) (F0 : Hp) (os : Os) (D : Ends) (hm : m_p_is_integer value = some b) (R : RetZ F0 (os) (dat (PyData.bool b)) D) :
    SX X [sl (dat (PyData.int value))] (os) F0 sts_ D := by
  subst hst_
  unfold m_p_is_integer at hm
  obtain rfl := som hm
  exact sx_ret (ex_and (ex_fn (j := 0) B rfl g_isinstance (by decide +kernel) call_isi (rc_isi (d := (PyData.int value)) (T := "int") (show kitB "int" "int" = some true by decide +kernel)) (ax_cons (ex_v (i := 0) (j := 0) B rfl rfl rfl) (ax_cons (ex_tyname (T := "int") (gi := 1) B rfl g_int (by decide +kernel)) ax_nil))) (fun _ => (ex_one (ex_not (ex_fn (j := 0) B rfl g_isinstance (by decide +kernel) call_isi (rc_isi (d := (PyData.int value)) (T := "bool") (show kitB "int" "bool" = some false by decide +kernel)) (ax_cons (ex_v (i := 0) (j := 0) B rfl rfl rfl) (ax_cons (ex_tyname (T := "bool") (gi := 2) B rfl g_bool (by decide +kernel)) ax_nil)))))) (fun _ => rfl) rfl) (fun F H v e o c => R.rt F H v e o c)
theorem cal_p_is_integer {P : Program} {w : World} {K : PySem.W.Frag} {mg : Str → Option Value} {base : Heap} {f : Addr} {fd : FuncData} (Fn : Fun K "is_integer" "is_integer" s_p_is_integer f fd) (hmg : mg "is_integer" = some (.ref f)) (hb : Binds K fd ["value"] []) (g_isinstance : mg "isinstance" = none) (g_int : mg "int" = none) (g_bool : mg "bool" = none) : Cal P w K mg base 1 "is_integer" s_p_is_integer ["value"] (sp_p_is_integer K) := by
  obtain ⟨sts_, hst_⟩ : ∃ z_, defBody s_p_is_integer = z_ := ⟨_, rfl⟩
  exact cal_ZQ (V := V_p_is_integer) (Gs := G_p_is_integer) (nl := 0) hst_ Fn sc_p_is_integer (by decide +kernel) (by decide +kernel) hmg hb (fun _ => rfl) rfl fun _ _ _ _ _ _ _ a b F0 os D B T hm R => body_p_is_integer rfl hst_ B T g_isinstance g_int g_bool a b F0 os D hm R
abbrev s_p_is_letters : Stmt := top 14
def N_p_is_letters : List Str := ["value"]
def V_p_is_letters : List Str := ["value"]
def G_p_is_letters : List Str := ["is_integer", "MOST_LETTERS"]
theorem sc_p_is_letters : FnScope N_p_is_letters ["value"] (defScope s_p_is_letters) := ⟨rfl, rfl, rfl, by decide +kernel, rfl, by decide +kernel, by decide +kernel⟩
abbrev sp_p_is_letters (K : PySem.W.Frag) : Sp := spZ (α := Int) (β := Bool) (fun a => [(dat (PyData.int a))]) (fun a => []) (fun a => m_p_is_letters a) (fun a b => (dat (PyData.bool b))) (fun a b => [])
set_option maxHeartbeats 4000000 in
theorem body_p_is_letters {X : Cx} (hsc : X.env.scope = defScope s_p_is_letters) {sts_ : List Stmt} (hst_ : defBody s_p_is_letters = sts_) (B : Bd X N_p_is_letters V_p_is_letters G_p_is_letters 1) (T : Bt X V_p_is_letters) {tk_MOST_LETTERS : Tok} (c_p_is_integer : Cal X.prog X.w X.K X.mg X.base 1 "is_integer" s_p_is_integer ["value"] (sp_p_is_integer X.K)) (g_MOST_LETTERS : X.mg "MOST_LETTERS" = some (.int 4 tk_MOST_LETTERS)) (value : Int) (b : Bool) (F0 : Hp) (os : Os) (D : Ends) (hm : m_p_is_letters value = some b) (R : RetZ F0 (os) (dat (PyData.bool b)) D) :
    SX X [sl (dat (PyData.int value))] (os) F0 sts_ D := by
  subst hst_
  unfold m_p_is_letters at hm
  obtain ⟨t1, h1, hm⟩ := bnd hm
  obtain rfl := som hm
  exact sx_ret (ex_and (ex_call (a := value) (b := t1) (gi := 0) (rest := os) B rfl c_p_is_integer (by decide) h1 (ax_cons (ex_v (i := 0) (j := 0) B rfl rfl rfl) ax_nil)) (fun _ => (ex_one (ex_chain op_le op_le r2_le r2_le (fun _ => rfl) ex_int (ex_v (i := 0) (j := 0) B rfl rfl rfl) (fun _ => (ex_g (j := 1) B rfl g_MOST_LETTERS))))) (fun _ => rfl) rfl) (fun F H v e o c => R.rt F H v e o c)
theorem cal_p_is_letters {P : Program} {w : World} {K : PySem.W.Frag} {mg : Str → Option Value} {base : Heap} {f : Addr} {fd : FuncData} (Fn : Fun K "is_letters" "is_letters" s_p_is_letters f fd) (hmg : mg "is_letters" = some (.ref f)) (hb : Binds K fd ["value"] []) {tk_MOST_LETTERS : Tok} (c_p_is_integer : Cal P w K mg base 1 "is_integer" s_p_is_integer ["value"] (sp_p_is_integer K)) (g_MOST_LETTERS : mg "MOST_LETTERS" = some (.int 4 tk_MOST_LETTERS)) : Cal P w K mg base 2 "is_letters" s_p_is_letters ["value"] (sp_p_is_letters K) := by
  obtain ⟨sts_, hst_⟩ : ∃ z_, defBody s_p_is_letters = z_ := ⟨_, rfl⟩
  exact cal_ZQ (V := V_p_is_letters) (Gs := G_p_is_letters) (nl := 0) hst_ Fn sc_p_is_letters (by decide +kernel) (by decide +kernel) hmg hb (fun _ => rfl) rfl fun _ _ _ _ _ _ _ a b F0 os D B T hm R => body_p_is_letters rfl hst_ B T c_p_is_integer g_MOST_LETTERS a b F0 os D hm R
abbrev s_p_is_step : Stmt := top 15
def N_p_is_step : List Str := ["value", "letters"]
def V_p_is_step : List Str := ["value", "letters"]
def G_p_is_step : List Str := ["is_integer", "abs"]
theorem sc_p_is_step : FnScope N_p_is_step ["value", "letters"] (defScope s_p_is_step) := ⟨rfl, rfl, rfl, by decide +kernel, rfl, by decide +kernel, by decide +kernel⟩
abbrev sp_p_is_step (K : PySem.W.Frag) : Sp := spZ (α := (Int × Int)) (β := Bool) (fun a => [(dat (PyData.int a.1)), (dat (PyData.int a.2))]) (fun a => []) (fun a => m_p_is_step a.1 a.2) (fun a b => (dat (PyData.bool b))) (fun a b => [])
set_option maxHeartbeats 4000000 in
theorem body_p_is_step {X : Cx} (hsc : X.env.scope = defScope s_p_is_step) {sts_ : List Stmt} (hst_ : defBody s_p_is_step = sts_) (B : Bd X N_p_is_step V_p_is_step G_p_is_step 1) (T : Bt X V_p_is_step) (c_p_is_integer : Cal X.prog X.w X.K X.mg X.base 1 "is_integer" s_p_is_integer ["value"] (sp_p_is_integer X.K)) (g_abs : X.mg "abs" = none) (value : Int) (letters : Int) (b : Bool) (F0 : Hp) (os : Os) (D : Ends) (hm : m_p_is_step value letters = some b) (R : RetZ F0 (os) (dat (PyData.bool b)) D) :
    SX X [sl (dat (PyData.int value)), sl (dat (PyData.int letters))] (os) F0 sts_ D := by
  subst hst_
  unfold m_p_is_step at hm
  obtain ⟨t1, h1, hm⟩ := bnd hm
  obtain rfl := som hm
  exact sx_ret (ex_and (ex_call (a := value) (b := t1) (gi := 0) (rest := os) B rfl c_p_is_integer (by decide) h1 (ax_cons (ex_v (i := 0) (j := 0) B rfl rfl rfl) ax_nil)) (fun _ => (ex_one (ex_chain op_le op_le r2_le r2_le (fun _ => rfl) ex_int (ex_fn (j := 1) B rfl g_abs (by decide +kernel) call_abs rc_abs (ax_cons (ex_v (i := 0) (j := 0) B rfl rfl rfl) ax_nil)) (fun _ => (ex_v (i := 1) (j := 1) B rfl rfl rfl))))) (fun _ => rfl) rfl) (fun F H v e o c => R.rt F H v e o c)
theorem cal_p_is_step {P : Program} {w : World} {K : PySem.W.Frag} {mg : Str → Option Value} {base : Heap} {f : Addr} {fd : FuncData} (Fn : Fun K "is_step" "is_step" s_p_is_step f fd) (hmg : mg "is_step" = some (.ref f)) (hb : Binds K fd ["value", "letters"] []) (c_p_is_integer : Cal P w K mg base 1 "is_integer" s_p_is_integer ["value"] (sp_p_is_integer K)) (g_abs : mg "abs" = none) : Cal P w K mg base 2 "is_step" s_p_is_step ["value", "letters"] (sp_p_is_step K) := by
  obtain ⟨sts_, hst_⟩ : ∃ z_, defBody s_p_is_step = z_ := ⟨_, rfl⟩
  exact cal_ZQ (V := V_p_is_step) (Gs := G_p_is_step) (nl := 0) hst_ Fn sc_p_is_step (by decide +kernel) (by decide +kernel) hmg hb (fun _ => rfl) rfl fun _ _ _ _ _ _ _ a b F0 os D B T hm R => body_p_is_step rfl hst_ B T c_p_is_integer g_abs a.1 a.2 b F0 os D hm R
abbrev s_p_is_a_walk : Stmt := top 16
def N_p_is_a_walk : List Str := ["value", "letters", "step"]
def V_p_is_a_walk : List Str := ["value", "letters"]
def G_p_is_a_walk : List Str := ["isinstance", "tuple", "all"]
theorem sc_p_is_a_walk : FnScope N_p_is_a_walk ["value", "letters"] (defScope s_p_is_a_walk) := ⟨rfl, rfl, rfl, by decide +kernel, rfl, by decide +kernel, by decide +kernel⟩
abbrev sp_p_is_a_walk (K : PySem.W.Frag) : Sp := spZ (α := ((List Int) × Int)) (β := Bool) (fun a => [(dat (PyData.tuple (List.map PyData.int a.1))), (dat (PyData.int a.2))]) (fun a => []) (fun a => m_p_is_a_walk a.1 a.2) (fun a b => (dat (PyData.bool b))) (fun a b => [])
set_option maxHeartbeats 4000000 in
theorem body_p_is_a_walk {X : Cx} (hsc : X.env.scope = defScope s_p_is_a_walk) {sts_ : List Stmt} (hst_ : defBody s_p_is_a_walk = sts_) (B : Bd X N_p_is_a_walk V_p_is_a_walk G_p_is_a_walk 2) (T : Bt X V_p_is_a_walk) (g_isinstance : X.mg "isinstance" = none) (g_tuple : X.mg "tuple" = none) (g_all : X.mg "all" = none) (c_p_is_step : Cal X.prog X.w X.K X.mg X.base 2 "is_step" s_p_is_step ["value", "letters"] (sp_p_is_step X.K)) (value : (List Int)) (letters : Int) (b : Bool) (F0 : Hp) (os : Os) (D : Ends) (hm : m_p_is_a_walk value letters = some b) (R : RetZ F0 (os) (dat (PyData.bool b)) D) :
    SX X [sl (dat (PyData.tuple (List.map PyData.int value))), sl (dat (PyData.int letters)), un] (os) F0 sts_ D := by
  subst hst_
  unfold m_p_is_a_walk at hm
  obtain ⟨t5, h5, hm⟩ := bnd hm
  obtain rfl := som hm
  exact sx_ret (ex_and (l := t5) (os2 := os) (ex_fn (j := 0) B rfl g_isinstance (by decide +kernel) call_isi (rc_isi (d := (PyData.tuple (List.map PyData.int value))) (T := "tuple") (show kitB "tuple" "tuple" = some true by decide +kernel)) (ax_cons (ex_v (i := 0) (j := 0) B rfl rfl rfl) (ax_cons (ex_tyname (T := "tuple") (gi := 1) B rfl g_tuple (by decide +kernel)) ax_nil))) (fun hk => by (have hm := ifT h5 hk; obtain ⟨t4, h4, hm⟩ := bnd hm; obtain rfl := som hm; exact (ex_one (ex_fn (j := 2) B rfl g_all (by decide +kernel) (cr_all B.calm) (rc_all rdl_dat) (ax_cons (EN.ex (en_lc (lc_mk1 (j := 2) (vp := fun step1 => (dat (PyData.int step1))) (c := anyOs) (enc := PyData.bool) (fun (_ : Unit) (step1 : Int) => ((fun (step1 : Int) => ((m_p_is_step step1 letters).bind fun t3 => some t3)) step1).map fun y => (some y, ())) (fun (_ : Unit) (tl1 : Os) => tl1) () (t4) () B rfl rfl (by rw [B.hN, hsc]; decide +kernel) (by rw [hsc]; decide +kernel) (by decide) (lcO_ok h4) (ix_tup (enc := PyData.int) (ex_v (i := 0) (j := 0) B rfl rfl rfl) rdt_dat) (fun _ _ => trivial) (fun _ _ _ => List.Perm.refl _) (fun _ step1 t tl1 hx hf => by (obtain ⟨y, hy, rfl⟩ := Option.map_eq_some_iff.mp hf; obtain ⟨t3, h3, hy⟩ := bnd hy; obtain rfl := som hy; exact ⟨true, _, fun X1 hX => by (have B1 := Bd.fam (W' := ["letters", "step"]) (G' := ["is_step"]) B hX (by (try rw [hsc]); decide +kernel); have c_p_is_step' := fam_cal hX c_p_is_step; exact ⟨.nil, fun _ => ⟨_, rfl, (ex_call (a := (step1, letters)) (b := t3) (gi := 0) (rest := tl1) B1 rfl c_p_is_step' (by decide) h3 (ax_cons (ex_v (i := 2) (j := 1) B1 rfl rfl rfl) (ax_cons (ex_v (i := 1) (j := 0) B1 rfl rfl rfl) ax_nil)))⟩, fun h => Bool.noConfusion h⟩)⟩))))) ax_nil))))) (fun hk => by (have hm := ifF h5 hk; obtain rfl := som hm; rfl)) (and_fix (fun hk => by (have hm := ifF h5 hk; obtain rfl := som hm; rfl)))) (fun F H v e o c => R.rt F H v e o c)
theorem cal_p_is_a_walk {P : Program} {w : World} {K : PySem.W.Frag} {mg : Str → Option Value} {base : Heap} {f : Addr} {fd : FuncData} (Fn : Fun K "is_a_walk" "is_a_walk" s_p_is_a_walk f fd) (hmg : mg "is_a_walk" = some (.ref f)) (hb : Binds K fd ["value", "letters"] []) (g_isinstance : mg "isinstance" = none) (g_tuple : mg "tuple" = none) (g_all : mg "all" = none) (c_p_is_step : Cal P w K mg base 2 "is_step" s_p_is_step ["value", "letters"] (sp_p_is_step K)) : Cal P w K mg base 3 "is_a_walk" s_p_is_a_walk ["value", "letters"] (sp_p_is_a_walk K) := by
  obtain ⟨sts_, hst_⟩ : ∃ z_, defBody s_p_is_a_walk = z_ := ⟨_, rfl⟩
  exact cal_ZQ (V := V_p_is_a_walk) (Gs := G_p_is_a_walk) (nl := 1) hst_ Fn sc_p_is_a_walk (by decide +kernel) (by decide +kernel) hmg hb (fun _ => rfl) rfl fun _ _ _ _ _ _ _ a b F0 os D B T hm R => body_p_is_a_walk rfl hst_ B T g_isinstance g_tuple g_all c_p_is_step a.1 a.2 b F0 os D hm R
abbrev s_p_need_walk : Stmt := top 17
def N_p_need_walk : List Str := ["walk", "letters"]
def V_p_need_walk : List Str := ["walk", "letters"]
def G_p_need_walk : List Str := ["is_a_walk", "InvalidWalk", "anew"]
theorem sc_p_need_walk : FnScope N_p_need_walk ["walk", "letters"] (defScope s_p_need_walk) := ⟨rfl, rfl, rfl, by decide +kernel, rfl, by decide +kernel, by decide +kernel⟩
abbrev sp_p_need_walk (K : PySem.W.Frag) : Sp := spZ (α := ((List Int) × Int)) (β := Unit) (fun a => [(dat (PyData.tuple (List.map PyData.int a.1))), (dat (PyData.int a.2))]) (fun a => []) (fun a => m_p_need_walk a.1 a.2) (fun a b => (dat PyData.none)) (fun a b => [])
set_option maxHeartbeats 4000000 in
theorem body_p_need_walk {X : Cx} (hsc : X.env.scope = defScope s_p_need_walk) {sts_ : List Stmt} (hst_ : defBody s_p_need_walk = sts_) (B : Bd X N_p_need_walk V_p_need_walk G_p_need_walk 3) (T : Bt X V_p_need_walk) (c_p_is_a_walk : Cal X.prog X.w X.K X.mg X.base 3 "is_a_walk" s_p_is_a_walk ["value", "letters"] (sp_p_is_a_walk X.K)) (walk : (List Int)) (letters : Int) (b : Unit) (F0 : Hp) (os : Os) (D : Ends) (hm : m_p_need_walk walk letters = some b) (R : RetZ F0 (os) (dat PyData.none) D) :
    SX X [sl (dat (PyData.tuple (List.map PyData.int walk))), sl (dat (PyData.int letters))] (os) F0 sts_ D := by
  subst hst_
  unfold m_p_need_walk at hm
  obtain ⟨t1, h1, hm⟩ := bnd hm
  refine sx_if (tx_not (tx_val (ex_call (a := (walk, letters)) (b := t1) (gi := 0) (rest := os) B rfl c_p_is_a_walk (by decide) h1 (ax_cons (ex_v (i := 0) (j := 0) B rfl rfl rfl) (ax_cons (ex_v (i := 1) (j := 1) B rfl rfl rfl) ax_nil))) (by intro _; rfl))) (fun hk => ?_) (fun hk => ?_)
  · have hm := ifT hm hk
    exact nomatch hm
  · have hm := ifF hm hk
    refine sx_fall ?_ rfl
    obtain rfl := som hm
    exact sx_end fun F σ H e o => R.nx σ H (R.rt F H .non e o (cl_dat .non))
theorem cal_p_need_walk {P : Program} {w : World} {K : PySem.W.Frag} {mg : Str → Option Value} {base : Heap} {f : Addr} {fd : FuncData} (Fn : Fun K "need_walk" "need_walk" s_p_need_walk f fd) (hmg : mg "need_walk" = some (.ref f)) (hb : Binds K fd ["walk", "letters"] []) (c_p_is_a_walk : Cal P w K mg base 3 "is_a_walk" s_p_is_a_walk ["value", "letters"] (sp_p_is_a_walk K)) : Cal P w K mg base 4 "need_walk" s_p_need_walk ["walk", "letters"] (sp_p_need_walk K) := by
  obtain ⟨sts_, hst_⟩ : ∃ z_, defBody s_p_need_walk = z_ := ⟨_, rfl⟩
  exact cal_ZQ (V := V_p_need_walk) (Gs := G_p_need_walk) (nl := 0) hst_ Fn sc_p_need_walk (by decide +kernel) (by decide +kernel) hmg hb (fun _ => rfl) rfl fun _ _ _ _ _ _ _ a b F0 os D B T hm R => body_p_need_walk rfl hst_ B T c_p_is_a_walk a.1 a.2 b F0 os D hm R
abbrev s_p_need_number : Stmt := top 18
def N_p_need_number : List Str := ["number", "low", "high"]
def V_p_need_number : List Str := ["number", "low", "high"]
def G_p_need_number : List Str := ["InvalidNumber"]
theorem sc_p_need_number : FnScope N_p_need_number ["number", "low", "high"] (defScope s_p_need_number) := ⟨rfl, rfl, rfl, by decide +kernel, rfl, by decide +kernel, by decide +kernel⟩
abbrev sp_p_need_number (K : PySem.W.Frag) : Sp := spZ (α := (Int × Int × Int)) (β := Unit) (fun a => [(dat (PyData.int a.1)), (dat (PyData.int a.2.1)), (dat (PyData.int a.2.2))]) (fun a => []) (fun a => m_p_need_number a.1 a.2.1 a.2.2) (fun a b => (dat PyData.none)) (fun a b => [])
set_option maxHeartbeats 4000000 in
theorem body_p_need_number {X : Cx} (hsc : X.env.scope = defScope s_p_need_number) {sts_ : List Stmt} (hst_ : defBody s_p_need_number = sts_) (B : Bd X N_p_need_number V_p_need_number G_p_need_number 0) (T : Bt X V_p_need_number)  (number : Int) (low : Int) (high : Int) (b : Unit) (F0 : Hp) (os : Os) (D : Ends) (hm : m_p_need_number number low high = some b) (R : RetZ F0 (os) (dat PyData.none) D) :
    SX X [sl (dat (PyData.int number)), sl (dat (PyData.int low)), sl (dat (PyData.int high))] (os) F0 sts_ D := by
  subst hst_
  unfold m_p_need_number at hm
  refine sx_if (WX.tx (wx_or (tx_cmp op_lt r2_lt (nomark _) (ex_v (i := 0) (j := 0) B rfl rfl rfl) (ex_v (i := 1) (j := 1) B rfl rfl rfl)) (fun _ => (wx_or1 (WX.tx (wx_and (tx_cmp op_notN (r2_notN (d := (PyData.int high)) (t := true) rfl) (nomark _) (ex_v (i := 2) (j := 2) B rfl rfl rfl) ex_none) (fun _ => (wx_and1 (tx_cmp op_gt r2_gt (nomark _) (ex_v (i := 0) (j := 0) B rfl rfl rfl) (ex_v (i := 2) (j := 2) B rfl rfl rfl)))) (fun _ => rfl) rfl)))) (fun _ => rfl) rfl)) (fun hk => ?_) (fun hk => ?_)
  · have hm := ifT hm hk
    exact nomatch hm
  · have hm := ifF hm hk
    refine sx_fall ?_ rfl
    obtain rfl := som hm
    exact sx_end fun F σ H e o => R.nx σ H (R.rt F H .non e o (cl_dat .non))
theorem cal_p_need_number {P : Program} {w : World} {K : PySem.W.Frag} {mg : Str → Option Value} {base : Heap} {f : Addr} {fd : FuncData} (Fn : Fun K "need_number" "need_number" s_p_need_number f fd) (hmg : mg "need_number" = some (.ref f)) (hb : Binds K fd ["number", "low", "high"] [])  : Cal P w K mg base 1 "need_number" s_p_need_number ["number", "low", "high"] (sp_p_need_number K) := by
  obtain ⟨sts_, hst_⟩ : ∃ z_, defBody s_p_need_number = z_ := ⟨_, rfl⟩
  exact cal_ZQ (V := V_p_need_number) (Gs := G_p_need_number) (nl := 0) hst_ Fn sc_p_need_number (by decide +kernel) (by decide +kernel) hmg hb (fun _ => rfl) rfl fun _ _ _ _ _ _ _ a b F0 os D B T hm R => body_p_need_number rfl hst_ B T  a.1 a.2.1 a.2.2 b F0 os D hm R
abbrev s_p_is_a_part : Stmt := top 22
def N_p_is_a_part : List Str := ["value", "letters"]
def V_p_is_a_part : List Str := ["value", "letters"]
def G_p_is_a_part : List Str := ["isinstance", "tuple", "len", "is_a_walk", "is_integer", "abs", "MOST_TIMES_shorts"]
theorem sc_p_is_a_part : FnScope N_p_is_a_part ["value", "letters"] (defScope s_p_is_a_part) := ⟨rfl, rfl, rfl, by decide +kernel, rfl, by decide +kernel, by decide +kernel⟩
abbrev sp_p_is_a_part (K : PySem.W.Frag) : Sp := spZ (α := (((List Int) × Int) × Int)) (β := Bool) (fun a => [(dat (PyData.tuple [(PyData.tuple (List.map PyData.int a.1.1)), (PyData.int a.1.2)])), (dat (PyData.int a.2))]) (fun a => []) (fun a => m_p_is_a_part a.1 a.2) (fun a b => (dat (PyData.bool b))) (fun a b => [])
set_option maxHeartbeats 4000000 in
theorem body_p_is_a_part {X : Cx} (hsc : X.env.scope = defScope s_p_is_a_part) {sts_ : List Stmt} (hst_ : defBody s_p_is_a_part = sts_) (B : Bd X N_p_is_a_part V_p_is_a_part G_p_is_a_part 3) (T : Bt X V_p_is_a_part) {tk_MOST_TIMES_shorts : Tok} (g_isinstance : X.mg "isinstance" = none) (g_tuple : X.mg "tuple" = none) (g_len : X.mg "len" = none) (c_p_is_a_walk : Cal X.prog X.w X.K X.mg X.base 3 "is_a_walk" s_p_is_a_walk ["value", "letters"] (sp_p_is_a_walk X.K)) (c_p_is_integer : Cal X.prog X.w X.K X.mg X.base 1 "is_integer" s_p_is_integer ["value"] (sp_p_is_integer X.K)) (g_abs : X.mg "abs" = none) (g_MOST_TIMES_shorts : X.mg "MOST_TIMES_shorts" = some (.int 1000000000000000000000000000000 tk_MOST_TIMES_shorts)) (value : ((List Int) × Int)) (letters : Int) (b : Bool) (F0 : Hp) (os : Os) (D : Ends) (hm : m_p_is_a_part value letters = some b) (R : RetZ F0 (os) (dat (PyData.bool b)) D) :
    SX X [sl (dat (PyData.tuple [(PyData.tuple (List.map PyData.int value.1)), (PyData.int value.2)])), sl (dat (PyData.int letters))] (os) F0 sts_ D := by
  subst hst_
  unfold m_p_is_a_part at hm
  obtain ⟨t3, h3, hm⟩ := bnd hm
  refine sx_if (WX.tx (wx_or (l := t3) (os2 := os) (tx_not (tx_val (ex_fn (j := 0) B rfl g_isinstance (by decide +kernel) call_isi (rc_isi (d := (PyData.tuple [(PyData.tuple (List.map PyData.int value.1)), (PyData.int value.2)])) (T := "tuple") (show kitB "tuple" "tuple" = some true by decide +kernel)) (ax_cons (ex_v (i := 0) (j := 0) B rfl rfl rfl) (ax_cons (ex_tyname (T := "tuple") (gi := 1) B rfl g_tuple (by decide +kernel)) ax_nil))) (by intro _; rfl))) (fun hk => by (have hm := ifF h3 hk; obtain ⟨t2, h2, hm⟩ := bnd hm; obtain rfl := som hm; exact (wx_or (l := t2) (os2 := os) (tx_cmp op_ne r2_neI (nomark _) (ex_fn (j := 2) B rfl g_len (by decide +kernel) call_len_seq rc_len2 (ax_cons (ex_v (i := 0) (j := 0) B rfl rfl rfl) ax_nil)) ex_int) (fun hk => by (have hm := ifF h2 hk; obtain ⟨t1, h1, hm⟩ := bnd hm; obtain rfl := som hm; exact (wx_or1 (tx_not (tx_val (ex_call (a := (value.1, letters)) (b := t1) (gi := 3) (rest := os) B rfl c_p_is_a_walk (by decide) h1 (ax_cons (ex_ixT rdt_dat (by rfl) (ex_v (i := 0) (j := 0) B rfl rfl rfl) ex_int) (ax_cons (ex_v (i := 1) (j := 1) B rfl rfl rfl) ax_nil))) (by intro _; rfl)))))) (fun hk => by (have hm := ifT h2 hk; obtain rfl := som hm; rfl)) (or_fix (fun hk => by (have hm := ifT h2 hk; obtain rfl := som hm; rfl)))))) (fun hk => by (have hm := ifT h3 hk; obtain rfl := som hm; rfl)) (or_fix (fun hk => by (have hm := ifT h3 hk; obtain rfl := som hm; rfl))))) (fun hk => ?_) (fun hk => ?_)
  · have hm := ifT hm hk
    obtain rfl := som hm
    exact sx_ret ex_bool (fun F H v e o c => R.rt F H v e o c)
  · have hm := ifF hm hk
    refine sx_fall ?_ rfl
    obtain ⟨t4, h4, hm⟩ := bnd hm
    obtain rfl := som hm
    exact sx_ret (ex_and (ex_call (a := value.2) (b := t4) (gi := 4) (rest := os) B rfl c_p_is_integer (by decide) h4 (ax_cons (ex_ixT rdt_dat (by rfl) (ex_v (i := 0) (j := 0) B rfl rfl rfl) ex_int) ax_nil)) (fun _ => (ex_one (ex_chain op_le op_le r2_le r2_le (fun _ => rfl) ex_int (ex_fn (j := 5) B rfl g_abs (by decide +kernel) call_abs rc_abs (ax_cons (ex_ixT rdt_dat (by rfl) (ex_v (i := 0) (j := 0) B rfl rfl rfl) ex_int) ax_nil)) (fun _ => (ex_g (j := 6) B rfl g_MOST_TIMES_shorts))))) (fun _ => rfl) rfl) (fun F H v e o c => R.rt F H v e o c)
theorem cal_p_is_a_part {P : Program} {w : World} {K : PySem.W.Frag} {mg : Str → Option Value} {base : Heap} {f : Addr} {fd : FuncData} (Fn : Fun K "is_a_part" "is_a_part" s_p_is_a_part f fd) (hmg : mg "is_a_part" = some (.ref f)) (hb : Binds K fd ["value", "letters"] []) {tk_MOST_TIMES_shorts : Tok} (g_isinstance : mg "isinstance" = none) (g_tuple : mg "tuple" = none) (g_len : mg "len" = none) (c_p_is_a_walk : Cal P w K mg base 3 "is_a_walk" s_p_is_a_walk ["value", "letters"] (sp_p_is_a_walk K)) (c_p_is_integer : Cal P w K mg base 1 "is_integer" s_p_is_integer ["value"] (sp_p_is_integer K)) (g_abs : mg "abs" = none) (g_MOST_TIMES_shorts : mg "MOST_TIMES_shorts" = some (.int 1000000000000000000000000000000 tk_MOST_TIMES_shorts)) : Cal P w K mg base 4 "is_a_part" s_p_is_a_part ["value", "letters"] (sp_p_is_a_part K) := by
  obtain ⟨sts_, hst_⟩ : ∃ z_, defBody s_p_is_a_part = z_ := ⟨_, rfl⟩
  exact cal_ZQ (V := V_p_is_a_part) (Gs := G_p_is_a_part) (nl := 0) hst_ Fn sc_p_is_a_part (by decide +kernel) (by decide +kernel) hmg hb (fun _ => rfl) rfl fun _ _ _ _ _ _ _ a b F0 os D B T hm R => body_p_is_a_part rfl hst_ B T g_isinstance g_tuple g_len c_p_is_a_walk c_p_is_integer g_abs g_MOST_TIMES_shorts a.1 a.2 b F0 os D hm R
abbrev s_p_is_a_short : Stmt := top 23
def N_p_is_a_short : List Str := ["value", "letters", "part"]
def V_p_is_a_short : List Str := ["value", "letters"]
def G_p_is_a_short : List Str := ["isinstance", "tuple", "len", "MOST_PARTS", "all"]
theorem sc_p_is_a_short : FnScope N_p_is_a_short ["value", "letters"] (defScope s_p_is_a_short) := ⟨rfl, rfl, rfl, by decide +kernel, rfl, by decide +kernel, by decide +kernel⟩
abbrev sp_p_is_a_short (K : PySem.W.Frag) : Sp := spZ (α := ((List ((List Int) × Int)) × Int)) (β := Bool) (fun a => [(dat (PyData.tuple (List.map (eP (eT PyData.int) PyData.int) a.1))), (dat (PyData.int a.2))]) (fun a => []) (fun a => m_p_is_a_short a.1 a.2) (fun a b => (dat (PyData.bool b))) (fun a b => [])
set_option maxHeartbeats 4000000 in
theorem body_p_is_a_short {X : Cx} (hsc : X.env.scope = defScope s_p_is_a_short) {sts_ : List Stmt} (hst_ : defBody s_p_is_a_short = sts_) (B : Bd X N_p_is_a_short V_p_is_a_short G_p_is_a_short 4) (T : Bt X V_p_is_a_short) {tk_MOST_PARTS : Tok} (g_isinstance : X.mg "isinstance" = none) (g_tuple : X.mg "tuple" = none) (g_len : X.mg "len" = none) (g_MOST_PARTS : X.mg "MOST_PARTS" = some (.int 60 tk_MOST_PARTS)) (g_all : X.mg "all" = none) (c_p_is_a_part : Cal X.prog X.w X.K X.mg X.base 4 "is_a_part" s_p_is_a_part ["value", "letters"] (sp_p_is_a_part X.K)) (value : (List ((List Int) × Int))) (letters : Int) (b : Bool) (F0 : Hp) (os : Os) (D : Ends) (hm : m_p_is_a_short value letters = some b) (R : RetZ F0 (os) (dat (PyData.bool b)) D) :
    SX X [sl (dat (PyData.tuple (List.map (eP (eT PyData.int) PyData.int) value))), sl (dat (PyData.int letters)), un] (os) F0 sts_ D := by
  subst hst_
  unfold m_p_is_a_short at hm
  refine sx_if (WX.tx (wx_or (tx_not (tx_val (ex_fn (j := 0) B rfl g_isinstance (by decide +kernel) call_isi (rc_isi (d := (PyData.tuple (List.map (eP (eT PyData.int) PyData.int) value))) (T := "tuple") (show kitB "tuple" "tuple" = some true by decide +kernel)) (ax_cons (ex_v (i := 0) (j := 0) B rfl rfl rfl) (ax_cons (ex_tyname (T := "tuple") (gi := 1) B rfl g_tuple (by decide +kernel)) ax_nil))) (by intro _; rfl))) (fun _ => (wx_or1 (tx_cmp op_gt r2_gt (nomark _) (EX.to (ex_fn (j := 2) B rfl g_len (by decide +kernel) call_len_seq (rc_lenT (ds := List.map (eP (eT PyData.int) PyData.int) value) rdt_dat) (ax_cons (ex_v (i := 0) (j := 0) B rfl rfl rfl) ax_nil)) (by rw [List.length_map])) (ex_g (j := 3) B rfl g_MOST_PARTS)))) (fun _ => rfl) rfl)) (fun hk => ?_) (fun hk => ?_)
  · have hm := ifT hm hk
    obtain rfl := som hm
    exact sx_ret ex_bool (fun F H v e o c => R.rt F H v e o c)
  · have hm := ifF hm hk
    refine sx_fall ?_ rfl
    obtain ⟨t4, h4, hm⟩ := bnd hm
    obtain rfl := som hm
    exact sx_ret (ex_fn (j := 4) B rfl g_all (by decide +kernel) (cr_all B.calm) (rc_all rdl_dat) (ax_cons (EN.ex (en_lc (lc_mk1 (j := 2) (vp := fun part_1 => (dat (PyData.tuple [(PyData.tuple (List.map PyData.int part_1.1)), (PyData.int part_1.2)]))) (c := anyOs) (enc := PyData.bool) (fun (_ : Unit) (part_1 : ((List Int) × Int)) => ((fun (part_1 : ((List Int) × Int)) => ((m_p_is_a_part part_1 letters).bind fun t3 => some t3)) part_1).map fun y => (some y, ())) (fun (_ : Unit) (tl1 : Os) => tl1) () (t4) () B rfl rfl (by rw [B.hN, hsc]; decide +kernel) (by rw [hsc]; decide +kernel) (by decide) (lcO_ok h4) (ix_tup (enc := (eP (eT PyData.int) PyData.int)) (ex_v (i := 0) (j := 0) B rfl rfl rfl) rdt_dat) (fun _ _ => trivial) (fun _ _ _ => List.Perm.refl _) (fun _ part_1 t tl1 hx hf => by (obtain ⟨y, hy, rfl⟩ := Option.map_eq_some_iff.mp hf; obtain ⟨t3, h3, hy⟩ := bnd hy; obtain rfl := som hy; exact ⟨true, _, fun X1 hX => by (have B1 := Bd.fam (W' := ["letters", "part"]) (G' := ["is_a_part"]) B hX (by (try rw [hsc]); decide +kernel); have c_p_is_a_part' := fam_cal hX c_p_is_a_part; exact ⟨.nil, fun _ => ⟨_, rfl, (ex_call (a := (part_1, letters)) (b := t3) (gi := 0) (rest := tl1) B1 rfl c_p_is_a_part' (by decide) h3 (ax_cons (ex_v (i := 2) (j := 1) B1 rfl rfl rfl) (ax_cons (ex_v (i := 1) (j := 0) B1 rfl rfl rfl) ax_nil)))⟩, fun h => Bool.noConfusion h⟩)⟩))))) ax_nil)) (fun F H v e o c => R.rt F H v e o c)
theorem cal_p_is_a_short {P : Program} {w : World} {K : PySem.W.Frag} {mg : Str → Option Value} {base : Heap} {f : Addr} {fd : FuncData} (Fn : Fun K "is_a_short" "is_a_short" s_p_is_a_short f fd) (hmg : mg "is_a_short" = some (.ref f)) (hb : Binds K fd ["value", "letters"] []) {tk_MOST_PARTS : Tok} (g_isinstance : mg "isinstance" = none) (g_tuple : mg "tuple" = none) (g_len : mg "len" = none) (g_MOST_PARTS : mg "MOST_PARTS" = some (.int 60 tk_MOST_PARTS)) (g_all : mg "all" = none) (c_p_is_a_part : Cal P w K mg base 4 "is_a_part" s_p_is_a_part ["value", "letters"] (sp_p_is_a_part K)) : Cal P w K mg base 5 "is_a_short" s_p_is_a_short ["value", "letters"] (sp_p_is_a_short K) := by
  obtain ⟨sts_, hst_⟩ : ∃ z_, defBody s_p_is_a_short = z_ := ⟨_, rfl⟩
  exact cal_ZQ (V := V_p_is_a_short) (Gs := G_p_is_a_short) (nl := 1) hst_ Fn sc_p_is_a_short (by decide +kernel) (by decide +kernel) hmg hb (fun _ => rfl) rfl fun _ _ _ _ _ _ _ a b F0 os D B T hm R => body_p_is_a_short rfl hst_ B T g_isinstance g_tuple g_len g_MOST_PARTS g_all c_p_is_a_part a.1 a.2 b F0 os D hm R
abbrev s_p_need_short : Stmt := top 24
def N_p_need_short : List Str := ["short", "letters"]
def V_p_need_short : List Str := ["short", "letters"]
def G_p_need_short : List Str := ["is_a_short", "InvalidShort", "anew"]
theorem sc_p_need_short : FnScope N_p_need_short ["short", "letters"] (defScope s_p_need_short) := ⟨rfl, rfl, rfl, by decide +kernel, rfl, by decide +kernel, by decide +kernel⟩
abbrev sp_p_need_short (K : PySem.W.Frag) : Sp := spZ (α := ((List ((List Int) × Int)) × Int)) (β := Unit) (fun a => [(dat (PyData.tuple (List.map (eP (eT PyData.int) PyData.int) a.1))), (dat (PyData.int a.2))]) (fun a => []) (fun a => m_p_need_short a.1 a.2) (fun a b => (dat PyData.none)) (fun a b => [])
set_option maxHeartbeats 4000000 in
theorem body_p_need_short {X : Cx} (hsc : X.env.scope = defScope s_p_need_short) {sts_ : List Stmt} (hst_ : defBody s_p_need_short = sts_) (B : Bd X N_p_need_short V_p_need_short G_p_need_short 5) (T : Bt X V_p_need_short) (c_p_is_a_short : Cal X.prog X.w X.K X.mg X.base 5 "is_a_short" s_p_is_a_short ["value", "letters"] (sp_p_is_a_short X.K)) (short : (List ((List Int) × Int))) (letters : Int) (b : Unit) (F0 : Hp) (os : Os) (D : Ends) (hm : m_p_need_short short letters = some b) (R : RetZ F0 (os) (dat PyData.none) D) :
    SX X [sl (dat (PyData.tuple (List.map (eP (eT PyData.int) PyData.int) short))), sl (dat (PyData.int letters))] (os) F0 sts_ D := by
  subst hst_
  unfold m_p_need_short at hm
  obtain ⟨t1, h1, hm⟩ := bnd hm
  refine sx_if (tx_not (tx_val (ex_call (a := (short, letters)) (b := t1) (gi := 0) (rest := os) B rfl c_p_is_a_short (by decide) h1 (ax_cons (ex_v (i := 0) (j := 0) B rfl rfl rfl) (ax_cons (ex_v (i := 1) (j := 1) B rfl rfl rfl) ax_nil))) (by intro _; rfl))) (fun hk => ?_) (fun hk => ?_)
  · have hm := ifT hm hk
    exact nomatch hm
  · have hm := ifF hm hk
    refine sx_fall ?_ rfl
    obtain rfl := som hm
    exact sx_end fun F σ H e o => R.nx σ H (R.rt F H .non e o (cl_dat .non))
theorem cal_p_need_short {P : Program} {w : World} {K : PySem.W.Frag} {mg : Str → Option Value} {base : Heap} {f : Addr} {fd : FuncData} (Fn : Fun K "need_short" "need_short" s_p_need_short f fd) (hmg : mg "need_short" = some (.ref f)) (hb : Binds K fd ["short", "letters"] []) (c_p_is_a_short : Cal P w K mg base 5 "is_a_short" s_p_is_a_short ["value", "letters"] (sp_p_is_a_short K)) : Cal P w K mg base 6 "need_short" s_p_need_short ["short", "letters"] (sp_p_need_short K) := by
  obtain ⟨sts_, hst_⟩ : ∃ z_, defBody s_p_need_short = z_ := ⟨_, rfl⟩
  exact cal_ZQ (V := V_p_need_short) (Gs := G_p_need_short) (nl := 0) hst_ Fn sc_p_need_short (by decide +kernel) (by decide +kernel) hmg hb (fun _ => rfl) rfl fun _ _ _ _ _ _ _ a b F0 os D B T hm R => body_p_need_short rfl hst_ B T c_p_is_a_short a.1 a.2 b F0 os D hm R
abbrev s_p_is_a_turn : Stmt := top 27
def N_p_is_a_turn : List Str := ["value", "many", "place"]
def V_p_is_a_turn : List Str := ["value", "many"]
def G_p_is_a_turn : List Str := ["isinstance", "tuple", "len", "all", "sorted", "list", "range"]
theorem sc_p_is_a_turn : FnScope N_p_is_a_turn ["value", "many"] (defScope s_p_is_a_turn) := ⟨rfl, rfl, rfl, by decide +kernel, rfl, by decide +kernel, by decide +kernel⟩
abbrev sp_p_is_a_turn (K : PySem.W.Frag) : Sp := spZ (α := ((List Int) × Int)) (β := Bool) (fun a => [(dat (PyData.tuple (List.map PyData.int a.1))), (dat (PyData.int a.2))]) (fun a => []) (fun a => m_p_is_a_turn a.1 a.2) (fun a b => (dat (PyData.bool b))) (fun a b => [])
set_option maxHeartbeats 4000000 in
theorem body_p_is_a_turn {X : Cx} (hsc : X.env.scope = defScope s_p_is_a_turn) {sts_ : List Stmt} (hst_ : defBody s_p_is_a_turn = sts_) (B : Bd X N_p_is_a_turn V_p_is_a_turn G_p_is_a_turn 1) (T : Bt X V_p_is_a_turn) (g_isinstance : X.mg "isinstance" = none) (g_tuple : X.mg "tuple" = none) (g_len : X.mg "len" = none) (g_all : X.mg "all" = none) (c_p_is_integer : Cal X.prog X.w X.K X.mg X.base 1 "is_integer" s_p_is_integer ["value"] (sp_p_is_integer X.K)) (g_sorted : X.mg "sorted" = none) (g_list : X.mg "list" = none) (g_range : X.mg "range" = none) (value : (List Int)) (many : Int) (b : Bool) (F0 : Hp) (os : Os) (D : Ends) (hm : m_p_is_a_turn value many = some b) (R : RetZ F0 (os) (dat (PyData.bool b)) D) :
    SX X [sl (dat (PyData.tuple (List.map PyData.int value))), sl (dat (PyData.int many)), un] (os) F0 sts_ D := by
  subst hst_
  unfold m_p_is_a_turn at hm
  obtain ⟨t6, h6, hm⟩ := bnd hm
  refine sx_if (WX.tx (wx_or (l := t6) (os2 := os) (tx_not (tx_val (ex_fn (j := 0) B rfl g_isinstance (by decide +kernel) call_isi (rc_isi (d := (PyData.tuple (List.map PyData.int value))) (T := "tuple") (show kitB "tuple" "tuple" = some true by decide +kernel)) (ax_cons (ex_v (i := 0) (j := 0) B rfl rfl rfl) (ax_cons (ex_tyname (T := "tuple") (gi := 1) B rfl g_tuple (by decide +kernel)) ax_nil))) (by intro _; rfl))) (fun hk => by (have hm := ifF h6 hk; obtain ⟨t5, h5, hm⟩ := bnd hm; obtain rfl := som hm; exact (wx_or (l := t5) (os2 := os) (tx_cmp op_ne r2_neI (nomark _) (EX.to (ex_fn (j := 2) B rfl g_len (by decide +kernel) call_len_seq (rc_lenT (ds := List.map PyData.int value) rdt_dat) (ax_cons (ex_v (i := 0) (j := 0) B rfl rfl rfl) ax_nil)) (by rw [List.length_map])) (ex_v (i := 1) (j := 1) B rfl rfl rfl)) (fun hk => by (have hm := ifF h5 hk; obtain ⟨t4, h4, hm⟩ := bnd hm; obtain rfl := som hm; exact (wx_or1 (tx_not (tx_val (ex_fn (j := 3) B rfl g_all (by decide +kernel) (cr_all B.calm) (rc_all rdl_dat) (ax_cons (EN.ex (en_lc (lc_mk1 (j := 2) (vp := fun place1 => (dat (PyData.int place1))) (c := anyOs) (enc := PyData.bool) (fun (_ : Unit) (place1 : Int) => ((fun (place1 : Int) => ((m_p_is_integer place1).bind fun t3 => some t3)) place1).map fun y => (some y, ())) (fun (_ : Unit) (tl1 : Os) => tl1) () (t4) () B rfl rfl (by rw [B.hN, hsc]; decide +kernel) (by rw [hsc]; decide +kernel) (by decide) (lcO_ok h4) (ix_tup (enc := PyData.int) (ex_v (i := 0) (j := 0) B rfl rfl rfl) rdt_dat) (fun _ _ => trivial) (fun _ _ _ => List.Perm.refl _) (fun _ place1 t tl1 hx hf => by (obtain ⟨y, hy, rfl⟩ := Option.map_eq_some_iff.mp hf; obtain ⟨t3, h3, hy⟩ := bnd hy; obtain rfl := som hy; exact ⟨true, _, fun X1 hX => by (have B1 := Bd.fam (W' := ["place"]) (G' := ["is_integer"]) B hX (by (try rw [hsc]); decide +kernel); have c_p_is_integer' := fam_cal hX c_p_is_integer; exact ⟨.nil, fun _ => ⟨_, rfl, (ex_call (a := place1) (b := t3) (gi := 0) (rest := tl1) B1 rfl c_p_is_integer' (by decide) h3 (ax_cons (ex_v (i := 2) (j := 0) B1 rfl rfl rfl) ax_nil))⟩, fun h => Bool.noConfusion h⟩)⟩))))) ax_nil)) (by intro _; rfl)))))) (fun hk => by (have hm := ifT h5 hk; obtain rfl := som hm; rfl)) (or_fix (fun hk => by (have hm := ifT h5 hk; obtain rfl := som hm; rfl)))))) (fun hk => by (have hm := ifT h6 hk; obtain rfl := som hm; rfl)) (or_fix (fun hk => by (have hm := ifT h6 hk; obtain rfl := som hm; rfl))))) (fun hk => ?_) (fun hk => ?_)
  · have hm := ifT hm hk
    obtain rfl := som hm
    exact sx_ret ex_bool (fun F H v e o c => R.rt F H v e o c)
  · have hm := ifF hm hk
    refine sx_fall ?_ rfl
    obtain ⟨t7, h7, hm⟩ := bnd hm
    obtain rfl := som hm
    exact sx_ret (ex_eqR (e := (eL PyData.int)) (x := (srtI value)) (y := t7) B (eqv_list eqv_int) (sh_list sh_int) (by decide) rdx_dat rdx_dat (EN.ex (en_fn (j := 4) B rfl g_sorted (by decide +kernel) cr_sortedTI (rc_sortedTI (ns := value) rdt_dat) (ax_cons (ex_v (i := 0) (j := 0) B rfl rfl rfl) ax_nil))) (EN.ex (en_rgL1 (gi := 5) (gj := 6) B rfl rfl g_list g_range h7 (ex_v (i := 1) (j := 1) B rfl rfl rfl)))) (fun F H v e o c => R.rt F H v e o c)
theorem cal_p_is_a_turn {P : Program} {w : World} {K : PySem.W.Frag} {mg : Str → Option Value} {base : Heap} {f : Addr} {fd : FuncData} (Fn : Fun K "is_a_turn" "is_a_turn" s_p_is_a_turn f fd) (hmg : mg "is_a_turn" = some (.ref f)) (hb : Binds K fd ["value", "many"] []) (g_isinstance : mg "isinstance" = none) (g_tuple : mg "tuple" = none) (g_len : mg "len" = none) (g_all : mg "all" = none) (c_p_is_integer : Cal P w K mg base 1 "is_integer" s_p_is_integer ["value"] (sp_p_is_integer K)) (g_sorted : mg "sorted" = none) (g_list : mg "list" = none) (g_range : mg "range" = none) : Cal P w K mg base 2 "is_a_turn" s_p_is_a_turn ["value", "many"] (sp_p_is_a_turn K) := by
  obtain ⟨sts_, hst_⟩ : ∃ z_, defBody s_p_is_a_turn = z_ := ⟨_, rfl⟩
  exact cal_ZQ (V := V_p_is_a_turn) (Gs := G_p_is_a_turn) (nl := 1) hst_ Fn sc_p_is_a_turn (by decide +kernel) (by decide +kernel) hmg hb (fun _ => rfl) rfl fun _ _ _ _ _ _ _ a b F0 os D B T hm R => body_p_is_a_turn rfl hst_ B T g_isinstance g_tuple g_len g_all c_p_is_integer g_sorted g_list g_range a.1 a.2 b F0 os D hm R
abbrev s_p_is_a_book : Stmt := top 28
def N_p_is_a_book : List Str := ["value", "letters", "turns", "many", "turn"]
def V_p_is_a_book : List Str := ["value", "letters", "turns", "many"]
def G_p_is_a_book : List Str := ["isinstance", "tuple", "len", "is_letters", "MOST_PLACES", "all"]
theorem sc_p_is_a_book : FnScope N_p_is_a_book ["value"] (defScope s_p_is_a_book) := ⟨rfl, rfl, rfl, by decide +kernel, rfl, by decide +kernel, by decide +kernel⟩
abbrev sp_p_is_a_book (K : PySem.W.Frag) : Sp := spZ (α := (Int × (List (List Int)))) (β := Bool) (fun a => [(dat (PyData.tuple [(PyData.int a.1), (PyData.tuple (List.map (eT PyData.int) a.2))]))]) (fun a => []) (fun a => m_p_is_a_book a) (fun a b => (dat (PyData.bool b))) (fun a b => [])
set_option maxHeartbeats 4000000 in
theorem body_p_is_a_book {X : Cx} (hsc : X.env.scope = defScope s_p_is_a_book) {sts_ : List Stmt} (hst_ : defBody s_p_is_a_book = sts_) (B : Bd X N_p_is_a_book V_p_is_a_book G_p_is_a_book 2) (T : Bt X V_p_is_a_book) {tk_MOST_PLACES : Tok} (g_isinstance : X.mg "isinstance" = none) (g_tuple : X.mg "tuple" = none) (g_len : X.mg "len" = none) (c_p_is_letters : Cal X.prog X.w X.K X.mg X.base 2 "is_letters" s_p_is_letters ["value"] (sp_p_is_letters X.K)) (g_MOST_PLACES : X.mg "MOST_PLACES" = some (.int 40 tk_MOST_PLACES)) (g_all : X.mg "all" = none) (c_p_is_a_turn : Cal X.prog X.w X.K X.mg X.base 2 "is_a_turn" s_p_is_a_turn ["value", "many"] (sp_p_is_a_turn X.K)) (value : (Int × (List (List Int)))) (b : Bool) (F0 : Hp) (os : Os) (D : Ends) (hm : m_p_is_a_book value = some b) (R : RetZ F0 (os) (dat (PyData.bool b)) D) :
    SX X [sl (dat (PyData.tuple [(PyData.int value.1), (PyData.tuple (List.map (eT PyData.int) value.2))])), un, un, un, un] (os) F0 sts_ D := by
  subst hst_
  unfold m_p_is_a_book at hm
  obtain ⟨t3, h3, hm⟩ := bnd hm
  refine sx_if (WX.tx (wx_or (l := t3) (os2 := os) (tx_not (tx_val (ex_fn (j := 0) B rfl g_isinstance (by decide +kernel) call_isi (rc_isi (d := (PyData.tuple [(PyData.int value.1), (PyData.tuple (List.map (eT PyData.int) value.2))])) (T := "tuple") (show kitB "tuple" "tuple" = some true by decide +kernel)) (ax_cons (ex_v (i := 0) (j := 0) B rfl rfl rfl) (ax_cons (ex_tyname (T := "tuple") (gi := 1) B rfl g_tuple (by decide +kernel)) ax_nil))) (by intro _; rfl))) (fun hk => by (have hm := ifF h3 hk; obtain ⟨t2, h2, hm⟩ := bnd hm; obtain rfl := som hm; exact (wx_or (l := t2) (os2 := os) (tx_cmp op_ne r2_neI (nomark _) (ex_fn (j := 2) B rfl g_len (by decide +kernel) call_len_seq rc_len2 (ax_cons (ex_v (i := 0) (j := 0) B rfl rfl rfl) ax_nil)) ex_int) (fun hk => by (have hm := ifF h2 hk; obtain ⟨t1, h1, hm⟩ := bnd hm; obtain rfl := som hm; exact (wx_or1 (tx_not (tx_val (ex_call (a := value.1) (b := t1) (gi := 3) (rest := os) B rfl c_p_is_letters (by decide) h1 (ax_cons (ex_ixT rdt_dat (by rfl) (ex_v (i := 0) (j := 0) B rfl rfl rfl) ex_int) ax_nil)) (by intro _; rfl)))))) (fun hk => by (have hm := ifT h2 hk; obtain rfl := som hm; rfl)) (or_fix (fun hk => by (have hm := ifT h2 hk; obtain rfl := som hm; rfl)))))) (fun hk => by (have hm := ifT h3 hk; obtain rfl := som hm; rfl)) (or_fix (fun hk => by (have hm := ifT h3 hk; obtain rfl := som hm; rfl))))) (fun hk => ?_) (fun hk => ?_)
  · have hm := ifT hm hk
    obtain rfl := som hm
    exact sx_ret ex_bool (fun F H v e o c => R.rt F H v e o c)
  · have hm := ifF hm hk
    refine sx_fall ?_ rfl
    refine sx_unp (gx_pair B (gx_name (i := 1) (vi := 1) B T rfl rfl) (gx_name (i := 2) (vi := 2) B T rfl rfl)) (ex_v (i := 0) (j := 0) B rfl rfl rfl) ?_
    obtain ⟨t6, h6, hm⟩ := bnd hm
    refine sx_if (WX.tx (wx_or (l := t6) (os2 := os) (tx_not (tx_val (ex_fn (j := 0) B rfl g_isinstance (by decide +kernel) call_isi (rc_isi (d := (PyData.tuple (List.map (eT PyData.int) value.2))) (T := "tuple") (show kitB "tuple" "tuple" = some true by decide +kernel)) (ax_cons (ex_v (i := 2) (j := 2) B rfl rfl rfl) (ax_cons (ex_tyname (T := "tuple") (gi := 1) B rfl g_tuple (by decide +kernel)) ax_nil))) (by intro _; rfl))) (fun hk => by (have hm := ifF h6 hk; obtain ⟨t5, h5, hm⟩ := bnd hm; obtain rfl := som hm; exact (wx_or (l := t5) (os2 := os) (tx_cmp op_ne r2_neI (nomark _) (EX.to (ex_fn (j := 2) B rfl g_len (by decide +kernel) call_len_seq (rc_lenT (ds := List.map (eT PyData.int) value.2) rdt_dat) (ax_cons (ex_v (i := 2) (j := 2) B rfl rfl rfl) ax_nil)) (by rw [List.length_map])) (ex_v (i := 1) (j := 1) B rfl rfl rfl)) (fun hk => by (have hm := ifF h5 hk; obtain ⟨t4, h4, hm⟩ := bnd hm; obtain rfl := som hm; exact (wx_or1 (tx_not (tx_val (ex_fn (j := 0) B rfl g_isinstance (by decide +kernel) call_isi (rc_isi (d := (PyData.tuple (List.map PyData.int t4))) (T := "tuple") (show kitB "tuple" "tuple" = some true by decide +kernel)) (ax_cons (ex_idxT (enc := (eT PyData.int)) h4 rdt_dat (ex_v (i := 2) (j := 2) B rfl rfl rfl) ex_int) (ax_cons (ex_tyname (T := "tuple") (gi := 1) B rfl g_tuple (by decide +kernel)) ax_nil))) (by intro _; rfl)))))) (fun hk => by (have hm := ifT h5 hk; obtain rfl := som hm; rfl)) (or_fix (fun hk => by (have hm := ifT h5 hk; obtain rfl := som hm; rfl)))))) (fun hk => by (have hm := ifT h6 hk; obtain rfl := som hm; rfl)) (or_fix (fun hk => by (have hm := ifT h6 hk; obtain rfl := som hm; rfl))))) (fun hk => ?_) (fun hk => ?_)
    · have hm := ifT hm hk
      obtain rfl := som hm
      exact sx_ret ex_bool (fun F H v e o c => R.rt F H v e o c)
    · have hm := ifF hm hk
      refine sx_fall ?_ rfl
      obtain ⟨t7, h7, hm⟩ := bnd hm
      refine sx_asg (i := 3) (vi := 3) (φ := (dat (PyData.int (t7.length : Int)))) B T rfl rfl (EX.to (ex_fn (j := 2) B rfl g_len (by decide +kernel) call_len_seq (rc_lenT (ds := List.map PyData.int t7) rdt_dat) (ax_cons (ex_idxT (enc := (eT PyData.int)) h7 rdt_dat (ex_v (i := 2) (j := 2) B rfl rfl rfl) ex_int) ax_nil)) (by rw [List.length_map])) ?_
      obtain ⟨t12, h12, hm⟩ := bnd hm
      obtain rfl := som hm
      exact sx_ret (ex_and (l := t12) (os2 := os) (ex_chain op_le op_le r2_le r2_le (fun _ => rfl) ex_int (ex_v (i := 3) (j := 3) B rfl rfl rfl) (fun _ => (ex_g (j := 4) B rfl g_MOST_PLACES))) (fun hk => by (have hm := ifT h12 hk; obtain ⟨t11, h11, hm⟩ := bnd hm; obtain rfl := som hm; exact (ex_one (ex_fn (j := 5) B rfl g_all (by decide +kernel) (cr_all B.calm) (rc_all rdl_dat) (ax_cons (EN.ex (en_lc (lc_mk1 (j := 4) (vp := fun turn8 => (dat (PyData.tuple (List.map PyData.int turn8)))) (c := anyOs) (enc := PyData.bool) (fun (_ : Unit) (turn8 : (List Int)) => ((fun (turn8 : (List Int)) => ((m_p_is_a_turn turn8 (t7.length : Int)).bind fun t10 => some t10)) turn8).map fun y => (some y, ())) (fun (_ : Unit) (tl1 : Os) => tl1) () (t11) () B rfl rfl (by rw [B.hN, hsc]; decide +kernel) (by rw [hsc]; decide +kernel) (by decide) (lcO_ok h11) (ix_tup (enc := (eT PyData.int)) (ex_v (i := 2) (j := 2) B rfl rfl rfl) rdt_dat) (fun _ _ => trivial) (fun _ _ _ => List.Perm.refl _) (fun _ turn8 t tl1 hx hf => by (obtain ⟨y, hy, rfl⟩ := Option.map_eq_some_iff.mp hf; obtain ⟨t10, h10, hy⟩ := bnd hy; obtain rfl := som hy; exact ⟨true, _, fun X1 hX => by (have B1 := Bd.fam (W' := ["many", "turn"]) (G' := ["is_a_turn"]) B hX (by (try rw [hsc]); decide +kernel); have c_p_is_a_turn' := fam_cal hX c_p_is_a_turn; exact ⟨.nil, fun _ => ⟨_, rfl, (ex_call (a := (turn8, (t7.length : Int))) (b := t10) (gi := 0) (rest := tl1) B1 rfl c_p_is_a_turn' (by decide) h10 (ax_cons (ex_v (i := 4) (j := 1) B1 rfl rfl rfl) (ax_cons (ex_v (i := 3) (j := 0) B1 rfl rfl rfl) ax_nil)))⟩, fun h => Bool.noConfusion h⟩)⟩))))) ax_nil))))) (fun hk => by (have hm := ifF h12 hk; obtain rfl := som hm; rfl)) (and_fix (fun hk => by (have hm := ifF h12 hk; obtain rfl := som hm; rfl)))) (fun F H v e o c => R.rt F H v e o c)
theorem cal_p_is_a_book {P : Program} {w : World} {K : PySem.W.Frag} {mg : Str → Option Value} {base : Heap} {f : Addr} {fd : FuncData} (Fn : Fun K "is_a_book" "is_a_book" s_p_is_a_book f fd) (hmg : mg "is_a_book" = some (.ref f)) (hb : Binds K fd ["value"] []) {tk_MOST_PLACES : Tok} (g_isinstance : mg "isinstance" = none) (g_tuple : mg "tuple" = none) (g_len : mg "len" = none) (c_p_is_letters : Cal P w K mg base 2 "is_letters" s_p_is_letters ["value"] (sp_p_is_letters K)) (g_MOST_PLACES : mg "MOST_PLACES" = some (.int 40 tk_MOST_PLACES)) (g_all : mg "all" = none) (c_p_is_a_turn : Cal P w K mg base 2 "is_a_turn" s_p_is_a_turn ["value", "many"] (sp_p_is_a_turn K)) : Cal P w K mg base 3 "is_a_book" s_p_is_a_book ["value"] (sp_p_is_a_book K) := by
  obtain ⟨sts_, hst_⟩ : ∃ z_, defBody s_p_is_a_book = z_ := ⟨_, rfl⟩
  exact cal_ZQ (V := V_p_is_a_book) (Gs := G_p_is_a_book) (nl := 4) hst_ Fn sc_p_is_a_book (by decide +kernel) (by decide +kernel) hmg hb (fun _ => rfl) rfl fun _ _ _ _ _ _ _ a b F0 os D B T hm R => body_p_is_a_book rfl hst_ B T g_isinstance g_tuple g_len c_p_is_letters g_MOST_PLACES g_all c_p_is_a_turn a b F0 os D hm R
abbrev s_p_is_book : Stmt := top 36
def N_p_is_book : List Str := ["value"]
def V_p_is_book : List Str := ["value"]
def G_p_is_book : List Str := ["is_a_book"]
theorem sc_p_is_book : FnScope N_p_is_book ["value"] (defScope s_p_is_book) := ⟨rfl, rfl, rfl, by decide +kernel, rfl, by decide +kernel, by decide +kernel⟩
abbrev sp_p_is_book (K : PySem.W.Frag) : Sp := spZ (α := (Int × (List (List Int)))) (β := Bool) (fun a => [(dat (PyData.tuple [(PyData.int a.1), (PyData.tuple (List.map (eT PyData.int) a.2))]))]) (fun a => []) (fun a => m_p_is_book a) (fun a b => (dat (PyData.bool b))) (fun a b => [])
set_option maxHeartbeats 4000000 in
theorem body_p_is_book {X : Cx} (hsc : X.env.scope = defScope s_p_is_book) {sts_ : List Stmt} (hst_ : defBody s_p_is_book = sts_) (B : Bd X N_p_is_book V_p_is_book G_p_is_book 3) (T : Bt X V_p_is_book) (c_p_is_a_book : Cal X.prog X.w X.K X.mg X.base 3 "is_a_book" s_p_is_a_book ["value"] (sp_p_is_a_book X.K)) (value : (Int × (List (List Int)))) (b : Bool) (F0 : Hp) (os : Os) (D : Ends) (hm : m_p_is_book value = some b) (R : RetZ F0 (os) (dat (PyData.bool b)) D) :
    SX X [sl (dat (PyData.tuple [(PyData.int value.1), (PyData.tuple (List.map (eT PyData.int) value.2))]))] (os) F0 sts_ D := by
  subst hst_
  unfold m_p_is_book at hm
  obtain ⟨t1, h1, hm⟩ := bnd hm
  obtain rfl := som hm
  exact sx_ret (ex_call (a := value) (b := t1) (gi := 0) (rest := os) B rfl c_p_is_a_book (by decide) h1 (ax_cons (ex_v (i := 0) (j := 0) B rfl rfl rfl) ax_nil)) (fun F H v e o c => R.rt F H v e o c)
theorem cal_p_is_book {P : Program} {w : World} {K : PySem.W.Frag} {mg : Str → Option Value} {base : Heap} {f : Addr} {fd : FuncData} (Fn : Fun K "is_book" "is_book" s_p_is_book f fd) (hmg : mg "is_book" = some (.ref f)) (hb : Binds K fd ["value"] []) (c_p_is_a_book : Cal P w K mg base 3 "is_a_book" s_p_is_a_book ["value"] (sp_p_is_a_book K)) : Cal P w K mg base 4 "is_book" s_p_is_book ["value"] (sp_p_is_book K) := by
  obtain ⟨sts_, hst_⟩ : ∃ z_, defBody s_p_is_book = z_ := ⟨_, rfl⟩
  exact cal_ZQ (V := V_p_is_book) (Gs := G_p_is_book) (nl := 0) hst_ Fn sc_p_is_book (by decide +kernel) (by decide +kernel) hmg hb (fun _ => rfl) rfl fun _ _ _ _ _ _ _ a b F0 os D B T hm R => body_p_is_book rfl hst_ B T c_p_is_a_book a b F0 os D hm R
abbrev s_p_need_book : Stmt := top 29
def N_p_need_book : List Str := ["book"]
def V_p_need_book : List Str := ["book"]
def G_p_need_book : List Str := ["is_a_book", "InvalidBook", "anew"]
theorem sc_p_need_book : FnScope N_p_need_book ["book"] (defScope s_p_need_book) := ⟨rfl, rfl, rfl, by decide +kernel, rfl, by decide +kernel, by decide +kernel⟩
abbrev sp_p_need_book (K : PySem.W.Frag) : Sp := spZ (α := (Int × (List (List Int)))) (β := Unit) (fun a => [(dat (PyData.tuple [(PyData.int a.1), (PyData.tuple (List.map (eT PyData.int) a.2))]))]) (fun a => []) (fun a => m_p_need_book a) (fun a b => (dat PyData.none)) (fun a b => [])
set_option maxHeartbeats 4000000 in
theorem body_p_need_book {X : Cx} (hsc : X.env.scope = defScope s_p_need_book) {sts_ : List Stmt} (hst_ : defBody s_p_need_book = sts_) (B : Bd X N_p_need_book V_p_need_book G_p_need_book 3) (T : Bt X V_p_need_book) (c_p_is_a_book : Cal X.prog X.w X.K X.mg X.base 3 "is_a_book" s_p_is_a_book ["value"] (sp_p_is_a_book X.K)) (book : (Int × (List (List Int)))) (b : Unit) (F0 : Hp) (os : Os) (D : Ends) (hm : m_p_need_book book = some b) (R : RetZ F0 (os) (dat PyData.none) D) :
    SX X [sl (dat (PyData.tuple [(PyData.int book.1), (PyData.tuple (List.map (eT PyData.int) book.2))]))] (os) F0 sts_ D := by
  subst hst_
  unfold m_p_need_book at hm
  obtain ⟨t1, h1, hm⟩ := bnd hm
  refine sx_if (tx_not (tx_val (ex_call (a := book) (b := t1) (gi := 0) (rest := os) B rfl c_p_is_a_book (by decide) h1 (ax_cons (ex_v (i := 0) (j := 0) B rfl rfl rfl) ax_nil)) (by intro _; rfl))) (fun hk => ?_) (fun hk => ?_)
  · have hm := ifT hm hk
    exact nomatch hm
  · have hm := ifF hm hk
    refine sx_fall ?_ rfl
    obtain rfl := som hm
    exact sx_end fun F σ H e o => R.nx σ H (R.rt F H .non e o (cl_dat .non))
theorem cal_p_need_book {P : Program} {w : World} {K : PySem.W.Frag} {mg : Str → Option Value} {base : Heap} {f : Addr} {fd : FuncData} (Fn : Fun K "need_book" "need_book" s_p_need_book f fd) (hmg : mg "need_book" = some (.ref f)) (hb : Binds K fd ["book"] []) (c_p_is_a_book : Cal P w K mg base 3 "is_a_book" s_p_is_a_book ["value"] (sp_p_is_a_book K)) : Cal P w K mg base 4 "need_book" s_p_need_book ["book"] (sp_p_need_book K) := by
  obtain ⟨sts_, hst_⟩ : ∃ z_, defBody s_p_need_book = z_ := ⟨_, rfl⟩
  exact cal_ZQ (V := V_p_need_book) (Gs := G_p_need_book) (nl := 0) hst_ Fn sc_p_need_book (by decide +kernel) (by decide +kernel) hmg hb (fun _ => rfl) rfl fun _ _ _ _ _ _ _ a b F0 os D B T hm R => body_p_need_book rfl hst_ B T c_p_is_a_book a b F0 os D hm R
abbrev s_p_places_of : Stmt := top 30
def N_p_places_of : List Str := ["book"]
def V_p_places_of : List Str := ["book"]
def G_p_places_of : List Str := ["len"]
theorem sc_p_places_of : FnScope N_p_places_of ["book"] (defScope s_p_places_of) := ⟨rfl, rfl, rfl, by decide +kernel, rfl, by decide +kernel, by decide +kernel⟩
abbrev sp_p_places_of (K : PySem.W.Frag) : Sp := spZ (α := (Int × (List (List Int)))) (β := Int) (fun a => [(dat (PyData.tuple [(PyData.int a.1), (PyData.tuple (List.map (eT PyData.int) a.2))]))]) (fun a => []) (fun a => m_p_places_of a) (fun a b => (dat (PyData.int b))) (fun a b => [])
set_option maxHeartbeats 4000000 in
theorem body_p_places_of {X : Cx} (hsc : X.env.scope = defScope s_p_places_of) {sts_ : List Stmt} (hst_ : defBody s_p_places_of = sts_) (B : Bd X N_p_places_of V_p_places_of G_p_places_of 0) (T : Bt X V_p_places_of) (g_len : X.mg "len" = none) (book : (Int × (List (List Int)))) (b : Int) (F0 : Hp) (os : Os) (D : Ends) (hm : m_p_places_of book = some b) (R : RetZ F0 (os) (dat (PyData.int b)) D) :
    SX X [sl (dat (PyData.tuple [(PyData.int book.1), (PyData.tuple (List.map (eT PyData.int) book.2))]))] (os) F0 sts_ D := by
  subst hst_
  unfold m_p_places_of at hm
  obtain ⟨t1, h1, hm⟩ := bnd hm
  obtain rfl := som hm
  exact sx_ret (EX.to (ex_fn (j := 0) B rfl g_len (by decide +kernel) call_len_seq (rc_lenT (ds := List.map PyData.int t1) rdt_dat) (ax_cons (ex_idxT (enc := (eT PyData.int)) h1 rdt_dat (ex_ixT rdt_dat (by rfl) (ex_v (i := 0) (j := 0) B rfl rfl rfl) ex_int) ex_int) ax_nil)) (by rw [List.length_map])) (fun F H v e o c => R.rt F H v e o c)
theorem cal_p_places_of {P : Program} {w : World} {K : PySem.W.Frag} {mg : Str → Option Value} {base : Heap} {f : Addr} {fd : FuncData} (Fn : Fun K "places_of" "places_of" s_p_places_of f fd) (hmg : mg "places_of" = some (.ref f)) (hb : Binds K fd ["book"] []) (g_len : mg "len" = none) : Cal P w K mg base 1 "places_of" s_p_places_of ["book"] (sp_p_places_of K) := by
  obtain ⟨sts_, hst_⟩ : ∃ z_, defBody s_p_places_of = z_ := ⟨_, rfl⟩
  exact cal_ZQ (V := V_p_places_of) (Gs := G_p_places_of) (nl := 0) hst_ Fn sc_p_places_of (by decide +kernel) (by decide +kernel) hmg hb (fun _ => rfl) rfl fun _ _ _ _ _ _ _ a b F0 os D B T hm R => body_p_places_of rfl hst_ B T g_len a b F0 os D hm R
abbrev s_p_need_place : Stmt := top 31
def N_p_need_place : List Str := ["book", "place"]
def V_p_need_place : List Str := ["book", "place"]
def G_p_need_place : List Str := ["need_number", "places_of"]
theorem sc_p_need_place : FnScope N_p_need_place ["book", "place"] (defScope s_p_need_place) := ⟨rfl, rfl, rfl, by decide +kernel, rfl, by decide +kernel, by decide +kernel⟩
abbrev sp_p_need_place (K : PySem.W.Frag) : Sp := spZ (α := ((Int × (List (List Int))) × Int)) (β := Unit) (fun a => [(dat (PyData.tuple [(PyData.int a.1.1), (PyData.tuple (List.map (eT PyData.int) a.1.2))])), (dat (PyData.int a.2))]) (fun a => []) (fun a => m_p_need_place a.1 a.2) (fun a b => (dat PyData.none)) (fun a b => [])
set_option maxHeartbeats 4000000 in
theorem body_p_need_place {X : Cx} (hsc : X.env.scope = defScope s_p_need_place) {sts_ : List Stmt} (hst_ : defBody s_p_need_place = sts_) (B : Bd X N_p_need_place V_p_need_place G_p_need_place 1) (T : Bt X V_p_need_place) (c_p_need_number : Cal X.prog X.w X.K X.mg X.base 1 "need_number" s_p_need_number ["number", "low", "high"] (sp_p_need_number X.K)) (c_p_places_of : Cal X.prog X.w X.K X.mg X.base 1 "places_of" s_p_places_of ["book"] (sp_p_places_of X.K)) (book : (Int × (List (List Int)))) (place : Int) (b : Unit) (F0 : Hp) (os : Os) (D : Ends) (hm : m_p_need_place book place = some b) (R : RetZ F0 (os) (dat PyData.none) D) :
    SX X [sl (dat (PyData.tuple [(PyData.int book.1), (PyData.tuple (List.map (eT PyData.int) book.2))])), sl (dat (PyData.int place))] (os) F0 sts_ D := by
  subst hst_
  unfold m_p_need_place at hm
  obtain ⟨t1, h1, hm⟩ := bnd hm
  obtain ⟨t2, h2, hm⟩ := bnd hm
  refine sx_expr (ex_call (a := (place, 0, (t1 - 1))) (b := t2) (gi := 0) (rest := os) B rfl c_p_need_number (by decide) h2 (ax_cons (ex_v (i := 1) (j := 1) B rfl rfl rfl) (ax_cons ex_int (ax_cons (ex_sub (ex_call (a := book) (b := t1) (gi := 1) (rest := os) B rfl c_p_places_of (by decide) h1 (ax_cons (ex_v (i := 0) (j := 0) B rfl rfl rfl) ax_nil)) ex_int) ax_nil)))) ?_
  obtain rfl := som hm
  exact sx_end fun F σ H e o => R.nx σ H (R.rt F H .non e o (cl_dat .non))
theorem cal_p_need_place {P : Program} {w : World} {K : PySem.W.Frag} {mg : Str → Option Value} {base : Heap} {f : Addr} {fd : FuncData} (Fn : Fun K "need_place" "need_place" s_p_need_place f fd) (hmg : mg "need_place" = some (.ref f)) (hb : Binds K fd ["book", "place"] []) (c_p_need_number : Cal P w K mg base 1 "need_number" s_p_need_number ["number", "low", "high"] (sp_p_need_number K)) (c_p_places_of : Cal P w K mg base 1 "places_of" s_p_places_of ["book"] (sp_p_places_of K)) : Cal P w K mg base 2 "need_place" s_p_need_place ["book", "place"] (sp_p_need_place K) := by
  obtain ⟨sts_, hst_⟩ : ∃ z_, defBody s_p_need_place = z_ := ⟨_, rfl⟩
  exact cal_ZQ (V := V_p_need_place) (Gs := G_p_need_place) (nl := 0) hst_ Fn sc_p_need_place (by decide +kernel) (by decide +kernel) hmg hb (fun _ => rfl) rfl fun _ _ _ _ _ _ _ a b F0 os D B T hm R => body_p_need_place rfl hst_ B T c_p_need_number c_p_places_of a.1 a.2 b F0 os D hm R
abbrev s_p_turns_by_step : Stmt := top 32
def N_p_turns_by_step : List Str := ["book", "letters", "turns", "found", "letter", "turn", "back", "place", "goal"]
def V_p_turns_by_step : List Str := ["book", "letters", "turns", "found", "letter", "turn", "back", "place", "goal"]
def G_p_turns_by_step : List Str := ["range", "len", "enumerate", "list"]
theorem sc_p_turns_by_step : FnScope N_p_turns_by_step ["book"] (defScope s_p_turns_by_step) := ⟨rfl, rfl, rfl, by decide +kernel, rfl, by decide +kernel, by decide +kernel⟩
abbrev sp_p_turns_by_step (K : PySem.W.Frag) : Sp := spZ (α := (Int × (List (List Int)))) (β := (List (Int × (List Int)))) (fun a => [(dat (PyData.tuple [(PyData.int a.1), (PyData.tuple (List.map (eT PyData.int) a.2))]))]) (fun a => []) (fun a => m_p_turns_by_step a) (fun a b => (dat (Kd.pd kI (eM (eL PyData.int) b)))) (fun a b => [])
set_option maxHeartbeats 4000000 in
theorem body_p_turns_by_step {X : Cx} (hsc : X.env.scope = defScope s_p_turns_by_step) {sts_ : List Stmt} (hst_ : defBody s_p_turns_by_step = sts_) (B : Bd X N_p_turns_by_step V_p_turns_by_step G_p_turns_by_step 0) (T : Bt X V_p_turns_by_step) (g_range : X.mg "range" = none) (g_len : X.mg "len" = none) (g_enumerate : X.mg "enumerate" = none) (g_list : X.mg "list" = none) (book : (Int × (List (List Int)))) (b : (List (Int × (List Int)))) (F0 : Hp) (os : Os) (D : Ends) (hm : m_p_turns_by_step book = some b) (R : RetZ F0 (os) (dat (Kd.pd kI (eM (eL PyData.int) b))) D) :
    SX X [sl (dat (PyData.tuple [(PyData.int book.1), (PyData.tuple (List.map (eT PyData.int) book.2))])), un, un, un, un, un, un, un, un] (os) F0 sts_ D := by
  subst hst_
  unfold m_p_turns_by_step at hm
  refine sx_unp (gx_pair B (gx_name (i := 1) (vi := 1) B T rfl rfl) (gx_name (i := 2) (vi := 2) B T rfl rfl)) (ex_v (i := 0) (j := 0) B rfl rfl rfl) ?_
  refine sx_asgN (i := 3) (vi := 3) (n := od kI (eM (eL PyData.int) ([] : (List (Int × (List Int)))))) B T rfl rfl (en_dnew (kd := kI)) (fun q_found0 => ?_)
  obtain ⟨t1, h1, hm⟩ := bnd hm
  obtain ⟨f4, h19, hm⟩ := bnd hm
  refine sx_for (c := anyOs) _ (fun (s2 : (List (Int × (List Int)))) (_ : Unit) => [sl (dat (PyData.tuple [(PyData.int book.1), (PyData.tuple (List.map (eT PyData.int) book.2))])), sl (dat (PyData.int book.1)), sl (dat (PyData.tuple (List.map (eT PyData.int) book.2))), sl (own q_found0), un, un, un, un, un]) (fun (s2 : (List (Int × (List Int)))) (_ : Unit) => (q_found0, od kI (eM (eL PyData.int) s2)) :: os) B T (fun letter3 => gx_name (i := 4) (vi := 4) (φ := (dat (PyData.int letter3))) B T rfl rfl) ([] : (List (Int × (List Int)))) () f4 h19 (ix_rng2 (gi := 0) B rfl g_range h1 ex_int (ex_add (ex_v (i := 1) (j := 1) B rfl rfl rfl) ex_int)) ⟨.inl rfl, .inl rfl, .inl rfl, .inl rfl, .inl rfl, .inl rfl, .inl rfl, .inl rfl, .inl rfl, trivial⟩ (fun _ _ => trivial) (fun F6 e5 s2 _ letter3 z20 hx hm => ?_) (fun _ => ?_)
  · clear h19
    obtain ⟨t7, h7, hm⟩ := bnd hm
    refine sx_asg (i := 5) (vi := 5) (φ := (dat (PyData.tuple (List.map PyData.int t7)))) B T rfl rfl (ex_idxT (enc := (eT PyData.int)) h7 rdt_dat (ex_v (i := 2) (j := 2) B rfl rfl rfl) (ex_sub (ex_v (i := 4) (j := 4) B rfl rfl rfl) ex_int)) ?_
    obtain ⟨t8, h8, hm⟩ := bnd hm
    refine sx_asgN (i := 6) (vi := 6) (n := ol (List.map PyData.int t8)) B T rfl rfl (en_rep (enc := PyData.int) h8 (EN.ex (en_lst (ds := [(PyData.int 0)]) (hl := len_ok (n := 1) rfl) (ax_cons ex_int ax_nil))) (EX.to (ex_fn (j := 1) B rfl g_len (by decide +kernel) call_len_seq (rc_lenT (ds := List.map PyData.int t7) rdt_dat) (ax_cons (ex_v (i := 5) (j := 5) B rfl rfl rfl) ax_nil)) (by rw [List.length_map]))) (fun q_back8 => ?_)
    obtain ⟨f11, h15, hm⟩ := bnd hm
    refine sx_for (c := anyOs) _ (fun (s9 : (List Int)) (_ : Unit) => [sl (dat (PyData.tuple [(PyData.int book.1), (PyData.tuple (List.map (eT PyData.int) book.2))])), sl (dat (PyData.int book.1)), sl (dat (PyData.tuple (List.map (eT PyData.int) book.2))), sl (own q_found0), sl (dat (PyData.int letter3)), sl (dat (PyData.tuple (List.map PyData.int t7))), sl (own q_back8), un, un]) (fun (s9 : (List Int)) (_ : Unit) => (q_back8, ol (List.map PyData.int s9)) :: (q_found0, od kI (eM (eL PyData.int) s2)) :: os) B T (fun x10 => gx_pair B (gx_name (i := 7) (vi := 7) (φ := (dat (PyData.int x10.1))) B T rfl rfl) (gx_name (i := 8) (vi := 8) (φ := (dat (PyData.int x10.2))) B T rfl rfl)) t8 () f11 h15 (ix_enumT (enc := PyData.int) (gi := 2) B rfl g_enumerate (ex_v (i := 5) (j := 5) B rfl rfl rfl) rdt_dat) ⟨.inl rfl, .inl rfl, .inl rfl, .inl rfl, .inl rfl, .inl rfl, .inl rfl, .inl rfl, .inl rfl, trivial⟩ (fun _ _ => trivial) (fun F13 e12 s9 _ x10 z18 hx hm => ?_) (fun _ => ?_)
    · clear h15
      obtain ⟨t14, h14, hm⟩ := bnd hm
      refine sx_setO (enc := PyData.int) (j := 0) h14 (ex_v (i := 7) (j := 7) B rfl rfl rfl) (ex_v (i := 6) (j := 6) B rfl rfl rfl) (ex_v (i := 8) (j := 8) B rfl rfl rfl) rfl ?_
      obtain rfl := som hm
      exact sx_nil fun σ H a => ⟨(), (a.weak ⟨.inl rfl, .inl rfl, .inl rfl, .inl rfl, .inl rfl, .inl rfl, .inl rfl, .inr rfl, .inr rfl, trivial⟩)⟩
    · skip
      refine sx_frz (j := 0) (i := 6) rfl rfl ?_
      obtain ⟨t16, h16, hm⟩ := bnd hm
      obtain ⟨t17, h17, hm⟩ := bnd hm
      refine sx_asgQ2 _ hsc B (by intro env he; cases env; cases he; first | rfl | kernel_rfl) (aq_x (φ := (dat (PyData.list (List.map PyData.int t7)))) (EN.ex (en_ty (j := 3) B rfl g_list (by decide +kernel) call_list_of (rc_lstT (ds := List.map PyData.int t7) rdt_dat) (ax_cons (ex_v (i := 5) (j := 5) B rfl rfl rfl) ax_nil))) (aq_x (φ := (dat (PyData.list (List.map PyData.int f11)))) (ex_v (i := 6) (j := 6) B rfl rfl rfl) aq_nil)) (by rintro φs os_ ⟨_, rfl, _, rfl, rfl, rfl⟩; exact ⟨_, _, rfl⟩) (fun v0 v1 os_ hr_ => ?_)
      obtain ⟨_, e0, _, e1, e8, e9⟩ := hr_
      cases e0; cases e1; cases e8; cases e9
      refine ⟨_, _, _, _, (gy_dput (kd := kI) (enc := (eL PyData.int)) (w := s2) (y := t7) inj_kI h16 B (ex_v (i := 3) (j := 3) B rfl rfl rfl) (ex_v (i := 4) (j := 4) B rfl rfl rfl) (wr_flat (f := (odT kI (eL PyData.int))) (d := s2) 0 rfl)), (gy_dput (kd := kI) (enc := (eL PyData.int)) (w := t16) (y := f11) inj_kI h17 B (ex_v (i := 3) (j := 3) B rfl rfl rfl) (ex_neg (ex_v (i := 4) (j := 4) B rfl rfl rfl)) (wr_flat (f := (odT kI (eL PyData.int))) (d := t16) 0 rfl)), ?_⟩
      obtain rfl := som hm
      exact sx_nil fun σ H a => ⟨(), (a.weak ⟨.inl rfl, .inl rfl, .inl rfl, .inl rfl, .inr rfl, .inr rfl, .inr rfl, .inl rfl, .inl rfl, trivial⟩)⟩
  · skip
    refine sx_frzF (j := 0) (i := 3) frb_od rfl rfl ?_
    obtain rfl := som hm
    exact sx_ret (ex_v (i := 3) (j := 3) B rfl rfl rfl) (fun F H v e o c => R.rt F H v e o c)
theorem cal_p_turns_by_step {P : Program} {w : World} {K : PySem.W.Frag} {mg : Str → Option Value} {base : Heap} {f : Addr} {fd : FuncData} (Fn : Fun K "turns_by_step" "turns_by_step" s_p_turns_by_step f fd) (hmg : mg "turns_by_step" = some (.ref f)) (hb : Binds K fd ["book"] []) (g_range : mg "range" = none) (g_len : mg "len" = none) (g_enumerate : mg "enumerate" = none) (g_list : mg "list" = none) : Cal P w K mg base 1 "turns_by_step" s_p_turns_by_step ["book"] (sp_p_turns_by_step K) := by
  obtain ⟨sts_, hst_⟩ : ∃ z_, defBody s_p_turns_by_step = z_ := ⟨_, rfl⟩
  exact cal_ZQ (V := V_p_turns_by_step) (Gs := G_p_turns_by_step) (nl := 8) hst_ Fn sc_p_turns_by_step (by decide +kernel) (by decide +kernel) hmg hb (fun _ => rfl) rfl fun _ _ _ _ _ _ _ a b F0 os D B T hm R => body_p_turns_by_step rfl hst_ B T g_range g_len g_enumerate g_list a b F0 os D hm R
abbrev s_p_turned_by : Stmt := top 33
def N_p_turned_by : List Str := ["book", "walk", "steps", "found", "step", "place"]
def V_p_turned_by : List Str := ["book", "walk", "steps", "found", "step"]
def G_p_turned_by : List Str := ["turns_by_step", "list", "range", "places_of"]
theorem sc_p_turned_by : FnScope N_p_turned_by ["book", "walk"] (defScope s_p_turned_by) := ⟨rfl, rfl, rfl, by decide +kernel, rfl, by decide +kernel, by decide +kernel⟩
abbrev sp_p_turned_by (K : PySem.W.Frag) : Sp := spZ (α := ((Int × (List (List Int))) × (List Int))) (β := (List Int)) (fun a => [(dat (PyData.tuple [(PyData.int a.1.1), (PyData.tuple (List.map (eT PyData.int) a.1.2))])), (dat (PyData.tuple (List.map PyData.int a.2)))]) (fun a => []) (fun a => m_p_turned_by a.1 a.2) (fun a b => (dat (PyData.list (List.map PyData.int b)))) (fun a b => [])
set_option maxHeartbeats 4000000 in
theorem body_p_turned_by {X : Cx} (hsc : X.env.scope = defScope s_p_turned_by) {sts_ : List Stmt} (hst_ : defBody s_p_turned_by = sts_) (B : Bd X N_p_turned_by V_p_turned_by G_p_turned_by 1) (T : Bt X V_p_turned_by) (c_p_turns_by_step : Cal X.prog X.w X.K X.mg X.base 1 "turns_by_step" s_p_turns_by_step ["book"] (sp_p_turns_by_step X.K)) (g_list : X.mg "list" = none) (g_range : X.mg "range" = none) (c_p_places_of : Cal X.prog X.w X.K X.mg X.base 1 "places_of" s_p_places_of ["book"] (sp_p_places_of X.K)) (book : (Int × (List (List Int)))) (walk : (List Int)) (b : (List Int)) (F0 : Hp) (os : Os) (D : Ends) (hm : m_p_turned_by book walk = some b) (R : RetZ F0 (os) (dat (PyData.list (List.map PyData.int b))) D) :
    SX X [sl (dat (PyData.tuple [(PyData.int book.1), (PyData.tuple (List.map (eT PyData.int) book.2))])), sl (dat (PyData.tuple (List.map PyData.int walk))), un, un, un, un] (os) F0 sts_ D := by
  subst hst_
  unfold m_p_turned_by at hm
  obtain ⟨t1, h1, hm⟩ := bnd hm
  obtain ⟨t2, h2, hm⟩ := bnd hm
  obtain ⟨t3, h3, hm⟩ := bnd hm
  refine sx_mk2 (i := 2) (j := 3) (vi := 2) (gi := 3) _ hsc B T rfl rfl rfl rfl (by intro env he; cases env; cases he; first | rfl | kernel_rfl) (aq_x (φ := (dat (Kd.pd kI (eM (eL PyData.int) t1)))) (ex_call (a := book) (b := t1) (gi := 0) (rest := os) B rfl c_p_turns_by_step (by decide) h1 (ax_cons (ex_v (i := 0) (j := 0) B rfl rfl rfl) ax_nil)) (aq_x (φ := (dat (PyData.list (List.map PyData.int t3)))) (EN.ex (en_rgL1 (gi := 1) (gj := 2) B rfl rfl g_list g_range h3 (ex_call (a := book) (b := t2) (gi := 3) (rest := os) B rfl c_p_places_of (by decide) h2 (ax_cons (ex_v (i := 0) (j := 0) B rfl rfl rfl) ax_nil)))) aq_nil)) (fun v0 v1 os_ hr_ => ?_) (by rintro φs os_ ⟨_, rfl, _, rfl, rfl, rfl⟩; exact ⟨_, _, rfl⟩)
  obtain ⟨_, e0, _, e1, e8, e9⟩ := hr_
  cases e0; cases e1; cases e8; cases e9
  obtain ⟨f6, h14, hm⟩ := bnd hm
  refine sx_for (c := anyOs) _ (fun (s4 : (List Int)) (_ : Unit) => [sl (dat (PyData.tuple [(PyData.int book.1), (PyData.tuple (List.map (eT PyData.int) book.2))])), sl (dat (PyData.tuple (List.map PyData.int walk))), sl (dat (Kd.pd kI (eM (eL PyData.int) t1))), sl (dat (PyData.list (List.map PyData.int s4))), un, un]) (fun (s4 : (List Int)) (_ : Unit) => os) B T (fun step5 => gx_name (i := 4) (vi := 4) (φ := (dat (PyData.int step5))) B T rfl rfl) t3 () f6 h14 (ix_tup (enc := PyData.int) (ex_v (i := 1) (j := 1) B rfl rfl rfl) rdt_dat) ⟨.inl rfl, .inl rfl, .inl rfl, .inl rfl, .inl rfl, .inl rfl, trivial⟩ (fun _ _ => trivial) (fun F8 e7 s4 _ step5 z15 hx hm => ?_) (fun _ => ?_)
  · clear h14
    obtain ⟨t13, h13, hm⟩ := bnd hm
    refine sx_asgLc (i := 3) B T rfl (by rw [hsc]; exact lcl_of (by decide +kernel)) (lc_mk1 (j := 5) (vp := fun place9 => (dat (PyData.int place9))) (c := anyOs) (enc := PyData.int) (fun (_ : Unit) (place9 : Int) => ((fun (place9 : Int) => ((dGet t1 step5).bind fun t11 => (idx t11 place9).bind fun t12 => some t12)) place9).map fun y => (some y, ())) (fun (_ : Unit) (tl1 : Os) => tl1) () (t13) () B rfl rfl (by rw [B.hN, hsc]; decide +kernel) (by rw [hsc]; decide +kernel) (by decide) (lcO_ok h13) (ix_list (enc := PyData.int) (c := anyOs) (ex_v (i := 3) (j := 3) B rfl rfl rfl) (fun _ _ => rdl_dat) trivial) (fun _ _ => trivial) (fun _ _ _ => List.Perm.refl _) (fun _ place9 t tl1 hx hf => by (obtain ⟨y, hy, rfl⟩ := Option.map_eq_some_iff.mp hf; obtain ⟨t11, h11, hy⟩ := bnd hy; obtain ⟨t12, h12, hy⟩ := bnd hy; obtain rfl := som hy; exact ⟨true, _, fun X1 hX => by (have B1 := Bd.fam (W' := ["steps", "step", "place"]) (G' := []) B hX (by (try rw [hsc]); decide +kernel); exact ⟨.nil, fun _ => ⟨_, rfl, (ex_idxL (enc := PyData.int) h12 rdl_dat (ex_dget (kd := kI) (enc := (eL PyData.int)) (w := t1) inj_kI h11 B1 rdd_dat (ex_v (i := 2) (j := 0) B1 rfl rfl rfl) (ex_v (i := 4) (j := 1) B1 rfl rfl rfl)) (ex_v (i := 5) (j := 2) B1 rfl rfl rfl))⟩, fun h => Bool.noConfusion h⟩)⟩))) (sw_ok (by rw [hsc]; decide +kernel) (by rw [hsc]; exact lcl_of (by decide +kernel)) (by decide) (by decide +kernel)) (fun q_found13 => ?_)
    refine sx_frz (j := 0) (i := 3) rfl rfl ?_
    obtain rfl := som hm
    exact sx_nil fun σ H a => ⟨(), (a.weak ⟨.inl rfl, .inl rfl, .inl rfl, .inl rfl, .inr rfl, .inl rfl, trivial⟩)⟩
  · skip
    obtain rfl := som hm
    exact sx_ret (ex_v (i := 3) (j := 3) B rfl rfl rfl) (fun F H v e o c => R.rt F H v e o c)
theorem cal_p_turned_by {P : Program} {w : World} {K : PySem.W.Frag} {mg : Str → Option Value} {base : Heap} {f : Addr} {fd : FuncData} (Fn : Fun K "turned_by" "turned_by" s_p_turned_by f fd) (hmg : mg "turned_by" = some (.ref f)) (hb : Binds K fd ["book", "walk"] []) (c_p_turns_by_step : Cal P w K mg base 1 "turns_by_step" s_p_turns_by_step ["book"] (sp_p_turns_by_step K)) (g_list : mg "list" = none) (g_range : mg "range" = none) (c_p_places_of : Cal P w K mg base 1 "places_of" s_p_places_of ["book"] (sp_p_places_of K)) : Cal P w K mg base 2 "turned_by" s_p_turned_by ["book", "walk"] (sp_p_turned_by K) := by
  obtain ⟨sts_, hst_⟩ : ∃ z_, defBody s_p_turned_by = z_ := ⟨_, rfl⟩
  exact cal_ZQ (V := V_p_turned_by) (Gs := G_p_turned_by) (nl := 4) hst_ Fn sc_p_turned_by (by decide +kernel) (by decide +kernel) hmg hb (fun _ => rfl) rfl fun _ _ _ _ _ _ _ a b F0 os D B T hm R => body_p_turned_by rfl hst_ B T c_p_turns_by_step g_list g_range c_p_places_of a.1 a.2 b F0 os D hm R
abbrev s_p_circles_of : Stmt := top 34
def N_p_circles_of : List Str := ["turn", "found", "met", "first", "circle", "here"]
def V_p_circles_of : List Str := ["turn", "found", "met", "first", "circle", "here"]
def G_p_circles_of : List Str := ["range", "len", "sorted"]
theorem sc_p_circles_of : FnScope N_p_circles_of ["turn"] (defScope s_p_circles_of) := ⟨rfl, rfl, rfl, by decide +kernel, rfl, by decide +kernel, by decide +kernel⟩
abbrev sp_p_circles_of (K : PySem.W.Frag) : Sp := spN (α := (List Int)) (β := (List (List Int))) (fun a => [(dat (PyData.list (List.map PyData.int a)))]) (fun a => []) (fun a => m_p_circles_of a) (fun a b => onx (List.map (olT PyData.int) b)) (fun a b => [])
set_option maxHeartbeats 4000000 in
theorem body_p_circles_of {X : Cx} (hsc : X.env.scope = defScope s_p_circles_of) {sts_ : List Stmt} (hst_ : defBody s_p_circles_of = sts_) (B : Bd X N_p_circles_of V_p_circles_of G_p_circles_of 0) (T : Bt X V_p_circles_of) (g_range : X.mg "range" = none) (g_len : X.mg "len" = none) (g_sorted : X.mg "sorted" = none) (turn : (List Int)) (b : (List (List Int))) (F0 : Hp) (os : Os) (D : Ends) (hm : m_p_circles_of turn = some b) (R : RetN F0 (os) (onx (List.map (olT PyData.int) b)) D) :
    SX X [sl (dat (PyData.list (List.map PyData.int turn))), un, un, un, un, un] (os) F0 sts_ D := by
  subst hst_
  unfold m_p_circles_of at hm
  refine SXw.run ?_
  refine sx_newp2 (i := 1) (j := 2) (n1 := onx (List.map (olT PyData.int) ([] : (List (List Int))))) (n2 := od kI (eM PyData.bool ([] : (List (Int × Bool))))) _ hsc B rfl rfl (by decide) (by decide +kernel) (by decide +kernel) (by intro env he; cases env; cases he; first | rfl | kernel_rfl) (en_nil (f := (olT PyData.int))) (fun q_found1 => (en_dnew (kd := kI))) (fun q_found1 q_met2 => ?_)
  refine sx_open 1 rfl (fun k_3 => ?_)
  refine sx_clos 1 rfl ?_
  obtain ⟨t4, h4, hm⟩ := bnd hm
  obtain ⟨f7, h24, hm⟩ := bnd hm
  refine sx_for (c := anyOs) _ (fun (s5 : ((List (Int × Bool)) × (List (List Int)))) (_ : Unit) => [sl (dat (PyData.list (List.map PyData.int turn))), sl (own q_found1), sl (own q_met2), un, un, un]) (fun (s5 : ((List (Int × Bool)) × (List (List Int)))) (_ : Unit) => (q_met2, od kI (eM PyData.bool s5.1)) :: (q_found1, onx (List.map (olT PyData.int) s5.2)) :: os) B T (fun first6 => gx_name (i := 3) (vi := 3) (φ := (dat (PyData.int first6))) B T rfl rfl) (([] : (List (Int × Bool))), ([] : (List (List Int)))) () f7 h24 (ix_rng1 (gi := 0) B rfl g_range h4 (EX.to (ex_fn (j := 1) B rfl g_len (by decide +kernel) call_len_seq (rc_lenL (ds := List.map PyData.int turn) rdl_dat) (ax_cons (ex_v (i := 0) (j := 0) B rfl rfl rfl) ax_nil)) (by rw [List.length_map]))) ⟨.inl rfl, .inl rfl, .inl rfl, .inl rfl, .inl rfl, .inl rfl, trivial⟩ (fun _ _ => trivial) (fun F9 e8 s5 _ first6 z26 hx hm => ?_) (fun _ => ?_)
  · clear h24
    refine sx_open 1 rfl (fun k_10 => ?_)
    refine sx_par2 (i := 4) (j := 5) _ hsc B rfl rfl (by decide) (by decide +kernel) (by decide +kernel) (by intro env he; cases env; cases he; first | rfl | kernel_rfl) (aq_n (n := ol (List.map PyData.int ([] : (List Int)))) (en_lst (ds := []) ax_nil) (fun q_circle11 => (aq_x (φ := (dat (PyData.int first6))) (ex_v (i := 3) (j := 3) B rfl rfl rfl) aq_nil))) (fun v0 v1 os_ hr_ => ?_) (by rintro φs os_ ⟨q_circle11, _, rfl, _, rfl, rfl, rfl⟩; exact ⟨_, _, rfl⟩)
    obtain ⟨q_circle11, _, e0, _, e1, e8, e9⟩ := hr_
    cases e0; cases e1; cases e8; cases e9
    obtain ⟨f13o, h22, hm⟩ := bnd hm
    refine sx_while _ _ (fun (s12 : (Int × (List Int) × (List (Int × Bool)))) (_ : Unit) => [sl (dat (PyData.list (List.map PyData.int turn))), sl (own q_found1), sl (own q_met2), sl (dat (PyData.int first6)), sl (own q_circle11), sl (dat (PyData.int s12.1))]) (fun (s12 : (Int × (List Int) × (List (Int × Bool)))) (_ : Unit) => (q_circle11, ol (List.map PyData.int s12.2.1)) :: (q_met2, od kI (eM PyData.bool s12.2.2)) :: (q_found1, onl k_10 (List.map (olT PyData.int) s5.2)) :: os) (fun (r : (List (List Int))) v H => ∃ F p, Same F0 F ∧ v = .ref p ∧ Ow F ((p, onx (List.map (olT PyData.int) r)) :: os) H) T 10000 (first6, ([] : (List Int)), s5.1) () f13o h22 ⟨.inl rfl, .inl rfl, .inl rfl, .inl rfl, .inl rfl, .inl rfl, trivial⟩ rfl (fun s12 _ b hm => by (obtain rfl := som hm; exact (tx_dnotin (kd := kI) (enc := PyData.bool) (w := s12.2.2) (k := s12.1) inj_kI B (rdd_own 1 rfl) (ex_v (i := 5) (j := 5) B rfl rfl rfl) (ex_v (i := 2) (j := 2) B rfl rfl rfl)))) (fun F15 e14 s12 _ z23 _ hm => ?_) (fun f13 _ ho => ?_) (fun r21 v H ho hr => ?_)
    · clear h22
      obtain ⟨t16, h16, hm⟩ := bnd hm
      refine sx_dput (kd := kI) (enc := PyData.bool) (w := s12.2.2) (x := true) inj_kI h16 B ex_bool (ex_v (i := 2) (j := 2) B rfl rfl rfl) (ex_v (i := 5) (j := 5) B rfl rfl rfl) (wr_flat (f := (odT kI PyData.bool)) (d := s12.2.2) 1 rfl) ?_
      obtain ⟨t17, h17, hm⟩ := bnd hm
      refine sx_expr (ex_app (enc := PyData.int) (j := 0) (xs0 := s12.2.1) (xs := s12.2.1) (y := s12.1) h17 (ex_v (i := 4) (j := 4) B rfl rfl rfl) rfl (ex_v (i := 5) (j := 5) B rfl rfl rfl) rfl) ?_
      obtain ⟨t18, h18, hm⟩ := bnd hm
      refine sx_asg (i := 5) (vi := 5) (φ := (dat (PyData.int t18))) B T rfl rfl (ex_idxL (enc := PyData.int) h18 rdl_dat (ex_v (i := 0) (j := 0) B rfl rfl rfl) (ex_v (i := 5) (j := 5) B rfl rfl rfl)) ?_
      exact sx_nil fun σ H a => ⟨_, (), (som hm).symm, (a.weak ⟨.inl rfl, .inl rfl, .inl rfl, .inl rfl, .inl rfl, .inl rfl, trivial⟩)⟩
    · cases ho
      have hm := elimR hm
      refine sx_frz (j := 0) (i := 4) rfl rfl ?_
      obtain ⟨s20, h_s20, hm⟩ := bnd hm
      refine sx_join [sl (dat (PyData.list (List.map PyData.int turn))), sl (own q_found1), sl (own q_met2), sl (dat (PyData.int first6)), sl (dat (PyData.list (List.map PyData.int f13.2.1))), sl (dat (PyData.int f13.1))] ((q_met2, od kI (eM PyData.bool f13.2.2)) :: (q_found1, onx (List.map (olT PyData.int) s20)) :: os) (?_) (fun Q => ?_)
      · clear h_s20
        obtain rfl := som hm
        exact sx_nil fun σ H a => ⟨(), (a.weak ⟨.inl rfl, .inl rfl, .inl rfl, .inr rfl, .inr rfl, .inr rfl, trivial⟩)⟩
      · have hm := h_s20
        refine sx_if (tx_cmp op_gt r2_gt (nomark _) (EX.to (ex_fn (j := 1) B rfl g_len (by decide +kernel) call_len_seq (rc_lenL (ds := List.map PyData.int f13.2.1) rdl_dat) (ax_cons (ex_v (i := 4) (j := 4) B rfl rfl rfl) ax_nil)) (by rw [List.length_map])) ex_int) (fun hk => ?_) (fun hk => ?_)
        · have hm := ifT hm hk
          obtain ⟨t19, h19, hm⟩ := bnd hm
          refine sx_expr (ex_appN (f := (olT PyData.int)) (ws0 := s5.2) (ws := s5.2) (d0 := (srtI f13.2.1)) (i := 1) (j := 1) h19 (ex_v (i := 1) (j := 1) B rfl rfl rfl) rfl (en_fn (j := 2) B rfl g_sorted (by decide +kernel) cr_sortedI (rc_sortedI (ns := f13.2.1) rdl_dat) (ax_cons (ex_v (i := 4) (j := 4) B rfl rfl rfl) ax_nil)) rfl) ?_
          obtain rfl := som hm
          exact sx_fall Q rfl
        · have hm := ifF hm hk
          obtain rfl := som hm
          exact sx_fall (Q.clos 1 rfl) rfl
    · cases ho
      have hm := elimL hm
      cases hm
  · skip
    refine sx_open 1 rfl (fun k_25 => ?_)
    obtain rfl := som hm
    exact sx_retO (ex_v (i := 1) (j := 1) B rfl rfl rfl) (fun F H e o => R.rt F H q_found1 e ((o.clos 1 rfl).drop))
theorem cal_p_circles_of {P : Program} {w : World} {K : PySem.W.Frag} {mg : Str → Option Value} {base : Heap} {f : Addr} {fd : FuncData} (Fn : Fun K "circles_of" "circles_of" s_p_circles_of f fd) (hmg : mg "circles_of" = some (.ref f)) (hb : Binds K fd ["turn"] []) (g_range : mg "range" = none) (g_len : mg "len" = none) (g_sorted : mg "sorted" = none) : Cal P w K mg base 1 "circles_of" s_p_circles_of ["turn"] (sp_p_circles_of K) := by
  obtain ⟨sts_, hst_⟩ : ∃ z_, defBody s_p_circles_of = z_ := ⟨_, rfl⟩
  exact cal_NQ (V := V_p_circles_of) (Gs := G_p_circles_of) (nl := 5) hst_ Fn sc_p_circles_of (by decide +kernel) (by decide +kernel) hmg hb (fun _ => rfl) rfl fun _ _ _ _ _ _ _ a b F0 os D B T hm R => body_p_circles_of rfl hst_ B T g_range g_len g_sorted a b F0 os D hm R
abbrev s_p_turned_often : Stmt := top 35
def N_p_turned_often : List Str := ["turn", "times", "found", "first", "circle", "here"]
def V_p_turned_often : List Str := ["turn", "times", "found", "first", "circle", "here"]
def G_p_turned_often : List Str := ["list", "range", "len"]
theorem sc_p_turned_often : FnScope N_p_turned_often ["turn", "times"] (defScope s_p_turned_often) := ⟨rfl, rfl, rfl, by decide +kernel, rfl, by decide +kernel, by decide +kernel⟩
abbrev sp_p_turned_often (K : PySem.W.Frag) : Sp := spZ (α := ((List Int) × Int)) (β := (List Int)) (fun a => [(dat (PyData.list (List.map PyData.int a.1))), (dat (PyData.int a.2))]) (fun a => []) (fun a => m_p_turned_often a.1 a.2) (fun a b => (dat (PyData.list (List.map PyData.int b)))) (fun a b => [])
set_option maxHeartbeats 4000000 in
theorem body_p_turned_often {X : Cx} (hsc : X.env.scope = defScope s_p_turned_often) {sts_ : List Stmt} (hst_ : defBody s_p_turned_often = sts_) (B : Bd X N_p_turned_often V_p_turned_often G_p_turned_often 0) (T : Bt X V_p_turned_often) (g_list : X.mg "list" = none) (g_range : X.mg "range" = none) (g_len : X.mg "len" = none) (turn : (List Int)) (times : Int) (b : (List Int)) (F0 : Hp) (os : Os) (D : Ends) (hm : m_p_turned_often turn times = some b) (R : RetZ F0 (os) (dat (PyData.list (List.map PyData.int b))) D) :
    SX X [sl (dat (PyData.list (List.map PyData.int turn))), sl (dat (PyData.int times)), un, un, un, un] (os) F0 sts_ D := by
  subst hst_
  unfold m_p_turned_often at hm
  refine sx_asgN (i := 2) (vi := 2) (n := ol (List.map PyData.int turn)) B T rfl rfl (en_ty (j := 0) B rfl g_list (by decide +kernel) call_list_of (rc_lstL (ds := List.map PyData.int turn) rdl_dat) (ax_cons (ex_v (i := 0) (j := 0) B rfl rfl rfl) ax_nil)) (fun q_found0 => ?_)
  obtain ⟨t1, h1, hm⟩ := bnd hm
  obtain ⟨f4, h21, hm⟩ := bnd hm
  refine sx_for (c := anyOs) _ (fun (s2 : (List Int)) (_ : Unit) => [sl (dat (PyData.list (List.map PyData.int turn))), sl (dat (PyData.int times)), sl (own q_found0), un, un, un]) (fun (s2 : (List Int)) (_ : Unit) => (q_found0, ol (List.map PyData.int s2)) :: os) B T (fun first3 => gx_name (i := 3) (vi := 3) (φ := (dat (PyData.int first3))) B T rfl rfl) turn () f4 h21 (ix_rng1 (gi := 1) B rfl g_range h1 (EX.to (ex_fn (j := 2) B rfl g_len (by decide +kernel) call_len_seq (rc_lenL (ds := List.map PyData.int turn) rdl_dat) (ax_cons (ex_v (i := 0) (j := 0) B rfl rfl rfl) ax_nil)) (by rw [List.length_map]))) ⟨.inl rfl, .inl rfl, .inl rfl, .inl rfl, .inl rfl, .inl rfl, trivial⟩ (fun _ _ => trivial) (fun F6 e5 s2 _ first3 z22 hx hm => ?_) (fun _ => ?_)
  · clear h21
    obtain ⟨t8, h8, hm⟩ := bnd hm
    refine sx_par2 (i := 4) (j := 5) _ hsc B rfl rfl (by decide) (by decide +kernel) (by decide +kernel) (by intro env he; cases env; cases he; first | rfl | kernel_rfl) (aq_n (n := ol (List.map PyData.int ([first3]))) (en_lst (ds := [(PyData.int first3)]) (hl := len_ok (n := 1) rfl) (ax_cons (ex_v (i := 3) (j := 3) B rfl rfl rfl) ax_nil)) (fun q_circle7 => (aq_x (φ := (dat (PyData.int t8))) (ex_idxL (enc := PyData.int) h8 rdl_dat (ex_v (i := 0) (j := 0) B rfl rfl rfl) (ex_v (i := 3) (j := 3) B rfl rfl rfl)) aq_nil))) (fun v0 v1 os_ hr_ => ?_) (by rintro φs os_ ⟨q_circle7, _, rfl, _, rfl, rfl, rfl⟩; exact ⟨_, _, rfl⟩)
    obtain ⟨q_circle7, _, e0, _, e1, e8, e9⟩ := hr_
    cases e0; cases e1; cases e8; cases e9
    obtain ⟨f10o, h19, hm⟩ := bnd hm
    refine sx_while _ _ (fun (s9 : (Int × (List Int))) (_ : Unit) => [sl (dat (PyData.list (List.map PyData.int turn))), sl (dat (PyData.int times)), sl (own q_found0), sl (dat (PyData.int first3)), sl (own q_circle7), sl (dat (PyData.int s9.1))]) (fun (s9 : (Int × (List Int))) (_ : Unit) => (q_circle7, ol (List.map PyData.int s9.2)) :: (q_found0, ol (List.map PyData.int s2)) :: os) (fun (r : (List Int)) v H => ∃ F, Same F0 F ∧ Ow F (os) H ∧ Cl (dat (PyData.list (List.map PyData.int r))) F v) T 10000 (t8, [first3]) () f10o h19 ⟨.inl rfl, .inl rfl, .inl rfl, .inl rfl, .inl rfl, .inl rfl, trivial⟩ rfl (fun s9 _ b hm => by (obtain rfl := som hm; exact (tx_cmp op_ne r2_neI (nomark _) (ex_v (i := 5) (j := 5) B rfl rfl rfl) (ex_v (i := 3) (j := 3) B rfl rfl rfl)))) (fun F12 e11 s9 _ z20 _ hm => ?_) (fun f10 _ ho => ?_) (fun r18 v H ho hr => ?_)
    · clear h19
      obtain ⟨t13, h13, hm⟩ := bnd hm
      refine sx_expr (ex_app (enc := PyData.int) (j := 0) (xs0 := s9.2) (xs := s9.2) (y := s9.1) h13 (ex_v (i := 4) (j := 4) B rfl rfl rfl) rfl (ex_v (i := 5) (j := 5) B rfl rfl rfl) rfl) ?_
      obtain ⟨t14, h14, hm⟩ := bnd hm
      refine sx_asg (i := 5) (vi := 5) (φ := (dat (PyData.int t14))) B T rfl rfl (ex_idxL (enc := PyData.int) h14 rdl_dat (ex_v (i := 0) (j := 0) B rfl rfl rfl) (ex_v (i := 5) (j := 5) B rfl rfl rfl)) ?_
      exact sx_nil fun σ H a => ⟨_, (), (som hm).symm, (a.weak ⟨.inl rfl, .inl rfl, .inl rfl, .inl rfl, .inl rfl, .inl rfl, trivial⟩)⟩
    · cases ho
      have hm := elimR hm
      refine sx_frz (j := 0) (i := 4) rfl rfl ?_
      obtain ⟨t15, h15, hm⟩ := bnd hm
      obtain ⟨t16, h16, hm⟩ := bnd hm
      obtain ⟨t17, h17, hm⟩ := bnd hm
      refine sx_setO (enc := PyData.int) (j := 0) h17 (ex_idxL (enc := PyData.int) h16 rdl_dat (ex_v (i := 4) (j := 4) B rfl rfl rfl) (ex_mod h15 (ex_v (i := 1) (j := 1) B rfl rfl rfl) (EX.to (ex_fn (j := 2) B rfl g_len (by decide +kernel) call_len_seq (rc_lenL (ds := List.map PyData.int f10.2) rdl_dat) (ax_cons (ex_v (i := 4) (j := 4) B rfl rfl rfl) ax_nil)) (by rw [List.length_map])))) (ex_v (i := 2) (j := 2) B rfl rfl rfl) (ex_v (i := 3) (j := 3) B rfl rfl rfl) rfl ?_
      obtain rfl := som hm
      exact sx_nil fun σ H a => ⟨(), (a.weak ⟨.inl rfl, .inl rfl, .inl rfl, .inr rfl, .inr rfl, .inr rfl, trivial⟩)⟩
    · cases ho
      have hm := elimL hm
      cases hm
  · skip
    refine sx_frz (j := 0) (i := 2) rfl rfl ?_
    obtain rfl := som hm
    exact sx_ret (ex_v (i := 2) (j := 2) B rfl rfl rfl) (fun F H v e o c => R.rt F H v e o c)
theorem cal_p_turned_often {P : Program} {w : World} {K : PySem.W.Frag} {mg : Str → Option Value} {base : Heap} {f : Addr} {fd : FuncData} (Fn : Fun K "turned_often" "turned_often" s_p_turned_often f fd) (hmg : mg "turned_often" = some (.ref f)) (hb : Binds K fd ["turn", "times"] []) (g_list : mg "list" = none) (g_range : mg "range" = none) (g_len : mg "len" = none) : Cal P w K mg base 1 "turned_often" s_p_turned_often ["turn", "times"] (sp_p_turned_often K) := by
  obtain ⟨sts_, hst_⟩ : ∃ z_, defBody s_p_turned_often = z_ := ⟨_, rfl⟩
  exact cal_ZQ (V := V_p_turned_often) (Gs := G_p_turned_often) (nl := 4) hst_ Fn sc_p_turned_often (by decide +kernel) (by decide +kernel) hmg hb (fun _ => rfl) rfl fun _ _ _ _ _ _ _ a b F0 os D B T hm R => body_p_turned_often rfl hst_ B T g_list g_range g_len a.1 a.2 b F0 os D hm R
abbrev s_p_short_turn : Stmt := top 39
def N_p_short_turn : List Str := ["book", "short", "found", "walk", "times", "done", "turn", "place"]
def V_p_short_turn : List Str := ["book", "short", "found", "walk", "times", "done", "turn"]
def G_p_short_turn : List Str := ["need_book", "need_short", "list", "range", "places_of", "turned_back", "turned_often", "turned_by", "abs", "tuple"]
theorem sc_p_short_turn : FnScope N_p_short_turn ["book", "short"] (defScope s_p_short_turn) := ⟨rfl, rfl, rfl, by decide +kernel, rfl, by decide +kernel, by decide +kernel⟩
abbrev sp_p_short_turn (K : PySem.W.Frag) : Sp := spZ (α := ((Int × (List (List Int))) × (List ((List Int) × Int)))) (β := (List Int)) (fun a => [(dat (PyData.tuple [(PyData.int a.1.1), (PyData.tuple (List.map (eT PyData.int) a.1.2))])), (dat (PyData.tuple (List.map (eP (eT PyData.int) PyData.int) a.2)))]) (fun a => []) (fun a => m_p_short_turn a.1 a.2) (fun a b => (dat (PyData.tuple (List.map PyData.int b)))) (fun a b => [])
set_option maxHeartbeats 4000000 in
theorem body_p_short_turn {X : Cx} (hsc : X.env.scope = defScope s_p_short_turn) {sts_ : List Stmt} (hst_ : defBody s_p_short_turn = sts_) (B : Bd X N_p_short_turn V_p_short_turn G_p_short_turn 6) (T : Bt X V_p_short_turn) (c_p_need_book : Cal X.prog X.w X.K X.mg X.base 4 "need_book" s_p_need_book ["book"] (sp_p_need_book X.K)) (c_p_need_short : Cal X.prog X.w X.K X.mg X.base 6 "need_short" s_p_need_short ["short", "letters"] (sp_p_need_short X.K)) (g_list : X.mg "list" = none) (g_range : X.mg "range" = none) (c_p_places_of : Cal X.prog X.w X.K X.mg X.base 1 "places_of" s_p_places_of ["book"] (sp_p_places_of X.K)) (c_p_turned_back : Cal X.prog X.w X.K X.mg X.base 1 "turned_back" s_p_turned_back ["walk"] (sp_p_turned_back X.K)) (c_p_turned_often : Cal X.prog X.w X.K X.mg X.base 1 "turned_often" s_p_turned_often ["turn", "times"] (sp_p_turned_often X.K)) (c_p_turned_by : Cal X.prog X.w X.K X.mg X.base 2 "turned_by" s_p_turned_by ["book", "walk"] (sp_p_turned_by X.K)) (g_abs : X.mg "abs" = none) (g_tuple : X.mg "tuple" = none) (book : (Int × (List (List Int)))) (short : (List ((List Int) × Int))) (b : (List Int)) (F0 : Hp) (os : Os) (D : Ends) (hm : m_p_short_turn book short = some b) (R : RetZ F0 (os) (dat (PyData.tuple (List.map PyData.int b))) D) :
    SX X [sl (dat (PyData.tuple [(PyData.int book.1), (PyData.tuple (List.map (eT PyData.int) book.2))])), sl (dat (PyData.tuple (List.map (eP (eT PyData.int) PyData.int) short))), un, un, un, un, un, un] (os) F0 sts_ D := by
  subst hst_
  unfold m_p_short_turn at hm
  obtain ⟨t1, h1, hm⟩ := bnd hm
  refine sx_expr (ex_call (a := book) (b := t1) (gi := 0) (rest := os) B rfl c_p_need_book (by decide) h1 (ax_cons (ex_v (i := 0) (j := 0) B rfl rfl rfl) ax_nil)) ?_
  obtain ⟨t2, h2, hm⟩ := bnd hm
  refine sx_expr (ex_call (a := (short, book.1)) (b := t2) (gi := 1) (rest := os) B rfl c_p_need_short (by decide) h2 (ax_cons (ex_v (i := 1) (j := 1) B rfl rfl rfl) (ax_cons (ex_ixT rdt_dat (by rfl) (ex_v (i := 0) (j := 0) B rfl rfl rfl) ex_int) ax_nil))) ?_
  obtain ⟨t3, h3, hm⟩ := bnd hm
  obtain ⟨t4, h4, hm⟩ := bnd hm
  refine sx_asg (i := 2) (vi := 2) (φ := (dat (PyData.list (List.map PyData.int t4)))) B T rfl rfl (EN.ex (en_rgL1 (gi := 2) (gj := 3) B rfl rfl g_list g_range h4 (ex_call (a := book) (b := t3) (gi := 4) (rest := os) B rfl c_p_places_of (by decide) h3 (ax_cons (ex_v (i := 0) (j := 0) B rfl rfl rfl) ax_nil)))) ?_
  obtain ⟨f7, h18, hm⟩ := bnd hm
  refine sx_for (c := anyOs) _ (fun (s5 : (List Int)) (_ : Unit) => [sl (dat (PyData.tuple [(PyData.int book.1), (PyData.tuple (List.map (eT PyData.int) book.2))])), sl (dat (PyData.tuple (List.map (eP (eT PyData.int) PyData.int) short))), sl (dat (PyData.list (List.map PyData.int s5))), un, un, un, un, un]) (fun (s5 : (List Int)) (_ : Unit) => os) B T (fun x6 => gx_pair B (gx_name (i := 3) (vi := 3) (φ := (dat (PyData.tuple (List.map PyData.int x6.1)))) B T rfl rfl) (gx_name (i := 4) (vi := 4) (φ := (dat (PyData.int x6.2))) B T rfl rfl)) t4 () f7 h18 (ix_tup (enc := (eP (eT PyData.int) PyData.int)) (ex_v (i := 1) (j := 1) B rfl rfl rfl) rdt_dat) ⟨.inl rfl, .inl rfl, .inl rfl, .inl rfl, .inl rfl, .inl rfl, .inl rfl, .inl rfl, trivial⟩ (fun _ _ => trivial) (fun F9 e8 s5 _ x6 z19 hx hm => ?_) (fun _ => ?_)
  · clear h18
    obtain ⟨t11, h11, hm⟩ := bnd hm
    refine sx_asg (i := 5) (vi := 5) (φ := (dat (PyData.tuple (List.map PyData.int t11)))) B T rfl rfl (ex_if (tx_cmp op_gt r2_gt (nomark _) (ex_v (i := 4) (j := 4) B rfl rfl rfl) ex_int) (fun hk => by (have hm := ifT h11 hk; obtain rfl := som hm; exact (EX.to (ex_v (i := 3) (j := 3) B rfl rfl rfl) (by rfl)))) (fun hk => by (have hm := ifF h11 hk; obtain ⟨t10, h10, hm⟩ := bnd hm; obtain rfl := som hm; exact (EX.to (ex_call (a := x6.1) (b := t10) (gi := 5) (rest := os) B rfl c_p_turned_back (by decide) h10 (ax_cons (ex_v (i := 3) (j := 3) B rfl rfl rfl) ax_nil)) (by rfl))))) ?_
    obtain ⟨t12, h12, hm⟩ := bnd hm
    obtain ⟨t13, h13, hm⟩ := bnd hm
    refine sx_asg (i := 6) (vi := 6) (φ := (dat (PyData.list (List.map PyData.int t13)))) B T rfl rfl (ex_call (a := (t12, (absI x6.2))) (b := t13) (gi := 6) (rest := os) B rfl c_p_turned_often (by decide) h13 (ax_cons (ex_call (a := (book, t11)) (b := t12) (gi := 7) (rest := os) B rfl c_p_turned_by (by decide) h12 (ax_cons (ex_v (i := 0) (j := 0) B rfl rfl rfl) (ax_cons (ex_v (i := 5) (j := 5) B rfl rfl rfl) ax_nil))) (ax_cons (ex_fn (j := 8) B rfl g_abs (by decide +kernel) call_abs rc_abs (ax_cons (ex_v (i := 4) (j := 4) B rfl rfl rfl) ax_nil)) ax_nil))) ?_
    obtain ⟨t17, h17, hm⟩ := bnd hm
    refine sx_asgLc (i := 2) B T rfl (by rw [hsc]; exact lcl_of (by decide +kernel)) (lc_mk1 (j := 7) (vp := fun place14 => (dat (PyData.int place14))) (c := anyOs) (enc := PyData.int) (fun (_ : Unit) (place14 : Int) => ((fun (place14 : Int) => ((idx t13 place14).bind fun t16 => some t16)) place14).map fun y => (some y, ())) (fun (_ : Unit) (tl1 : Os) => tl1) () (t17) () B rfl rfl (by rw [B.hN, hsc]; decide +kernel) (by rw [hsc]; decide +kernel) (by decide) (lcO_ok h17) (ix_list (enc := PyData.int) (c := anyOs) (ex_v (i := 2) (j := 2) B rfl rfl rfl) (fun _ _ => rdl_dat) trivial) (fun _ _ => trivial) (fun _ _ _ => List.Perm.refl _) (fun _ place14 t tl1 hx hf => by (obtain ⟨y, hy, rfl⟩ := Option.map_eq_some_iff.mp hf; obtain ⟨t16, h16, hy⟩ := bnd hy; obtain rfl := som hy; exact ⟨true, _, fun X1 hX => by (have B1 := Bd.fam (W' := ["turn", "place"]) (G' := []) B hX (by (try rw [hsc]); decide +kernel); exact ⟨.nil, fun _ => ⟨_, rfl, (ex_idxL (enc := PyData.int) h16 rdl_dat (ex_v (i := 6) (j := 0) B1 rfl rfl rfl) (ex_v (i := 7) (j := 1) B1 rfl rfl rfl))⟩, fun h => Bool.noConfusion h⟩)⟩))) (sw_ok (by rw [hsc]; decide +kernel) (by rw [hsc]; exact lcl_of (by decide +kernel)) (by decide) (by decide +kernel)) (fun q_found17 => ?_)
    refine sx_frz (j := 0) (i := 2) rfl rfl ?_
    obtain rfl := som hm
    exact sx_nil fun σ H a => ⟨(), (a.weak ⟨.inl rfl, .inl rfl, .inl rfl, .inr rfl, .inr rfl, .inr rfl, .inr rfl, .inl rfl, trivial⟩)⟩
  · skip
    obtain rfl := som hm
    exact sx_ret (ex_ty (j := 9) B rfl g_tuple (by decide +kernel) call_tuple_of (rc_tupL (ds := List.map PyData.int f7) rdl_dat) (ax_cons (ex_v (i := 2) (j := 2) B rfl rfl rfl) ax_nil)) (fun F H v e o c => R.rt F H v e o c)
theorem cal_p_short_turn {P : Program} {w : World} {K : PySem.W.Frag} {mg : Str → Option Value} {base : Heap} {f : Addr} {fd : FuncData} (Fn : Fun K "short_turn" "short_turn" s_p_short_turn f fd) (hmg : mg "short_turn" = some (.ref f)) (hb : Binds K fd ["book", "short"] []) (c_p_need_book : Cal P w K mg base 4 "need_book" s_p_need_book ["book"] (sp_p_need_book K)) (c_p_need_short : Cal P w K mg base 6 "need_short" s_p_need_short ["short", "letters"] (sp_p_need_short K)) (g_list : mg "list" = none) (g_range : mg "range" = none) (c_p_places_of : Cal P w K mg base 1 "places_of" s_p_places_of ["book"] (sp_p_places_of K)) (c_p_turned_back : Cal P w K mg base 1 "turned_back" s_p_turned_back ["walk"] (sp_p_turned_back K)) (c_p_turned_often : Cal P w K mg base 1 "turned_often" s_p_turned_often ["turn", "times"] (sp_p_turned_often K)) (c_p_turned_by : Cal P w K mg base 2 "turned_by" s_p_turned_by ["book", "walk"] (sp_p_turned_by K)) (g_abs : mg "abs" = none) (g_tuple : mg "tuple" = none) : Cal P w K mg base 7 "short_turn" s_p_short_turn ["book", "short"] (sp_p_short_turn K) := by
  obtain ⟨sts_, hst_⟩ : ∃ z_, defBody s_p_short_turn = z_ := ⟨_, rfl⟩
  exact cal_ZQ (V := V_p_short_turn) (Gs := G_p_short_turn) (nl := 6) hst_ Fn sc_p_short_turn (by decide +kernel) (by decide +kernel) hmg hb (fun _ => rfl) rfl fun _ _ _ _ _ _ _ a b F0 os D B T hm R => body_p_short_turn rfl hst_ B T c_p_need_book c_p_need_short g_list g_range c_p_places_of c_p_turned_back c_p_turned_often c_p_turned_by g_abs g_tuple a.1 a.2 b F0 os D hm R
abbrev s_p_turn_of : Stmt := top 38
def N_p_turn_of : List Str := ["book", "walk"]
def V_p_turn_of : List Str := ["book", "walk"]
def G_p_turn_of : List Str := ["need_book", "need_walk", "tuple", "turned_by"]
theorem sc_p_turn_of : FnScope N_p_turn_of ["book", "walk"] (defScope s_p_turn_of) := ⟨rfl, rfl, rfl, by decide +kernel, rfl, by decide +kernel, by decide +kernel⟩
abbrev sp_p_turn_of (K : PySem.W.Frag) : Sp := spZ (α := ((Int × (List (List Int))) × (List Int))) (β := (List Int)) (fun a => [(dat (PyData.tuple [(PyData.int a.1.1), (PyData.tuple (List.map (eT PyData.int) a.1.2))])), (dat (PyData.tuple (List.map PyData.int a.2)))]) (fun a => []) (fun a => m_p_turn_of a.1 a.2) (fun a b => (dat (PyData.tuple (List.map PyData.int b)))) (fun a b => [])
set_option maxHeartbeats 4000000 in
theorem body_p_turn_of {X : Cx} (hsc : X.env.scope = defScope s_p_turn_of) {sts_ : List Stmt} (hst_ : defBody s_p_turn_of = sts_) (B : Bd X N_p_turn_of V_p_turn_of G_p_turn_of 4) (T : Bt X V_p_turn_of) (c_p_need_book : Cal X.prog X.w X.K X.mg X.base 4 "need_book" s_p_need_book ["book"] (sp_p_need_book X.K)) (c_p_need_walk : Cal X.prog X.w X.K X.mg X.base 4 "need_walk" s_p_need_walk ["walk", "letters"] (sp_p_need_walk X.K)) (g_tuple : X.mg "tuple" = none) (c_p_turned_by : Cal X.prog X.w X.K X.mg X.base 2 "turned_by" s_p_turned_by ["book", "walk"] (sp_p_turned_by X.K)) (book : (Int × (List (List Int)))) (walk : (List Int)) (b : (List Int)) (F0 : Hp) (os : Os) (D : Ends) (hm : m_p_turn_of book walk = some b) (R : RetZ F0 (os) (dat (PyData.tuple (List.map PyData.int b))) D) :
    SX X [sl (dat (PyData.tuple [(PyData.int book.1), (PyData.tuple (List.map (eT PyData.int) book.2))])), sl (dat (PyData.tuple (List.map PyData.int walk)))] (os) F0 sts_ D := by
  subst hst_
  unfold m_p_turn_of at hm
  obtain ⟨t1, h1, hm⟩ := bnd hm
  refine sx_expr (ex_call (a := book) (b := t1) (gi := 0) (rest := os) B rfl c_p_need_book (by decide) h1 (ax_cons (ex_v (i := 0) (j := 0) B rfl rfl rfl) ax_nil)) ?_
  obtain ⟨t2, h2, hm⟩ := bnd hm
  refine sx_expr (ex_call (a := (walk, book.1)) (b := t2) (gi := 1) (rest := os) B rfl c_p_need_walk (by decide) h2 (ax_cons (ex_v (i := 1) (j := 1) B rfl rfl rfl) (ax_cons (ex_ixT rdt_dat (by rfl) (ex_v (i := 0) (j := 0) B rfl rfl rfl) ex_int) ax_nil))) ?_
  obtain ⟨t3, h3, hm⟩ := bnd hm
  obtain rfl := som hm
  exact sx_ret (ex_ty (j := 2) B rfl g_tuple (by decide +kernel) call_tuple_of (rc_tupL (ds := List.map PyData.int t3) rdl_dat) (ax_cons (ex_call (a := (book, walk)) (b := t3) (gi := 3) (rest := os) B rfl c_p_turned_by (by decide) h3 (ax_cons (ex_v (i := 0) (j := 0) B rfl rfl rfl) (ax_cons (ex_v (i := 1) (j := 1) B rfl rfl rfl) ax_nil))) ax_nil)) (fun F H v e o c => R.rt F H v e o c)
theorem cal_p_turn_of {P : Program} {w : World} {K : PySem.W.Frag} {mg : Str → Option Value} {base : Heap} {f : Addr} {fd : FuncData} (Fn : Fun K "turn_of" "turn_of" s_p_turn_of f fd) (hmg : mg "turn_of" = some (.ref f)) (hb : Binds K fd ["book", "walk"] []) (c_p_need_book : Cal P w K mg base 4 "need_book" s_p_need_book ["book"] (sp_p_need_book K)) (c_p_need_walk : Cal P w K mg base 4 "need_walk" s_p_need_walk ["walk", "letters"] (sp_p_need_walk K)) (g_tuple : mg "tuple" = none) (c_p_turned_by : Cal P w K mg base 2 "turned_by" s_p_turned_by ["book", "walk"] (sp_p_turned_by K)) : Cal P w K mg base 5 "turn_of" s_p_turn_of ["book", "walk"] (sp_p_turn_of K) := by
  obtain ⟨sts_, hst_⟩ : ∃ z_, defBody s_p_turn_of = z_ := ⟨_, rfl⟩
  exact cal_ZQ (V := V_p_turn_of) (Gs := G_p_turn_of) (nl := 0) hst_ Fn sc_p_turn_of (by decide +kernel) (by decide +kernel) hmg hb (fun _ => rfl) rfl fun _ _ _ _ _ _ _ a b F0 os D B T hm R => body_p_turn_of rfl hst_ B T c_p_need_book c_p_need_walk g_tuple c_p_turned_by a.1 a.2 b F0 os D hm R
abbrev s_p_place_after : Stmt := top 37
def N_p_place_after : List Str := ["book", "place", "walk"]
def V_p_place_after : List Str := ["book", "place", "walk"]
def G_p_place_after : List Str := ["need_book", "need_place", "need_walk", "turned_by"]
theorem sc_p_place_after : FnScope N_p_place_after ["book", "place", "walk"] (defScope s_p_place_after) := ⟨rfl, rfl, rfl, by decide +kernel, rfl, by decide +kernel, by decide +kernel⟩
abbrev sp_p_place_after (K : PySem.W.Frag) : Sp := spZ (α := ((Int × (List (List Int))) × Int × (List Int))) (β := Int) (fun a => [(dat (PyData.tuple [(PyData.int a.1.1), (PyData.tuple (List.map (eT PyData.int) a.1.2))])), (dat (PyData.int a.2.1)), (dat (PyData.tuple (List.map PyData.int a.2.2)))]) (fun a => []) (fun a => m_p_place_after a.1 a.2.1 a.2.2) (fun a b => (dat (PyData.int b))) (fun a b => [])
set_option maxHeartbeats 4000000 in
theorem body_p_place_after {X : Cx} (hsc : X.env.scope = defScope s_p_place_after) {sts_ : List Stmt} (hst_ : defBody s_p_place_after = sts_) (B : Bd X N_p_place_after V_p_place_after G_p_place_after 4) (T : Bt X V_p_place_after) (c_p_need_book : Cal X.prog X.w X.K X.mg X.base 4 "need_book" s_p_need_book ["book"] (sp_p_need_book X.K)) (c_p_need_place : Cal X.prog X.w X.K X.mg X.base 2 "need_place" s_p_need_place ["book", "place"] (sp_p_need_place X.K)) (c_p_need_walk : Cal X.prog X.w X.K X.mg X.base 4 "need_walk" s_p_need_walk ["walk", "letters"] (sp_p_need_walk X.K)) (c_p_turned_by : Cal X.prog X.w X.K X.mg X.base 2 "turned_by" s_p_turned_by ["book", "walk"] (sp_p_turned_by X.K)) (book : (Int × (List (List Int)))) (place : Int) (walk : (List Int)) (b : Int) (F0 : Hp) (os : Os) (D : Ends) (hm : m_p_place_after book place walk = some b) (R : RetZ F0 (os) (dat (PyData.int b)) D) :
    SX X [sl (dat (PyData.tuple [(PyData.int book.1), (PyData.tuple (List.map (eT PyData.int) book.2))])), sl (dat (PyData.int place)), sl (dat (PyData.tuple (List.map PyData.int walk)))] (os) F0 sts_ D := by
  subst hst_
  unfold m_p_place_after at hm
  obtain ⟨t1, h1, hm⟩ := bnd hm
  refine sx_expr (ex_call (a := book) (b := t1) (gi := 0) (rest := os) B rfl c_p_need_book (by decide) h1 (ax_cons (ex_v (i := 0) (j := 0) B rfl rfl rfl) ax_nil)) ?_
  obtain ⟨t2, h2, hm⟩ := bnd hm
  refine sx_expr (ex_call (a := (book, place)) (b := t2) (gi := 1) (rest := os) B rfl c_p_need_place (by decide) h2 (ax_cons (ex_v (i := 0) (j := 0) B rfl rfl rfl) (ax_cons (ex_v (i := 1) (j := 1) B rfl rfl rfl) ax_nil))) ?_
  obtain ⟨t3, h3, hm⟩ := bnd hm
  refine sx_expr (ex_call (a := (walk, book.1)) (b := t3) (gi := 2) (rest := os) B rfl c_p_need_walk (by decide) h3 (ax_cons (ex_v (i := 2) (j := 2) B rfl rfl rfl) (ax_cons (ex_ixT rdt_dat (by rfl) (ex_v (i := 0) (j := 0) B rfl rfl rfl) ex_int) ax_nil))) ?_
  obtain ⟨t4, h4, hm⟩ := bnd hm
  obtain ⟨t5, h5, hm⟩ := bnd hm
  obtain rfl := som hm
  exact sx_ret (ex_idxL (enc := PyData.int) h5 rdl_dat (ex_call (a := (book, walk)) (b := t4) (gi := 3) (rest := os) B rfl c_p_turned_by (by decide) h4 (ax_cons (ex_v (i := 0) (j := 0) B rfl rfl rfl) (ax_cons (ex_v (i := 2) (j := 2) B rfl rfl rfl) ax_nil))) (ex_v (i := 1) (j := 1) B rfl rfl rfl)) (fun F H v e o c => R.rt F H v e o c)
theorem cal_p_place_after {P : Program} {w : World} {K : PySem.W.Frag} {mg : Str → Option Value} {base : Heap} {f : Addr} {fd : FuncData} (Fn : Fun K "place_after" "place_after" s_p_place_after f fd) (hmg : mg "place_after" = some (.ref f)) (hb : Binds K fd ["book", "place", "walk"] []) (c_p_need_book : Cal P w K mg base 4 "need_book" s_p_need_book ["book"] (sp_p_need_book K)) (c_p_need_place : Cal P w K mg base 2 "need_place" s_p_need_place ["book", "place"] (sp_p_need_place K)) (c_p_need_walk : Cal P w K mg base 4 "need_walk" s_p_need_walk ["walk", "letters"] (sp_p_need_walk K)) (c_p_turned_by : Cal P w K mg base 2 "turned_by" s_p_turned_by ["book", "walk"] (sp_p_turned_by K)) : Cal P w K mg base 5 "place_after" s_p_place_after ["book", "place", "walk"] (sp_p_place_after K) := by
  obtain ⟨sts_, hst_⟩ : ∃ z_, defBody s_p_place_after = z_ := ⟨_, rfl⟩
  exact cal_ZQ (V := V_p_place_after) (Gs := G_p_place_after) (nl := 0) hst_ Fn sc_p_place_after (by decide +kernel) (by decide +kernel) hmg hb (fun _ => rfl) rfl fun _ _ _ _ _ _ _ a b F0 os D B T hm R => body_p_place_after rfl hst_ B T c_p_need_book c_p_need_place c_p_need_walk c_p_turned_by a.1 a.2.1 a.2.2 b F0 os D hm R
abbrev s_p_circles : Stmt := top 41
def N_p_circles : List Str := ["book", "walk"]
def V_p_circles : List Str := ["book", "walk"]
def G_p_circles : List Str := ["need_book", "need_walk", "circles_of", "turned_by"]
theorem sc_p_circles : FnScope N_p_circles ["book", "walk"] (defScope s_p_circles) := ⟨rfl, rfl, rfl, by decide +kernel, rfl, by decide +kernel, by decide +kernel⟩
abbrev sp_p_circles (K : PySem.W.Frag) : Sp := spN (α := ((Int × (List (List Int))) × (List Int))) (β := (List (List Int))) (fun a => [(dat (PyData.tuple [(PyData.int a.1.1), (PyData.tuple (List.map (eT PyData.int) a.1.2))])), (dat (PyData.tuple (List.map PyData.int a.2)))]) (fun a => []) (fun a => m_p_circles a.1 a.2) (fun a b => onx (List.map (olT PyData.int) b)) (fun a b => [])
set_option maxHeartbeats 4000000 in
theorem body_p_circles {X : Cx} (hsc : X.env.scope = defScope s_p_circles) {sts_ : List Stmt} (hst_ : defBody s_p_circles = sts_) (B : Bd X N_p_circles V_p_circles G_p_circles 4) (T : Bt X V_p_circles) (c_p_need_book : Cal X.prog X.w X.K X.mg X.base 4 "need_book" s_p_need_book ["book"] (sp_p_need_book X.K)) (c_p_need_walk : Cal X.prog X.w X.K X.mg X.base 4 "need_walk" s_p_need_walk ["walk", "letters"] (sp_p_need_walk X.K)) (c_p_circles_of : Cal X.prog X.w X.K X.mg X.base 1 "circles_of" s_p_circles_of ["turn"] (sp_p_circles_of X.K)) (c_p_turned_by : Cal X.prog X.w X.K X.mg X.base 2 "turned_by" s_p_turned_by ["book", "walk"] (sp_p_turned_by X.K)) (book : (Int × (List (List Int)))) (walk : (List Int)) (b : (List (List Int))) (F0 : Hp) (os : Os) (D : Ends) (hm : m_p_circles book walk = some b) (R : RetN F0 (os) (onx (List.map (olT PyData.int) b)) D) :
    SX X [sl (dat (PyData.tuple [(PyData.int book.1), (PyData.tuple (List.map (eT PyData.int) book.2))])), sl (dat (PyData.tuple (List.map PyData.int walk)))] (os) F0 sts_ D := by
  subst hst_
  unfold m_p_circles at hm
  obtain ⟨t1, h1, hm⟩ := bnd hm
  refine sx_expr (ex_call (a := book) (b := t1) (gi := 0) (rest := os) B rfl c_p_need_book (by decide) h1 (ax_cons (ex_v (i := 0) (j := 0) B rfl rfl rfl) ax_nil)) ?_
  obtain ⟨t2, h2, hm⟩ := bnd hm
  refine sx_expr (ex_call (a := (walk, book.1)) (b := t2) (gi := 1) (rest := os) B rfl c_p_need_walk (by decide) h2 (ax_cons (ex_v (i := 1) (j := 1) B rfl rfl rfl) (ax_cons (ex_ixT rdt_dat (by rfl) (ex_v (i := 0) (j := 0) B rfl rfl rfl) ex_int) ax_nil))) ?_
  obtain ⟨t3, h3, hm⟩ := bnd hm
  obtain ⟨t4, h4, hm⟩ := bnd hm
  obtain rfl := som hm
  exact sx_retN (en_call (a := t3) (b := t4) (gi := 2) (rest := os) B rfl c_p_circles_of (by decide) h4 (ax_cons (ex_call (a := (book, walk)) (b := t3) (gi := 3) (rest := os) B rfl c_p_turned_by (by decide) h3 (ax_cons (ex_v (i := 0) (j := 0) B rfl rfl rfl) (ax_cons (ex_v (i := 1) (j := 1) B rfl rfl rfl) ax_nil))) ax_nil)) (fun F H p e o => R.rt F H p e o)
theorem cal_p_circles {P : Program} {w : World} {K : PySem.W.Frag} {mg : Str → Option Value} {base : Heap} {f : Addr} {fd : FuncData} (Fn : Fun K "circles" "circles" s_p_circles f fd) (hmg : mg "circles" = some (.ref f)) (hb : Binds K fd ["book", "walk"] []) (c_p_need_book : Cal P w K mg base 4 "need_book" s_p_need_book ["book"] (sp_p_need_book K)) (c_p_need_walk : Cal P w K mg base 4 "need_walk" s_p_need_walk ["walk", "letters"] (sp_p_need_walk K)) (c_p_circles_of : Cal P w K mg base 1 "circles_of" s_p_circles_of ["turn"] (sp_p_circles_of K)) (c_p_turned_by : Cal P w K mg base 2 "turned_by" s_p_turned_by ["book", "walk"] (sp_p_turned_by K)) : Cal P w K mg base 5 "circles" s_p_circles ["book", "walk"] (sp_p_circles K) := by
  obtain ⟨sts_, hst_⟩ : ∃ z_, defBody s_p_circles = z_ := ⟨_, rfl⟩
  exact cal_NQ (V := V_p_circles) (Gs := G_p_circles) (nl := 0) hst_ Fn sc_p_circles (by decide +kernel) (by decide +kernel) hmg hb (fun _ => rfl) rfl fun _ _ _ _ _ _ _ a b F0 os D B T hm R => body_p_circles rfl hst_ B T c_p_need_book c_p_need_walk c_p_circles_of c_p_turned_by a.1 a.2 b F0 os D hm R
abbrev s_p_times_round : Stmt := top 40
def N_p_times_round : List Str := ["book", "walk", "found", "circle"]
def V_p_times_round : List Str := ["book", "walk", "found", "circle"]
def G_p_times_round : List Str := ["circles", "lcm", "len"]
theorem sc_p_times_round : FnScope N_p_times_round ["book", "walk"] (defScope s_p_times_round) := ⟨rfl, rfl, rfl, by decide +kernel, rfl, by decide +kernel, by decide +kernel⟩
abbrev sp_p_times_round (K : PySem.W.Frag) : Sp := spZ (α := ((Int × (List (List Int))) × (List Int))) (β := Int) (fun a => [(dat (PyData.tuple [(PyData.int a.1.1), (PyData.tuple (List.map (eT PyData.int) a.1.2))])), (dat (PyData.tuple (List.map PyData.int a.2)))]) (fun a => []) (fun a => m_p_times_round a.1 a.2) (fun a b => (dat (PyData.int b))) (fun a b => [])
set_option maxHeartbeats 4000000 in
theorem body_p_times_round {X : Cx} (hsc : X.env.scope = defScope s_p_times_round) {sts_ : List Stmt} (hst_ : defBody s_p_times_round = sts_) (B : Bd X N_p_times_round V_p_times_round G_p_times_round 5) (T : Bt X V_p_times_round) (c_p_circles : Cal X.prog X.w X.K X.mg X.base 5 "circles" s_p_circles ["book", "walk"] (sp_p_circles X.K)) (g_len : X.mg "len" = none) (g_lcm : X.mg "lcm" = some (.builtin "math.lcm")) (book : (Int × (List (List Int)))) (walk : (List Int)) (b : Int) (F0 : Hp) (os : Os) (D : Ends) (hm : m_p_times_round book walk = some b) (R : RetZ F0 (os) (dat (PyData.int b)) D) :
    SX X [sl (dat (PyData.tuple [(PyData.int book.1), (PyData.tuple (List.map (eT PyData.int) book.2))])), sl (dat (PyData.tuple (List.map PyData.int walk))), un, un] (os) F0 sts_ D := by
  subst hst_
  unfold m_p_times_round at hm
  refine sx_asg (i := 2) (vi := 2) (φ := (dat (PyData.int 1))) B T rfl rfl ex_int ?_
  obtain ⟨t1, h1, hm⟩ := bnd hm
  obtain ⟨f4, h8, hm⟩ := bnd hm
  refine sx_for (c := anyOs) _ (fun (s2 : Int) (_ : Unit) => [sl (dat (PyData.tuple [(PyData.int book.1), (PyData.tuple (List.map (eT PyData.int) book.2))])), sl (dat (PyData.tuple (List.map PyData.int walk))), sl (dat (PyData.int s2)), un]) (fun (s2 : Int) (_ : Unit) => os) B T (fun circle3 => gx_name (i := 3) (vi := 3) (φ := (dat (PyData.list (List.map PyData.int circle3)))) B T rfl rfl) 1 () f4 h8 (ix_list (enc := (eL PyData.int)) (c := anyOs) (EN.exF (en_call (a := (book, walk)) (b := t1) (gi := 0) (rest := os) B rfl c_p_circles (by decide) h1 (ax_cons (ex_v (i := 0) (j := 0) B rfl rfl rfl) (ax_cons (ex_v (i := 1) (j := 1) B rfl rfl rfl) ax_nil))) (frb_onx (fun _ => frb_ol))) (fun _ _ => rdl_dat) trivial) ⟨.inl rfl, .inl rfl, .inl rfl, .inl rfl, trivial⟩ (fun _ _ => trivial) (fun F6 e5 s2 _ circle3 z9 hx hm => ?_) (fun _ => ?_)
  · clear h8
    obtain ⟨t7, h7, hm⟩ := bnd hm
    refine sx_asg (i := 2) (vi := 2) (φ := (dat (PyData.int t7))) B T rfl rfl (ex_mfn (gi := 1) B rfl g_lcm cr_lcm (rc_lcm h7) (ax_cons (ex_v (i := 2) (j := 2) B rfl rfl rfl) (ax_cons (EX.to (ex_fn (j := 2) B rfl g_len (by decide +kernel) call_len_seq (rc_lenL (ds := List.map PyData.int circle3) rdl_dat) (ax_cons (ex_v (i := 3) (j := 3) B rfl rfl rfl) ax_nil)) (by rw [List.length_map])) ax_nil))) ?_
    obtain rfl := som hm
    exact sx_nil fun σ H a => ⟨(), (a.weak ⟨.inl rfl, .inl rfl, .inl rfl, .inr rfl, trivial⟩)⟩
  · skip
    obtain rfl := som hm
    exact sx_ret (ex_v (i := 2) (j := 2) B rfl rfl rfl) (fun F H v e o c => R.rt F H v e o c)
theorem cal_p_times_round {P : Program} {w : World} {K : PySem.W.Frag} {mg : Str → Option Value} {base : Heap} {f : Addr} {fd : FuncData} (Fn : Fun K "times_round" "times_round" s_p_times_round f fd) (hmg : mg "times_round" = some (.ref f)) (hb : Binds K fd ["book", "walk"] []) (c_p_circles : Cal P w K mg base 5 "circles" s_p_circles ["book", "walk"] (sp_p_circles K)) (g_len : mg "len" = none) (g_lcm : mg "lcm" = some (.builtin "math.lcm")) : Cal P w K mg base 6 "times_round" s_p_times_round ["book", "walk"] (sp_p_times_round K) := by
  obtain ⟨sts_, hst_⟩ : ∃ z_, defBody s_p_times_round = z_ := ⟨_, rfl⟩
  exact cal_ZQ (V := V_p_times_round) (Gs := G_p_times_round) (nl := 2) hst_ Fn sc_p_times_round (by decide +kernel) (by decide +kernel) hmg hb (fun _ => rfl) rfl fun _ _ _ _ _ _ _ a b F0 os D B T hm R => body_p_times_round rfl hst_ B T c_p_circles g_len g_lcm a.1 a.2 b F0 os D hm R
abbrev s_p_parts : Stmt := top 42
def N_p_parts : List Str := ["book", "found", "met", "first", "part", "at", "turn", "goal"]
def V_p_parts : List Str := ["book", "found", "met", "first", "part", "at", "turn", "goal"]
def G_p_parts : List Str := ["need_book", "range", "places_of", "len", "sorted"]
theorem sc_p_parts : FnScope N_p_parts ["book"] (defScope s_p_parts) := ⟨rfl, rfl, rfl, by decide +kernel, rfl, by decide +kernel, by decide +kernel⟩
abbrev sp_p_parts (K : PySem.W.Frag) : Sp := spN (α := (Int × (List (List Int)))) (β := (List (List Int))) (fun a => [(dat (PyData.tuple [(PyData.int a.1), (PyData.tuple (List.map (eT PyData.int) a.2))]))]) (fun a => []) (fun a => m_p_parts a) (fun a b => onx (List.map (olT PyData.int) b)) (fun a b => [])
set_option maxHeartbeats 4000000 in
theorem body_p_parts {X : Cx} (hsc : X.env.scope = defScope s_p_parts) {sts_ : List Stmt} (hst_ : defBody s_p_parts = sts_) (B : Bd X N_p_parts V_p_parts G_p_parts 4) (T : Bt X V_p_parts) (c_p_need_book : Cal X.prog X.w X.K X.mg X.base 4 "need_book" s_p_need_book ["book"] (sp_p_need_book X.K)) (g_range : X.mg "range" = none) (c_p_places_of : Cal X.prog X.w X.K X.mg X.base 1 "places_of" s_p_places_of ["book"] (sp_p_places_of X.K)) (g_len : X.mg "len" = none) (g_sorted : X.mg "sorted" = none) (book : (Int × (List (List Int)))) (b : (List (List Int))) (F0 : Hp) (os : Os) (D : Ends) (hm : m_p_parts book = some b) (R : RetN F0 (os) (onx (List.map (olT PyData.int) b)) D) :
    SX X [sl (dat (PyData.tuple [(PyData.int book.1), (PyData.tuple (List.map (eT PyData.int) book.2))])), un, un, un, un, un, un, un] (os) F0 sts_ D := by
  subst hst_
  unfold m_p_parts at hm
  obtain ⟨t1, h1, hm⟩ := bnd hm
  refine sx_expr (ex_call (a := book) (b := t1) (gi := 0) (rest := os) B rfl c_p_need_book (by decide) h1 (ax_cons (ex_v (i := 0) (j := 0) B rfl rfl rfl) ax_nil)) ?_
  refine SXw.run ?_
  refine sx_newp2 (i := 1) (j := 2) (n1 := onx (List.map (olT PyData.int) ([] : (List (List Int))))) (n2 := od kI (eM PyData.bool ([] : (List (Int × Bool))))) _ hsc B rfl rfl (by decide) (by decide +kernel) (by decide +kernel) (by intro env he; cases env; cases he; first | rfl | kernel_rfl) (en_nil (f := (olT PyData.int))) (fun q_found2 => (en_dnew (kd := kI))) (fun q_found2 q_met3 => ?_)
  refine sx_open 1 rfl (fun k_4 => ?_)
  refine sx_clos 1 rfl ?_
  obtain ⟨t5, h5, hm⟩ := bnd hm
  obtain ⟨t6, h6, hm⟩ := bnd hm
  obtain ⟨f9, h36, hm⟩ := bnd hm
  refine sx_for (c := anyOs) _ (fun (s7 : ((List (Int × Bool)) × (List (List Int)))) (_ : Unit) => [sl (dat (PyData.tuple [(PyData.int book.1), (PyData.tuple (List.map (eT PyData.int) book.2))])), sl (own q_found2), sl (own q_met3), un, un, un, un, un]) (fun (s7 : ((List (Int × Bool)) × (List (List Int)))) (_ : Unit) => (q_met3, od kI (eM PyData.bool s7.1)) :: (q_found2, onx (List.map (olT PyData.int) s7.2)) :: os) B T (fun first8 => gx_name (i := 3) (vi := 3) (φ := (dat (PyData.int first8))) B T rfl rfl) (([] : (List (Int × Bool))), ([] : (List (List Int)))) () f9 h36 (ix_rng1 (gi := 1) B rfl g_range h6 (ex_call (a := book) (b := t5) (gi := 2) (rest := (q_met3, od kI (eM PyData.bool ([] : (List (Int × Bool))))) :: (q_found2, onx (List.map (olT PyData.int) ([] : (List (List Int))))) :: os) B rfl c_p_places_of (by decide) h5 (ax_cons (ex_v (i := 0) (j := 0) B rfl rfl rfl) ax_nil))) ⟨.inl rfl, .inl rfl, .inl rfl, .inl rfl, .inl rfl, .inl rfl, .inl rfl, .inl rfl, trivial⟩ (fun _ _ => trivial) (fun F11 e10 s7 _ first8 z38 hx hm => ?_) (fun _ => ?_)
  · clear h36
    refine sx_open 1 rfl (fun k_12 => ?_)
    obtain ⟨s35, h_s35, hm⟩ := bnd hm
    refine sx_join [sl (dat (PyData.tuple [(PyData.int book.1), (PyData.tuple (List.map (eT PyData.int) book.2))])), sl (own q_found2), sl (own q_met3), sl (dat (PyData.int first8)), un, un, un, un] ((q_met3, od kI (eM PyData.bool s35.1)) :: (q_found2, onx (List.map (olT PyData.int) s35.2)) :: os) (?_) (fun Q => ?_)
    · clear h_s35
      obtain rfl := som hm
      exact sx_nil fun σ H a => ⟨(), (a.weak ⟨.inl rfl, .inl rfl, .inl rfl, .inr rfl, .inl rfl, .inl rfl, .inl rfl, .inl rfl, trivial⟩)⟩
    · have hm := h_s35
      refine sx_if (tx_dnotin (kd := kI) (enc := PyData.bool) (w := s7.1) (k := first8) inj_kI B (rdd_own 0 rfl) (ex_v (i := 3) (j := 3) B rfl rfl rfl) (ex_v (i := 2) (j := 2) B rfl rfl rfl)) (fun hk => ?_) (fun hk => ?_)
      · have hm := ifT hm hk
        refine sx_par2 (i := 4) (j := 5) _ hsc B rfl rfl (by decide) (by decide +kernel) (by decide +kernel) (by intro env he; cases env; cases he; first | rfl | kernel_rfl) (aq_n (n := ol (List.map PyData.int ([first8]))) (en_lst (ds := [(PyData.int first8)]) (hl := len_ok (n := 1) rfl) (ax_cons (ex_v (i := 3) (j := 3) B rfl rfl rfl) ax_nil)) (fun q_part_13 => (aq_x (φ := (dat (PyData.int 0))) ex_int aq_nil))) (fun v0 v1 os_ hr_ => ?_) (by rintro φs os_ ⟨q_part_13, _, rfl, _, rfl, rfl, rfl⟩; exact ⟨_, _, rfl⟩)
        obtain ⟨q_part_13, _, e0, _, e1, e8, e9⟩ := hr_
        cases e0; cases e1; cases e8; cases e9
        obtain ⟨t14, h14, hm⟩ := bnd hm
        refine sx_dput (kd := kI) (enc := PyData.bool) (w := s7.1) (x := true) inj_kI h14 B ex_bool (ex_v (i := 2) (j := 2) B rfl rfl rfl) (ex_v (i := 3) (j := 3) B rfl rfl rfl) (wr_flat (f := (odT kI PyData.bool)) (d := s7.1) 1 rfl) ?_
        obtain ⟨f16o, h33, hm⟩ := bnd hm
        refine sx_while _ _ (fun (s15 : (Int × (List Int) × (List (Int × Bool)))) (_ : Unit) => [sl (dat (PyData.tuple [(PyData.int book.1), (PyData.tuple (List.map (eT PyData.int) book.2))])), sl (own q_found2), sl (own q_met3), sl (dat (PyData.int first8)), sl (own q_part_13), sl (dat (PyData.int s15.1)), un, un]) (fun (s15 : (Int × (List Int) × (List (Int × Bool)))) (_ : Unit) => (q_part_13, ol (List.map PyData.int s15.2.1)) :: (q_met3, od kI (eM PyData.bool s15.2.2)) :: (q_found2, onl k_12 (List.map (olT PyData.int) s7.2)) :: os) (fun (r : (List (List Int))) v H => ∃ F p, Same F0 F ∧ v = .ref p ∧ Ow F ((p, onx (List.map (olT PyData.int) r)) :: os) H) T 10000 (0, [first8], t14) () f16o h33 ⟨.inl rfl, .inl rfl, .inl rfl, .inl rfl, .inl rfl, .inl rfl, .inl rfl, .inl rfl, trivial⟩ rfl (fun s15 _ b hm => by (obtain rfl := som hm; exact (tx_cmp op_lt r2_lt (nomark _) (ex_v (i := 5) (j := 5) B rfl rfl rfl) (EX.to (ex_fn (j := 3) B rfl g_len (by decide +kernel) call_len_seq (rc_lenL (ds := List.map PyData.int s15.2.1) (rdl_own 0 rfl)) (ax_cons (ex_v (i := 4) (j := 4) B rfl rfl rfl) ax_nil)) (by rw [List.length_map]))))) (fun F18 e17 s15 _ z34 _ hm => ?_) (fun f16 _ ho => ?_) (fun r32 v H ho hr => ?_)
        · clear h33
          obtain ⟨f21, h29, hm⟩ := bnd hm
          refine sx_for (c := anyOs) _ (fun (s19 : ((List Int) × (List (Int × Bool)))) (_ : Unit) => [sl (dat (PyData.tuple [(PyData.int book.1), (PyData.tuple (List.map (eT PyData.int) book.2))])), sl (own q_found2), sl (own q_met3), sl (dat (PyData.int first8)), sl (own q_part_13), sl (dat (PyData.int s15.1)), un, un]) (fun (s19 : ((List Int) × (List (Int × Bool)))) (_ : Unit) => (q_part_13, ol (List.map PyData.int s19.1)) :: (q_met3, od kI (eM PyData.bool s19.2)) :: (q_found2, onl k_12 (List.map (olT PyData.int) s7.2)) :: os) B T (fun turn20 => gx_name (i := 6) (vi := 6) (φ := (dat (PyData.tuple (List.map PyData.int turn20)))) B T rfl rfl) (s15.2.1, s15.2.2) () f21 h29 (ix_tup (enc := (eT PyData.int)) (ex_ixT rdt_dat (by rfl) (ex_v (i := 0) (j := 0) B rfl rfl rfl) ex_int) rdt_dat) ⟨.inl rfl, .inl rfl, .inl rfl, .inl rfl, .inl rfl, .inl rfl, .inl rfl, .inl rfl, trivial⟩ (fun _ _ => trivial) (fun F23 e22 s19 _ turn20 z30 hx hm => ?_) (fun _ => ?_)
          · clear h29
            obtain ⟨t24, h24, hm⟩ := bnd hm
            obtain ⟨t25, h25, hm⟩ := bnd hm
            refine sx_asg (i := 7) (vi := 7) (φ := (dat (PyData.int t25))) B T rfl rfl (ex_idxT (enc := PyData.int) h25 rdt_dat (ex_v (i := 6) (j := 6) B rfl rfl rfl) (ex_idxL (enc := PyData.int) h24 (rdl_own 0 rfl) (ex_v (i := 4) (j := 4) B rfl rfl rfl) (ex_v (i := 5) (j := 5) B rfl rfl rfl))) ?_
            obtain ⟨s28, h_s28, hm⟩ := bnd hm
            refine sx_join [sl (dat (PyData.tuple [(PyData.int book.1), (PyData.tuple (List.map (eT PyData.int) book.2))])), sl (own q_found2), sl (own q_met3), sl (dat (PyData.int first8)), sl (own q_part_13), sl (dat (PyData.int s15.1)), sl (dat (PyData.tuple (List.map PyData.int turn20))), sl (dat (PyData.int t25))] ((q_part_13, ol (List.map PyData.int s28.1)) :: (q_met3, od kI (eM PyData.bool s28.2)) :: (q_found2, onl k_12 (List.map (olT PyData.int) s7.2)) :: os) (?_) (fun Q => ?_)
            · clear h_s28
              obtain rfl := som hm
              exact sx_nil fun σ H a => ⟨(), (a.weak ⟨.inl rfl, .inl rfl, .inl rfl, .inl rfl, .inl rfl, .inl rfl, .inr rfl, .inr rfl, trivial⟩)⟩
            · have hm := h_s28
              refine sx_if (tx_dnotin (kd := kI) (enc := PyData.bool) (w := s19.2) (k := t25) inj_kI B (rdd_own 1 rfl) (ex_v (i := 7) (j := 7) B rfl rfl rfl) (ex_v (i := 2) (j := 2) B rfl rfl rfl)) (fun hk => ?_) (fun hk => ?_)
              · have hm := ifT hm hk
                obtain ⟨t26, h26, hm⟩ := bnd hm
                refine sx_dput (kd := kI) (enc := PyData.bool) (w := s19.2) (x := true) inj_kI h26 B ex_bool (ex_v (i := 2) (j := 2) B rfl rfl rfl) (ex_v (i := 7) (j := 7) B rfl rfl rfl) (wr_flat (f := (odT kI PyData.bool)) (d := s19.2) 1 rfl) ?_
                obtain ⟨t27, h27, hm⟩ := bnd hm
                refine sx_expr (ex_app (enc := PyData.int) (j := 0) (xs0 := s19.1) (xs := s19.1) (y := t25) h27 (ex_v (i := 4) (j := 4) B rfl rfl rfl) rfl (ex_v (i := 7) (j := 7) B rfl rfl rfl) rfl) ?_
                obtain rfl := som hm
                exact sx_fall Q rfl
              · have hm := ifF hm hk
                obtain rfl := som hm
                exact sx_fall Q rfl
          · skip
            refine sx_addI (i := 5) (vi := 5) B T rfl rfl rfl ex_int ?_
            exact sx_nil fun σ H a => ⟨_, (), (som hm).symm, (a.weak ⟨.inl rfl, .inl rfl, .inl rfl, .inl rfl, .inl rfl, .inl rfl, .inl rfl, .inl rfl, trivial⟩)⟩
        · cases ho
          have hm := elimR hm
          refine sx_frz (j := 0) (i := 4) rfl rfl ?_
          obtain ⟨t31, h31, hm⟩ := bnd hm
          refine sx_expr (ex_appN (f := (olT PyData.int)) (ws0 := s7.2) (ws := s7.2) (d0 := (srtI f16.2.1)) (i := 1) (j := 1) h31 (ex_v (i := 1) (j := 1) B rfl rfl rfl) rfl (en_fn (j := 4) B rfl g_sorted (by decide +kernel) cr_sortedI (rc_sortedI (ns := f16.2.1) rdl_dat) (ax_cons (ex_v (i := 4) (j := 4) B rfl rfl rfl) ax_nil)) rfl) ?_
          obtain rfl := som hm
          exact sx_fall (SX.weak Q (by exact ⟨.inl rfl, .inl rfl, .inl rfl, .inl rfl, .inr rfl, .inr rfl, .inl rfl, .inl rfl, trivial⟩)) rfl
        · cases ho
          have hm := elimL hm
          cases hm
      · have hm := ifF hm hk
        obtain rfl := som hm
        exact sx_fall (Q.clos 1 rfl) rfl
  · skip
    refine sx_open 1 rfl (fun k_37 => ?_)
    obtain rfl := som hm
    exact sx_retO (ex_v (i := 1) (j := 1) B rfl rfl rfl) (fun F H e o => R.rt F H q_found2 e ((o.clos 1 rfl).drop))
theorem cal_p_parts {P : Program} {w : World} {K : PySem.W.Frag} {mg : Str → Option Value} {base : Heap} {f : Addr} {fd : FuncData} (Fn : Fun K "parts" "parts" s_p_parts f fd) (hmg : mg "parts" = some (.ref f)) (hb : Binds K fd ["book"] []) (c_p_need_book : Cal P w K mg base 4 "need_book" s_p_need_book ["book"] (sp_p_need_book K)) (g_range : mg "range" = none) (c_p_places_of : Cal P w K mg base 1 "places_of" s_p_places_of ["book"] (sp_p_places_of K)) (g_len : mg "len" = none) (g_sorted : mg "sorted" = none) : Cal P w K mg base 5 "parts" s_p_parts ["book"] (sp_p_parts K) := by
  obtain ⟨sts_, hst_⟩ : ∃ z_, defBody s_p_parts = z_ := ⟨_, rfl⟩
  exact cal_NQ (V := V_p_parts) (Gs := G_p_parts) (nl := 7) hst_ Fn sc_p_parts (by decide +kernel) (by decide +kernel) hmg hb (fun _ => rfl) rfl fun _ _ _ _ _ _ _ a b F0 os D B T hm R => body_p_parts rfl hst_ B T c_p_need_book g_range c_p_places_of g_len g_sorted a b F0 os D hm R
abbrev s_p_power : Stmt := top 45
def N_p_power : List Str := ["walk", "times", "once"]
def V_p_power : List Str := ["walk", "times", "once"]
def G_p_power : List Str := ["need_walk", "MOST_LETTERS", "need_number", "MOST_TIMES_walks", "straightened", "turned_back", "abs"]
theorem sc_p_power : FnScope N_p_power ["walk", "times"] (defScope s_p_power) := ⟨rfl, rfl, rfl, by decide +kernel, rfl, by decide +kernel, by decide +kernel⟩
abbrev sp_p_power (K : PySem.W.Frag) : Sp := spZ (α := ((List Int) × Int)) (β := (List Int)) (fun a => [(dat (PyData.tuple (List.map PyData.int a.1))), (dat (PyData.int a.2))]) (fun a => []) (fun a => m_p_power a.1 a.2) (fun a b => (dat (PyData.tuple (List.map PyData.int b)))) (fun a b => [])
set_option maxHeartbeats 4000000 in
theorem body_p_power {X : Cx} (hsc : X.env.scope = defScope s_p_power) {sts_ : List Stmt} (hst_ : defBody s_p_power = sts_) (B : Bd X N_p_power V_p_power G_p_power 4) (T : Bt X V_p_power) {tk_MOST_TIMES_walks : Tok} {tk_MOST_LETTERS : Tok} (c_p_need_walk : Cal X.prog X.w X.K X.mg X.base 4 "need_walk" s_p_need_walk ["walk", "letters"] (sp_p_need_walk X.K)) (g_MOST_LETTERS : X.mg "MOST_LETTERS" = some (.int 4 tk_MOST_LETTERS)) (c_p_need_number : Cal X.prog X.w X.K X.mg X.base 1 "need_number" s_p_need_number ["number", "low", "high"] (sp_p_need_number X.K)) (g_MOST_TIMES_walks : X.mg "MOST_TIMES_walks" = some (.int 20 tk_MOST_TIMES_walks)) (c_p_straightened : Cal X.prog X.w X.K X.mg X.base 1 "straightened" s_p_straightened ["walk"] (sp_p_straightened X.K)) (c_p_turned_back : Cal X.prog X.w X.K X.mg X.base 1 "turned_back" s_p_turned_back ["walk"] (sp_p_turned_back X.K)) (g_abs : X.mg "abs" = none) (walk : (List Int)) (times : Int) (b : (List Int)) (F0 : Hp) (os : Os) (D : Ends) (hm : m_p_power walk times = some b) (R : RetZ F0 (os) (dat (PyData.tuple (List.map PyData.int b))) D) :
    SX X [sl (dat (PyData.tuple (List.map PyData.int walk))), sl (dat (PyData.int times)), un] (os) F0 sts_ D := by
  subst hst_
  unfold m_p_power at hm
  obtain ⟨t1, h1, hm⟩ := bnd hm
  refine sx_expr (ex_call (a := (walk, 4)) (b := t1) (gi := 0) (rest := os) B rfl c_p_need_walk (by decide) h1 (ax_cons (ex_v (i := 0) (j := 0) B rfl rfl rfl) (ax_cons (ex_g (j := 1) B rfl g_MOST_LETTERS) ax_nil))) ?_
  obtain ⟨t2, h2, hm⟩ := bnd hm
  refine sx_expr (ex_call (a := (times, (-20), 20)) (b := t2) (gi := 2) (rest := os) B rfl c_p_need_number (by decide) h2 (ax_cons (ex_v (i := 1) (j := 1) B rfl rfl rfl) (ax_cons (ex_neg (ex_g (j := 3) B rfl g_MOST_TIMES_walks)) (ax_cons (ex_g (j := 3) B rfl g_MOST_TIMES_walks) ax_nil)))) ?_
  obtain ⟨t3, h3, hm⟩ := bnd hm
  refine sx_asg (i := 2) (vi := 2) (φ := (dat (PyData.tuple (List.map PyData.int t3)))) B T rfl rfl (ex_call (a := walk) (b := t3) (gi := 4) (rest := os) B rfl c_p_straightened (by decide) h3 (ax_cons (ex_v (i := 0) (j := 0) B rfl rfl rfl) ax_nil)) ?_
  obtain ⟨s5, h_s5, hm⟩ := bnd hm
  refine sx_join [sl (dat (PyData.tuple (List.map PyData.int walk))), sl (dat (PyData.int times)), sl (dat (PyData.tuple (List.map PyData.int s5)))] (os) (?_) (fun Q => ?_)
  · clear h_s5
    obtain ⟨t6, h6, hm⟩ := bnd hm
    obtain ⟨t7, h7, hm⟩ := bnd hm
    obtain rfl := som hm
    exact sx_ret (ex_call (a := t6) (b := t7) (gi := 4) (rest := os) B rfl c_p_straightened (by decide) h7 (ax_cons (ex_repT (enc := PyData.int) h6 (ex_v (i := 2) (j := 2) B rfl rfl rfl) (ex_fn (j := 6) B rfl g_abs (by decide +kernel) call_abs rc_abs (ax_cons (ex_v (i := 1) (j := 1) B rfl rfl rfl) ax_nil))) ax_nil)) (fun F H v e o c => R.rt F H v e o c)
  · have hm := h_s5
    refine sx_if (tx_cmp op_lt r2_lt (nomark _) (ex_v (i := 1) (j := 1) B rfl rfl rfl) ex_int) (fun hk => ?_) (fun hk => ?_)
    · have hm := ifT hm hk
      obtain ⟨t4, h4, hm⟩ := bnd hm
      refine sx_asg (i := 2) (vi := 2) (φ := (dat (PyData.tuple (List.map PyData.int t4)))) B T rfl rfl (ex_call (a := t3) (b := t4) (gi := 5) (rest := os) B rfl c_p_turned_back (by decide) h4 (ax_cons (ex_v (i := 2) (j := 2) B rfl rfl rfl) ax_nil)) ?_
      obtain rfl := som hm
      exact sx_fall Q rfl
    · have hm := ifF hm hk
      obtain rfl := som hm
      exact sx_fall Q rfl
theorem cal_p_power {P : Program} {w : World} {K : PySem.W.Frag} {mg : Str → Option Value} {base : Heap} {f : Addr} {fd : FuncData} (Fn : Fun K "power" "power" s_p_power f fd) (hmg : mg "power" = some (.ref f)) (hb : Binds K fd ["walk", "times"] []) {tk_MOST_TIMES_walks : Tok} {tk_MOST_LETTERS : Tok} (c_p_need_walk : Cal P w K mg base 4 "need_walk" s_p_need_walk ["walk", "letters"] (sp_p_need_walk K)) (g_MOST_LETTERS : mg "MOST_LETTERS" = some (.int 4 tk_MOST_LETTERS)) (c_p_need_number : Cal P w K mg base 1 "need_number" s_p_need_number ["number", "low", "high"] (sp_p_need_number K)) (g_MOST_TIMES_walks : mg "MOST_TIMES_walks" = some (.int 20 tk_MOST_TIMES_walks)) (c_p_straightened : Cal P w K mg base 1 "straightened" s_p_straightened ["walk"] (sp_p_straightened K)) (c_p_turned_back : Cal P w K mg base 1 "turned_back" s_p_turned_back ["walk"] (sp_p_turned_back K)) (g_abs : mg "abs" = none) : Cal P w K mg base 5 "power" s_p_power ["walk", "times"] (sp_p_power K) := by
  obtain ⟨sts_, hst_⟩ : ∃ z_, defBody s_p_power = z_ := ⟨_, rfl⟩
  exact cal_ZQ (V := V_p_power) (Gs := G_p_power) (nl := 1) hst_ Fn sc_p_power (by decide +kernel) (by decide +kernel) hmg hb (fun _ => rfl) rfl fun _ _ _ _ _ _ _ a b F0 os D B T hm R => body_p_power rfl hst_ B T c_p_need_walk g_MOST_LETTERS c_p_need_number g_MOST_TIMES_walks c_p_straightened c_p_turned_back g_abs a.1 a.2 b F0 os D hm R
abbrev s_l_well : Stmt := top 47
def N_l_well : List Str := ["_law_script", "_law_k", "_law_cell", "_law_crowd", "_law_seed", "_law_other"]
def V_l_well : List Str := ["_law_script", "_law_k", "_law_cell", "_law_crowd", "_law_seed"]
def G_l_well : List Str := ["len", "sum", "int", "abs", "max"]
theorem sc_l_well : FnScope N_l_well ["_law_script", "_law_k"] (defScope s_l_well) := ⟨rfl, rfl, rfl, by decide +kernel, rfl, by decide +kernel, by decide +kernel⟩
abbrev sp_l_well (K : PySem.W.Frag) : Sp := spN (α := ((List Int) × Int)) (β := (List Int)) (fun a => [(scr K a.1), (dat (PyData.int a.2))]) (fun a => []) (fun a => m_l_well a.1 a.2) (fun a b => ol (List.map PyData.int b)) (fun a b => [])
set_option maxHeartbeats 4000000 in
theorem body_l_well {X : Cx} (hsc : X.env.scope = defScope s_l_well) {sts_ : List Stmt} (hst_ : defBody s_l_well = sts_) (B : Bd X N_l_well V_l_well G_l_well 0) (T : Bt X V_l_well) (g_len : X.mg "len" = none) (g_sum : X.mg "sum" = none) (g_int : X.mg "int" = none) (g_abs : X.mg "abs" = none) (g_max : X.mg "max" = none) (script : (List Int)) (k_ : Int) (b : (List Int)) (F0 : Hp) (os : Os) (D : Ends) (hm : m_l_well script k_ = some b) (R : RetN F0 (os) (ol (List.map PyData.int b)) D) :
    SX X [sl (scr X.K script), sl (dat (PyData.int k_)), un, un, un, un] (os) F0 sts_ D := by
  subst hst_
  unfold m_l_well at hm
  refine sx_asg (i := 2) (vi := 2) (φ := (dat (PyData.int (((43 * k_) + 29) + (7 * (script.length : Int)))))) B T rfl rfl (ex_add (ex_add (ex_mulL (by decide) ex_int (ex_v (i := 1) (j := 1) B rfl rfl rfl)) ex_int) (ex_mulL (by decide) ex_int (EX.to (ex_fn (j := 0) B rfl g_len (by decide +kernel) call_len_seq (rc_lenL (ds := List.map PyData.int script) rdl_scr) (ax_cons (ex_v (i := 0) (j := 0) B rfl rfl rfl) ax_nil)) (by rw [List.length_map])))) ?_
  obtain ⟨s2, h_s2, hm⟩ := bnd hm
  refine sx_join [sl (scr X.K script), sl (dat (PyData.int k_)), sl (dat (PyData.int s2)), un, un, un] (os) (?_) (fun Q => ?_)
  · clear h_s2
    obtain ⟨t5, h5, hm⟩ := bnd hm
    refine sx_asg (i := 3) (vi := 3) (φ := (dat (PyData.int t5.sum))) B T rfl rfl (ex_fn (j := 1) B rfl g_sum (by decide +kernel) (cr_sum B.calm) (rc_sum rdl_dat) (ax_cons (EN.ex (en_lc (lc_mk1 (j := 5) (vp := fun other3 => (dat (PyData.int other3))) (c := anyOs) (enc := PyData.int) (fun (_ : Unit) (other3 : Int) => some (some (other3 % 1000000000000000000000007), ())) (fun (_ : Unit) (tl1 : Os) => tl1) () (t5) () B rfl rfl (by rw [B.hN, hsc]; decide +kernel) (by rw [hsc]; decide +kernel) (by decide) (lcT_ok h5) (ix_list (enc := PyData.int) (c := anyOs) (ex_v (i := 0) (j := 0) B rfl rfl rfl) (fun _ _ => rdl_scr) trivial) (fun _ _ => trivial) (fun _ _ _ => List.Perm.refl _) (fun _ other3 t tl1 hx hf => by (obtain rfl := som hf; exact ⟨true, _, fun X1 hX => by (have B1 := Bd.fam (W' := ["_law_other"]) (G' := ["int"]) B hX (by (try rw [hsc]); decide +kernel); have g_int' := fam_mg hX g_int; exact ⟨.nil, fun _ => ⟨_, rfl, (ex_mod (modO_lit (j := 1000000000000000000000007) (by decide)) (ex_ty (j := 0) B1 rfl g_int' (by decide +kernel) call_int1 rc_intI (ax_cons (ex_v (i := 5) (j := 0) B1 rfl rfl rfl) ax_nil)) (EX.to (d' := PyData.int 1000000000000000000000007) (ex_add (ex_pow (m := 1000000000000000000000000) (by decide +kernel) ex_int ex_int) ex_int) (by rfl)))⟩, fun h => Bool.noConfusion h⟩)⟩))))) ax_nil)) ?_
    obtain ⟨seed6, h7, hm⟩ := bnd hm
    have h7 := som h7
    refine sx_asg (i := 4) (vi := 4) (φ := (dat (PyData.int seed6))) B T rfl rfl (EX.to (ex_mod (modO_lit (j := 1000000000000000000000000000057) (by decide)) (ex_ty (j := 2) B rfl g_int (by decide +kernel) call_int1 rc_intI (ax_cons (ex_add (ex_add (ex_add (ex_mulR (by decide) (ex_fn (j := 3) B rfl g_abs (by decide +kernel) call_abs rc_abs (ax_cons (ex_v (i := 2) (j := 2) B rfl rfl rfl) ax_nil)) ex_int) (ex_mulL (by decide) ex_int (ex_ty (j := 2) B rfl g_int (by decide +kernel) call_int1 rc_intB (ax_cons (ex_cmp op_lt r2_lt (nomark _) (ex_v (i := 2) (j := 2) B rfl rfl rfl) ex_int) ax_nil)))) (ex_mulR (by decide) (ex_v (i := 3) (j := 3) B rfl rfl rfl) ex_int)) (ex_mulL (by decide) ex_int (ex_v (i := 1) (j := 1) B rfl rfl rfl))) ax_nil)) (EX.to (d' := PyData.int 1000000000000000000000000000057) (ex_add (ex_pow (m := 1000000000000000000000000000000) (by decide +kernel) ex_int ex_int) ex_int) (by rfl))) (congrArg (fun z_ => (PyData.int z_)) h7)) ?_
    obtain rfl := som hm
    exact sx_retN (en_lst (ds := [(PyData.int (maxI 0 (s2 - 1000000000000000000))), (PyData.int seed6), (PyData.int 0)]) (hl := len_ok (n := 3) rfl) (ax_cons (ex_fn (j := 4) B rfl g_max (by decide +kernel) (call_max2 B.calm) rc_max (ax_cons ex_int (ax_cons (ex_sub (ex_v (i := 2) (j := 2) B rfl rfl rfl) (ex_pow (m := 1000000000000000000) (by decide +kernel) ex_int ex_int)) ax_nil))) (ax_cons (ex_v (i := 4) (j := 4) B rfl rfl rfl) (ax_cons ex_int ax_nil)))) (fun F H p e o => R.rt F H p e o)
  · have hm := h_s2
    refine sx_if (tx_cmp op_lt r2_lt (nomark _) (ex_v (i := 1) (j := 1) B rfl rfl rfl) (EX.to (ex_fn (j := 0) B rfl g_len (by decide +kernel) call_len_seq (rc_lenL (ds := List.map PyData.int script) rdl_scr) (ax_cons (ex_v (i := 0) (j := 0) B rfl rfl rfl) ax_nil)) (by rw [List.length_map]))) (fun hk => ?_) (fun hk => ?_)
    · have hm := ifT hm hk
      obtain ⟨t1, h1, hm⟩ := bnd hm
      refine sx_asg (i := 2) (vi := 2) (φ := (dat (PyData.int t1))) B T rfl rfl (ex_idxL (enc := PyData.int) h1 rdl_scr (ex_v (i := 0) (j := 0) B rfl rfl rfl) (ex_v (i := 1) (j := 1) B rfl rfl rfl)) ?_
      obtain rfl := som hm
      exact sx_fall Q rfl
    · have hm := ifF hm hk
      obtain rfl := som hm
      exact sx_fall Q rfl
theorem cal_l_well {P : Program} {w : World} {K : PySem.W.Frag} {mg : Str → Option Value} {base : Heap} {f : Addr} {fd : FuncData} (Fn : Fun K "_law_well" "_law_well" s_l_well f fd) (hmg : mg "_law_well" = some (.ref f)) (hb : Binds K fd ["_law_script", "_law_k"] []) (g_len : mg "len" = none) (g_sum : mg "sum" = none) (g_int : mg "int" = none) (g_abs : mg "abs" = none) (g_max : mg "max" = none) : Cal P w K mg base 1 "_law_well" s_l_well ["_law_script", "_law_k"] (sp_l_well K) := by
  obtain ⟨sts_, hst_⟩ : ∃ z_, defBody s_l_well = z_ := ⟨_, rfl⟩
  exact cal_NQ (V := V_l_well) (Gs := G_l_well) (nl := 4) hst_ Fn sc_l_well (by decide +kernel) (by decide +kernel) hmg hb (fun _ => rfl) rfl fun _ _ _ _ _ _ _ a b F0 os D B T hm R => body_l_well rfl hst_ B T g_len g_sum g_int g_abs g_max a.1 a.2 b F0 os D hm R
abbrev s_l_pick : Stmt := top 48
def N_l_pick : List Str := ["_law_well_here", "_law_many", "_law_found", "_law_stirred"]
def V_l_pick : List Str := ["_law_well_here", "_law_many", "_law_found", "_law_stirred"]
def G_l_pick : List Str := ["int"]
theorem sc_l_pick : FnScope N_l_pick ["_law_well_here", "_law_many"] (defScope s_l_pick) := ⟨rfl, rfl, rfl, by decide +kernel, rfl, by decide +kernel, by decide +kernel⟩
abbrev sp_l_pick (K : PySem.W.Frag) : Sp := spZ (α := (Addr × (List Int) × Int)) (β := (Int × (List Int))) (fun a => [own a.1, (dat (PyData.int a.2.2))]) (fun a => (a.1, ol (List.map PyData.int a.2.1)) :: []) (fun a => m_l_pick a.2.1 a.2.2) (fun a b => (dat (PyData.int b.1))) (fun a b => (a.1, ol (List.map PyData.int b.2)) :: [])
set_option maxHeartbeats 4000000 in
theorem body_l_pick {X : Cx} (hsc : X.env.scope = defScope s_l_pick) {sts_ : List Stmt} (hst_ : defBody s_l_pick = sts_) (B : Bd X N_l_pick V_l_pick G_l_pick 0) (T : Bt X V_l_pick) (g_int : X.mg "int" = none) (q_well_here : Addr) (w_well_here : (List Int)) (many : Int) (b : (Int × (List Int))) (F0 : Hp) (os : Os) (D : Ends) (hm : m_l_pick w_well_here many = some b) (R : RetZ F0 ((q_well_here, ol (List.map PyData.int b.2)) :: os) (dat (PyData.int b.1)) D) :
    SX X [sl (own q_well_here), sl (dat (PyData.int many)), un, un] ((q_well_here, ol (List.map PyData.int w_well_here)) :: os) F0 sts_ D := by
  subst hst_
  unfold m_l_pick at hm
  obtain ⟨t1, h1, hm⟩ := bnd hm
  refine sx_if (tx_cmp op_gt r2_gt (nomark _) (ex_idxL (enc := PyData.int) h1 (rdl_own 0 rfl) (ex_v (i := 0) (j := 0) B rfl rfl rfl) ex_int) ex_int) (fun hk => ?_) (fun hk => ?_)
  · have hm := ifT hm hk
    obtain ⟨t2, h2, hm⟩ := bnd hm
    obtain ⟨t3, h3, hm⟩ := bnd hm
    refine sx_asg (i := 2) (vi := 2) (φ := (dat (PyData.int t3))) B T rfl rfl (ex_mod h3 (ex_ty (j := 0) B rfl g_int (by decide +kernel) call_int1 rc_intI (ax_cons (ex_idxL (enc := PyData.int) h2 (rdl_own 0 rfl) (ex_v (i := 0) (j := 0) B rfl rfl rfl) ex_int) ax_nil)) (ex_v (i := 1) (j := 1) B rfl rfl rfl)) ?_
    obtain ⟨t4, h4, hm⟩ := bnd hm
    obtain ⟨t5, h5, hm⟩ := bnd hm
    obtain ⟨t6, h6, hm⟩ := bnd hm
    refine sx_setO (enc := PyData.int) (j := 0) h6 (ex_fdiv h5 (ex_idxL (enc := PyData.int) h4 (rdl_own 0 rfl) (ex_v (i := 0) (j := 0) B rfl rfl rfl) ex_int) (ex_v (i := 1) (j := 1) B rfl rfl rfl)) (ex_v (i := 0) (j := 0) B rfl rfl rfl) ex_int rfl ?_
    obtain rfl := som hm
    exact sx_ret (ex_v (i := 2) (j := 2) B rfl rfl rfl) (fun F H v e o c => R.rt F H v e o c)
  · have hm := ifF hm hk
    refine sx_fall ?_ rfl
    obtain ⟨t7, h7, hm⟩ := bnd hm
    obtain ⟨t8, h8, hm⟩ := bnd hm
    refine sx_setO (enc := PyData.int) (j := 0) h8 (ex_add (ex_idxL (enc := PyData.int) h7 (rdl_own 0 rfl) (ex_v (i := 0) (j := 0) B rfl rfl rfl) ex_int) ex_int) (ex_v (i := 0) (j := 0) B rfl rfl rfl) ex_int rfl ?_
    obtain ⟨t9, h9, hm⟩ := bnd hm
    obtain ⟨t10, h10, hm⟩ := bnd hm
    obtain ⟨t11, h11, hm⟩ := bnd hm
    obtain ⟨t12, h12, hm⟩ := bnd hm
    refine sx_asg (i := 3) (vi := 3) (φ := (dat (PyData.int ((t11 + (29 * t12)) % 10000000000000000000000000000033)))) B T rfl rfl (ex_mod (modO_lit (j := 10000000000000000000000000000033) (by decide)) (ex_ty (j := 0) B rfl g_int (by decide +kernel) call_int1 rc_intI (ax_cons (ex_add (ex_pow h11 (ex_add (ex_idxL (enc := PyData.int) h9 (rdl_own 0 rfl) (ex_v (i := 0) (j := 0) B rfl rfl rfl) ex_int) (ex_mulL (by decide) ex_int (ex_idxL (enc := PyData.int) h10 (rdl_own 0 rfl) (ex_v (i := 0) (j := 0) B rfl rfl rfl) ex_int))) ex_int) (ex_mulL (by decide) ex_int (ex_idxL (enc := PyData.int) h12 (rdl_own 0 rfl) (ex_v (i := 0) (j := 0) B rfl rfl rfl) ex_int))) ax_nil)) (EX.to (d' := PyData.int 10000000000000000000000000000033) (ex_add (ex_pow (m := 10000000000000000000000000000000) (by decide +kernel) ex_int ex_int) ex_int) (by rfl))) ?_
    obtain ⟨t13, h13, hm⟩ := bnd hm
    obtain ⟨t14, h14, hm⟩ := bnd hm
    refine sx_asg (i := 3) (vi := 3) (φ := (dat (PyData.int (t14 % 100000000000000000000000000319)))) B T rfl rfl (ex_mod (modO_lit (j := 100000000000000000000000000319) (by decide)) (ex_ty (j := 0) B rfl g_int (by decide +kernel) call_int1 rc_intI (ax_cons (ex_mulW h14 (ex_v (i := 3) (j := 3) B rfl rfl rfl) (ex_add (ex_v (i := 3) (j := 3) B rfl rfl rfl) (ex_mulL (by decide) ex_int (ex_idxL (enc := PyData.int) h13 (rdl_own 0 rfl) (ex_v (i := 0) (j := 0) B rfl rfl rfl) ex_int)))) ax_nil)) (EX.to (d' := PyData.int 100000000000000000000000000319) (ex_add (ex_pow (m := 100000000000000000000000000000) (by decide +kernel) ex_int ex_int) ex_int) (by rfl))) ?_
    obtain ⟨t15, h15, hm⟩ := bnd hm
    obtain rfl := som hm
    exact sx_ret (ex_mod h15 (ex_ty (j := 0) B rfl g_int (by decide +kernel) call_int1 rc_intI (ax_cons (ex_fdiv (fdivO_lit (j := 12289) (by decide) (by decide +kernel)) (ex_v (i := 3) (j := 3) B rfl rfl rfl) ex_int) ax_nil)) (ex_v (i := 1) (j := 1) B rfl rfl rfl)) (fun F H v e o c => R.rt F H v e o c)
theorem cal_l_pick {P : Program} {w : World} {K : PySem.W.Frag} {mg : Str → Option Value} {base : Heap} {f : Addr} {fd : FuncData} (Fn : Fun K "_law_pick" "_law_pick" s_l_pick f fd) (hmg : mg "_law_pick" = some (.ref f)) (hb : Binds K fd ["_law_well_here", "_law_many"] []) (g_int : mg "int" = none) : Cal P w K mg base 1 "_law_pick" s_l_pick ["_law_well_here", "_law_many"] (sp_l_pick K) := by
  obtain ⟨sts_, hst_⟩ : ∃ z_, defBody s_l_pick = z_ := ⟨_, rfl⟩
  exact cal_ZQ (V := V_l_pick) (Gs := G_l_pick) (nl := 2) hst_ Fn sc_l_pick (by decide +kernel) (by decide +kernel) hmg hb (fun _ => rfl) rfl fun _ _ _ _ _ _ _ a b F0 os D B T hm R => body_l_pick rfl hst_ B T g_int a.1 a.2.1 a.2.2 b F0 os D hm R
abbrev s_l_back : Stmt := top 49
def N_l_back : List Str := ["_law_walk_here", "_law_step"]
def V_l_back : List Str := ["_law_walk_here"]
def G_l_back : List Str := ["tuple"]
theorem sc_l_back : FnScope N_l_back ["_law_walk_here"] (defScope s_l_back) := ⟨rfl, rfl, rfl, by decide +kernel, rfl, by decide +kernel, by decide +kernel⟩
abbrev sp_l_back (K : PySem.W.Frag) : Sp := spZ (α := (List Int)) (β := (List Int)) (fun a => [(dat (PyData.tuple (List.map PyData.int a)))]) (fun a => []) (fun a => m_l_back a) (fun a b => (dat (PyData.tuple (List.map PyData.int b)))) (fun a b => [])
set_option maxHeartbeats 4000000 in
theorem body_l_back {X : Cx} (hsc : X.env.scope = defScope s_l_back) {sts_ : List Stmt} (hst_ : defBody s_l_back = sts_) (B : Bd X N_l_back V_l_back G_l_back 0) (T : Bt X V_l_back) (g_tuple : X.mg "tuple" = none) (walk_here : (List Int)) (b : (List Int)) (F0 : Hp) (os : Os) (D : Ends) (hm : m_l_back walk_here = some b) (R : RetZ F0 (os) (dat (PyData.tuple (List.map PyData.int b))) D) :
    SX X [sl (dat (PyData.tuple (List.map PyData.int walk_here))), un] (os) F0 sts_ D := by
  subst hst_
  unfold m_l_back at hm
  obtain ⟨t3, h3, hm⟩ := bnd hm
  obtain rfl := som hm
  exact sx_ret (ex_ty (j := 0) B rfl g_tuple (by decide +kernel) call_tuple_of (rc_tupL (ds := List.map PyData.int t3) rdl_dat) (ax_cons (EN.ex (en_lc (lc_mk1 (j := 1) (vp := fun step1 => (dat (PyData.int step1))) (c := anyOs) (enc := PyData.int) (fun (_ : Unit) (step1 : Int) => some (some (-step1), ())) (fun (_ : Unit) (tl1 : Os) => tl1) () (t3) () B rfl rfl (by rw [B.hN, hsc]; decide +kernel) (by rw [hsc]; decide +kernel) (by decide) (lcT_ok h3) (ix_tup (enc := PyData.int) (ex_revT (enc := PyData.int) rdt_dat (ex_v (i := 0) (j := 0) B rfl rfl rfl)) rdt_dat) (fun _ _ => trivial) (fun _ _ _ => List.Perm.refl _) (fun _ step1 t tl1 hx hf => by (obtain rfl := som hf; exact ⟨true, _, fun X1 hX => by (have B1 := Bd.fam (W' := ["_law_step"]) (G' := []) B hX (by (try rw [hsc]); decide +kernel); exact ⟨.nil, fun _ => ⟨_, rfl, (ex_neg (ex_v (i := 1) (j := 0) B1 rfl rfl rfl))⟩, fun h => Bool.noConfusion h⟩)⟩))))) ax_nil)) (fun F H v e o c => R.rt F H v e o c)
theorem cal_l_back {P : Program} {w : World} {K : PySem.W.Frag} {mg : Str → Option Value} {base : Heap} {f : Addr} {fd : FuncData} (Fn : Fun K "_law_back" "_law_back" s_l_back f fd) (hmg : mg "_law_back" = some (.ref f)) (hb : Binds K fd ["_law_walk_here"] []) (g_tuple : mg "tuple" = none) : Cal P w K mg base 1 "_law_back" s_l_back ["_law_walk_here"] (sp_l_back K) := by
  obtain ⟨sts_, hst_⟩ : ∃ z_, defBody s_l_back = z_ := ⟨_, rfl⟩
  exact cal_ZQ (V := V_l_back) (Gs := G_l_back) (nl := 1) hst_ Fn sc_l_back (by decide +kernel) (by decide +kernel) hmg hb (fun _ => rfl) rfl fun _ _ _ _ _ _ _ a b F0 os D B T hm R => body_l_back rfl hst_ B T g_tuple a b F0 os D hm R
abbrev s_l_straight : Stmt := top 50
def N_l_straight : List Str := ["_law_walk_here", "_law_found", "_law_step"]
def V_l_straight : List Str := ["_law_walk_here", "_law_found", "_law_step"]
def G_l_straight : List Str := ["len", "tuple"]
theorem sc_l_straight : FnScope N_l_straight ["_law_walk_here"] (defScope s_l_straight) := ⟨rfl, rfl, rfl, by decide +kernel, rfl, by decide +kernel, by decide +kernel⟩
abbrev sp_l_straight (K : PySem.W.Frag) : Sp := spZ (α := (List Int)) (β := (List Int)) (fun a => [(dat (PyData.tuple (List.map PyData.int a)))]) (fun a => []) (fun a => m_l_straight a) (fun a b => (dat (PyData.tuple (List.map PyData.int b)))) (fun a b => [])
set_option maxHeartbeats 4000000 in
theorem body_l_straight {X : Cx} (hsc : X.env.scope = defScope s_l_straight) {sts_ : List Stmt} (hst_ : defBody s_l_straight = sts_) (B : Bd X N_l_straight V_l_straight G_l_straight 0) (T : Bt X V_l_straight) (g_len : X.mg "len" = none) (g_tuple : X.mg "tuple" = none) (walk_here : (List Int)) (b : (List Int)) (F0 : Hp) (os : Os) (D : Ends) (hm : m_l_straight walk_here = some b) (R : RetZ F0 (os) (dat (PyData.tuple (List.map PyData.int b))) D) :
    SX X [sl (dat (PyData.tuple (List.map PyData.int walk_here))), un, un] (os) F0 sts_ D := by
  subst hst_
  unfold m_l_straight at hm
  refine sx_asgN (i := 1) (vi := 1) (n := ol (List.map PyData.int ([] : (List Int)))) B T rfl rfl (en_lst (ds := []) ax_nil) (fun q_found0 => ?_)
  obtain ⟨f3, h11, hm⟩ := bnd hm
  refine sx_for (c := anyOs) _ (fun (s1 : (List Int)) (_ : Unit) => [sl (dat (PyData.tuple (List.map PyData.int walk_here))), sl (own q_found0), un]) (fun (s1 : (List Int)) (_ : Unit) => (q_found0, ol (List.map PyData.int s1)) :: os) B T (fun step2 => gx_name (i := 2) (vi := 2) (φ := (dat (PyData.int step2))) B T rfl rfl) ([] : (List Int)) () f3 h11 (ix_tup (enc := PyData.int) (ex_v (i := 0) (j := 0) B rfl rfl rfl) rdt_dat) ⟨.inl rfl, .inl rfl, .inl rfl, trivial⟩ (fun _ _ => trivial) (fun F5 e4 s1 _ step2 z12 hx hm => ?_) (fun _ => ?_)
  · clear h11
    obtain ⟨t7, h7, hm⟩ := bnd hm
    obtain ⟨s10, h_s10, hm⟩ := bnd hm
    refine sx_join [sl (dat (PyData.tuple (List.map PyData.int walk_here))), sl (own q_found0), sl (dat (PyData.int step2))] ((q_found0, ol (List.map PyData.int s10)) :: os) (?_) (fun Q => ?_)
    · clear h_s10
      obtain rfl := som hm
      exact sx_nil fun σ H a => ⟨(), (a.weak ⟨.inl rfl, .inl rfl, .inr rfl, trivial⟩)⟩
    · have hm := h_s10
      refine sx_if (WX.tx (wx_and (l := t7) (os2 := (q_found0, ol (List.map PyData.int s1)) :: os) (tx_cmp op_gt r2_gt (nomark _) (EX.to (ex_fn (j := 0) B rfl g_len (by decide +kernel) call_len_seq (rc_lenL (ds := List.map PyData.int s1) (rdl_own 0 rfl)) (ax_cons (ex_v (i := 1) (j := 1) B rfl rfl rfl) ax_nil)) (by rw [List.length_map])) ex_int) (fun hk => by (have hm := ifT h7 hk; obtain ⟨t6, h6, hm⟩ := bnd hm; obtain rfl := som hm; exact (wx_and1 (tx_cmp op_eq r2_eqI (nomark _) (ex_idxL (enc := PyData.int) h6 (rdl_own 0 rfl) (ex_v (i := 1) (j := 1) B rfl rfl rfl) (ex_neg ex_int)) (ex_neg (ex_v (i := 2) (j := 2) B rfl rfl rfl)))))) (fun hk => by (have hm := ifF h7 hk; obtain rfl := som hm; rfl)) (and_fix (fun hk => by (have hm := ifF h7 hk; obtain rfl := som hm; rfl))))) (fun hk => ?_) (fun hk => ?_)
      · have hm := ifT hm hk
        obtain ⟨t8, h8, hm⟩ := bnd hm
        refine sx_expr (ex_popO (enc := PyData.int) (j := 0) h8 (ex_v (i := 1) (j := 1) B rfl rfl rfl) rfl) ?_
        obtain rfl := som hm
        exact sx_fall Q rfl
      · have hm := ifF hm hk
        obtain ⟨t9, h9, hm⟩ := bnd hm
        refine sx_expr (ex_app (enc := PyData.int) (j := 0) (xs0 := s1) (xs := s1) (y := step2) h9 (ex_v (i := 1) (j := 1) B rfl rfl rfl) rfl (ex_v (i := 2) (j := 2) B rfl rfl rfl) rfl) ?_
        obtain rfl := som hm
        exact sx_fall Q rfl
  · skip
    refine sx_frz (j := 0) (i := 1) rfl rfl ?_
    obtain rfl := som hm
    exact sx_ret (ex_ty (j := 1) B rfl g_tuple (by decide +kernel) call_tuple_of (rc_tupL (ds := List.map PyData.int f3) rdl_dat) (ax_cons (ex_v (i := 1) (j := 1) B rfl rfl rfl) ax_nil)) (fun F H v e o c => R.rt F H v e o c)
theorem cal_l_straight {P : Program} {w : World} {K : PySem.W.Frag} {mg : Str → Option Value} {base : Heap} {f : Addr} {fd : FuncData} (Fn : Fun K "_law_straight" "_law_straight" s_l_straight f fd) (hmg : mg "_law_straight" = some (.ref f)) (hb : Binds K fd ["_law_walk_here"] []) (g_len : mg "len" = none) (g_tuple : mg "tuple" = none) : Cal P w K mg base 1 "_law_straight" s_l_straight ["_law_walk_here"] (sp_l_straight K) := by
  obtain ⟨sts_, hst_⟩ : ∃ z_, defBody s_l_straight = z_ := ⟨_, rfl⟩
  exact cal_ZQ (V := V_l_straight) (Gs := G_l_straight) (nl := 2) hst_ Fn sc_l_straight (by decide +kernel) (by decide +kernel) hmg hb (fun _ => rfl) rfl fun _ _ _ _ _ _ _ a b F0 os D B T hm R => body_l_straight rfl hst_ B T g_len g_tuple a b F0 os D hm R
abbrev s_l_walk : Stmt := top 51
def N_l_walk : List Str := ["_law_well_here", "_law_letters", "_law_most", "_law_found", "_law_turn_here", "_law_step"]
def V_l_walk : List Str := ["_law_well_here", "_law_letters", "_law_most", "_law_found", "_law_turn_here", "_law_step"]
def G_l_walk : List Str := ["range", "_law_pick", "tuple"]
theorem sc_l_walk : FnScope N_l_walk ["_law_well_here", "_law_letters", "_law_most"] (defScope s_l_walk) := ⟨rfl, rfl, rfl, by decide +kernel, rfl, by decide +kernel, by decide +kernel⟩
abbrev sp_l_walk (K : PySem.W.Frag) : Sp := spZ (α := (Addr × (List Int) × Int × Int)) (β := ((List Int) × (List Int))) (fun a => [own a.1, (dat (PyData.int a.2.2.1)), (dat (PyData.int a.2.2.2))]) (fun a => (a.1, ol (List.map PyData.int a.2.1)) :: []) (fun a => m_l_walk a.2.1 a.2.2.1 a.2.2.2) (fun a b => (dat (PyData.tuple (List.map PyData.int b.1)))) (fun a b => (a.1, ol (List.map PyData.int b.2)) :: [])
set_option maxHeartbeats 4000000 in
theorem body_l_walk {X : Cx} (hsc : X.env.scope = defScope s_l_walk) {sts_ : List Stmt} (hst_ : defBody s_l_walk = sts_) (B : Bd X N_l_walk V_l_walk G_l_walk 1) (T : Bt X V_l_walk) (g_range : X.mg "range" = none) (c_l_pick : Cal X.prog X.w X.K X.mg X.base 1 "_law_pick" s_l_pick ["_law_well_here", "_law_many"] (sp_l_pick X.K)) (g_tuple : X.mg "tuple" = none) (q_well_here : Addr) (w_well_here : (List Int)) (letters : Int) (most : Int) (b : ((List Int) × (List Int))) (F0 : Hp) (os : Os) (D : Ends) (hm : m_l_walk w_well_here letters most = some b) (R : RetZ F0 ((q_well_here, ol (List.map PyData.int b.2)) :: os) (dat (PyData.tuple (List.map PyData.int b.1))) D) :
    SX X [sl (own q_well_here), sl (dat (PyData.int letters)), sl (dat (PyData.int most)), un, un, un] ((q_well_here, ol (List.map PyData.int w_well_here)) :: os) F0 sts_ D := by
  subst hst_
  unfold m_l_walk at hm
  refine sx_asgN (i := 3) (vi := 3) (n := ol (List.map PyData.int ([] : (List Int)))) B T rfl rfl (en_lst (ds := []) ax_nil) (fun q_found0 => ?_)
  obtain ⟨t1, h1, hm⟩ := bnd hm
  obtain ⟨t2, h2, hm⟩ := bnd hm
  obtain ⟨f5, h11, hm⟩ := bnd hm
  refine sx_for (c := anyOs) _ (fun (s3 : ((List Int) × (List Int))) (_ : Unit) => [sl (own q_well_here), sl (dat (PyData.int letters)), sl (dat (PyData.int most)), sl (own q_found0), un, un]) (fun (s3 : ((List Int) × (List Int))) (_ : Unit) => (q_well_here, ol (List.map PyData.int s3.1)) :: (q_found0, ol (List.map PyData.int s3.2)) :: os) B T (fun turn_here4 => gx_name (i := 4) (vi := 4) (φ := (dat (PyData.int turn_here4))) B T rfl rfl) (t1.2, ([] : (List Int))) () f5 h11 (ix_rng1 (gi := 0) B rfl g_range h2 (EX.pre (ex_call (a := (q_well_here, w_well_here, (most + 1))) (b := t1) (gi := 1) (rest := (q_found0, ol (List.map PyData.int ([] : (List Int)))) :: os) B rfl c_l_pick (by decide) h1 (ax_cons (ex_v (i := 0) (j := 0) B rfl rfl rfl) (ax_cons (ex_add (ex_v (i := 2) (j := 2) B rfl rfl rfl) ex_int) ax_nil))) (perm_at (k := 1) rfl))) ⟨.inl rfl, .inl rfl, .inl rfl, .inl rfl, .inl rfl, .inl rfl, trivial⟩ (fun _ _ => trivial) (fun F7 e6 s3 _ turn_here4 z12 hx hm => ?_) (fun _ => ?_)
  · clear h11
    obtain ⟨t8, h8, hm⟩ := bnd hm
    refine sx_asg (i := 5) (vi := 5) (φ := (dat (PyData.int (1 + t8.1)))) B T rfl rfl (ex_add ex_int (ex_call (a := (q_well_here, s3.1, letters)) (b := t8) (gi := 1) (rest := (q_found0, ol (List.map PyData.int s3.2)) :: os) B rfl c_l_pick (by decide) h8 (ax_cons (ex_v (i := 0) (j := 0) B rfl rfl rfl) (ax_cons (ex_v (i := 1) (j := 1) B rfl rfl rfl) ax_nil)))) ?_
    obtain ⟨t9, h9, hm⟩ := bnd hm
    obtain ⟨t10, h10, hm⟩ := bnd hm
    refine sx_expr (ex_app (enc := PyData.int) (j := 1) (xs0 := s3.2) (xs := s3.2) (y := (if (decide (t9.1 = 0)) = true then (1 + t8.1) else (-(1 + t8.1)))) h10 (ex_v (i := 3) (j := 3) B rfl rfl rfl) rfl (ex_if (tx_cmp op_eq r2_eqI (nomark _) (ex_call (a := (q_well_here, t8.2, 2)) (b := t9) (gi := 1) (rest := (q_found0, ol (List.map PyData.int s3.2)) :: os) B rfl c_l_pick (by decide) h9 (ax_cons (ex_v (i := 0) (j := 0) B rfl rfl rfl) (ax_cons ex_int ax_nil))) ex_int) (fun hk => EX.to (ex_v (i := 5) (j := 5) B rfl rfl rfl) (by rw [if_pos hk] <;> rfl)) (fun hk => EX.to (ex_neg (ex_v (i := 5) (j := 5) B rfl rfl rfl)) (by first | (rw [if_neg (by rw [hk]; exact Bool.false_ne_true)] <;> rfl) | (rw [if_neg (ne_true_of_eq_false hk)] <;> rfl)))) rfl) ?_
    obtain rfl := som hm
    exact sx_nil fun σ H a => ⟨(), (a.weak ⟨.inl rfl, .inl rfl, .inl rfl, .inl rfl, .inr rfl, .inr rfl, trivial⟩)⟩
  · skip
    refine sx_frz (j := 1) (i := 3) rfl rfl ?_
    obtain rfl := som hm
    exact sx_ret (ex_ty (j := 2) B rfl g_tuple (by decide +kernel) call_tuple_of (rc_tupL (ds := List.map PyData.int f5.2) rdl_dat) (ax_cons (ex_v (i := 3) (j := 3) B rfl rfl rfl) ax_nil)) (fun F H v e o c => R.rt F H v e o c)
theorem cal_l_walk {P : Program} {w : World} {K : PySem.W.Frag} {mg : Str → Option Value} {base : Heap} {f : Addr} {fd : FuncData} (Fn : Fun K "_law_walk" "_law_walk" s_l_walk f fd) (hmg : mg "_law_walk" = some (.ref f)) (hb : Binds K fd ["_law_well_here", "_law_letters", "_law_most"] []) (g_range : mg "range" = none) (c_l_pick : Cal P w K mg base 1 "_law_pick" s_l_pick ["_law_well_here", "_law_many"] (sp_l_pick K)) (g_tuple : mg "tuple" = none) : Cal P w K mg base 2 "_law_walk" s_l_walk ["_law_well_here", "_law_letters", "_law_most"] (sp_l_walk K) := by
  obtain ⟨sts_, hst_⟩ : ∃ z_, defBody s_l_walk = z_ := ⟨_, rfl⟩
  exact cal_ZQ (V := V_l_walk) (Gs := G_l_walk) (nl := 3) hst_ Fn sc_l_walk (by decide +kernel) (by decide +kernel) hmg hb (fun _ => rfl) rfl fun _ _ _ _ _ _ _ a b F0 os D B T hm R => body_l_walk rfl hst_ B T g_range c_l_pick g_tuple a.1 a.2.1 a.2.2.1 a.2.2.2 b F0 os D hm R
abbrev s_l_turn : Stmt := top 52
def N_l_turn : List Str := ["_law_well_here", "_law_many", "_law_left", "_law_found"]
def V_l_turn : List Str := ["_law_well_here", "_law_many", "_law_left", "_law_found"]
def G_l_turn : List Str := ["list", "range", "len", "_law_pick", "tuple"]
theorem sc_l_turn : FnScope N_l_turn ["_law_well_here", "_law_many"] (defScope s_l_turn) := ⟨rfl, rfl, rfl, by decide +kernel, rfl, by decide +kernel, by decide +kernel⟩
abbrev sp_l_turn (K : PySem.W.Frag) : Sp := spZ (α := (Addr × (List Int) × Int)) (β := ((List Int) × (List Int))) (fun a => [own a.1, (dat (PyData.int a.2.2))]) (fun a => (a.1, ol (List.map PyData.int a.2.1)) :: []) (fun a => m_l_turn a.2.1 a.2.2) (fun a b => (dat (PyData.tuple (List.map PyData.int b.1)))) (fun a b => (a.1, ol (List.map PyData.int b.2)) :: [])
set_option maxHeartbeats 4000000 in
theorem body_l_turn {X : Cx} (hsc : X.env.scope = defScope s_l_turn) {sts_ : List Stmt} (hst_ : defBody s_l_turn = sts_) (B : Bd X N_l_turn V_l_turn G_l_turn 1) (T : Bt X V_l_turn) (g_list : X.mg "list" = none) (g_range : X.mg "range" = none) (g_len : X.mg "len" = none) (c_l_pick : Cal X.prog X.w X.K X.mg X.base 1 "_law_pick" s_l_pick ["_law_well_here", "_law_many"] (sp_l_pick X.K)) (g_tuple : X.mg "tuple" = none) (q_well_here : Addr) (w_well_here : (List Int)) (many : Int) (b : ((List Int) × (List Int))) (F0 : Hp) (os : Os) (D : Ends) (hm : m_l_turn w_well_here many = some b) (R : RetZ F0 ((q_well_here, ol (List.map PyData.int b.2)) :: os) (dat (PyData.tuple (List.map PyData.int b.1))) D) :
    SX X [sl (own q_well_here), sl (dat (PyData.int many)), un, un] ((q_well_here, ol (List.map PyData.int w_well_here)) :: os) F0 sts_ D := by
  subst hst_
  unfold m_l_turn at hm
  obtain ⟨t1, h1, hm⟩ := bnd hm
  refine sx_par2 (i := 2) (j := 3) _ hsc B rfl rfl (by decide) (by decide +kernel) (by decide +kernel) (by intro env he; cases env; cases he; first | rfl | kernel_rfl) (aq_n (n := ol (List.map PyData.int t1)) (en_rgL1 (gi := 0) (gj := 1) B rfl rfl g_list g_range h1 (ex_v (i := 1) (j := 1) B rfl rfl rfl)) (fun q_left2 => (aq_n (n := ol (List.map PyData.int ([] : (List Int)))) (en_lst (ds := []) ax_nil) (fun q_found3 => aq_nil)))) (fun v0 v1 os_ hr_ => ?_) (by rintro φs os_ ⟨q_left2, _, rfl, q_found3, _, rfl, rfl, rfl⟩; exact ⟨_, _, rfl⟩)
  obtain ⟨q_left2, _, e0, q_found3, _, e1, e8, e9⟩ := hr_
  cases e0; cases e1; cases e8; cases e9
  obtain ⟨f5o, h12, hm⟩ := bnd hm
  refine sx_while _ _ (fun (s4 : ((List Int) × (List Int) × (List Int))) (_ : Unit) => [sl (own q_well_here), sl (dat (PyData.int many)), sl (own q_left2), sl (own q_found3)]) (fun (s4 : ((List Int) × (List Int) × (List Int))) (_ : Unit) => (q_found3, ol (List.map PyData.int s4.1)) :: (q_left2, ol (List.map PyData.int s4.2.1)) :: (q_well_here, ol (List.map PyData.int s4.2.2)) :: os) (fun (r : ((List Int) × (List Int))) v H => ∃ F, Same F0 F ∧ Ow F ((q_well_here, ol (List.map PyData.int r.2)) :: os) H ∧ Cl (dat (PyData.tuple (List.map PyData.int r.1))) F v) T 10000 (([] : (List Int)), t1, w_well_here) () f5o h12 ⟨.inl rfl, .inl rfl, .inl rfl, .inl rfl, trivial⟩ rfl (fun s4 _ b hm => by (obtain rfl := som hm; exact (tx_cmp op_gt r2_gt (nomark _) (EX.to (ex_fn (j := 2) B rfl g_len (by decide +kernel) call_len_seq (rc_lenL (ds := List.map PyData.int s4.2.1) (rdl_own 1 rfl)) (ax_cons (ex_v (i := 2) (j := 2) B rfl rfl rfl) ax_nil)) (by rw [List.length_map])) ex_int))) (fun F7 e6 s4 _ z13 _ hm => ?_) (fun f5 _ ho => ?_) (fun r11 v H ho hr => ?_)
  · clear h12
    obtain ⟨t8, h8, hm⟩ := bnd hm
    obtain ⟨t9, h9, hm⟩ := bnd hm
    obtain ⟨t10, h10, hm⟩ := bnd hm
    refine sx_expr (ex_appW (enc := PyData.int) (xs0 := s4.1) (xs := s4.1) (y := t9.1) h10 (ex_v (i := 3) (j := 3) B rfl rfl rfl) (wr_flat (f := (olT PyData.int)) (d := s4.1) 0 rfl) (ex_popI2 (enc := PyData.int) (m := 1) (j := 2) (xs := s4.2.1) (xs0 := s4.2.1) h9 (ex_v (i := 2) (j := 2) B rfl rfl rfl) rfl (EX.pre (ex_call (a := (q_well_here, s4.2.2, (s4.2.1.length : Int))) (b := t8) (gi := 3) (rest := (q_found3, ol (List.map PyData.int s4.1)) :: (q_left2, ol (List.map PyData.int s4.2.1)) :: os) B rfl c_l_pick (by decide) h8 (ax_cons (ex_v (i := 0) (j := 0) B rfl rfl rfl) (ax_cons (EX.to (ex_fn (j := 2) B rfl g_len (by decide +kernel) call_len_seq (rc_lenL (ds := List.map PyData.int s4.2.1) (rdl_own 2 rfl)) (ax_cons (ex_v (i := 2) (j := 2) B rfl rfl rfl) ax_nil)) (by rw [List.length_map])) ax_nil))) (perm_at (k := 2) rfl)) rfl) (wr_flat (f := (olT PyData.int)) (d := s4.1) 1 rfl)) ?_
    exact sx_nil fun σ H a => ⟨_, (), (som hm).symm, (((a.perm (perm_at (k := 2) rfl)).perm (perm_at (k := 2) rfl)).weak ⟨.inl rfl, .inl rfl, .inl rfl, .inl rfl, trivial⟩)⟩
  · cases ho
    have hm := elimR hm
    refine sx_frz (j := 0) (i := 3) rfl rfl ?_
    obtain rfl := som hm
    exact sx_ret (ex_ty (j := 4) B rfl g_tuple (by decide +kernel) call_tuple_of (rc_tupL (ds := List.map PyData.int f5.1) rdl_dat) (ax_cons (ex_v (i := 3) (j := 3) B rfl rfl rfl) ax_nil)) (fun F H v e o c => R.rt F H v e (o.drop) c)
  · cases ho
    have hm := elimL hm
    cases hm
theorem cal_l_turn {P : Program} {w : World} {K : PySem.W.Frag} {mg : Str → Option Value} {base : Heap} {f : Addr} {fd : FuncData} (Fn : Fun K "_law_turn" "_law_turn" s_l_turn f fd) (hmg : mg "_law_turn" = some (.ref f)) (hb : Binds K fd ["_law_well_here", "_law_many"] []) (g_list : mg "list" = none) (g_range : mg "range" = none) (g_len : mg "len" = none) (c_l_pick : Cal P w K mg base 1 "_law_pick" s_l_pick ["_law_well_here", "_law_many"] (sp_l_pick K)) (g_tuple : mg "tuple" = none) : Cal P w K mg base 2 "_law_turn" s_l_turn ["_law_well_here", "_law_many"] (sp_l_turn K) := by
  obtain ⟨sts_, hst_⟩ : ∃ z_, defBody s_l_turn = z_ := ⟨_, rfl⟩
  exact cal_ZQ (V := V_l_turn) (Gs := G_l_turn) (nl := 2) hst_ Fn sc_l_turn (by decide +kernel) (by decide +kernel) hmg hb (fun _ => rfl) rfl fun _ _ _ _ _ _ _ a b F0 os D B T hm R => body_l_turn rfl hst_ B T g_list g_range g_len c_l_pick g_tuple a.1 a.2.1 a.2.2 b F0 os D hm R
abbrev s_l_book : Stmt := top 53
def N_l_book : List Str := ["_law_well_here", "_law_letters", "_law_many", "_law_turns", "_law_letter", "_law_way", "_law_shift", "_law_other", "_law_turn_here", "_law_place"]
def V_l_book : List Str := ["_law_well_here", "_law_letters", "_law_many", "_law_turns", "_law_letter", "_law_way", "_law_shift", "_law_other", "_law_turn_here"]
def G_l_book : List Str := ["range", "_law_pick", "_law_turn", "tuple", "list"]
theorem sc_l_book : FnScope N_l_book ["_law_well_here", "_law_letters", "_law_many"] (defScope s_l_book) := ⟨rfl, rfl, rfl, by decide +kernel, rfl, by decide +kernel, by decide +kernel⟩
abbrev sp_l_book (K : PySem.W.Frag) : Sp := spZ (α := (Addr × (List Int) × Int × Int)) (β := ((Int × (List (List Int))) × (List Int))) (fun a => [own a.1, (dat (PyData.int a.2.2.1)), (dat (PyData.int a.2.2.2))]) (fun a => (a.1, ol (List.map PyData.int a.2.1)) :: []) (fun a => m_l_book a.2.1 a.2.2.1 a.2.2.2) (fun a b => (dat (PyData.tuple [(PyData.int b.1.1), (PyData.tuple (List.map (eT PyData.int) b.1.2))]))) (fun a b => (a.1, ol (List.map PyData.int b.2)) :: [])
set_option maxHeartbeats 4000000 in
theorem body_l_book {X : Cx} (hsc : X.env.scope = defScope s_l_book) {sts_ : List Stmt} (hst_ : defBody s_l_book = sts_) (B : Bd X N_l_book V_l_book G_l_book 2) (T : Bt X V_l_book) (g_range : X.mg "range" = none) (c_l_pick : Cal X.prog X.w X.K X.mg X.base 1 "_law_pick" s_l_pick ["_law_well_here", "_law_many"] (sp_l_pick X.K)) (c_l_turn : Cal X.prog X.w X.K X.mg X.base 2 "_law_turn" s_l_turn ["_law_well_here", "_law_many"] (sp_l_turn X.K)) (g_tuple : X.mg "tuple" = none) (g_int : X.mg "int" = none) (g_list : X.mg "list" = none) (q_well_here : Addr) (w_well_here : (List Int)) (letters : Int) (many : Int) (b : ((Int × (List (List Int))) × (List Int))) (F0 : Hp) (os : Os) (D : Ends) (hm : m_l_book w_well_here letters many = some b) (R : RetZ F0 ((q_well_here, ol (List.map PyData.int b.2)) :: os) (dat (PyData.tuple [(PyData.int b.1.1), (PyData.tuple (List.map (eT PyData.int) b.1.2))])) D) :
    SX X [sl (own q_well_here), sl (dat (PyData.int letters)), sl (dat (PyData.int many)), un, un, un, un, un, un, un] ((q_well_here, ol (List.map PyData.int w_well_here)) :: os) F0 sts_ D := by
  subst hst_
  unfold m_l_book at hm
  refine sx_asgN (i := 3) (vi := 3) (n := ol (List.map (eT PyData.int) ([] : (List (List Int))))) B T rfl rfl (en_lst (ds := []) ax_nil) (fun q_turns0 => ?_)
  obtain ⟨t1, h1, hm⟩ := bnd hm
  obtain ⟨f4, h26, hm⟩ := bnd hm
  refine sx_for (c := anyOs) _ (fun (s2 : ((List (List Int)) × (List Int))) (_ : Unit) => [sl (own q_well_here), sl (dat (PyData.int letters)), sl (dat (PyData.int many)), sl (own q_turns0), un, un, un, un, un, un]) (fun (s2 : ((List (List Int)) × (List Int))) (_ : Unit) => (q_turns0, ol (List.map (eT PyData.int) s2.1)) :: (q_well_here, ol (List.map PyData.int s2.2)) :: os) B T (fun letter3 => gx_name (i := 4) (vi := 4) (φ := (dat (PyData.int letter3))) B T rfl rfl) (([] : (List (List Int))), w_well_here) () f4 h26 (ix_rng1 (gi := 0) B rfl g_range h1 (ex_v (i := 1) (j := 1) B rfl rfl rfl)) ⟨.inl rfl, .inl rfl, .inl rfl, .inl rfl, .inl rfl, .inl rfl, .inl rfl, .inl rfl, .inl rfl, .inl rfl, trivial⟩ (fun _ _ => trivial) (fun F6 e5 s2 _ letter3 z27 hx hm => ?_) (fun _ => ?_)
  · clear h26
    obtain ⟨t7, h7, hm⟩ := bnd hm
    obtain ⟨t8, h8, hm⟩ := bnd hm
    refine sx_mk2 (i := 5) (j := 6) (vi := 5) (gi := 6) _ hsc B T rfl rfl rfl rfl (by intro env he; cases env; cases he; first | rfl | kernel_rfl) (aq_x (φ := (dat (PyData.int t7.1))) (EX.pre (ex_call (a := (q_well_here, s2.2, 5)) (b := t7) (gi := 1) (rest := (q_turns0, ol (List.map (eT PyData.int) s2.1)) :: os) B rfl c_l_pick (by decide) h7 (ax_cons (ex_v (i := 0) (j := 0) B rfl rfl rfl) (ax_cons ex_int ax_nil))) (perm_at (k := 1) rfl)) (aq_x (φ := (dat (PyData.int t8.1))) (ex_call (a := (q_well_here, t7.2, many)) (b := t8) (gi := 1) (rest := (q_turns0, ol (List.map (eT PyData.int) s2.1)) :: os) B rfl c_l_pick (by decide) h8 (ax_cons (ex_v (i := 0) (j := 0) B rfl rfl rfl) (ax_cons (ex_v (i := 2) (j := 2) B rfl rfl rfl) ax_nil))) aq_nil)) (fun v0 v1 os_ hr_ => ?_) (by rintro φs os_ ⟨_, rfl, _, rfl, rfl, rfl⟩; exact ⟨_, _, rfl⟩)
    obtain ⟨_, e0, _, e1, e8, e9⟩ := hr_
    cases e0; cases e1; cases e8; cases e9
    obtain ⟨s11, h_s11, hm⟩ := bnd hm
    refine sx_join [sl (own q_well_here), sl (dat (PyData.int letters)), sl (dat (PyData.int many)), sl (own q_turns0), sl (dat (PyData.int letter3)), sl (dat (PyData.int t7.1)), sl (dat (PyData.int t8.1)), un, un, un] ((q_well_here, ol (List.map PyData.int s11.1)) :: (q_turns0, ol (List.map (eT PyData.int) s11.2)) :: os) (?_) (fun Q => ?_)
    · clear h_s11
      obtain ⟨s18, h_s18, hm⟩ := bnd hm
      refine sx_join [sl (own q_well_here), sl (dat (PyData.int letters)), sl (dat (PyData.int many)), sl (own q_turns0), sl (dat (PyData.int letter3)), sl (dat (PyData.int t7.1)), sl (dat (PyData.int t8.1)), un, un, un] ((q_well_here, ol (List.map PyData.int s11.1)) :: (q_turns0, ol (List.map (eT PyData.int) s18)) :: os) (?_) (fun Q => ?_)
      · clear h_s18
        obtain ⟨s25, h_s25, hm⟩ := bnd hm
        refine sx_join [sl (own q_well_here), sl (dat (PyData.int letters)), sl (dat (PyData.int many)), sl (own q_turns0), sl (dat (PyData.int letter3)), sl (dat (PyData.int t7.1)), sl (dat (PyData.int t8.1)), un, un, un] ((q_well_here, ol (List.map PyData.int s25.1)) :: (q_turns0, ol (List.map (eT PyData.int) s25.2)) :: os) (?_) (fun Q => ?_)
        · clear h_s25
          obtain rfl := som hm
          exact sx_nil fun σ H a => ⟨(), ((a.perm (perm_at (k := 1) rfl)).weak ⟨.inl rfl, .inl rfl, .inl rfl, .inl rfl, .inr rfl, .inr rfl, .inr rfl, .inl rfl, .inl rfl, .inl rfl, trivial⟩)⟩
        · have hm := h_s25
          refine sx_if (tx_cmp op_eq r2_eqI (nomark _) (ex_v (i := 5) (j := 5) B rfl rfl rfl) ex_int) (fun hk => ?_) (fun hk => ?_)
          · have hm := ifT hm hk
            obtain ⟨t19, h19, hm⟩ := bnd hm
            obtain ⟨t20, h20, hm⟩ := bnd hm
            refine sx_par2 (i := 7) (j := 8) _ hsc B rfl rfl (by decide) (by decide +kernel) (by decide +kernel) (by intro env he; cases env; cases he; first | rfl | kernel_rfl) (aq_x (φ := (dat (PyData.int t19.1))) (ex_call (a := (q_well_here, s11.1, many)) (b := t19) (gi := 1) (rest := (q_turns0, ol (List.map (eT PyData.int) s18)) :: os) B rfl c_l_pick (by decide) h19 (ax_cons (ex_v (i := 0) (j := 0) B rfl rfl rfl) (ax_cons (ex_v (i := 2) (j := 2) B rfl rfl rfl) ax_nil))) (aq_n (n := ol (List.map PyData.int t20)) (en_rgL1 (gi := 4) (gj := 0) B rfl rfl g_list g_range h20 (ex_v (i := 2) (j := 2) B rfl rfl rfl)) (fun q_turn_here21 => aq_nil))) (fun v0 v1 os_ hr_ => ?_) (by rintro φs os_ ⟨_, rfl, q_turn_here21, _, rfl, rfl, rfl⟩; exact ⟨_, _, rfl⟩)
            obtain ⟨_, e0, q_turn_here21, _, e1, e8, e9⟩ := hr_
            cases e0; cases e1; cases e8; cases e9
            obtain ⟨t22, h22, hm⟩ := bnd hm
            refine sx_setO (enc := PyData.int) (j := 0) h22 (ex_v (i := 7) (j := 7) B rfl rfl rfl) (ex_v (i := 8) (j := 8) B rfl rfl rfl) (ex_v (i := 6) (j := 6) B rfl rfl rfl) rfl ?_
            obtain ⟨t23, h23, hm⟩ := bnd hm
            refine sx_setO (enc := PyData.int) (j := 0) h23 (ex_v (i := 6) (j := 6) B rfl rfl rfl) (ex_v (i := 8) (j := 8) B rfl rfl rfl) (ex_v (i := 7) (j := 7) B rfl rfl rfl) rfl ?_
            refine sx_frz (j := 0) (i := 8) rfl rfl ?_
            obtain ⟨t24, h24, hm⟩ := bnd hm
            refine sx_expr (ex_app (enc := (eT PyData.int)) (j := 1) (xs0 := s18) (xs := s18) (y := t23) h24 (ex_v (i := 3) (j := 3) B rfl rfl rfl) rfl (ex_ty (j := 3) B rfl g_tuple (by decide +kernel) call_tuple_of (rc_tupL (ds := List.map PyData.int t23) rdl_dat) (ax_cons (ex_v (i := 8) (j := 8) B rfl rfl rfl) ax_nil)) rfl) ?_
            obtain rfl := som hm
            exact sx_fall (SX.weak Q (by exact ⟨.inl rfl, .inl rfl, .inl rfl, .inl rfl, .inl rfl, .inl rfl, .inl rfl, .inr rfl, .inr rfl, .inl rfl, trivial⟩)) rfl
          · have hm := ifF hm hk
            obtain rfl := som hm
            exact sx_fall Q rfl
      · have hm := h_s18
        refine sx_if (tx_cmp op_eq r2_eqI (nomark _) (ex_v (i := 5) (j := 5) B rfl rfl rfl) ex_int) (fun hk => ?_) (fun hk => ?_)
        · have hm := ifT hm hk
          obtain ⟨t12, h12, hm⟩ := bnd hm
          obtain ⟨t16, h16, hm⟩ := bnd hm
          obtain ⟨t17, h17, hm⟩ := bnd hm
          refine sx_expr (ex_app (enc := (eT PyData.int)) (j := 1) (xs0 := s11.2) (xs := s11.2) (y := t16) h17 (ex_v (i := 3) (j := 3) B rfl rfl rfl) rfl (ex_ty (j := 3) B rfl g_tuple (by decide +kernel) call_tuple_of (rc_tupL (ds := List.map PyData.int t16) rdl_dat) (ax_cons (EN.ex (en_lc (lc_mk1 (j := 9) (vp := fun place13 => (dat (PyData.int place13))) (c := anyOs) (enc := PyData.int) (fun (_ : Unit) (place13 : Int) => ((fun (place13 : Int) => ((modO (place13 + t8.1) many).bind fun t15 => some t15)) place13).map fun y => (some y, ())) (fun (_ : Unit) (tl1 : Os) => (q_well_here, ol (List.map PyData.int s11.1)) :: (q_turns0, ol (List.map (eT PyData.int) s11.2)) :: tl1) () (t16) () B rfl rfl (by rw [B.hN, hsc]; decide +kernel) (by rw [hsc]; decide +kernel) (by decide) (lcO_ok h16) (ix_rng1 (gi := 0) B rfl g_range h12 (ex_v (i := 2) (j := 2) B rfl rfl rfl)) (fun _ _ => trivial) (fun _ _ _ => ((List.Perm.cons _ (List.Perm.swap _ _ _)).trans (List.Perm.swap _ _ _))) (fun _ place13 t tl1 hx hf => by (obtain ⟨y, hy, rfl⟩ := Option.map_eq_some_iff.mp hf; obtain ⟨t15, h15, hy⟩ := bnd hy; obtain rfl := som hy; exact ⟨true, _, fun X1 hX => by (have B1 := Bd.fam (W' := ["_law_many", "_law_shift", "_law_place"]) (G' := ["int"]) B hX (by (try rw [hsc]); decide +kernel); have g_int' := fam_mg hX g_int; exact ⟨.nil, fun _ => ⟨_, rfl, (ex_mod h15 (ex_ty (j := 0) B1 rfl g_int' (by decide +kernel) call_int1 rc_intI (ax_cons (ex_add (ex_v (i := 9) (j := 2) B1 rfl rfl rfl) (ex_v (i := 6) (j := 1) B1 rfl rfl rfl)) ax_nil)) (ex_v (i := 2) (j := 0) B1 rfl rfl rfl))⟩, fun h => Bool.noConfusion h⟩)⟩))))) ax_nil)) rfl) ?_
          obtain rfl := som hm
          exact sx_fall Q rfl
        · have hm := ifF hm hk
          obtain rfl := som hm
          exact sx_fall Q rfl
    · have hm := h_s11
      refine sx_if (tx_cmp op_lt r2_lt (nomark _) (ex_v (i := 5) (j := 5) B rfl rfl rfl) ex_int) (fun hk => ?_) (fun hk => ?_)
      · have hm := ifT hm hk
        obtain ⟨t9, h9, hm⟩ := bnd hm
        obtain ⟨t10, h10, hm⟩ := bnd hm
        refine sx_expr (ex_app (enc := (eT PyData.int)) (j := 1) (xs0 := s2.1) (xs := s2.1) (y := t9.1) h10 (ex_v (i := 3) (j := 3) B rfl rfl rfl) rfl (ex_call (a := (q_well_here, t8.2, many)) (b := t9) (gi := 2) (rest := (q_turns0, ol (List.map (eT PyData.int) s2.1)) :: os) B rfl c_l_turn (by decide) h9 (ax_cons (ex_v (i := 0) (j := 0) B rfl rfl rfl) (ax_cons (ex_v (i := 2) (j := 2) B rfl rfl rfl) ax_nil))) rfl) ?_
        obtain rfl := som hm
        exact sx_fall Q rfl
      · have hm := ifF hm hk
        obtain rfl := som hm
        exact sx_fall Q rfl
  · skip
    refine sx_frz (j := 0) (i := 3) rfl rfl ?_
    obtain rfl := som hm
    exact sx_ret (ex_tup (ds := [(PyData.int letters), (PyData.tuple (List.map (eT PyData.int) f4.1))]) (hl := len_ok (n := 2) rfl) (ax_cons (ex_v (i := 1) (j := 1) B rfl rfl rfl) (ax_cons (ex_ty (j := 3) B rfl g_tuple (by decide +kernel) call_tuple_of (rc_tupL (ds := List.map (eT PyData.int) f4.1) rdl_dat) (ax_cons (ex_v (i := 3) (j := 3) B rfl rfl rfl) ax_nil)) ax_nil))) (fun F H v e o c => R.rt F H v e o c)
theorem cal_l_book {P : Program} {w : World} {K : PySem.W.Frag} {mg : Str → Option Value} {base : Heap} {f : Addr} {fd : FuncData} (Fn : Fun K "_law_book" "_law_book" s_l_book f fd) (hmg : mg "_law_book" = some (.ref f)) (hb : Binds K fd ["_law_well_here", "_law_letters", "_law_many"] []) (g_range : mg "range" = none) (c_l_pick : Cal P w K mg base 1 "_law_pick" s_l_pick ["_law_well_here", "_law_many"] (sp_l_pick K)) (c_l_turn : Cal P w K mg base 2 "_law_turn" s_l_turn ["_law_well_here", "_law_many"] (sp_l_turn K)) (g_tuple : mg "tuple" = none) (g_int : mg "int" = none) (g_list : mg "list" = none) : Cal P w K mg base 3 "_law_book" s_l_book ["_law_well_here", "_law_letters", "_law_many"] (sp_l_book K) := by
  obtain ⟨sts_, hst_⟩ : ∃ z_, defBody s_l_book = z_ := ⟨_, rfl⟩
  exact cal_ZQ (V := V_l_book) (Gs := G_l_book) (nl := 7) hst_ Fn sc_l_book (by decide +kernel) (by decide +kernel) hmg hb (fun _ => rfl) rfl fun _ _ _ _ _ _ _ a b F0 os D B T hm R => body_l_book rfl hst_ B T g_range c_l_pick c_l_turn g_tuple g_int g_list a.1 a.2.1 a.2.2.1 a.2.2.2 b F0 os D hm R
abbrev s_l_short : Stmt := top 60
def N_l_short : List Str := ["_law_well_here", "_law_letters", "_law_most", "_law_found", "_law_turn_here", "_law_way", "_law_times", "_law_walk_here"]
def V_l_short : List Str := ["_law_well_here", "_law_letters", "_law_most", "_law_found", "_law_turn_here", "_law_way", "_law_times", "_law_walk_here"]
def G_l_short : List Str := ["range", "_law_pick", "_law_walk", "tuple"]
theorem sc_l_short : FnScope N_l_short ["_law_well_here", "_law_letters", "_law_most"] (defScope s_l_short) := ⟨rfl, rfl, rfl, by decide +kernel, rfl, by decide +kernel, by decide +kernel⟩
abbrev sp_l_short (K : PySem.W.Frag) : Sp := spZ (α := (Addr × (List Int) × Int × Int)) (β := ((List ((List Int) × Int)) × (List Int))) (fun a => [own a.1, (dat (PyData.int a.2.2.1)), (dat (PyData.int a.2.2.2))]) (fun a => (a.1, ol (List.map PyData.int a.2.1)) :: []) (fun a => m_l_short a.2.1 a.2.2.1 a.2.2.2) (fun a b => (dat (PyData.tuple (List.map (eP (eT PyData.int) PyData.int) b.1)))) (fun a b => (a.1, ol (List.map PyData.int b.2)) :: [])
set_option maxHeartbeats 4000000 in
theorem body_l_short {X : Cx} (hsc : X.env.scope = defScope s_l_short) {sts_ : List Stmt} (hst_ : defBody s_l_short = sts_) (B : Bd X N_l_short V_l_short G_l_short 2) (T : Bt X V_l_short) (g_range : X.mg "range" = none) (c_l_pick : Cal X.prog X.w X.K X.mg X.base 1 "_law_pick" s_l_pick ["_law_well_here", "_law_many"] (sp_l_pick X.K)) (c_l_walk : Cal X.prog X.w X.K X.mg X.base 2 "_law_walk" s_l_walk ["_law_well_here", "_law_letters", "_law_most"] (sp_l_walk X.K)) (g_tuple : X.mg "tuple" = none) (q_well_here : Addr) (w_well_here : (List Int)) (letters : Int) (most : Int) (b : ((List ((List Int) × Int)) × (List Int))) (F0 : Hp) (os : Os) (D : Ends) (hm : m_l_short w_well_here letters most = some b) (R : RetZ F0 ((q_well_here, ol (List.map PyData.int b.2)) :: os) (dat (PyData.tuple (List.map (eP (eT PyData.int) PyData.int) b.1))) D) :
    SX X [sl (own q_well_here), sl (dat (PyData.int letters)), sl (dat (PyData.int most)), un, un, un, un, un] ((q_well_here, ol (List.map PyData.int w_well_here)) :: os) F0 sts_ D := by
  subst hst_
  unfold m_l_short at hm
  refine sx_asgN (i := 3) (vi := 3) (n := ol (List.map (eP (eT PyData.int) PyData.int) ([] : (List ((List Int) × Int))))) B T rfl rfl (en_lst (ds := []) ax_nil) (fun q_found0 => ?_)
  obtain ⟨t1, h1, hm⟩ := bnd hm
  obtain ⟨t2, h2, hm⟩ := bnd hm
  obtain ⟨f5, h19, hm⟩ := bnd hm
  refine sx_for (c := anyOs) _ (fun (s3 : ((List Int) × (List ((List Int) × Int)))) (_ : Unit) => [sl (own q_well_here), sl (dat (PyData.int letters)), sl (dat (PyData.int most)), sl (own q_found0), un, un, un, un]) (fun (s3 : ((List Int) × (List ((List Int) × Int)))) (_ : Unit) => (q_well_here, ol (List.map PyData.int s3.1)) :: (q_found0, ol (List.map (eP (eT PyData.int) PyData.int) s3.2)) :: os) B T (fun turn_here4 => gx_name (i := 4) (vi := 4) (φ := (dat (PyData.int turn_here4))) B T rfl rfl) (t1.2, ([] : (List ((List Int) × Int)))) () f5 h19 (ix_rng1 (gi := 0) B rfl g_range h2 (EX.pre (ex_call (a := (q_well_here, w_well_here, (most + 1))) (b := t1) (gi := 1) (rest := (q_found0, ol (List.map (eP (eT PyData.int) PyData.int) ([] : (List ((List Int) × Int))))) :: os) B rfl c_l_pick (by decide) h1 (ax_cons (ex_v (i := 0) (j := 0) B rfl rfl rfl) (ax_cons (ex_add (ex_v (i := 2) (j := 2) B rfl rfl rfl) ex_int) ax_nil))) (perm_at (k := 1) rfl))) ⟨.inl rfl, .inl rfl, .inl rfl, .inl rfl, .inl rfl, .inl rfl, .inl rfl, .inl rfl, trivial⟩ (fun _ _ => trivial) (fun F7 e6 s3 _ turn_here4 z20 hx hm => ?_) (fun _ => ?_)
  · clear h19
    obtain ⟨t8, h8, hm⟩ := bnd hm
    obtain ⟨t9, h9, hm⟩ := bnd hm
    refine sx_par2 (i := 5) (j := 6) _ hsc B rfl rfl (by decide) (by decide +kernel) (by decide +kernel) (by intro env he; cases env; cases he; first | rfl | kernel_rfl) (aq_x (φ := (dat (PyData.int t8.1))) (ex_call (a := (q_well_here, s3.1, 3)) (b := t8) (gi := 1) (rest := (q_found0, ol (List.map (eP (eT PyData.int) PyData.int) s3.2)) :: os) B rfl c_l_pick (by decide) h8 (ax_cons (ex_v (i := 0) (j := 0) B rfl rfl rfl) (ax_cons ex_int ax_nil))) (aq_x (φ := (dat (PyData.int (1 + t9.1)))) (ex_add ex_int (ex_call (a := (q_well_here, t8.2, 9)) (b := t9) (gi := 1) (rest := (q_found0, ol (List.map (eP (eT PyData.int) PyData.int) s3.2)) :: os) B rfl c_l_pick (by decide) h9 (ax_cons (ex_v (i := 0) (j := 0) B rfl rfl rfl) (ax_cons ex_int ax_nil)))) aq_nil)) (fun v0 v1 os_ hr_ => ?_) (by rintro φs os_ ⟨_, rfl, _, rfl, rfl, rfl⟩; exact ⟨_, _, rfl⟩)
    obtain ⟨_, e0, _, e1, e8, e9⟩ := hr_
    cases e0; cases e1; cases e8; cases e9
    obtain ⟨s13, h_s13, hm⟩ := bnd hm
    refine sx_join [sl (own q_well_here), sl (dat (PyData.int letters)), sl (dat (PyData.int most)), sl (own q_found0), sl (dat (PyData.int turn_here4)), sl (dat (PyData.int t8.1)), sl (dat (PyData.int s13.1)), un] ((q_well_here, ol (List.map PyData.int s13.2)) :: (q_found0, ol (List.map (eP (eT PyData.int) PyData.int) s3.2)) :: os) (?_) (fun Q => ?_)
    · clear h_s13
      obtain ⟨t14, h14, hm⟩ := bnd hm
      obtain ⟨t15, h15, hm⟩ := bnd hm
      obtain ⟨t16, h16, hm⟩ := bnd hm
      refine sx_asg (i := 7) (vi := 7) (φ := (dat (PyData.tuple (List.map PyData.int t16.1)))) B T rfl rfl (ex_call (a := (q_well_here, t14.2, letters, t15)) (b := t16) (gi := 2) (rest := (q_found0, ol (List.map (eP (eT PyData.int) PyData.int) s3.2)) :: os) B rfl c_l_walk (by decide) h16 (ax_cons (ex_v (i := 0) (j := 0) B rfl rfl rfl) (ax_cons (ex_v (i := 1) (j := 1) B rfl rfl rfl) (ax_cons (ex_idxL (enc := PyData.int) h15 rdl_dat (EN.ex (en_lst (ds := [(PyData.int 6), (PyData.int 6), (PyData.int 60)]) (hl := len_ok (n := 3) rfl) (ax_cons ex_int (ax_cons ex_int (ax_cons ex_int ax_nil))))) (ex_call (a := (q_well_here, s13.2, 3)) (b := t14) (gi := 1) (rest := (q_found0, ol (List.map (eP (eT PyData.int) PyData.int) s3.2)) :: os) B rfl c_l_pick (by decide) h14 (ax_cons (ex_v (i := 0) (j := 0) B rfl rfl rfl) (ax_cons ex_int ax_nil)))) ax_nil)))) ?_
      obtain ⟨t17, h17, hm⟩ := bnd hm
      obtain ⟨t18, h18, hm⟩ := bnd hm
      refine sx_expr (ex_app (enc := (eP (eT PyData.int) PyData.int)) (j := 1) (xs0 := s3.2) (xs := s3.2) (y := (t16.1, (if (decide (t17.1 = 0)) = true then s13.1 else (-s13.1)))) h18 (ex_v (i := 3) (j := 3) B rfl rfl rfl) rfl (ex_tup (ds := [(PyData.tuple (List.map PyData.int t16.1)), (PyData.int (if (decide (t17.1 = 0)) = true then s13.1 else (-s13.1)))]) (hl := len_ok (n := 2) rfl) (ax_cons (ex_v (i := 7) (j := 7) B rfl rfl rfl) (ax_cons (ex_if (tx_cmp op_eq r2_eqI (nomark _) (ex_call (a := (q_well_here, t16.2, 2)) (b := t17) (gi := 1) (rest := (q_found0, ol (List.map (eP (eT PyData.int) PyData.int) s3.2)) :: os) B rfl c_l_pick (by decide) h17 (ax_cons (ex_v (i := 0) (j := 0) B rfl rfl rfl) (ax_cons ex_int ax_nil))) ex_int) (fun hk => EX.to (ex_v (i := 6) (j := 6) B rfl rfl rfl) (by rw [if_pos hk] <;> rfl)) (fun hk => EX.to (ex_neg (ex_v (i := 6) (j := 6) B rfl rfl rfl)) (by first | (rw [if_neg (by rw [hk]; exact Bool.false_ne_true)] <;> rfl) | (rw [if_neg (ne_true_of_eq_false hk)] <;> rfl)))) ax_nil))) rfl) ?_
      obtain rfl := som hm
      exact sx_nil fun σ H a => ⟨(), (a.weak ⟨.inl rfl, .inl rfl, .inl rfl, .inl rfl, .inr rfl, .inr rfl, .inr rfl, .inr rfl, trivial⟩)⟩
    · have hm := h_s13
      refine sx_if (tx_cmp op_gt r2_gt (nomark _) (ex_v (i := 5) (j := 5) B rfl rfl rfl) ex_int) (fun hk => ?_) (fun hk => ?_)
      · have hm := ifT hm hk
        obtain ⟨t10, h10, hm⟩ := bnd hm
        obtain ⟨t11, h11, hm⟩ := bnd hm
        obtain ⟨t12, h12, hm⟩ := bnd hm
        refine sx_asg (i := 6) (vi := 6) (φ := (dat (PyData.int t12))) B T rfl rfl (ex_idxL (enc := PyData.int) h12 rdl_dat (EN.ex (en_lst (ds := [(PyData.int (1000000000000000000000000000000 - t10.1)), (PyData.int (1 + t11.1))]) (hl := len_ok (n := 2) rfl) (ax_cons (ex_sub (ex_pow (m := 1000000000000000000000000000000) (by decide +kernel) ex_int ex_int) (ex_call (a := (q_well_here, t9.2, 3)) (b := t10) (gi := 1) (rest := (q_found0, ol (List.map (eP (eT PyData.int) PyData.int) s3.2)) :: os) B rfl c_l_pick (by decide) h10 (ax_cons (ex_v (i := 0) (j := 0) B rfl rfl rfl) (ax_cons ex_int ax_nil)))) (ax_cons (ex_add ex_int (ex_call (a := (q_well_here, t10.2, 1000000000000000000000000000000)) (b := t11) (gi := 1) (rest := (q_found0, ol (List.map (eP (eT PyData.int) PyData.int) s3.2)) :: os) B rfl c_l_pick (by decide) h11 (ax_cons (ex_v (i := 0) (j := 0) B rfl rfl rfl) (ax_cons (ex_pow (m := 1000000000000000000000000000000) (by decide +kernel) ex_int ex_int) ax_nil)))) ax_nil)))) (ex_sub (ex_v (i := 5) (j := 5) B rfl rfl rfl) ex_int)) ?_
        obtain rfl := som hm
        exact sx_fall Q rfl
      · have hm := ifF hm hk
        obtain rfl := som hm
        exact sx_fall Q rfl
  · skip
    refine sx_frz (j := 1) (i := 3) rfl rfl ?_
    obtain rfl := som hm
    exact sx_ret (ex_ty (j := 3) B rfl g_tuple (by decide +kernel) call_tuple_of (rc_tupL (ds := List.map (eP (eT PyData.int) PyData.int) f5.2) rdl_dat) (ax_cons (ex_v (i := 3) (j := 3) B rfl rfl rfl) ax_nil)) (fun F H v e o c => R.rt F H v e o c)
theorem cal_l_short {P : Program} {w : World} {K : PySem.W.Frag} {mg : Str → Option Value} {base : Heap} {f : Addr} {fd : FuncData} (Fn : Fun K "_law_short" "_law_short" s_l_short f fd) (hmg : mg "_law_short" = some (.ref f)) (hb : Binds K fd ["_law_well_here", "_law_letters", "_law_most"] []) (g_range : mg "range" = none) (c_l_pick : Cal P w K mg base 1 "_law_pick" s_l_pick ["_law_well_here", "_law_many"] (sp_l_pick K)) (c_l_walk : Cal P w K mg base 2 "_law_walk" s_l_walk ["_law_well_here", "_law_letters", "_law_most"] (sp_l_walk K)) (g_tuple : mg "tuple" = none) : Cal P w K mg base 3 "_law_short" s_l_short ["_law_well_here", "_law_letters", "_law_most"] (sp_l_short K) := by
  obtain ⟨sts_, hst_⟩ : ∃ z_, defBody s_l_short = z_ := ⟨_, rfl⟩
  exact cal_ZQ (V := V_l_short) (Gs := G_l_short) (nl := 5) hst_ Fn sc_l_short (by decide +kernel) (by decide +kernel) hmg hb (fun _ => rfl) rfl fun _ _ _ _ _ _ _ a b F0 os D B T hm R => body_l_short rfl hst_ B T g_range c_l_pick c_l_walk g_tuple a.1 a.2.1 a.2.2.1 a.2.2.2 b F0 os D hm R
abbrev s_l_rows : Stmt := top 54
def N_l_rows : List Str := ["_law_book_here", "_law_rows_here", "_law_at", "_law_turn_here", "_law_back_here", "_law_place", "_law_goal"]
def V_l_rows : List Str := ["_law_book_here", "_law_rows_here", "_law_at", "_law_turn_here", "_law_back_here", "_law_place", "_law_goal"]
def G_l_rows : List Str := ["enumerate", "list"]
theorem sc_l_rows : FnScope N_l_rows ["_law_book_here"] (defScope s_l_rows) := ⟨rfl, rfl, rfl, by decide +kernel, rfl, by decide +kernel, by decide +kernel⟩
abbrev sp_l_rows (K : PySem.W.Frag) : Sp := spZ (α := (Int × (List (List Int)))) (β := (List (Int × (List Int)))) (fun a => [(dat (PyData.tuple [(PyData.int a.1), (PyData.tuple (List.map (eT PyData.int) a.2))]))]) (fun a => []) (fun a => m_l_rows a) (fun a b => (dat (Kd.pd kI (eM (eL PyData.int) b)))) (fun a b => [])
set_option maxHeartbeats 4000000 in
theorem body_l_rows {X : Cx} (hsc : X.env.scope = defScope s_l_rows) {sts_ : List Stmt} (hst_ : defBody s_l_rows = sts_) (B : Bd X N_l_rows V_l_rows G_l_rows 0) (T : Bt X V_l_rows) (g_enumerate : X.mg "enumerate" = none) (g_list : X.mg "list" = none) (book_here : (Int × (List (List Int)))) (b : (List (Int × (List Int)))) (F0 : Hp) (os : Os) (D : Ends) (hm : m_l_rows book_here = some b) (R : RetZ F0 (os) (dat (Kd.pd kI (eM (eL PyData.int) b))) D) :
    SX X [sl (dat (PyData.tuple [(PyData.int book_here.1), (PyData.tuple (List.map (eT PyData.int) book_here.2))])), un, un, un, un, un, un] (os) F0 sts_ D := by
  subst hst_
  unfold m_l_rows at hm
  refine sx_asgN (i := 1) (vi := 1) (n := od kI (eM (eL PyData.int) ([] : (List (Int × (List Int)))))) B T rfl rfl (en_dnew (kd := kI)) (fun q_rows_here0 => ?_)
  obtain ⟨f3, h16, hm⟩ := bnd hm
  refine sx_for (c := anyOs) _ (fun (s1 : (List (Int × (List Int)))) (_ : Unit) => [sl (dat (PyData.tuple [(PyData.int book_here.1), (PyData.tuple (List.map (eT PyData.int) book_here.2))])), sl (own q_rows_here0), un, un, un, un, un]) (fun (s1 : (List (Int × (List Int)))) (_ : Unit) => (q_rows_here0, od kI (eM (eL PyData.int) s1)) :: os) B T (fun x2 => gx_pair B (gx_name (i := 2) (vi := 2) (φ := (dat (PyData.int x2.1))) B T rfl rfl) (gx_name (i := 3) (vi := 3) (φ := (dat (PyData.tuple (List.map PyData.int x2.2)))) B T rfl rfl)) ([] : (List (Int × (List Int)))) () f3 h16 (ix_enumT (enc := (eT PyData.int)) (gi := 0) B rfl g_enumerate (ex_ixT rdt_dat (by rfl) (ex_v (i := 0) (j := 0) B rfl rfl rfl) ex_int) rdt_dat) ⟨.inl rfl, .inl rfl, .inl rfl, .inl rfl, .inl rfl, .inl rfl, .inl rfl, trivial⟩ (fun _ _ => trivial) (fun F5 e4 s1 _ x2 z17 hx hm => ?_) (fun _ => ?_)
  · clear h16
    refine sx_asgN (i := 4) (vi := 4) (n := ol (List.map PyData.int x2.2)) B T rfl rfl (en_ty (j := 1) B rfl g_list (by decide +kernel) call_list_of (rc_lstT (ds := List.map PyData.int x2.2) rdt_dat) (ax_cons (ex_v (i := 3) (j := 3) B rfl rfl rfl) ax_nil)) (fun q_back_here5 => ?_)
    obtain ⟨f8, h12, hm⟩ := bnd hm
    refine sx_for (c := anyOs) _ (fun (s6 : (List Int)) (_ : Unit) => [sl (dat (PyData.tuple [(PyData.int book_here.1), (PyData.tuple (List.map (eT PyData.int) book_here.2))])), sl (own q_rows_here0), sl (dat (PyData.int x2.1)), sl (dat (PyData.tuple (List.map PyData.int x2.2))), sl (own q_back_here5), un, un]) (fun (s6 : (List Int)) (_ : Unit) => (q_back_here5, ol (List.map PyData.int s6)) :: (q_rows_here0, od kI (eM (eL PyData.int) s1)) :: os) B T (fun x7 => gx_pair B (gx_name (i := 5) (vi := 5) (φ := (dat (PyData.int x7.1))) B T rfl rfl) (gx_name (i := 6) (vi := 6) (φ := (dat (PyData.int x7.2))) B T rfl rfl)) x2.2 () f8 h12 (ix_enumT (enc := PyData.int) (gi := 0) B rfl g_enumerate (ex_v (i := 3) (j := 3) B rfl rfl rfl) rdt_dat) ⟨.inl rfl, .inl rfl, .inl rfl, .inl rfl, .inl rfl, .inl rfl, .inl rfl, trivial⟩ (fun _ _ => trivial) (fun F10 e9 s6 _ x7 z15 hx hm => ?_) (fun _ => ?_)
    · clear h12
      obtain ⟨t11, h11, hm⟩ := bnd hm
      refine sx_setO (enc := PyData.int) (j := 0) h11 (ex_v (i := 5) (j := 5) B rfl rfl rfl) (ex_v (i := 4) (j := 4) B rfl rfl rfl) (ex_v (i := 6) (j := 6) B rfl rfl rfl) rfl ?_
      obtain rfl := som hm
      exact sx_nil fun σ H a => ⟨(), (a.weak ⟨.inl rfl, .inl rfl, .inl rfl, .inl rfl, .inl rfl, .inr rfl, .inr rfl, trivial⟩)⟩
    · skip
      refine sx_frz (j := 0) (i := 4) rfl rfl ?_
      obtain ⟨t13, h13, hm⟩ := bnd hm
      refine sx_dput (kd := kI) (enc := (eL PyData.int)) (w := s1) (x := x2.2) inj_kI h13 B (EN.ex (en_ty (j := 1) B rfl g_list (by decide +kernel) call_list_of (rc_lstT (ds := List.map PyData.int x2.2) rdt_dat) (ax_cons (ex_v (i := 3) (j := 3) B rfl rfl rfl) ax_nil))) (ex_v (i := 1) (j := 1) B rfl rfl rfl) (ex_add (ex_v (i := 2) (j := 2) B rfl rfl rfl) ex_int) (wr_flat (f := (odT kI (eL PyData.int))) (d := s1) 0 rfl) ?_
      obtain ⟨t14, h14, hm⟩ := bnd hm
      refine sx_dput (kd := kI) (enc := (eL PyData.int)) (w := t13) (x := f8) inj_kI h14 B (ex_v (i := 4) (j := 4) B rfl rfl rfl) (ex_v (i := 1) (j := 1) B rfl rfl rfl) (ex_sub (ex_neg (ex_v (i := 2) (j := 2) B rfl rfl rfl)) ex_int) (wr_flat (f := (odT kI (eL PyData.int))) (d := t13) 0 rfl) ?_
      obtain rfl := som hm
      exact sx_nil fun σ H a => ⟨(), (a.weak ⟨.inl rfl, .inl rfl, .inr rfl, .inr rfl, .inr rfl, .inl rfl, .inl rfl, trivial⟩)⟩
  · skip
    refine sx_frzF (j := 0) (i := 1) frb_od rfl rfl ?_
    obtain rfl := som hm
    exact sx_ret (ex_v (i := 1) (j := 1) B rfl rfl rfl) (fun F H v e o c => R.rt F H v e o c)
theorem cal_l_rows {P : Program} {w : World} {K : PySem.W.Frag} {mg : Str → Option Value} {base : Heap} {f : Addr} {fd : FuncData} (Fn : Fun K "_law_rows" "_law_rows" s_l_rows f fd) (hmg : mg "_law_rows" = some (.ref f)) (hb : Binds K fd ["_law_book_here"] []) (g_enumerate : mg "enumerate" = none) (g_list : mg "list" = none) : Cal P w K mg base 1 "_law_rows" s_l_rows ["_law_book_here"] (sp_l_rows K) := by
  obtain ⟨sts_, hst_⟩ : ∃ z_, defBody s_l_rows = z_ := ⟨_, rfl⟩
  exact cal_ZQ (V := V_l_rows) (Gs := G_l_rows) (nl := 6) hst_ Fn sc_l_rows (by decide +kernel) (by decide +kernel) hmg hb (fun _ => rfl) rfl fun _ _ _ _ _ _ _ a b F0 os D B T hm R => body_l_rows rfl hst_ B T g_enumerate g_list a b F0 os D hm R
abbrev s_l_goals : Stmt := top 55
def N_l_goals : List Str := ["_law_book_here", "_law_walk_here", "_law_here", "_law_rows_here", "_law_step", "_law_place"]
def V_l_goals : List Str := ["_law_book_here", "_law_walk_here", "_law_here", "_law_rows_here", "_law_step"]
def G_l_goals : List Str := ["list", "range", "len", "_law_rows", "tuple"]
theorem sc_l_goals : FnScope N_l_goals ["_law_book_here", "_law_walk_here"] (defScope s_l_goals) := ⟨rfl, rfl, rfl, by decide +kernel, rfl, by decide +kernel, by decide +kernel⟩
abbrev sp_l_goals (K : PySem.W.Frag) : Sp := spZ (α := ((Int × (List (List Int))) × (List Int))) (β := (List Int)) (fun a => [(dat (PyData.tuple [(PyData.int a.1.1), (PyData.tuple (List.map (eT PyData.int) a.1.2))])), (dat (PyData.tuple (List.map PyData.int a.2)))]) (fun a => []) (fun a => m_l_goals a.1 a.2) (fun a b => (dat (PyData.tuple (List.map PyData.int b)))) (fun a b => [])
set_option maxHeartbeats 4000000 in
theorem body_l_goals {X : Cx} (hsc : X.env.scope = defScope s_l_goals) {sts_ : List Stmt} (hst_ : defBody s_l_goals = sts_) (B : Bd X N_l_goals V_l_goals G_l_goals 1) (T : Bt X V_l_goals) (g_list : X.mg "list" = none) (g_range : X.mg "range" = none) (g_len : X.mg "len" = none) (c_l_rows : Cal X.prog X.w X.K X.mg X.base 1 "_law_rows" s_l_rows ["_law_book_here"] (sp_l_rows X.K)) (g_tuple : X.mg "tuple" = none) (book_here : (Int × (List (List Int)))) (walk_here : (List Int)) (b : (List Int)) (F0 : Hp) (os : Os) (D : Ends) (hm : m_l_goals book_here walk_here = some b) (R : RetZ F0 (os) (dat (PyData.tuple (List.map PyData.int b))) D) :
    SX X [sl (dat (PyData.tuple [(PyData.int book_here.1), (PyData.tuple (List.map (eT PyData.int) book_here.2))])), sl (dat (PyData.tuple (List.map PyData.int walk_here))), un, un, un, un] (os) F0 sts_ D := by
  subst hst_
  unfold m_l_goals at hm
  obtain ⟨t1, h1, hm⟩ := bnd hm
  obtain ⟨t2, h2, hm⟩ := bnd hm
  obtain ⟨t3, h3, hm⟩ := bnd hm
  refine sx_mk2 (i := 2) (j := 3) (vi := 2) (gi := 3) _ hsc B T rfl rfl rfl rfl (by intro env he; cases env; cases he; first | rfl | kernel_rfl) (aq_x (φ := (dat (PyData.list (List.map PyData.int t2)))) (EN.ex (en_rgL1 (gi := 0) (gj := 1) B rfl rfl g_list g_range h2 (EX.to (ex_fn (j := 2) B rfl g_len (by decide +kernel) call_len_seq (rc_lenT (ds := List.map PyData.int t1) rdt_dat) (ax_cons (ex_idxT (enc := (eT PyData.int)) h1 rdt_dat (ex_ixT rdt_dat (by rfl) (ex_v (i := 0) (j := 0) B rfl rfl rfl) ex_int) ex_int) ax_nil)) (by rw [List.length_map])))) (aq_x (φ := (dat (Kd.pd kI (eM (eL PyData.int) t3)))) (ex_call (a := book_here) (b := t3) (gi := 3) (rest := os) B rfl c_l_rows (by decide) h3 (ax_cons (ex_v (i := 0) (j := 0) B rfl rfl rfl) ax_nil)) aq_nil)) (fun v0 v1 os_ hr_ => ?_) (by rintro φs os_ ⟨_, rfl, _, rfl, rfl, rfl⟩; exact ⟨_, _, rfl⟩)
  obtain ⟨_, e0, _, e1, e8, e9⟩ := hr_
  cases e0; cases e1; cases e8; cases e9
  obtain ⟨f6, h14, hm⟩ := bnd hm
  refine sx_for (c := anyOs) _ (fun (s4 : (List Int)) (_ : Unit) => [sl (dat (PyData.tuple [(PyData.int book_here.1), (PyData.tuple (List.map (eT PyData.int) book_here.2))])), sl (dat (PyData.tuple (List.map PyData.int walk_here))), sl (dat (PyData.list (List.map PyData.int s4))), sl (dat (Kd.pd kI (eM (eL PyData.int) t3))), un, un]) (fun (s4 : (List Int)) (_ : Unit) => os) B T (fun step5 => gx_name (i := 4) (vi := 4) (φ := (dat (PyData.int step5))) B T rfl rfl) t2 () f6 h14 (ix_tup (enc := PyData.int) (ex_v (i := 1) (j := 1) B rfl rfl rfl) rdt_dat) ⟨.inl rfl, .inl rfl, .inl rfl, .inl rfl, .inl rfl, .inl rfl, trivial⟩ (fun _ _ => trivial) (fun F8 e7 s4 _ step5 z15 hx hm => ?_) (fun _ => ?_)
  · clear h14
    obtain ⟨t13, h13, hm⟩ := bnd hm
    refine sx_asgLc (i := 2) B T rfl (by rw [hsc]; exact lcl_of (by decide +kernel)) (lc_mk1 (j := 5) (vp := fun place9 => (dat (PyData.int place9))) (c := anyOs) (enc := PyData.int) (fun (_ : Unit) (place9 : Int) => ((fun (place9 : Int) => ((dGet t3 step5).bind fun t11 => (idx t11 place9).bind fun t12 => some t12)) place9).map fun y => (some y, ())) (fun (_ : Unit) (tl1 : Os) => tl1) () (t13) () B rfl rfl (by rw [B.hN, hsc]; decide +kernel) (by rw [hsc]; decide +kernel) (by decide) (lcO_ok h13) (ix_list (enc := PyData.int) (c := anyOs) (ex_v (i := 2) (j := 2) B rfl rfl rfl) (fun _ _ => rdl_dat) trivial) (fun _ _ => trivial) (fun _ _ _ => List.Perm.refl _) (fun _ place9 t tl1 hx hf => by (obtain ⟨y, hy, rfl⟩ := Option.map_eq_some_iff.mp hf; obtain ⟨t11, h11, hy⟩ := bnd hy; obtain ⟨t12, h12, hy⟩ := bnd hy; obtain rfl := som hy; exact ⟨true, _, fun X1 hX => by (have B1 := Bd.fam (W' := ["_law_rows_here", "_law_step", "_law_place"]) (G' := []) B hX (by (try rw [hsc]); decide +kernel); exact ⟨.nil, fun _ => ⟨_, rfl, (ex_idxL (enc := PyData.int) h12 rdl_dat (ex_dget (kd := kI) (enc := (eL PyData.int)) (w := t3) inj_kI h11 B1 rdd_dat (ex_v (i := 3) (j := 0) B1 rfl rfl rfl) (ex_v (i := 4) (j := 1) B1 rfl rfl rfl)) (ex_v (i := 5) (j := 2) B1 rfl rfl rfl))⟩, fun h => Bool.noConfusion h⟩)⟩))) (sw_ok (by rw [hsc]; decide +kernel) (by rw [hsc]; exact lcl_of (by decide +kernel)) (by decide) (by decide +kernel)) (fun q_here13 => ?_)
    refine sx_frz (j := 0) (i := 2) rfl rfl ?_
    obtain rfl := som hm
    exact sx_nil fun σ H a => ⟨(), (a.weak ⟨.inl rfl, .inl rfl, .inl rfl, .inl rfl, .inr rfl, .inl rfl, trivial⟩)⟩
  · skip
    obtain rfl := som hm
    exact sx_ret (ex_ty (j := 4) B rfl g_tuple (by decide +kernel) call_tuple_of (rc_tupL (ds := List.map PyData.int f6) rdl_dat) (ax_cons (ex_v (i := 2) (j := 2) B rfl rfl rfl) ax_nil)) (fun F H v e o c => R.rt F H v e o c)
theorem cal_l_goals {P : Program} {w : World} {K : PySem.W.Frag} {mg : Str → Option Value} {base : Heap} {f : Addr} {fd : FuncData} (Fn : Fun K "_law_goals" "_law_goals" s_l_goals f fd) (hmg : mg "_law_goals" = some (.ref f)) (hb : Binds K fd ["_law_book_here", "_law_walk_here"] []) (g_list : mg "list" = none) (g_range : mg "range" = none) (g_len : mg "len" = none) (c_l_rows : Cal P w K mg base 1 "_law_rows" s_l_rows ["_law_book_here"] (sp_l_rows K)) (g_tuple : mg "tuple" = none) : Cal P w K mg base 2 "_law_goals" s_l_goals ["_law_book_here", "_law_walk_here"] (sp_l_goals K) := by
  obtain ⟨sts_, hst_⟩ : ∃ z_, defBody s_l_goals = z_ := ⟨_, rfl⟩
  exact cal_ZQ (V := V_l_goals) (Gs := G_l_goals) (nl := 4) hst_ Fn sc_l_goals (by decide +kernel) (by decide +kernel) hmg hb (fun _ => rfl) rfl fun _ _ _ _ _ _ _ a b F0 os D B T hm R => body_l_goals rfl hst_ B T g_list g_range g_len c_l_rows g_tuple a.1 a.2 b F0 os D hm R
abbrev s_l_far_goals : Stmt := top 56
def N_l_far_goals : List Str := ["_law_turn_here", "_law_times", "_law_found", "_law_often", "_law_row", "_law_here"]
def V_l_far_goals : List Str := ["_law_turn_here", "_law_times", "_law_found", "_law_often", "_law_row"]
def G_l_far_goals : List Str := ["list", "range", "len", "int"]
theorem sc_l_far_goals : FnScope N_l_far_goals ["_law_turn_here", "_law_times"] (defScope s_l_far_goals) := ⟨rfl, rfl, rfl, by decide +kernel, rfl, by decide +kernel, by decide +kernel⟩
abbrev sp_l_far_goals (K : PySem.W.Frag) : Sp := spZ (α := ((List Int) × Int)) (β := (List Int)) (fun a => [(dat (PyData.tuple (List.map PyData.int a.1))), (dat (PyData.int a.2))]) (fun a => []) (fun a => m_l_far_goals a.1 a.2) (fun a b => (dat (PyData.list (List.map PyData.int b)))) (fun a b => [])
set_option maxHeartbeats 4000000 in
theorem body_l_far_goals {X : Cx} (hsc : X.env.scope = defScope s_l_far_goals) {sts_ : List Stmt} (hst_ : defBody s_l_far_goals = sts_) (B : Bd X N_l_far_goals V_l_far_goals G_l_far_goals 0) (T : Bt X V_l_far_goals) (g_list : X.mg "list" = none) (g_range : X.mg "range" = none) (g_len : X.mg "len" = none) (g_int : X.mg "int" = none) (turn_here : (List Int)) (times : Int) (b : (List Int)) (F0 : Hp) (os : Os) (D : Ends) (hm : m_l_far_goals turn_here times = some b) (R : RetZ F0 (os) (dat (PyData.list (List.map PyData.int b))) D) :
    SX X [sl (dat (PyData.tuple (List.map PyData.int turn_here))), sl (dat (PyData.int times)), un, un, un, un] (os) F0 sts_ D := by
  subst hst_
  unfold m_l_far_goals at hm
  obtain ⟨t1, h1, hm⟩ := bnd hm
  refine sx_mk3 (i := 2) (j := 3) (l := 4) (vi := 2) (gi := 3) (m := 4) _ hsc B T rfl rfl rfl rfl rfl rfl (by intro env he; cases env; cases he; first | rfl | kernel_rfl) (aq_x (φ := (dat (PyData.list (List.map PyData.int t1)))) (EN.ex (en_rgL1 (gi := 0) (gj := 1) B rfl rfl g_list g_range h1 (EX.to (ex_fn (j := 2) B rfl g_len (by decide +kernel) call_len_seq (rc_lenT (ds := List.map PyData.int turn_here) rdt_dat) (ax_cons (ex_v (i := 0) (j := 0) B rfl rfl rfl) ax_nil)) (by rw [List.length_map])))) (aq_x (φ := (dat (PyData.int times))) (ex_v (i := 1) (j := 1) B rfl rfl rfl) (aq_x (φ := (dat (PyData.list (List.map PyData.int turn_here)))) (EN.ex (en_ty (j := 0) B rfl g_list (by decide +kernel) call_list_of (rc_lstT (ds := List.map PyData.int turn_here) rdt_dat) (ax_cons (ex_v (i := 0) (j := 0) B rfl rfl rfl) ax_nil))) aq_nil))) (fun v0 v1 v2 os_ hr_ => ?_) (by rintro φs os_ ⟨_, rfl, _, rfl, _, rfl, rfl, rfl⟩; exact ⟨_, _, _, rfl⟩)
  obtain ⟨_, e0, _, e1, _, e2, e8, e9⟩ := hr_
  cases e0; cases e1; cases e2; cases e8; cases e9
  obtain ⟨f3o, h16, hm⟩ := bnd hm
  refine sx_while _ _ (fun (s2 : ((List Int) × Int × (List Int))) (_ : Unit) => [sl (dat (PyData.tuple (List.map PyData.int turn_here))), sl (dat (PyData.int times)), sl (dat (PyData.list (List.map PyData.int s2.1))), sl (dat (PyData.int s2.2.1)), sl (dat (PyData.list (List.map PyData.int s2.2.2))), un]) (fun (s2 : ((List Int) × Int × (List Int))) (_ : Unit) => os) (fun (r : (List Int)) v H => ∃ F, Same F0 F ∧ Ow F (os) H ∧ Cl (dat (PyData.list (List.map PyData.int r))) F v) T 10000 (t1, times, turn_here) () f3o h16 ⟨.inl rfl, .inl rfl, .inl rfl, .inl rfl, .inl rfl, .inl rfl, trivial⟩ rfl (fun s2 _ b hm => by (obtain rfl := som hm; exact (tx_cmp op_gt r2_gt (nomark _) (ex_v (i := 3) (j := 3) B rfl rfl rfl) ex_int))) (fun F5 e4 s2 _ z17 _ hm => ?_) (fun f3 _ ho => ?_) (fun r15 v H ho hr => ?_)
  · clear h16
    obtain ⟨s10, h_s10, hm⟩ := bnd hm
    refine sx_join [sl (dat (PyData.tuple (List.map PyData.int turn_here))), sl (dat (PyData.int times)), sl (dat (PyData.list (List.map PyData.int s10))), sl (dat (PyData.int s2.2.1)), sl (dat (PyData.list (List.map PyData.int s2.2.2))), un] (os) (?_) (fun Q => ?_)
    · clear h_s10
      obtain ⟨t14, h14, hm⟩ := bnd hm
      refine sx_asgN (i := 4) (vi := 4) (n := ol (List.map PyData.int t14)) B T rfl rfl (en_lc (lc_mk1 (j := 5) (vp := fun here11 => (dat (PyData.int here11))) (c := anyOs) (enc := PyData.int) (fun (_ : Unit) (here11 : Int) => ((fun (here11 : Int) => ((idx s2.2.2 here11).bind fun t13 => some t13)) here11).map fun y => (some y, ())) (fun (_ : Unit) (tl1 : Os) => tl1) () (t14) () B rfl rfl (by rw [B.hN, hsc]; decide +kernel) (by rw [hsc]; decide +kernel) (by decide) (lcO_ok h14) (ix_list (enc := PyData.int) (c := anyOs) (ex_v (i := 4) (j := 4) B rfl rfl rfl) (fun _ _ => rdl_dat) trivial) (fun _ _ => trivial) (fun _ _ _ => List.Perm.refl _) (fun _ here11 t tl1 hx hf => by (obtain ⟨y, hy, rfl⟩ := Option.map_eq_some_iff.mp hf; obtain ⟨t13, h13, hy⟩ := bnd hy; obtain rfl := som hy; exact ⟨true, _, fun X1 hX => by (have B1 := Bd.fam (W' := ["_law_row", "_law_here"]) (G' := []) B hX (by (try rw [hsc]); decide +kernel); exact ⟨.nil, fun _ => ⟨_, rfl, (ex_idxL (enc := PyData.int) h13 rdl_dat (ex_v (i := 4) (j := 0) B1 rfl rfl rfl) (ex_v (i := 5) (j := 1) B1 rfl rfl rfl))⟩, fun h => Bool.noConfusion h⟩)⟩)))) (fun q_row14 => ?_) (sw_no (by rw [hsc]; decide +kernel))
      refine sx_asg (i := 3) (vi := 3) (φ := (dat (PyData.int (s2.2.1 / 2)))) B T rfl rfl (ex_fdiv (fdivO_lit (j := 2) (by decide) (by decide +kernel)) (ex_v (i := 3) (j := 3) B rfl rfl rfl) ex_int) ?_
      refine sx_frz (j := 0) (i := 4) rfl rfl ?_
      exact sx_nil fun σ H a => ⟨_, (), (som hm).symm, (a.weak ⟨.inl rfl, .inl rfl, .inl rfl, .inl rfl, .inl rfl, .inl rfl, trivial⟩)⟩
    · have hm := h_s10
      refine sx_if (tx_cmp op_eq r2_eqI (nomark _) (ex_mod (modO_lit (j := 2) (by decide)) (ex_ty (j := 3) B rfl g_int (by decide +kernel) call_int1 rc_intI (ax_cons (ex_v (i := 3) (j := 3) B rfl rfl rfl) ax_nil)) ex_int) ex_int) (fun hk => ?_) (fun hk => ?_)
      · have hm := ifT hm hk
        obtain ⟨t9, h9, hm⟩ := bnd hm
        refine sx_asgLc (i := 2) B T rfl (by rw [hsc]; exact lcl_of (by decide +kernel)) (lc_mk1 (j := 5) (vp := fun here6 => (dat (PyData.int here6))) (c := anyOs) (enc := PyData.int) (fun (_ : Unit) (here6 : Int) => ((fun (here6 : Int) => ((idx s2.2.2 here6).bind fun t8 => some t8)) here6).map fun y => (some y, ())) (fun (_ : Unit) (tl1 : Os) => tl1) () (t9) () B rfl rfl (by rw [B.hN, hsc]; decide +kernel) (by rw [hsc]; decide +kernel) (by decide) (lcO_ok h9) (ix_list (enc := PyData.int) (c := anyOs) (ex_v (i := 2) (j := 2) B rfl rfl rfl) (fun _ _ => rdl_dat) trivial) (fun _ _ => trivial) (fun _ _ _ => List.Perm.refl _) (fun _ here6 t tl1 hx hf => by (obtain ⟨y, hy, rfl⟩ := Option.map_eq_some_iff.mp hf; obtain ⟨t8, h8, hy⟩ := bnd hy; obtain rfl := som hy; exact ⟨true, _, fun X1 hX => by (have B1 := Bd.fam (W' := ["_law_row", "_law_here"]) (G' := []) B hX (by (try rw [hsc]); decide +kernel); exact ⟨.nil, fun _ => ⟨_, rfl, (ex_idxL (enc := PyData.int) h8 rdl_dat (ex_v (i := 4) (j := 0) B1 rfl rfl rfl) (ex_v (i := 5) (j := 1) B1 rfl rfl rfl))⟩, fun h => Bool.noConfusion h⟩)⟩))) (sw_ok (by rw [hsc]; decide +kernel) (by rw [hsc]; exact lcl_of (by decide +kernel)) (by decide) (by decide +kernel)) (fun q_found9 => ?_)
        refine sx_frz (j := 0) (i := 2) rfl rfl ?_
        obtain rfl := som hm
        exact sx_fall Q rfl
      · have hm := ifF hm hk
        obtain rfl := som hm
        exact sx_fall Q rfl
  · cases ho
    have hm := elimR hm
    obtain rfl := som hm
    exact sx_ret (ex_v (i := 2) (j := 2) B rfl rfl rfl) (fun F H v e o c => R.rt F H v e o c)
  · cases ho
    have hm := elimL hm
    cases hm
theorem cal_l_far_goals {P : Program} {w : World} {K : PySem.W.Frag} {mg : Str → Option Value} {base : Heap} {f : Addr} {fd : FuncData} (Fn : Fun K "_law_far_goals" "_law_far_goals" s_l_far_goals f fd) (hmg : mg "_law_far_goals" = some (.ref f)) (hb : Binds K fd ["_law_turn_here", "_law_times"] []) (g_list : mg "list" = none) (g_range : mg "range" = none) (g_len : mg "len" = none) (g_int : mg "int" = none) : Cal P w K mg base 1 "_law_far_goals" s_l_far_goals ["_law_turn_here", "_law_times"] (sp_l_far_goals K) := by
  obtain ⟨sts_, hst_⟩ : ∃ z_, defBody s_l_far_goals = z_ := ⟨_, rfl⟩
  exact cal_ZQ (V := V_l_far_goals) (Gs := G_l_far_goals) (nl := 4) hst_ Fn sc_l_far_goals (by decide +kernel) (by decide +kernel) hmg hb (fun _ => rfl) rfl fun _ _ _ _ _ _ _ a b F0 os D B T hm R => body_l_far_goals rfl hst_ B T g_list g_range g_len g_int a.1 a.2 b F0 os D hm R
abbrev s_l_short_goals : Stmt := top 61
def N_l_short_goals : List Str := ["_law_book_here", "_law_short_here", "_law_found", "_law_walk_here", "_law_times", "_law_turn_here", "_law_here"]
def V_l_short_goals : List Str := ["_law_book_here", "_law_short_here", "_law_found", "_law_walk_here", "_law_times", "_law_turn_here"]
def G_l_short_goals : List Str := ["list", "range", "len", "_law_far_goals", "_law_goals", "_law_back", "abs", "tuple"]
theorem sc_l_short_goals : FnScope N_l_short_goals ["_law_book_here", "_law_short_here"] (defScope s_l_short_goals) := ⟨rfl, rfl, rfl, by decide +kernel, rfl, by decide +kernel, by decide +kernel⟩
abbrev sp_l_short_goals (K : PySem.W.Frag) : Sp := spZ (α := ((Int × (List (List Int))) × (List ((List Int) × Int)))) (β := (List Int)) (fun a => [(dat (PyData.tuple [(PyData.int a.1.1), (PyData.tuple (List.map (eT PyData.int) a.1.2))])), (dat (PyData.tuple (List.map (eP (eT PyData.int) PyData.int) a.2)))]) (fun a => []) (fun a => m_l_short_goals a.1 a.2) (fun a b => (dat (PyData.tuple (List.map PyData.int b)))) (fun a b => [])
set_option maxHeartbeats 4000000 in
theorem body_l_short_goals {X : Cx} (hsc : X.env.scope = defScope s_l_short_goals) {sts_ : List Stmt} (hst_ : defBody s_l_short_goals = sts_) (B : Bd X N_l_short_goals V_l_short_goals G_l_short_goals 2) (T : Bt X V_l_short_goals) (g_list : X.mg "list" = none) (g_range : X.mg "range" = none) (g_len : X.mg "len" = none) (c_l_far_goals : Cal X.prog X.w X.K X.mg X.base 1 "_law_far_goals" s_l_far_goals ["_law_turn_here", "_law_times"] (sp_l_far_goals X.K)) (c_l_goals : Cal X.prog X.w X.K X.mg X.base 2 "_law_goals" s_l_goals ["_law_book_here", "_law_walk_here"] (sp_l_goals X.K)) (c_l_back : Cal X.prog X.w X.K X.mg X.base 1 "_law_back" s_l_back ["_law_walk_here"] (sp_l_back X.K)) (g_abs : X.mg "abs" = none) (g_tuple : X.mg "tuple" = none) (book_here : (Int × (List (List Int)))) (short_here : (List ((List Int) × Int))) (b : (List Int)) (F0 : Hp) (os : Os) (D : Ends) (hm : m_l_short_goals book_here short_here = some b) (R : RetZ F0 (os) (dat (PyData.tuple (List.map PyData.int b))) D) :
    SX X [sl (dat (PyData.tuple [(PyData.int book_here.1), (PyData.tuple (List.map (eT PyData.int) book_here.2))])), sl (dat (PyData.tuple (List.map (eP (eT PyData.int) PyData.int) short_here))), un, un, un, un, un] (os) F0 sts_ D := by
  subst hst_
  unfold m_l_short_goals at hm
  obtain ⟨t1, h1, hm⟩ := bnd hm
  obtain ⟨t2, h2, hm⟩ := bnd hm
  refine sx_asg (i := 2) (vi := 2) (φ := (dat (PyData.list (List.map PyData.int t2)))) B T rfl rfl (EN.ex (en_rgL1 (gi := 0) (gj := 1) B rfl rfl g_list g_range h2 (EX.to (ex_fn (j := 2) B rfl g_len (by decide +kernel) call_len_seq (rc_lenT (ds := List.map PyData.int t1) rdt_dat) (ax_cons (ex_idxT (enc := (eT PyData.int)) h1 rdt_dat (ex_ixT rdt_dat (by rfl) (ex_v (i := 0) (j := 0) B rfl rfl rfl) ex_int) ex_int) ax_nil)) (by rw [List.length_map])))) ?_
  obtain ⟨f5, h16, hm⟩ := bnd hm
  refine sx_for (c := anyOs) _ (fun (s3 : (List Int)) (_ : Unit) => [sl (dat (PyData.tuple [(PyData.int book_here.1), (PyData.tuple (List.map (eT PyData.int) book_here.2))])), sl (dat (PyData.tuple (List.map (eP (eT PyData.int) PyData.int) short_here))), sl (dat (PyData.list (List.map PyData.int s3))), un, un, un, un]) (fun (s3 : (List Int)) (_ : Unit) => os) B T (fun x4 => gx_pair B (gx_name (i := 3) (vi := 3) (φ := (dat (PyData.tuple (List.map PyData.int x4.1)))) B T rfl rfl) (gx_name (i := 4) (vi := 4) (φ := (dat (PyData.int x4.2))) B T rfl rfl)) t2 () f5 h16 (ix_tup (enc := (eP (eT PyData.int) PyData.int)) (ex_v (i := 1) (j := 1) B rfl rfl rfl) rdt_dat) ⟨.inl rfl, .inl rfl, .inl rfl, .inl rfl, .inl rfl, .inl rfl, .inl rfl, trivial⟩ (fun _ _ => trivial) (fun F7 e6 s3 _ x4 z17 hx hm => ?_) (fun _ => ?_)
  · clear h16
    obtain ⟨t9, h9, hm⟩ := bnd hm
    obtain ⟨t10, h10, hm⟩ := bnd hm
    obtain ⟨t11, h11, hm⟩ := bnd hm
    refine sx_asg (i := 5) (vi := 5) (φ := (dat (PyData.list (List.map PyData.int t11)))) B T rfl rfl (ex_call (a := (t10, (absI x4.2))) (b := t11) (gi := 3) (rest := os) B rfl c_l_far_goals (by decide) h11 (ax_cons (ex_call (a := (book_here, t9)) (b := t10) (gi := 4) (rest := os) B rfl c_l_goals (by decide) h10 (ax_cons (ex_v (i := 0) (j := 0) B rfl rfl rfl) (ax_cons (ex_if (tx_cmp op_gt r2_gt (nomark _) (ex_v (i := 4) (j := 4) B rfl rfl rfl) ex_int) (fun hk => by (have hm := ifT h9 hk; obtain rfl := som hm; exact (EX.to (ex_v (i := 3) (j := 3) B rfl rfl rfl) (by rfl)))) (fun hk => by (have hm := ifF h9 hk; obtain ⟨t8, h8, hm⟩ := bnd hm; obtain rfl := som hm; exact (EX.to (ex_call (a := x4.1) (b := t8) (gi := 5) (rest := os) B rfl c_l_back (by decide) h8 (ax_cons (ex_v (i := 3) (j := 3) B rfl rfl rfl) ax_nil)) (by rfl))))) ax_nil))) (ax_cons (ex_fn (j := 6) B rfl g_abs (by decide +kernel) call_abs rc_abs (ax_cons (ex_v (i := 4) (j := 4) B rfl rfl rfl) ax_nil)) ax_nil))) ?_
    obtain ⟨t15, h15, hm⟩ := bnd hm
    refine sx_asgLc (i := 2) B T rfl (by rw [hsc]; exact lcl_of (by decide +kernel)) (lc_mk1 (j := 6) (vp := fun here12 => (dat (PyData.int here12))) (c := anyOs) (enc := PyData.int) (fun (_ : Unit) (here12 : Int) => ((fun (here12 : Int) => ((idx t11 here12).bind fun t14 => some t14)) here12).map fun y => (some y, ())) (fun (_ : Unit) (tl1 : Os) => tl1) () (t15) () B rfl rfl (by rw [B.hN, hsc]; decide +kernel) (by rw [hsc]; decide +kernel) (by decide) (lcO_ok h15) (ix_list (enc := PyData.int) (c := anyOs) (ex_v (i := 2) (j := 2) B rfl rfl rfl) (fun _ _ => rdl_dat) trivial) (fun _ _ => trivial) (fun _ _ _ => List.Perm.refl _) (fun _ here12 t tl1 hx hf => by (obtain ⟨y, hy, rfl⟩ := Option.map_eq_some_iff.mp hf; obtain ⟨t14, h14, hy⟩ := bnd hy; obtain rfl := som hy; exact ⟨true, _, fun X1 hX => by (have B1 := Bd.fam (W' := ["_law_turn_here", "_law_here"]) (G' := []) B hX (by (try rw [hsc]); decide +kernel); exact ⟨.nil, fun _ => ⟨_, rfl, (ex_idxL (enc := PyData.int) h14 rdl_dat (ex_v (i := 5) (j := 0) B1 rfl rfl rfl) (ex_v (i := 6) (j := 1) B1 rfl rfl rfl))⟩, fun h => Bool.noConfusion h⟩)⟩))) (sw_ok (by rw [hsc]; decide +kernel) (by rw [hsc]; exact lcl_of (by decide +kernel)) (by decide) (by decide +kernel)) (fun q_found15 => ?_)
    refine sx_frz (j := 0) (i := 2) rfl rfl ?_
    obtain rfl := som hm
    exact sx_nil fun σ H a => ⟨(), (a.weak ⟨.inl rfl, .inl rfl, .inl rfl, .inr rfl, .inr rfl, .inr rfl, .inl rfl, trivial⟩)⟩
  · skip
    obtain rfl := som hm
    exact sx_ret (ex_ty (j := 7) B rfl g_tuple (by decide +kernel) call_tuple_of (rc_tupL (ds := List.map PyData.int f5) rdl_dat) (ax_cons (ex_v (i := 2) (j := 2) B rfl rfl rfl) ax_nil)) (fun F H v e o c => R.rt F H v e o c)
theorem cal_l_short_goals {P : Program} {w : World} {K : PySem.W.Frag} {mg : Str → Option Value} {base : Heap} {f : Addr} {fd : FuncData} (Fn : Fun K "_law_short_goals" "_law_short_goals" s_l_short_goals f fd) (hmg : mg "_law_short_goals" = some (.ref f)) (hb : Binds K fd ["_law_book_here", "_law_short_here"] []) (g_list : mg "list" = none) (g_range : mg "range" = none) (g_len : mg "len" = none) (c_l_far_goals : Cal P w K mg base 1 "_law_far_goals" s_l_far_goals ["_law_turn_here", "_law_times"] (sp_l_far_goals K)) (c_l_goals : Cal P w K mg base 2 "_law_goals" s_l_goals ["_law_book_here", "_law_walk_here"] (sp_l_goals K)) (c_l_back : Cal P w K mg base 1 "_law_back" s_l_back ["_law_walk_here"] (sp_l_back K)) (g_abs : mg "abs" = none) (g_tuple : mg "tuple" = none) : Cal P w K mg base 3 "_law_short_goals" s_l_short_goals ["_law_book_here", "_law_short_here"] (sp_l_short_goals K) := by
  obtain ⟨sts_, hst_⟩ : ∃ z_, defBody s_l_short_goals = z_ := ⟨_, rfl⟩
  exact cal_ZQ (V := V_l_short_goals) (Gs := G_l_short_goals) (nl := 5) hst_ Fn sc_l_short_goals (by decide +kernel) (by decide +kernel) hmg hb (fun _ => rfl) rfl fun _ _ _ _ _ _ _ a b F0 os D B T hm R => body_l_short_goals rfl hst_ B T g_list g_range g_len c_l_far_goals c_l_goals c_l_back g_abs g_tuple a.1 a.2 b F0 os D hm R
abbrev s_l_circles : Stmt := top 57
def N_l_circles : List Str := ["_law_turn_here", "_law_found", "_law_place", "_law_circle", "_law_here"]
def V_l_circles : List Str := ["_law_turn_here", "_law_found", "_law_place", "_law_circle", "_law_here"]
def G_l_circles : List Str := ["range", "len", "min", "sorted"]
theorem sc_l_circles : FnScope N_l_circles ["_law_turn_here"] (defScope s_l_circles) := ⟨rfl, rfl, rfl, by decide +kernel, rfl, by decide +kernel, by decide +kernel⟩
abbrev sp_l_circles (K : PySem.W.Frag) : Sp := spZ (α := (List Int)) (β := (List (List Int))) (fun a => [(dat (PyData.tuple (List.map PyData.int a)))]) (fun a => []) (fun a => m_l_circles a) (fun a b => (dat (PyData.list (List.map (eL PyData.int) b)))) (fun a b => [])
set_option maxHeartbeats 4000000 in
theorem body_l_circles {X : Cx} (hsc : X.env.scope = defScope s_l_circles) {sts_ : List Stmt} (hst_ : defBody s_l_circles = sts_) (B : Bd X N_l_circles V_l_circles G_l_circles 0) (T : Bt X V_l_circles) (g_range : X.mg "range" = none) (g_len : X.mg "len" = none) (g_min : X.mg "min" = none) (g_sorted : X.mg "sorted" = none) (turn_here : (List Int)) (b : (List (List Int))) (F0 : Hp) (os : Os) (D : Ends) (hm : m_l_circles turn_here = some b) (R : RetZ F0 (os) (dat (PyData.list (List.map (eL PyData.int) b))) D) :
    SX X [sl (dat (PyData.tuple (List.map PyData.int turn_here))), un, un, un, un] (os) F0 sts_ D := by
  subst hst_
  unfold m_l_circles at hm
  refine sx_asgN (i := 1) (vi := 1) (n := ol (List.map (eL PyData.int) ([] : (List (List Int))))) B T rfl rfl (en_lst (ds := []) ax_nil) (fun q_found0 => ?_)
  obtain ⟨t1, h1, hm⟩ := bnd hm
  obtain ⟨f4, h21, hm⟩ := bnd hm
  refine sx_for (c := anyOs) _ (fun (s2 : (List (List Int))) (_ : Unit) => [sl (dat (PyData.tuple (List.map PyData.int turn_here))), sl (own q_found0), un, un, un]) (fun (s2 : (List (List Int))) (_ : Unit) => (q_found0, ol (List.map (eL PyData.int) s2)) :: os) B T (fun place3 => gx_name (i := 2) (vi := 2) (φ := (dat (PyData.int place3))) B T rfl rfl) ([] : (List (List Int))) () f4 h21 (ix_rng1 (gi := 0) B rfl g_range h1 (EX.to (ex_fn (j := 1) B rfl g_len (by decide +kernel) call_len_seq (rc_lenT (ds := List.map PyData.int turn_here) rdt_dat) (ax_cons (ex_v (i := 0) (j := 0) B rfl rfl rfl) ax_nil)) (by rw [List.length_map]))) ⟨.inl rfl, .inl rfl, .inl rfl, .inl rfl, .inl rfl, trivial⟩ (fun _ _ => trivial) (fun F6 e5 s2 _ place3 z22 hx hm => ?_) (fun _ => ?_)
  · clear h21
    obtain ⟨t8, h8, hm⟩ := bnd hm
    refine sx_par2 (i := 3) (j := 4) _ hsc B rfl rfl (by decide) (by decide +kernel) (by decide +kernel) (by intro env he; cases env; cases he; first | rfl | kernel_rfl) (aq_n (n := ol (List.map PyData.int ([place3]))) (en_lst (ds := [(PyData.int place3)]) (hl := len_ok (n := 1) rfl) (ax_cons (ex_v (i := 2) (j := 2) B rfl rfl rfl) ax_nil)) (fun q_circle7 => (aq_x (φ := (dat (PyData.int t8))) (ex_idxT (enc := PyData.int) h8 rdt_dat (ex_v (i := 0) (j := 0) B rfl rfl rfl) (ex_v (i := 2) (j := 2) B rfl rfl rfl)) aq_nil))) (fun v0 v1 os_ hr_ => ?_) (by rintro φs os_ ⟨q_circle7, _, rfl, _, rfl, rfl, rfl⟩; exact ⟨_, _, rfl⟩)
    obtain ⟨q_circle7, _, e0, _, e1, e8, e9⟩ := hr_
    cases e0; cases e1; cases e8; cases e9
    obtain ⟨f10o, h19, hm⟩ := bnd hm
    refine sx_while _ _ (fun (s9 : (Int × (List Int))) (_ : Unit) => [sl (dat (PyData.tuple (List.map PyData.int turn_here))), sl (own q_found0), sl (dat (PyData.int place3)), sl (own q_circle7), sl (dat (PyData.int s9.1))]) (fun (s9 : (Int × (List Int))) (_ : Unit) => (q_circle7, ol (List.map PyData.int s9.2)) :: (q_found0, ol (List.map (eL PyData.int) s2)) :: os) (fun (r : (List (List Int))) v H => ∃ F, Same F0 F ∧ Ow F (os) H ∧ Cl (dat (PyData.list (List.map (eL PyData.int) r))) F v) T 10000 (t8, [place3]) () f10o h19 ⟨.inl rfl, .inl rfl, .inl rfl, .inl rfl, .inl rfl, trivial⟩ rfl (fun s9 _ b hm => by (obtain rfl := som hm; exact (tx_cmp op_ne r2_neI (nomark _) (ex_v (i := 4) (j := 4) B rfl rfl rfl) (ex_v (i := 2) (j := 2) B rfl rfl rfl)))) (fun F12 e11 s9 _ z20 _ hm => ?_) (fun f10 _ ho => ?_) (fun r18 v H ho hr => ?_)
    · clear h19
      obtain ⟨t13, h13, hm⟩ := bnd hm
      refine sx_expr (ex_app (enc := PyData.int) (j := 0) (xs0 := s9.2) (xs := s9.2) (y := s9.1) h13 (ex_v (i := 3) (j := 3) B rfl rfl rfl) rfl (ex_v (i := 4) (j := 4) B rfl rfl rfl) rfl) ?_
      obtain ⟨t14, h14, hm⟩ := bnd hm
      refine sx_asg (i := 4) (vi := 4) (φ := (dat (PyData.int t14))) B T rfl rfl (ex_idxT (enc := PyData.int) h14 rdt_dat (ex_v (i := 0) (j := 0) B rfl rfl rfl) (ex_v (i := 4) (j := 4) B rfl rfl rfl)) ?_
      exact sx_nil fun σ H a => ⟨_, (), (som hm).symm, (a.weak ⟨.inl rfl, .inl rfl, .inl rfl, .inl rfl, .inl rfl, trivial⟩)⟩
    · cases ho
      have hm := elimR hm
      refine sx_frz (j := 0) (i := 3) rfl rfl ?_
      obtain ⟨t15, h15, hm⟩ := bnd hm
      obtain ⟨s17, h_s17, hm⟩ := bnd hm
      refine sx_join [sl (dat (PyData.tuple (List.map PyData.int turn_here))), sl (own q_found0), sl (dat (PyData.int place3)), sl (dat (PyData.list (List.map PyData.int f10.2))), sl (dat (PyData.int f10.1))] ((q_found0, ol (List.map (eL PyData.int) s17)) :: os) (?_) (fun Q => ?_)
      · clear h_s17
        obtain rfl := som hm
        exact sx_nil fun σ H a => ⟨(), (a.weak ⟨.inl rfl, .inl rfl, .inr rfl, .inr rfl, .inr rfl, trivial⟩)⟩
      · have hm := h_s17
        refine sx_if (tx_cmp op_eq r2_eqI (nomark _) (ex_fn (j := 2) B rfl g_min (by decide +kernel) (cr_min B.calm) (rc_minL h15 rdl_dat) (ax_cons (ex_v (i := 3) (j := 3) B rfl rfl rfl) ax_nil)) (ex_v (i := 2) (j := 2) B rfl rfl rfl)) (fun hk => ?_) (fun hk => ?_)
        · have hm := ifT hm hk
          obtain ⟨t16, h16, hm⟩ := bnd hm
          refine sx_expr (ex_app (enc := (eL PyData.int)) (j := 0) (xs0 := s2) (xs := s2) (y := (srtI f10.2)) h16 (ex_v (i := 1) (j := 1) B rfl rfl rfl) rfl (EN.ex (en_fn (j := 3) B rfl g_sorted (by decide +kernel) cr_sortedI (rc_sortedI (ns := f10.2) rdl_dat) (ax_cons (ex_v (i := 3) (j := 3) B rfl rfl rfl) ax_nil))) rfl) ?_
          obtain rfl := som hm
          exact sx_fall Q rfl
        · have hm := ifF hm hk
          obtain rfl := som hm
          exact sx_fall Q rfl
    · cases ho
      have hm := elimL hm
      cases hm
  · skip
    refine sx_frz (j := 0) (i := 1) rfl rfl ?_
    obtain rfl := som hm
    exact sx_ret (ex_v (i := 1) (j := 1) B rfl rfl rfl) (fun F H v e o c => R.rt F H v e o c)
theorem cal_l_circles {P : Program} {w : World} {K : PySem.W.Frag} {mg : Str → Option Value} {base : Heap} {f : Addr} {fd : FuncData} (Fn : Fun K "_law_circles" "_law_circles" s_l_circles f fd) (hmg : mg "_law_circles" = some (.ref f)) (hb : Binds K fd ["_law_turn_here"] []) (g_range : mg "range" = none) (g_len : mg "len" = none) (g_min : mg "min" = none) (g_sorted : mg "sorted" = none) : Cal P w K mg base 1 "_law_circles" s_l_circles ["_law_turn_here"] (sp_l_circles K) := by
  obtain ⟨sts_, hst_⟩ : ∃ z_, defBody s_l_circles = z_ := ⟨_, rfl⟩
  exact cal_ZQ (V := V_l_circles) (Gs := G_l_circles) (nl := 4) hst_ Fn sc_l_circles (by decide +kernel) (by decide +kernel) hmg hb (fun _ => rfl) rfl fun _ _ _ _ _ _ _ a b F0 os D B T hm R => body_l_circles rfl hst_ B T g_range g_len g_min g_sorted a b F0 os D hm R
abbrev s_l_common_round : Stmt := top 59
def N_l_common_round : List Str := ["_law_circles_told", "_law_found", "_law_circle", "_law_one", "_law_other"]
def V_l_common_round : List Str := ["_law_circles_told", "_law_found", "_law_circle", "_law_one", "_law_other"]
def G_l_common_round : List Str := ["len", "int"]
theorem sc_l_common_round : FnScope N_l_common_round ["_law_circles_told"] (defScope s_l_common_round) := ⟨rfl, rfl, rfl, by decide +kernel, rfl, by decide +kernel, by decide +kernel⟩
abbrev sp_l_common_round (K : PySem.W.Frag) : Sp := spZ (α := (List (List Int))) (β := Int) (fun a => [(dat (PyData.list (List.map (eL PyData.int) a)))]) (fun a => []) (fun a => m_l_common_round a) (fun a b => (dat (PyData.int b))) (fun a b => [])
set_option maxHeartbeats 4000000 in
theorem body_l_common_round {X : Cx} (hsc : X.env.scope = defScope s_l_common_round) {sts_ : List Stmt} (hst_ : defBody s_l_common_round = sts_) (B : Bd X N_l_common_round V_l_common_round G_l_common_round 0) (T : Bt X V_l_common_round) (g_len : X.mg "len" = none) (g_int : X.mg "int" = none) (circles_told : (List (List Int))) (b : Int) (F0 : Hp) (os : Os) (D : Ends) (hm : m_l_common_round circles_told = some b) (R : RetZ F0 (os) (dat (PyData.int b)) D) :
    SX X [sl (dat (PyData.list (List.map (eL PyData.int) circles_told))), un, un, un, un] (os) F0 sts_ D := by
  subst hst_
  unfold m_l_common_round at hm
  refine sx_asg (i := 1) (vi := 1) (φ := (dat (PyData.int 1))) B T rfl rfl ex_int ?_
  obtain ⟨f3, h16, hm⟩ := bnd hm
  refine sx_for (c := anyOs) _ (fun (s1 : Int) (_ : Unit) => [sl (dat (PyData.list (List.map (eL PyData.int) circles_told))), sl (dat (PyData.int s1)), un, un, un]) (fun (s1 : Int) (_ : Unit) => os) B T (fun circle2 => gx_name (i := 2) (vi := 2) (φ := (dat (PyData.list (List.map PyData.int circle2)))) B T rfl rfl) 1 () f3 h16 (ix_list (enc := (eL PyData.int)) (c := anyOs) (ex_v (i := 0) (j := 0) B rfl rfl rfl) (fun _ _ => rdl_dat) trivial) ⟨.inl rfl, .inl rfl, .inl rfl, .inl rfl, .inl rfl, trivial⟩ (fun _ _ => trivial) (fun F5 e4 s1 _ circle2 z17 hx hm => ?_) (fun _ => ?_)
  · clear h16
    refine sx_par2 (i := 3) (j := 4) _ hsc B rfl rfl (by decide) (by decide +kernel) (by decide +kernel) (by intro env he; cases env; cases he; first | rfl | kernel_rfl) (aq_x (φ := (dat (PyData.int s1))) (ex_v (i := 1) (j := 1) B rfl rfl rfl) (aq_x (φ := (dat (PyData.int (circle2.length : Int)))) (EX.to (ex_fn (j := 0) B rfl g_len (by decide +kernel) call_len_seq (rc_lenL (ds := List.map PyData.int circle2) rdl_dat) (ax_cons (ex_v (i := 2) (j := 2) B rfl rfl rfl) ax_nil)) (by rw [List.length_map])) aq_nil)) (fun v0 v1 os_ hr_ => ?_) (by rintro φs os_ ⟨_, rfl, _, rfl, rfl, rfl⟩; exact ⟨_, _, rfl⟩)
    obtain ⟨_, e0, _, e1, e8, e9⟩ := hr_
    cases e0; cases e1; cases e8; cases e9
    obtain ⟨f7o, h14, hm⟩ := bnd hm
    refine sx_while _ _ (fun (s6 : (Int × Int)) (_ : Unit) => [sl (dat (PyData.list (List.map (eL PyData.int) circles_told))), sl (dat (PyData.int s1)), sl (dat (PyData.list (List.map PyData.int circle2))), sl (dat (PyData.int s6.1)), sl (dat (PyData.int s6.2))]) (fun (s6 : (Int × Int)) (_ : Unit) => os) (fun (r : Int) v H => ∃ F, Same F0 F ∧ Ow F (os) H ∧ Cl (dat (PyData.int r)) F v) T 10000 (s1, (circle2.length : Int)) () f7o h14 ⟨.inl rfl, .inl rfl, .inl rfl, .inl rfl, .inl rfl, trivial⟩ rfl (fun s6 _ b hm => by (obtain rfl := som hm; exact (tx_cmp op_gt r2_gt (nomark _) (ex_v (i := 4) (j := 4) B rfl rfl rfl) ex_int))) (fun F9 e8 s6 _ z15 _ hm => ?_) (fun f7 _ ho => ?_) (fun r13 v H ho hr => ?_)
    · clear h14
      obtain ⟨t10, h10, hm⟩ := bnd hm
      refine sx_par2 (i := 3) (j := 4) _ hsc B rfl rfl (by decide) (by decide +kernel) (by decide +kernel) (by intro env he; cases env; cases he; first | rfl | kernel_rfl) (aq_x (φ := (dat (PyData.int s6.2))) (ex_v (i := 4) (j := 4) B rfl rfl rfl) (aq_x (φ := (dat (PyData.int t10))) (ex_mod h10 (ex_ty (j := 1) B rfl g_int (by decide +kernel) call_int1 rc_intI (ax_cons (ex_v (i := 3) (j := 3) B rfl rfl rfl) ax_nil)) (ex_v (i := 4) (j := 4) B rfl rfl rfl)) aq_nil)) (fun v0 v1 os_ hr_ => ?_) (by rintro φs os_ ⟨_, rfl, _, rfl, rfl, rfl⟩; exact ⟨_, _, rfl⟩)
      obtain ⟨_, e0, _, e1, e8, e9⟩ := hr_
      cases e0; cases e1; cases e8; cases e9
      exact sx_nil fun σ H a => ⟨_, (), (som hm).symm, (a.weak ⟨.inl rfl, .inl rfl, .inl rfl, .inl rfl, .inl rfl, trivial⟩)⟩
    · cases ho
      have hm := elimR hm
      obtain ⟨t11, h11, hm⟩ := bnd hm
      obtain ⟨t12, h12, hm⟩ := bnd hm
      refine sx_asg (i := 1) (vi := 1) (φ := (dat (PyData.int t12))) B T rfl rfl (ex_fdiv h12 (ex_mul h11 (ex_v (i := 1) (j := 1) B rfl rfl rfl) (EX.to (ex_fn (j := 0) B rfl g_len (by decide +kernel) call_len_seq (rc_lenL (ds := List.map PyData.int circle2) rdl_dat) (ax_cons (ex_v (i := 2) (j := 2) B rfl rfl rfl) ax_nil)) (by rw [List.length_map]))) (ex_v (i := 3) (j := 3) B rfl rfl rfl)) ?_
      obtain rfl := som hm
      exact sx_nil fun σ H a => ⟨(), (a.weak ⟨.inl rfl, .inl rfl, .inr rfl, .inr rfl, .inr rfl, trivial⟩)⟩
    · cases ho
      have hm := elimL hm
      cases hm
  · skip
    obtain rfl := som hm
    exact sx_ret (ex_v (i := 1) (j := 1) B rfl rfl rfl) (fun F H v e o c => R.rt F H v e o c)
theorem cal_l_common_round {P : Program} {w : World} {K : PySem.W.Frag} {mg : Str → Option Value} {base : Heap} {f : Addr} {fd : FuncData} (Fn : Fun K "_law_common_round" "_law_common_round" s_l_common_round f fd) (hmg : mg "_law_common_round" = some (.ref f)) (hb : Binds K fd ["_law_circles_told"] []) (g_len : mg "len" = none) (g_int : mg "int" = none) : Cal P w K mg base 1 "_law_common_round" s_l_common_round ["_law_circles_told"] (sp_l_common_round K) := by
  obtain ⟨sts_, hst_⟩ : ∃ z_, defBody s_l_common_round = z_ := ⟨_, rfl⟩
  exact cal_ZQ (V := V_l_common_round) (Gs := G_l_common_round) (nl := 4) hst_ Fn sc_l_common_round (by decide +kernel) (by decide +kernel) hmg hb (fun _ => rfl) rfl fun _ _ _ _ _ _ _ a b F0 os D B T hm R => body_l_common_round rfl hst_ B T g_len g_int a b F0 os D hm R
abbrev s_l_parts : Stmt := top 58
def N_l_parts : List Str := ["_law_book_here", "_law_marks", "_law_turn_here", "_law_place", "_law_goal", "_law_one", "_law_other", "_law_mark", "_law_own"]
def V_l_parts : List Str := ["_law_book_here", "_law_marks", "_law_turn_here", "_law_place", "_law_goal", "_law_one", "_law_other"]
def G_l_parts : List Str := ["list", "range", "len", "enumerate", "sorted", "set"]
theorem sc_l_parts : FnScope N_l_parts ["_law_book_here"] (defScope s_l_parts) := ⟨rfl, rfl, rfl, by decide +kernel, rfl, by decide +kernel, by decide +kernel⟩
abbrev sp_l_parts (K : PySem.W.Frag) : Sp := spZ (α := (Int × (List (List Int)))) (β := (List (List Int))) (fun a => [(dat (PyData.tuple [(PyData.int a.1), (PyData.tuple (List.map (eT PyData.int) a.2))]))]) (fun a => []) (fun a => m_l_parts a) (fun a b => (dat (PyData.list (List.map (eL PyData.int) b)))) (fun a b => [])
set_option maxHeartbeats 4000000 in
theorem body_l_parts {X : Cx} (hsc : X.env.scope = defScope s_l_parts) {sts_ : List Stmt} (hst_ : defBody s_l_parts = sts_) (B : Bd X N_l_parts V_l_parts G_l_parts 0) (T : Bt X V_l_parts) (g_list : X.mg "list" = none) (g_range : X.mg "range" = none) (g_len : X.mg "len" = none) (g_enumerate : X.mg "enumerate" = none) (g_min : X.mg "min" = none) (g_sorted : X.mg "sorted" = none) (g_set : X.mg "set" = none) (book_here : (Int × (List (List Int)))) (b : (List (List Int))) (F0 : Hp) (os : Os) (D : Ends) (hm : m_l_parts book_here = some b) (R : RetZ F0 (os) (dat (PyData.list (List.map (eL PyData.int) b))) D) :
    SX X [sl (dat (PyData.tuple [(PyData.int book_here.1), (PyData.tuple (List.map (eT PyData.int) book_here.2))])), un, un, un, un, un, un, un, un] (os) F0 sts_ D := by
  subst hst_
  unfold m_l_parts at hm
  obtain ⟨t1, h1, hm⟩ := bnd hm
  obtain ⟨t2, h2, hm⟩ := bnd hm
  refine sx_asg (i := 1) (vi := 1) (φ := (dat (PyData.list (List.map PyData.int t2)))) B T rfl rfl (EN.ex (en_rgL1 (gi := 0) (gj := 1) B rfl rfl g_list g_range h2 (EX.to (ex_fn (j := 2) B rfl g_len (by decide +kernel) call_len_seq (rc_lenT (ds := List.map PyData.int t1) rdt_dat) (ax_cons (ex_idxT (enc := (eT PyData.int)) h1 rdt_dat (ex_ixT rdt_dat (by rfl) (ex_v (i := 0) (j := 0) B rfl rfl rfl) ex_int) ex_int) ax_nil)) (by rw [List.length_map])))) ?_
  obtain ⟨f5, h20, hm⟩ := bnd hm
  refine sx_for (c := anyOs) _ (fun (s3 : (List Int)) (_ : Unit) => [sl (dat (PyData.tuple [(PyData.int book_here.1), (PyData.tuple (List.map (eT PyData.int) book_here.2))])), sl (dat (PyData.list (List.map PyData.int s3))), un, un, un, un, un, un, un]) (fun (s3 : (List Int)) (_ : Unit) => os) B T (fun turn_here4 => gx_name (i := 2) (vi := 2) (φ := (dat (PyData.tuple (List.map PyData.int turn_here4)))) B T rfl rfl) t2 () f5 h20 (ix_tup (enc := (eT PyData.int)) (ex_ixT rdt_dat (by rfl) (ex_v (i := 0) (j := 0) B rfl rfl rfl) ex_int) rdt_dat) ⟨.inl rfl, .inl rfl, .inl rfl, .inl rfl, .inl rfl, .inl rfl, .inl rfl, .inl rfl, .inl rfl, trivial⟩ (fun _ _ => trivial) (fun F7 e6 s3 _ turn_here4 z28 hx hm => ?_) (fun _ => ?_)
  · clear h20
    obtain ⟨f10, h18, hm⟩ := bnd hm
    refine sx_for (c := anyOs) _ (fun (s8 : (List Int)) (_ : Unit) => [sl (dat (PyData.tuple [(PyData.int book_here.1), (PyData.tuple (List.map (eT PyData.int) book_here.2))])), sl (dat (PyData.list (List.map PyData.int s8))), sl (dat (PyData.tuple (List.map PyData.int turn_here4))), un, un, un, un, un, un]) (fun (s8 : (List Int)) (_ : Unit) => os) B T (fun x9 => gx_pair B (gx_name (i := 3) (vi := 3) (φ := (dat (PyData.int x9.1))) B T rfl rfl) (gx_name (i := 4) (vi := 4) (φ := (dat (PyData.int x9.2))) B T rfl rfl)) s3 () f10 h18 (ix_enumT (enc := PyData.int) (gi := 3) B rfl g_enumerate (ex_v (i := 2) (j := 2) B rfl rfl rfl) rdt_dat) ⟨.inl rfl, .inl rfl, .inl rfl, .inl rfl, .inl rfl, .inl rfl, .inl rfl, .inl rfl, .inl rfl, trivial⟩ (fun _ _ => trivial) (fun F12 e11 s8 _ x9 z19 hx hm => ?_) (fun _ => ?_)
    · clear h18
      obtain ⟨t13, h13, hm⟩ := bnd hm
      obtain ⟨t14, h14, hm⟩ := bnd hm
      refine sx_mk2 (i := 5) (j := 6) (vi := 5) (gi := 6) _ hsc B T rfl rfl rfl rfl (by intro env he; cases env; cases he; first | rfl | kernel_rfl) (aq_x (φ := (dat (PyData.int t13))) (ex_idxL (enc := PyData.int) h13 rdl_dat (ex_v (i := 1) (j := 1) B rfl rfl rfl) (ex_v (i := 3) (j := 3) B rfl rfl rfl)) (aq_x (φ := (dat (PyData.int t14))) (ex_idxL (enc := PyData.int) h14 rdl_dat (ex_v (i := 1) (j := 1) B rfl rfl rfl) (ex_v (i := 4) (j := 4) B rfl rfl rfl)) aq_nil)) (fun v0 v1 os_ hr_ => ?_) (by rintro φs os_ ⟨_, rfl, _, rfl, rfl, rfl⟩; exact ⟨_, _, rfl⟩)
      obtain ⟨_, e0, _, e1, e8, e9⟩ := hr_
      cases e0; cases e1; cases e8; cases e9
      obtain ⟨t17, h17, hm⟩ := bnd hm
      refine sx_asgN (i := 1) (vi := 1) (n := ol (List.map PyData.int t17)) B T rfl rfl (en_lc (lc_mk1 (j := 7) (vp := fun mark15 => (dat (PyData.int mark15))) (c := anyOs) (enc := PyData.int) (fun (_ : Unit) (mark15 : Int) => some (some (if (([t13, t14]).contains mark15) = true then (minI t13 t14) else mark15), ())) (fun (_ : Unit) (tl1 : Os) => tl1) () (t17) () B rfl rfl (by rw [B.hN, hsc]; decide +kernel) (by rw [hsc]; decide +kernel) (by decide) (lcT_ok h17) (ix_list (enc := PyData.int) (c := anyOs) (ex_v (i := 1) (j := 1) B rfl rfl rfl) (fun _ _ => rdl_dat) trivial) (fun _ _ => trivial) (fun _ _ _ => List.Perm.refl _) (fun _ mark15 t tl1 hx hf => by (obtain rfl := som hf; exact ⟨true, _, fun X1 hX => by (have B1 := Bd.fam (W' := ["_law_one", "_law_other", "_law_mark"]) (G' := ["min"]) B hX (by (try rw [hsc]); decide +kernel); have g_min' := fam_mg hX g_min; exact ⟨.nil, fun _ => ⟨_, rfl, (ex_if (tx_cmp op_in_seq (r2_inT (xs := [t13, t14]) rdt_dat) (by rfl) (ex_v (i := 7) (j := 2) B1 rfl rfl rfl) (ex_tup (ds := [(PyData.int t13), (PyData.int t14)]) (hl := len_ok (n := 2) rfl) (ax_cons (ex_v (i := 5) (j := 0) B1 rfl rfl rfl) (ax_cons (ex_v (i := 6) (j := 1) B1 rfl rfl rfl) ax_nil)))) (fun hk => EX.to (ex_fn (j := 0) B1 rfl g_min' (by decide +kernel) (call_min2 B1.calm) rc_min (ax_cons (ex_v (i := 5) (j := 0) B1 rfl rfl rfl) (ax_cons (ex_v (i := 6) (j := 1) B1 rfl rfl rfl) ax_nil))) (by rw [if_pos hk] <;> rfl)) (fun hk => EX.to (ex_v (i := 7) (j := 2) B1 rfl rfl rfl) (by first | (rw [if_neg (by rw [hk]; exact Bool.false_ne_true)] <;> rfl) | (rw [if_neg (ne_true_of_eq_false hk)] <;> rfl))))⟩, fun h => Bool.noConfusion h⟩)⟩)))) (fun q_marks17 => ?_) (sw_no (by rw [hsc]; decide +kernel))
      refine sx_frz (j := 0) (i := 1) rfl rfl ?_
      obtain rfl := som hm
      exact sx_nil fun σ H a => ⟨(), (a.weak ⟨.inl rfl, .inl rfl, .inl rfl, .inr rfl, .inr rfl, .inr rfl, .inr rfl, .inl rfl, .inl rfl, trivial⟩)⟩
    · skip
      obtain rfl := som hm
      exact sx_nil fun σ H a => ⟨(), (a.weak ⟨.inl rfl, .inl rfl, .inr rfl, .inl rfl, .inl rfl, .inl rfl, .inl rfl, .inl rfl, .inl rfl, trivial⟩)⟩
  · skip
    obtain ⟨t21, h21, hm⟩ := bnd hm
    obtain ⟨t27, h27, hm⟩ := bnd hm
    obtain rfl := som hm
    exact sx_ret (EN.ex (en_lc (lc_mk1 (j := 7) (vp := fun mark22 => (dat (PyData.int mark22))) (c := anyOs) (enc := (eL PyData.int)) (fun (_ : Unit) (mark22 : Int) => ((fun (mark22 : Int) => ((lcF (fun (x24 : (Int × Int)) => (decide (x24.2 = mark22))) (fun (x24 : (Int × Int)) => x24.1) (enum f5)).bind fun t26 => some t26)) mark22).map fun y => (some y, ())) (fun (_ : Unit) (tl1 : Os) => tl1) () (t27) () B rfl rfl (by rw [B.hN, hsc]; decide +kernel) (by rw [hsc]; decide +kernel) (by decide) (lcO_ok h27) (ix_list (enc := PyData.int) (c := anyOs) (EN.ex (en_sortedSet (gi := 4) (gj := 5) B rfl g_sorted rfl g_set h21 rdl_dat (ex_v (i := 1) (j := 1) B rfl rfl rfl))) (fun _ _ => rdl_dat) trivial) (fun _ _ => trivial) (fun _ _ _ => List.Perm.refl _) (fun _ mark22 t tl1 hx hf => by (obtain ⟨y, hy, rfl⟩ := Option.map_eq_some_iff.mp hf; obtain ⟨t26, h26, hy⟩ := bnd hy; obtain rfl := som hy; exact ⟨true, _, fun X1 hX => by (have B1 := Bd.fam (W' := ["_law_marks", "_law_mark"]) (G' := ["enumerate"]) B hX (by (try rw [hsc]); decide +kernel); have hsc' : X1.env.scope = _ := (fam_scope hX).trans (by rw [hsc]); have g_enumerate' := fam_mg hX g_enumerate; exact ⟨.nil, fun _ => ⟨_, rfl, (EN.ex (en_lc (lc_mk2 (i := 3) (j := 8) (d1 := fun x24 => (PyData.int x24.1)) (d2 := fun x24 => (PyData.int x24.2)) (c := anyOs) (enc := PyData.int) (fun (_ : Unit) (x24 : (Int × Int)) => some (if (decide (x24.2 = mark22)) = true then some x24.1 else none, ())) (fun (_ : Unit) (tl2 : Os) => tl2) () (t26) () B1 rfl rfl (by decide) rfl rfl (by rw [B1.hN, hsc']; decide +kernel) (by rw [hsc']; decide +kernel) (by rw [hsc']; decide +kernel) (by decide) (lcF_ok h26) (ix_enum (enc := PyData.int) (c := anyOs) (gi := 0) B1 rfl g_enumerate' (ex_v (i := 1) (j := 0) B1 rfl rfl rfl) (fun _ _ => rdl_dat) trivial) (fun _ _ => trivial) (fun _ _ _ => List.Perm.refl _) (fun _ x24 t tl2 hx hf => by (obtain rfl := som hf; exact ⟨(decide (x24.2 = mark22)), _, fun X2 hX => by (have B2 := Bd.fam (W' := ["_law_place", "_law_mark", "_law_own"]) (G' := []) B1 hX (by (try rw [hsc']); decide +kernel); exact ⟨.one (tx_cmp op_eq r2_eqI (nomark _) (ex_v (i := 8) (j := 2) B2 rfl rfl rfl) (ex_v (i := 7) (j := 1) B2 rfl rfl rfl)), fun h => ⟨_, if_pos h, (ex_v (i := 3) (j := 0) B2 rfl rfl rfl)⟩, fun h => ⟨(by first | exact if_neg (by rw [h]; exact Bool.false_ne_true) | rfl), rfl⟩⟩)⟩)))))⟩, fun h => Bool.noConfusion h⟩)⟩))))) (fun F H v e o c => R.rt F H v e o c)
theorem cal_l_parts {P : Program} {w : World} {K : PySem.W.Frag} {mg : Str → Option Value} {base : Heap} {f : Addr} {fd : FuncData} (Fn : Fun K "_law_parts" "_law_parts" s_l_parts f fd) (hmg : mg "_law_parts" = some (.ref f)) (hb : Binds K fd ["_law_book_here"] []) (g_list : mg "list" = none) (g_range : mg "range" = none) (g_len : mg "len" = none) (g_enumerate : mg "enumerate" = none) (g_min : mg "min" = none) (g_sorted : mg "sorted" = none) (g_set : mg "set" = none) : Cal P w K mg base 1 "_law_parts" s_l_parts ["_law_book_here"] (sp_l_parts K) := by
  obtain ⟨sts_, hst_⟩ : ∃ z_, defBody s_l_parts = z_ := ⟨_, rfl⟩
  exact cal_ZQ (V := V_l_parts) (Gs := G_l_parts) (nl := 8) hst_ Fn sc_l_parts (by decide +kernel) (by decide +kernel) hmg hb (fun _ => rfl) rfl fun _ _ _ _ _ _ _ a b F0 os D B T hm R => body_l_parts rfl hst_ B T g_list g_range g_len g_enumerate g_min g_sorted g_set a b F0 os D hm R
abbrev s_l_spoilt : Stmt := top 62
def N_l_spoilt : List Str := ["_law_told", "_law_sizes", "_law_one", "_law_right", "_law_size"]
def V_l_spoilt : List Str := ["_law_told", "_law_sizes", "_law_one", "_law_right"]
def G_l_spoilt : List Str := []
theorem sc_l_spoilt : FnScope N_l_spoilt ["_law_told"] (defScope s_l_spoilt) := ⟨rfl, rfl, rfl, by decide +kernel, rfl, by decide +kernel, by decide +kernel⟩
abbrev sp_l_spoilt (K : PySem.W.Frag) : Sp := spZ (α := (Addr × (List (List Int)))) (β := (Bool × (List (List Int)))) (fun a => [own a.1]) (fun a => (a.1, onx (List.map (olT PyData.int) a.2)) :: []) (fun a => m_l_spoilt a.2) (fun a b => (dat (PyData.bool b.1))) (fun a b => (a.1, onx (List.map (olT PyData.int) b.2)) :: [])
set_option maxHeartbeats 4000000 in
theorem body_l_spoilt {X : Cx} (hsc : X.env.scope = defScope s_l_spoilt) {sts_ : List Stmt} (hst_ : defBody s_l_spoilt = sts_) (B : Bd X N_l_spoilt V_l_spoilt G_l_spoilt 0) (T : Bt X V_l_spoilt) (g_len : X.mg "len" = none) (q_told : Addr) (w_told : (List (List Int))) (b : (Bool × (List (List Int)))) (F0 : Hp) (os : Os) (D : Ends) (hm : m_l_spoilt w_told = some b) (R : RetZ F0 ((q_told, onx (List.map (olT PyData.int) b.2)) :: os) (dat (PyData.bool b.1)) D) :
    SX X [sl (own q_told), un, un, un, un] ((q_told, onx (List.map (olT PyData.int) w_told)) :: os) F0 sts_ D := by
  subst hst_
  unfold m_l_spoilt at hm
  refine sx_open 0 rfl (fun k_1 => ?_)
  obtain ⟨t5, h5, hm⟩ := bnd hm
  refine sx_asgLc (i := 1) B T rfl (by rw [hsc]; exact lcl_of (by decide +kernel)) (lc_mk1 (j := 2) (vp := fun one2 => (own (qa k_1 one2))) (c := (fun o => ∃ ws_ : List (List Int), o[0]? = some (q_told, onl k_1 (List.map (olT PyData.int) ws_)))) (enc := PyData.int) (fun (_ : Unit) (one2 : Int) => ((fun (one2 : Int) => ((idx w_told one2).bind fun t4 => some (t4.length : Int))) one2).map fun y => (some y, ())) (fun (_ : Unit) (tl1 : Os) => (q_told, onl k_1 (List.map (olT PyData.int) w_told)) :: tl1) () (t5) () B rfl rfl (by rw [B.hN, hsc]; decide +kernel) (by rw [hsc]; decide +kernel) (by decide) (lcO_ok h5) (ix_nest (f := (olT PyData.int)) (ws := w_told) 0 (ex_v (i := 0) (j := 0) B rfl rfl rfl) rfl) (fun _ _ => ⟨_, rfl⟩) (fun _ _ _ => (List.Perm.swap _ _ _)) (fun _ one2 t tl1 hx hf => by (obtain ⟨y, hy, rfl⟩ := Option.map_eq_some_iff.mp hf; obtain ⟨t4, h4, hy⟩ := bnd hy; obtain rfl := som hy; exact ⟨true, _, fun X1 hX => by (have B1 := Bd.fam (W' := ["_law_one"]) (G' := ["len"]) B hX (by (try rw [hsc]); decide +kernel); have g_len' := fam_mg hX g_len; exact ⟨.nil, fun _ => ⟨_, rfl, (EX.to (ex_fn (j := 0) B1 rfl g_len' (by decide +kernel) call_len_seq (rc_lenL (ds := List.map PyData.int t4) (rdl_wr (wr_nest (f := (olT PyData.int)) (ws := w_told) 0 rfl h4))) (ax_cons (ex_v (i := 2) (j := 0) B1 rfl rfl rfl) ax_nil)) (by rw [List.length_map]))⟩, fun h => Bool.noConfusion h⟩)⟩))) (sw_ok (by rw [hsc]; decide +kernel) (by rw [hsc]; exact lcl_of (by decide +kernel)) (by decide) (by decide +kernel)) (fun q_sizes5 => ?_)
  refine sx_frz (j := 0) (i := 1) rfl rfl ?_
  obtain ⟨f8, h13, hm⟩ := bnd hm
  refine sx_for (c := (fun o => ∃ ws_ : List (List Int), o[0]? = some (q_told, onl k_1 (List.map (olT PyData.int) ws_)))) _ (fun (s6 : (List (List Int))) (_ : Unit) => [sl (own q_told), sl (dat (PyData.list (List.map PyData.int t5))), un, un, un]) (fun (s6 : (List (List Int))) (_ : Unit) => (q_told, onl k_1 (List.map (olT PyData.int) s6)) :: os) B T (fun one7 => gx_name (i := 2) (vi := 2) (φ := (own (qa k_1 one7))) B T rfl rfl) w_told () f8 h13 (ix_nest (f := (olT PyData.int)) (ws := w_told) 0 (ex_v (i := 0) (j := 0) B rfl rfl rfl) rfl) ⟨.inl rfl, .inl rfl, .inl rfl, .inl rfl, .inl rfl, trivial⟩ (fun _ _ => ⟨_, rfl⟩) (fun F10 e9 s6 _ one7 z23 hx hm => ?_) (fun _ => ?_)
  · clear h13
    obtain ⟨t11, h11, hm⟩ := bnd hm
    obtain ⟨t12, h12, hm⟩ := bnd hm
    refine sx_expr (ex_appW (enc := PyData.int) (xs0 := t11) (xs := t11) (y := (-1)) h12 (ex_v (i := 2) (j := 2) B rfl rfl rfl) (wr_nest (f := (olT PyData.int)) (ws := s6) 0 rfl h11) (ex_neg ex_int) (wr_nest (f := (olT PyData.int)) (ws := s6) 0 rfl h11)) ?_
    obtain rfl := som hm
    exact sx_nil fun σ H a => ⟨(), (a.weak ⟨.inl rfl, .inl rfl, .inr rfl, .inl rfl, .inl rfl, trivial⟩)⟩
  · skip
    obtain ⟨t17, h17, hm⟩ := bnd hm
    obtain ⟨t20, h20, hm⟩ := bnd hm
    refine sx_asg (i := 3) (vi := 3) (φ := (dat (PyData.bool (decide (t17 = t20))))) B T rfl rfl (ex_eqR (e := (eL PyData.int)) (x := t17) (y := t20) B (eqv_list eqv_int) (sh_list sh_int) (by decide) rdx_dat rdx_dat (EN.ex (en_lc (lc_mk1 (j := 2) (vp := fun one14 => (own (qa k_1 one14))) (c := (fun o => ∃ ws_ : List (List Int), o[0]? = some (q_told, onl k_1 (List.map (olT PyData.int) ws_)))) (enc := PyData.int) (fun (_ : Unit) (one14 : Int) => ((fun (one14 : Int) => ((idx f8 one14).bind fun t16 => some (t16.length : Int))) one14).map fun y => (some y, ())) (fun (_ : Unit) (tl1 : Os) => (q_told, onl k_1 (List.map (olT PyData.int) f8)) :: tl1) () (t17) () B rfl rfl (by rw [B.hN, hsc]; decide +kernel) (by rw [hsc]; decide +kernel) (by decide) (lcO_ok h17) (ix_nest (f := (olT PyData.int)) (ws := f8) 0 (ex_v (i := 0) (j := 0) B rfl rfl rfl) rfl) (fun _ _ => ⟨_, rfl⟩) (fun _ _ _ => (List.Perm.swap _ _ _)) (fun _ one14 t tl1 hx hf => by (obtain ⟨y, hy, rfl⟩ := Option.map_eq_some_iff.mp hf; obtain ⟨t16, h16, hy⟩ := bnd hy; obtain rfl := som hy; exact ⟨true, _, fun X1 hX => by (have B1 := Bd.fam (W' := ["_law_one"]) (G' := ["len"]) B hX (by (try rw [hsc]); decide +kernel); have g_len' := fam_mg hX g_len; exact ⟨.nil, fun _ => ⟨_, rfl, (EX.to (ex_fn (j := 0) B1 rfl g_len' (by decide +kernel) call_len_seq (rc_lenL (ds := List.map PyData.int t16) (rdl_wr (wr_nest (f := (olT PyData.int)) (ws := f8) 0 rfl h16))) (ax_cons (ex_v (i := 2) (j := 0) B1 rfl rfl rfl) ax_nil)) (by rw [List.length_map]))⟩, fun h => Bool.noConfusion h⟩)⟩))))) (EN.ex (en_lc (lc_mk1 (j := 4) (vp := fun size18 => (dat (PyData.int size18))) (c := anyOs) (enc := PyData.int) (fun (_ : Unit) (size18 : Int) => some (some (size18 + 1), ())) (fun (_ : Unit) (tl1 : Os) => (q_told, onl k_1 (List.map (olT PyData.int) f8)) :: tl1) () (t20) () B rfl rfl (by rw [B.hN, hsc]; decide +kernel) (by rw [hsc]; decide +kernel) (by decide) (lcT_ok h20) (ix_list (enc := PyData.int) (c := anyOs) (ex_v (i := 1) (j := 1) B rfl rfl rfl) (fun _ _ => rdl_dat) trivial) (fun _ _ => trivial) (fun _ _ _ => (List.Perm.swap _ _ _)) (fun _ size18 t tl1 hx hf => by (obtain rfl := som hf; exact ⟨true, _, fun X1 hX => by (have B1 := Bd.fam (W' := ["_law_size"]) (G' := []) B hX (by (try rw [hsc]); decide +kernel); exact ⟨.nil, fun _ => ⟨_, rfl, (ex_add (ex_v (i := 4) (j := 0) B1 rfl rfl rfl) ex_int)⟩, fun h => Bool.noConfusion h⟩)⟩)))))) ?_
    obtain ⟨t21, h21, hm⟩ := bnd hm
    refine sx_expr (ex_appN (f := (olT PyData.int)) (ws0 := f8) (ws := f8) (d0 := ([] : (List Int))) (i := 0) (j := 0) h21 (ex_v (i := 0) (j := 0) B rfl rfl rfl) rfl (en_lst (ds := []) ax_nil) rfl) ?_
    refine sx_open 0 rfl (fun k_22 => ?_)
    obtain rfl := som hm
    exact sx_ret (ex_v (i := 3) (j := 3) B rfl rfl rfl) (fun F H v e o c => R.rt F H v e (o.clos 0 rfl) c)
theorem cal_l_spoilt {P : Program} {w : World} {K : PySem.W.Frag} {mg : Str → Option Value} {base : Heap} {f : Addr} {fd : FuncData} (Fn : Fun K "_law_spoilt" "_law_spoilt" s_l_spoilt f fd) (hmg : mg "_law_spoilt" = some (.ref f)) (hb : Binds K fd ["_law_told"] []) (g_len : mg "len" = none) : Cal P w K mg base 1 "_law_spoilt" s_l_spoilt ["_law_told"] (sp_l_spoilt K) := by
  obtain ⟨sts_, hst_⟩ : ∃ z_, defBody s_l_spoilt = z_ := ⟨_, rfl⟩
  exact cal_ZQ (V := V_l_spoilt) (Gs := G_l_spoilt) (nl := 4) hst_ Fn sc_l_spoilt (by decide +kernel) (by decide +kernel) hmg hb (fun _ => rfl) rfl fun _ _ _ _ _ _ _ a b F0 os D B T hm R => body_l_spoilt rfl hst_ B T g_len a.1 a.2 b F0 os D hm R
abbrev s_l_lists_right : Stmt := top 63
def N_l_lists_right : List Str := ["_law_book_here", "_law_walk_here", "_law_groups", "_law_due", "_law_whole", "_law_told"]
def V_l_lists_right : List Str := ["_law_book_here", "_law_walk_here", "_law_groups", "_law_due", "_law_whole", "_law_told"]
def G_l_lists_right : List Str := ["repr", "_law_parts", "circles", "_law_spoilt", "parts"]
theorem sc_l_lists_right : FnScope N_l_lists_right ["_law_book_here", "_law_walk_here", "_law_groups"] (defScope s_l_lists_right) := ⟨rfl, rfl, rfl, by decide +kernel, rfl, by decide +kernel, by decide +kernel⟩
theorem kw_circles_0_walk_book : KwOk "circles" s_p_circles ["book", "walk"] ["walk", "book"] 0 [1, 0] := fun _ _ _ _ _ _ us ws h1 h2 => match us, ws, h1, h2 with | [], [_, _], _, _ => rfl
theorem kw_parts_0_book : KwOk "parts" s_p_parts ["book"] ["book"] 0 [0] := fun _ _ _ _ _ _ us ws h1 h2 => match us, ws, h1, h2 with | [], [_], _, _ => rfl
abbrev sp_l_lists_right (K : PySem.W.Frag) : Sp := spZ (α := ((Int × (List (List Int))) × (List Int) × (List (List Int)))) (β := Bool) (fun a => [(dat (PyData.tuple [(PyData.int a.1.1), (PyData.tuple (List.map (eT PyData.int) a.1.2))])), (dat (PyData.tuple (List.map PyData.int a.2.1))), (dat (PyData.list (List.map (eL PyData.int) a.2.2)))]) (fun a => []) (fun a => m_l_lists_right a.1 a.2.1 a.2.2) (fun a b => (dat (PyData.bool b))) (fun a b => [])
set_option maxHeartbeats 4000000 in
theorem body_l_lists_right {X : Cx} (hsc : X.env.scope = defScope s_l_lists_right) {sts_ : List Stmt} (hst_ : defBody s_l_lists_right = sts_) (B : Bd X N_l_lists_right V_l_lists_right G_l_lists_right 5) (T : Bt X V_l_lists_right) (g_repr : X.mg "repr" = none) (c_l_parts : Cal X.prog X.w X.K X.mg X.base 1 "_law_parts" s_l_parts ["_law_book_here"] (sp_l_parts X.K)) (c_p_circles : Cal X.prog X.w X.K X.mg X.base 5 "circles" s_p_circles ["book", "walk"] (sp_p_circles X.K)) (c_l_spoilt : Cal X.prog X.w X.K X.mg X.base 1 "_law_spoilt" s_l_spoilt ["_law_told"] (sp_l_spoilt X.K)) (c_p_parts : Cal X.prog X.w X.K X.mg X.base 5 "parts" s_p_parts ["book"] (sp_p_parts X.K)) (book_here : (Int × (List (List Int)))) (walk_here : (List Int)) (groups : (List (List Int))) (b : Bool) (F0 : Hp) (os : Os) (D : Ends) (hm : m_l_lists_right book_here walk_here groups = some b) (R : RetZ F0 (os) (dat (PyData.bool b)) D) :
    SX X [sl (dat (PyData.tuple [(PyData.int book_here.1), (PyData.tuple (List.map (eT PyData.int) book_here.2))])), sl (dat (PyData.tuple (List.map PyData.int walk_here))), sl (dat (PyData.list (List.map (eL PyData.int) groups))), un, un, un] (os) F0 sts_ D := by
  subst hst_
  unfold m_l_lists_right at hm
  obtain ⟨t1, h1, hm⟩ := bnd hm
  obtain ⟨t2, h2, hm⟩ := bnd hm
  obtain ⟨t3, h3, hm⟩ := bnd hm
  refine sx_par2 (i := 3) (j := 4) _ hsc B rfl rfl (by decide) (by decide +kernel) (by decide +kernel) (by intro env he; cases env; cases he; first | rfl | kernel_rfl) (aq_x (φ := (dat (PyData.str t1))) (ex_fn (j := 0) B rfl g_repr (by decide +kernel) (call_repr B.gd B.room) (rc_repr h1) (ax_cons (ex_v (i := 2) (j := 2) B rfl rfl rfl) ax_nil)) (aq_x (φ := (dat (PyData.str t3))) (ex_fn (j := 0) B rfl g_repr (by decide +kernel) (call_repr B.gd B.room) (rc_repr h3) (ax_cons (ex_call (a := book_here) (b := t2) (gi := 1) (rest := os) B rfl c_l_parts (by decide) h2 (ax_cons (ex_v (i := 0) (j := 0) B rfl rfl rfl) ax_nil)) ax_nil)) aq_nil)) (fun v0 v1 os_ hr_ => ?_) (by rintro φs os_ ⟨_, rfl, _, rfl, rfl, rfl⟩; exact ⟨_, _, rfl⟩)
  obtain ⟨_, e0, _, e1, e8, e9⟩ := hr_
  cases e0; cases e1; cases e8; cases e9
  obtain ⟨t4, h4, hm⟩ := bnd hm
  obtain ⟨t6, h6, hm⟩ := bnd hm
  obtain ⟨f10o, h20, hm⟩ := bnd hm
  refine sx_forI (ι := Addr × List Addr) _ (fun (i7 : Addr × List Addr) => (fun (s8 : (List (List (List Int)))) => [sl (dat (PyData.tuple [(PyData.int book_here.1), (PyData.tuple (List.map (eT PyData.int) book_here.2))])), sl (dat (PyData.tuple (List.map PyData.int walk_here))), sl (dat (PyData.list (List.map (eL PyData.int) groups))), sl (dat (PyData.str t1)), sl (dat (PyData.str t3)), un])) (fun (i7 : Addr × List Addr) => (fun (s8 : (List (List (List Int)))) => (i7.1, onl i7.2 (List.map (fun ws_ : List (List Int) => onx (List.map (olT PyData.int) ws_)) s8)) :: os)) (fun (r : Bool) v H => ∃ F, Same F0 F ∧ Ow F (os) H ∧ Cl (dat (PyData.bool r)) F v) B T (fun i7 => (fun told9 => gx_name (i := 5) (vi := 5) (φ := (own (qa i7.2 told9))) B T rfl rfl)) ([t4, t6]) f10o h20 (in_nest (en_new2 (f := (fun ws_ : List (List Int) => onx (List.map (olT PyData.int) ws_))) (y1 := t4) (y2 := t6) (en_call (a := (book_here, walk_here)) (b := t4) (gi := 2) (rest := os) B rfl c_p_circles (by decide) h4 (ax_cons (ex_v (i := 0) (j := 0) B rfl rfl rfl) (ax_cons (ex_v (i := 1) (j := 1) B rfl rfl rfl) ax_nil))) (fun q5 => (en_callk0 (a := (book_here, walk_here)) (b := t6) (gi := 2) (rest := (q5, onx (List.map (olT PyData.int) t4)) :: os) B rfl c_p_circles (by decide) kw_circles_0_walk_book (by decide) h6 (kx_cons (ex_v (i := 1) (j := 1) B rfl rfl rfl) (kx_cons (ex_v (i := 0) (j := 0) B rfl rfl rfl) kx_nil)) rfl)))) (fun i7 => ⟨.inl rfl, .inl rfl, .inl rfl, .inl rfl, .inl rfl, .inl rfl, trivial⟩) (fun _ _ => ⟨_, rfl⟩) (fun i7 F12 e11 s8 told9 z43 hx hm2 => ?_) (fun i7 f10 ho => ?_) (fun r42 v H ho hr => ?_)
  · clear hm h20
    have hm := hm2
    obtain ⟨t13, h13, hm⟩ := bnd hm
    obtain ⟨t14, h14, hm⟩ := bnd hm
    obtain ⟨t19, h19, hm⟩ := bnd hm
    refine sx_if (WX.tx (wx_or (l := t19.1) (os2 := (i7.1, onl i7.2 (List.map (fun ws_ : List (List Int) => onx (List.map (olT PyData.int) ws_)) t19.2)) :: os) (tx_cmp op_ne r2_neS (nomark _) (ex_fn (j := 0) B rfl g_repr (by decide +kernel) (call_repr B.gd B.room) (rc_reprX (rdx_nst (f := (fun ws_ : List (List Int) => onx (List.map (olT PyData.int) ws_))) (ws := s8) 0 rfl h13 (rde_onx (fun _ => rde_ol))) h14) (ax_cons (ex_v (i := 5) (j := 5) B rfl rfl rfl) ax_nil)) (ex_v (i := 3) (j := 3) B rfl rfl rfl)) (fun hk => by (have hm := ifF h19 hk; obtain ⟨t15, h15, hm⟩ := bnd hm; obtain ⟨t18, h18, hm⟩ := bnd hm; obtain rfl := som hm; exact (wx_or1 (tx_not (tx_val (EX.sub (f := (fun ws_ : List (List Int) => onx (List.map (olT PyData.int) ws_))) (d' := t18.2) 0 rfl h15 (fun tk17 hl16 => (ex_call (a := ((qa i7.2 told9), t15)) (b := t18) (gi := 3) (rest := (i7.1, orf i7.2) :: (os ++ tk17)) B rfl c_l_spoilt (by decide) h18 (ax_cons (ex_v (i := 5) (j := 5) B rfl rfl rfl) ax_nil)))) (by intro _; rfl)))))) (fun hk => by (have hm := ifT h19 hk; obtain rfl := som hm; rfl)) (or_fix (fun hk => by (have hm := ifT h19 hk; obtain rfl := som hm; rfl))))) (fun hk => ?_) (fun hk => ?_)
    · have hm := ifT hm hk
      exact sx_ret ex_bool (fun F H v e o c => ⟨_, (som hm).symm, F, (e11.trans e), (o.drop), c⟩)
    · have hm := ifF hm hk
      refine sx_fall ?_ rfl
      exact sx_nil fun σ H a => ⟨_, (), (som hm).symm, (a.weak ⟨.inl rfl, .inl rfl, .inl rfl, .inl rfl, .inl rfl, .inr rfl, trivial⟩)⟩
  · cases ho
    have hm := elimR hm
    obtain ⟨t21, h21, hm⟩ := bnd hm
    obtain ⟨t23, h23, hm⟩ := bnd hm
    obtain ⟨f27o, h37, hm⟩ := bnd hm
    refine sx_forI (ι := Addr × List Addr) _ (fun (i24 : Addr × List Addr) => (fun (s25 : (List (List (List Int)))) => [sl (dat (PyData.tuple [(PyData.int book_here.1), (PyData.tuple (List.map (eT PyData.int) book_here.2))])), sl (dat (PyData.tuple (List.map PyData.int walk_here))), sl (dat (PyData.list (List.map (eL PyData.int) groups))), sl (dat (PyData.str t1)), sl (dat (PyData.str t3)), un])) (fun (i24 : Addr × List Addr) => (fun (s25 : (List (List (List Int)))) => (i24.1, onl i24.2 (List.map (fun ws_ : List (List Int) => onx (List.map (olT PyData.int) ws_)) s25)) :: (i7.1, onl i7.2 (List.map (fun ws_ : List (List Int) => onx (List.map (olT PyData.int) ws_)) f10)) :: os)) (fun (r : Bool) v H => ∃ F, Same F0 F ∧ Ow F (os) H ∧ Cl (dat (PyData.bool r)) F v) B T (fun i24 => (fun told26 => gx_name (i := 5) (vi := 5) (φ := (own (qa i24.2 told26))) B T rfl rfl)) ([t21, t23]) f27o h37 (in_nest (en_new2 (f := (fun ws_ : List (List Int) => onx (List.map (olT PyData.int) ws_))) (y1 := t21) (y2 := t23) (en_call (a := book_here) (b := t21) (gi := 4) (rest := (i7.1, onl i7.2 (List.map (fun ws_ : List (List Int) => onx (List.map (olT PyData.int) ws_)) f10)) :: os) B rfl c_p_parts (by decide) h21 (ax_cons (ex_v (i := 0) (j := 0) B rfl rfl rfl) ax_nil)) (fun q22 => (en_callk0 (a := book_here) (b := t23) (gi := 4) (rest := (q22, onx (List.map (olT PyData.int) t21)) :: (i7.1, onl i7.2 (List.map (fun ws_ : List (List Int) => onx (List.map (olT PyData.int) ws_)) f10)) :: os) B rfl c_p_parts (by decide) kw_parts_0_book (by decide) h23 (kx_cons (ex_v (i := 0) (j := 0) B rfl rfl rfl) kx_nil) rfl)))) (fun i24 => ⟨.inl rfl, .inl rfl, .inl rfl, .inl rfl, .inl rfl, .inl rfl, trivial⟩) (fun _ _ => ⟨_, rfl⟩) (fun i24 F29 e28 s25 told26 z41 hx hm2 => ?_) (fun i24 f27 ho => ?_) (fun r40 v H ho hr => ?_)
    · clear hm h37
      have hm := hm2
      obtain ⟨t30, h30, hm⟩ := bnd hm
      obtain ⟨t31, h31, hm⟩ := bnd hm
      obtain ⟨t36, h36, hm⟩ := bnd hm
      refine sx_if (WX.tx (wx_or (l := t36.1) (os2 := (i24.1, onl i24.2 (List.map (fun ws_ : List (List Int) => onx (List.map (olT PyData.int) ws_)) t36.2)) :: (i7.1, onl i7.2 (List.map (fun ws_ : List (List Int) => onx (List.map (olT PyData.int) ws_)) f10)) :: os) (tx_cmp op_ne r2_neS (nomark _) (ex_fn (j := 0) B rfl g_repr (by decide +kernel) (call_repr B.gd B.room) (rc_reprX (rdx_nst (f := (fun ws_ : List (List Int) => onx (List.map (olT PyData.int) ws_))) (ws := s25) 0 rfl h30 (rde_onx (fun _ => rde_ol))) h31) (ax_cons (ex_v (i := 5) (j := 5) B rfl rfl rfl) ax_nil)) (ex_v (i := 4) (j := 4) B rfl rfl rfl)) (fun hk => by (have hm := ifF h36 hk; obtain ⟨t32, h32, hm⟩ := bnd hm; obtain ⟨t35, h35, hm⟩ := bnd hm; obtain rfl := som hm; exact (wx_or1 (tx_not (tx_val (EX.sub (f := (fun ws_ : List (List Int) => onx (List.map (olT PyData.int) ws_))) (d' := t35.2) 0 rfl h32 (fun tk34 hl33 => (ex_call (a := ((qa i24.2 told26), t32)) (b := t35) (gi := 3) (rest := (i24.1, orf i24.2) :: (i7.1, onl i7.2 (List.map (fun ws_ : List (List Int) => onx (List.map (olT PyData.int) ws_)) f10)) :: (os ++ tk34)) B rfl c_l_spoilt (by decide) h35 (ax_cons (ex_v (i := 5) (j := 5) B rfl rfl rfl) ax_nil)))) (by intro _; rfl)))))) (fun hk => by (have hm := ifT h36 hk; obtain rfl := som hm; rfl)) (or_fix (fun hk => by (have hm := ifT h36 hk; obtain rfl := som hm; rfl))))) (fun hk => ?_) (fun hk => ?_)
      · have hm := ifT hm hk
        exact sx_ret ex_bool (fun F H v e o c => ⟨_, (som hm).symm, F, (e28.trans e), ((o.drop).drop), c⟩)
      · have hm := ifF hm hk
        refine sx_fall ?_ rfl
        exact sx_nil fun σ H a => ⟨_, (), (som hm).symm, (a.weak ⟨.inl rfl, .inl rfl, .inl rfl, .inl rfl, .inl rfl, .inr rfl, trivial⟩)⟩
    · cases ho
      have hm := elimR hm
      obtain ⟨t38, h38, hm⟩ := bnd hm
      obtain ⟨t39, h39, hm⟩ := bnd hm
      obtain rfl := som hm
      exact sx_ret (ex_cmp op_eq r2_eqS (nomark _) (ex_fn (j := 0) B rfl g_repr (by decide +kernel) (call_repr B.gd B.room) (rc_repr h39) (ax_cons (EN.exF (en_call (a := (book_here, walk_here)) (b := t38) (gi := 2) (rest := (i24.1, onl i24.2 (List.map (fun ws_ : List (List Int) => onx (List.map (olT PyData.int) ws_)) f27)) :: (i7.1, onl i7.2 (List.map (fun ws_ : List (List Int) => onx (List.map (olT PyData.int) ws_)) f10)) :: os) B rfl c_p_circles (by decide) h38 (ax_cons (ex_v (i := 0) (j := 0) B rfl rfl rfl) (ax_cons (ex_v (i := 1) (j := 1) B rfl rfl rfl) ax_nil))) (frb_onx (fun _ => frb_ol))) ax_nil)) (ex_v (i := 3) (j := 3) B rfl rfl rfl)) (fun F H v e o c => R.rt F H v e ((o.drop).drop) c)
    · cases ho
      have hm := elimL hm
      obtain rfl := som hm
      obtain ⟨F, e, o, c⟩ := hr
      exact R.rt F H v e o c
  · cases ho
    have hm := elimL hm
    obtain rfl := som hm
    obtain ⟨F, e, o, c⟩ := hr
    exact R.rt F H v e o c
theorem cal_l_lists_right {P : Program} {w : World} {K : PySem.W.Frag} {mg : Str → Option Value} {base : Heap} {f : Addr} {fd : FuncData} (Fn : Fun K "_law_lists_right" "_law_lists_right" s_l_lists_right f fd) (hmg : mg "_law_lists_right" = some (.ref f)) (hb : Binds K fd ["_law_book_here", "_law_walk_here", "_law_groups"] []) (g_repr : mg "repr" = none) (c_l_parts : Cal P w K mg base 1 "_law_parts" s_l_parts ["_law_book_here"] (sp_l_parts K)) (c_p_circles : Cal P w K mg base 5 "circles" s_p_circles ["book", "walk"] (sp_p_circles K)) (c_l_spoilt : Cal P w K mg base 1 "_law_spoilt" s_l_spoilt ["_law_told"] (sp_l_spoilt K)) (c_p_parts : Cal P w K mg base 5 "parts" s_p_parts ["book"] (sp_p_parts K)) : Cal P w K mg base 6 "_law_lists_right" s_l_lists_right ["_law_book_here", "_law_walk_here", "_law_groups"] (sp_l_lists_right K) := by
  obtain ⟨sts_, hst_⟩ : ∃ z_, defBody s_l_lists_right = z_ := ⟨_, rfl⟩
  exact cal_ZQ (V := V_l_lists_right) (Gs := G_l_lists_right) (nl := 3) hst_ Fn sc_l_lists_right (by decide +kernel) (by decide +kernel) hmg hb (fun _ => rfl) rfl fun _ _ _ _ _ _ _ a b F0 os D B T hm R => body_l_lists_right rfl hst_ B T g_repr c_l_parts c_p_circles c_l_spoilt c_p_parts a.1 a.2.1 a.2.2 b F0 os D hm R
abbrev s_l_walk_right : Stmt := top 64
def N_l_walk_right : List Str := ["_law_well_here", "_law_book_here", "_law_walk_here", "_law_goals_here", "_law_many", "_law_place", "_law_groups", "_law_often"]
def V_l_walk_right : List Str := ["_law_well_here", "_law_book_here", "_law_walk_here", "_law_goals_here", "_law_many", "_law_place", "_law_groups", "_law_often"]
def G_l_walk_right : List Str := ["_law_goals", "len", "repr", "turn_of", "_law_pick", "place_after", "_law_circles", "_law_common_round", "times_round", "_law_lists_right"]
theorem sc_l_walk_right : FnScope N_l_walk_right ["_law_well_here", "_law_book_here", "_law_walk_here"] (defScope s_l_walk_right) := ⟨rfl, rfl, rfl, by decide +kernel, rfl, by decide +kernel, by decide +kernel⟩
theorem kw_turn_of_0_walk_book : KwOk "turn_of" s_p_turn_of ["book", "walk"] ["walk", "book"] 0 [1, 0] := fun _ _ _ _ _ _ us ws h1 h2 => match us, ws, h1, h2 with | [], [_, _], _, _ => rfl
theorem kw_place_after_0_walk_place_book : KwOk "place_after" s_p_place_after ["book", "place", "walk"] ["walk", "place", "book"] 0 [2, 1, 0] := fun _ _ _ _ _ _ us ws h1 h2 => match us, ws, h1, h2 with | [], [_, _, _], _, _ => rfl
theorem kw_times_round_0_walk_book : KwOk "times_round" s_p_times_round ["book", "walk"] ["walk", "book"] 0 [1, 0] := fun _ _ _ _ _ _ us ws h1 h2 => match us, ws, h1, h2 with | [], [_, _], _, _ => rfl
abbrev sp_l_walk_right (K : PySem.W.Frag) : Sp := spZ (α := (Addr × (List Int) × (Int × (List (List Int))) × (List Int))) (β := (Bool × (List Int))) (fun a => [own a.1, (dat (PyData.tuple [(PyData.int a.2.2.1.1), (PyData.tuple (List.map (eT PyData.int) a.2.2.1.2))])), (dat (PyData.tuple (List.map PyData.int a.2.2.2)))]) (fun a => (a.1, ol (List.map PyData.int a.2.1)) :: []) (fun a => m_l_walk_right a.2.1 a.2.2.1 a.2.2.2) (fun a b => (dat (PyData.bool b.1))) (fun a b => (a.1, ol (List.map PyData.int b.2)) :: [])
set_option maxHeartbeats 4000000 in
theorem body_l_walk_right {X : Cx} (hsc : X.env.scope = defScope s_l_walk_right) {sts_ : List Stmt} (hst_ : defBody s_l_walk_right = sts_) (B : Bd X N_l_walk_right V_l_walk_right G_l_walk_right 6) (T : Bt X V_l_walk_right) (c_l_goals : Cal X.prog X.w X.K X.mg X.base 2 "_law_goals" s_l_goals ["_law_book_here", "_law_walk_here"] (sp_l_goals X.K)) (g_len : X.mg "len" = none) (g_repr : X.mg "repr" = none) (c_p_turn_of : Cal X.prog X.w X.K X.mg X.base 5 "turn_of" s_p_turn_of ["book", "walk"] (sp_p_turn_of X.K)) (c_l_pick : Cal X.prog X.w X.K X.mg X.base 1 "_law_pick" s_l_pick ["_law_well_here", "_law_many"] (sp_l_pick X.K)) (c_p_place_after : Cal X.prog X.w X.K X.mg X.base 5 "place_after" s_p_place_after ["book", "place", "walk"] (sp_p_place_after X.K)) (c_l_circles : Cal X.prog X.w X.K X.mg X.base 1 "_law_circles" s_l_circles ["_law_turn_here"] (sp_l_circles X.K)) (c_l_common_round : Cal X.prog X.w X.K X.mg X.base 1 "_law_common_round" s_l_common_round ["_law_circles_told"] (sp_l_common_round X.K)) (c_p_times_round : Cal X.prog X.w X.K X.mg X.base 6 "times_round" s_p_times_round ["book", "walk"] (sp_p_times_round X.K)) (c_l_lists_right : Cal X.prog X.w X.K X.mg X.base 6 "_law_lists_right" s_l_lists_right ["_law_book_here", "_law_walk_here", "_law_groups"] (sp_l_lists_right X.K)) (q_well_here : Addr) (w_well_here : (List Int)) (book_here : (Int × (List (List Int)))) (walk_here : (List Int)) (b : (Bool × (List Int))) (F0 : Hp) (os : Os) (D : Ends) (hm : m_l_walk_right w_well_here book_here walk_here = some b) (R : RetZ F0 ((q_well_here, ol (List.map PyData.int b.2)) :: os) (dat (PyData.bool b.1)) D) :
    SX X [sl (own q_well_here), sl (dat (PyData.tuple [(PyData.int book_here.1), (PyData.tuple (List.map (eT PyData.int) book_here.2))])), sl (dat (PyData.tuple (List.map PyData.int walk_here))), un, un, un, un, un] ((q_well_here, ol (List.map PyData.int w_well_here)) :: os) F0 sts_ D := by
  subst hst_
  unfold m_l_walk_right at hm
  obtain ⟨t1, h1, hm⟩ := bnd hm
  obtain ⟨t2, h2, hm⟩ := bnd hm
  refine sx_par2 (i := 3) (j := 4) _ hsc B rfl rfl (by decide) (by decide +kernel) (by decide +kernel) (by intro env he; cases env; cases he; first | rfl | kernel_rfl) (aq_x (φ := (dat (PyData.tuple (List.map PyData.int t1)))) (ex_call (a := (book_here, walk_here)) (b := t1) (gi := 0) (rest := (q_well_here, ol (List.map PyData.int w_well_here)) :: os) B rfl c_l_goals (by decide) h1 (ax_cons (ex_v (i := 1) (j := 1) B rfl rfl rfl) (ax_cons (ex_v (i := 2) (j := 2) B rfl rfl rfl) ax_nil))) (aq_x (φ := (dat (PyData.int (t2.length : Int)))) (EX.to (ex_fn (j := 1) B rfl g_len (by decide +kernel) call_len_seq (rc_lenT (ds := List.map PyData.int t2) rdt_dat) (ax_cons (ex_idxT (enc := (eT PyData.int)) h2 rdt_dat (ex_ixT rdt_dat (by rfl) (ex_v (i := 1) (j := 1) B rfl rfl rfl) ex_int) ex_int) ax_nil)) (by rw [List.length_map])) aq_nil)) (fun v0 v1 os_ hr_ => ?_) (by rintro φs os_ ⟨_, rfl, _, rfl, rfl, rfl⟩; exact ⟨_, _, rfl⟩)
  obtain ⟨_, e0, _, e1, e8, e9⟩ := hr_
  cases e0; cases e1; cases e8; cases e9
  obtain ⟨t3, h3, hm⟩ := bnd hm
  obtain ⟨t4, h4, hm⟩ := bnd hm
  obtain ⟨t5, h5, hm⟩ := bnd hm
  obtain ⟨t9, h9, hm⟩ := bnd hm
  refine sx_if (WX.tx (wx_or (l := t9) (os2 := (q_well_here, ol (List.map PyData.int w_well_here)) :: os) (tx_cmp op_ne r2_neS (nomark _) (ex_fn (j := 2) B rfl g_repr (by decide +kernel) (call_repr B.gd B.room) (rc_repr h4) (ax_cons (ex_call (a := (book_here, walk_here)) (b := t3) (gi := 3) (rest := (q_well_here, ol (List.map PyData.int w_well_here)) :: os) B rfl c_p_turn_of (by decide) h3 (ax_cons (ex_v (i := 1) (j := 1) B rfl rfl rfl) (ax_cons (ex_v (i := 2) (j := 2) B rfl rfl rfl) ax_nil))) ax_nil)) (ex_fn (j := 2) B rfl g_repr (by decide +kernel) (call_repr B.gd B.room) (rc_repr h5) (ax_cons (ex_v (i := 3) (j := 3) B rfl rfl rfl) ax_nil))) (fun hk => by (have hm := ifF h9 hk; obtain ⟨t6, h6, hm⟩ := bnd hm; obtain ⟨t7, h7, hm⟩ := bnd hm; obtain ⟨t8, h8, hm⟩ := bnd hm; obtain rfl := som hm; exact (wx_or1 (tx_cmp op_ne r2_neS (nomark _) (ex_fn (j := 2) B rfl g_repr (by decide +kernel) (call_repr B.gd B.room) (rc_repr h7) (ax_cons (ex_callk0 (a := (book_here, walk_here)) (b := t6) (gi := 3) (rest := (q_well_here, ol (List.map PyData.int w_well_here)) :: os) B rfl c_p_turn_of (by decide) kw_turn_of_0_walk_book (by decide) h6 (kx_cons (ex_v (i := 2) (j := 2) B rfl rfl rfl) (kx_cons (ex_v (i := 1) (j := 1) B rfl rfl rfl) kx_nil)) rfl) ax_nil)) (ex_fn (j := 2) B rfl g_repr (by decide +kernel) (call_repr B.gd B.room) (rc_repr h8) (ax_cons (ex_v (i := 3) (j := 3) B rfl rfl rfl) ax_nil)))))) (fun hk => by (have hm := ifT h9 hk; obtain rfl := som hm; rfl)) (or_fix (fun hk => by (have hm := ifT h9 hk; obtain rfl := som hm; rfl))))) (fun hk => ?_) (fun hk => ?_)
  · have hm := ifT hm hk
    obtain rfl := som hm
    exact sx_ret ex_bool (fun F H v e o c => R.rt F H v e o c)
  · have hm := ifF hm hk
    refine sx_fall ?_ rfl
    obtain ⟨t10, h10, hm⟩ := bnd hm
    obtain ⟨f13o, h24, hm⟩ := bnd hm
    refine sx_forR (c := anyOs) _ (fun (s11 : Unit) (_ : Unit) => [sl (own q_well_here), sl (dat (PyData.tuple [(PyData.int book_here.1), (PyData.tuple (List.map (eT PyData.int) book_here.2))])), sl (dat (PyData.tuple (List.map PyData.int walk_here))), sl (dat (PyData.tuple (List.map PyData.int t1))), sl (dat (PyData.int (t2.length : Int))), un, un, un]) (fun (s11 : Unit) (_ : Unit) => (q_well_here, ol (List.map PyData.int t10.2)) :: os) (fun (r : (Bool × (List Int))) v H => ∃ F, Same F0 F ∧ Ow F ((q_well_here, ol (List.map PyData.int r.2)) :: os) H ∧ Cl (dat (PyData.bool r.1)) F v) B T (fun place12 => gx_name (i := 5) (vi := 5) (φ := (dat (PyData.int place12))) B T rfl rfl) () () f13o h24 (ix_list (enc := PyData.int) (c := anyOs) (EN.ex (en_lst (ds := [(PyData.int 0), (PyData.int ((t2.length : Int) - 1)), (PyData.int t10.1)]) (hl := len_ok (n := 3) rfl) (ax_cons ex_int (ax_cons (ex_sub (ex_v (i := 4) (j := 4) B rfl rfl rfl) ex_int) (ax_cons (ex_call (a := (q_well_here, w_well_here, (t2.length : Int))) (b := t10) (gi := 4) (rest := os) B rfl c_l_pick (by decide) h10 (ax_cons (ex_v (i := 0) (j := 0) B rfl rfl rfl) (ax_cons (ex_v (i := 4) (j := 4) B rfl rfl rfl) ax_nil))) ax_nil))))) (fun _ _ => rdl_dat) trivial) ⟨.inl rfl, .inl rfl, .inl rfl, .inl rfl, .inl rfl, .inl rfl, .inl rfl, .inl rfl, trivial⟩ (fun _ _ => trivial) (fun F15 e14 s11 _ place12 z35 hx hm2 => ?_) (fun f13 _ ho => ?_) (fun r34 v H ho hr => ?_)
    · clear hm h24
      have hm := hm2
      obtain ⟨t16, h16, hm⟩ := bnd hm
      obtain ⟨t17, h17, hm⟩ := bnd hm
      obtain ⟨t18, h18, hm⟩ := bnd hm
      obtain ⟨t19, h19, hm⟩ := bnd hm
      refine sx_if (tx_cmp op_ne r2_neS (nomark _) (ex_fn (j := 2) B rfl g_repr (by decide +kernel) (call_repr B.gd B.room) (rc_repr h17) (ax_cons (ex_call (a := (book_here, place12, walk_here)) (b := t16) (gi := 5) (rest := (q_well_here, ol (List.map PyData.int t10.2)) :: os) B rfl c_p_place_after (by decide) h16 (ax_cons (ex_v (i := 1) (j := 1) B rfl rfl rfl) (ax_cons (ex_v (i := 5) (j := 5) B rfl rfl rfl) (ax_cons (ex_v (i := 2) (j := 2) B rfl rfl rfl) ax_nil)))) ax_nil)) (ex_fn (j := 2) B rfl g_repr (by decide +kernel) (call_repr B.gd B.room) (rc_repr h19) (ax_cons (ex_idxT (enc := PyData.int) h18 rdt_dat (ex_v (i := 3) (j := 3) B rfl rfl rfl) (ex_v (i := 5) (j := 5) B rfl rfl rfl)) ax_nil))) (fun hk => ?_) (fun hk => ?_)
      · have hm := ifT hm hk
        exact sx_ret ex_bool (fun F H v e o c => ⟨_, (som hm).symm, F, (e14.trans e), o, c⟩)
      · have hm := ifF hm hk
        refine sx_fall ?_ rfl
        obtain ⟨t20, h20, hm⟩ := bnd hm
        obtain ⟨t21, h21, hm⟩ := bnd hm
        obtain ⟨t22, h22, hm⟩ := bnd hm
        obtain ⟨t23, h23, hm⟩ := bnd hm
        refine sx_if (tx_cmp op_ne r2_neS (nomark _) (ex_fn (j := 2) B rfl g_repr (by decide +kernel) (call_repr B.gd B.room) (rc_repr h21) (ax_cons (ex_callk0 (a := (book_here, place12, walk_here)) (b := t20) (gi := 5) (rest := (q_well_here, ol (List.map PyData.int t10.2)) :: os) B rfl c_p_place_after (by decide) kw_place_after_0_walk_place_book (by decide) h20 (kx_cons (ex_v (i := 2) (j := 2) B rfl rfl rfl) (kx_cons (ex_v (i := 5) (j := 5) B rfl rfl rfl) (kx_cons (ex_v (i := 1) (j := 1) B rfl rfl rfl) kx_nil))) rfl) ax_nil)) (ex_fn (j := 2) B rfl g_repr (by decide +kernel) (call_repr B.gd B.room) (rc_repr h23) (ax_cons (ex_idxT (enc := PyData.int) h22 rdt_dat (ex_v (i := 3) (j := 3) B rfl rfl rfl) (ex_v (i := 5) (j := 5) B rfl rfl rfl)) ax_nil))) (fun hk => ?_) (fun hk => ?_)
        · have hm := ifT hm hk
          exact sx_ret ex_bool (fun F H v e o c => ⟨_, (som hm).symm, F, (e14.trans e), o, c⟩)
        · have hm := ifF hm hk
          refine sx_fall ?_ rfl
          exact sx_nil fun σ H a => ⟨_, (), (som hm).symm, (a.weak ⟨.inl rfl, .inl rfl, .inl rfl, .inl rfl, .inl rfl, .inr rfl, .inl rfl, .inl rfl, trivial⟩)⟩
    · cases ho
      have hm := elimR hm
      obtain ⟨t25, h25, hm⟩ := bnd hm
      refine sx_asg (i := 6) (vi := 6) (φ := (dat (PyData.list (List.map (eL PyData.int) t25)))) B T rfl rfl (ex_call (a := t1) (b := t25) (gi := 6) (rest := (q_well_here, ol (List.map PyData.int t10.2)) :: os) B rfl c_l_circles (by decide) h25 (ax_cons (ex_v (i := 3) (j := 3) B rfl rfl rfl) ax_nil)) ?_
      obtain ⟨t26, h26, hm⟩ := bnd hm
      obtain ⟨t27, h27, hm⟩ := bnd hm
      refine sx_asg (i := 7) (vi := 7) (φ := (dat (PyData.str t27))) B T rfl rfl (ex_fn (j := 2) B rfl g_repr (by decide +kernel) (call_repr B.gd B.room) (rc_repr h27) (ax_cons (ex_call (a := t25) (b := t26) (gi := 7) (rest := (q_well_here, ol (List.map PyData.int t10.2)) :: os) B rfl c_l_common_round (by decide) h26 (ax_cons (ex_v (i := 6) (j := 6) B rfl rfl rfl) ax_nil)) ax_nil)) ?_
      obtain ⟨t28, h28, hm⟩ := bnd hm
      obtain ⟨t29, h29, hm⟩ := bnd hm
      obtain ⟨t32, h32, hm⟩ := bnd hm
      refine sx_if (WX.tx (wx_or (l := t32) (os2 := (q_well_here, ol (List.map PyData.int t10.2)) :: os) (tx_cmp op_ne r2_neS (nomark _) (ex_fn (j := 2) B rfl g_repr (by decide +kernel) (call_repr B.gd B.room) (rc_repr h29) (ax_cons (ex_call (a := (book_here, walk_here)) (b := t28) (gi := 8) (rest := (q_well_here, ol (List.map PyData.int t10.2)) :: os) B rfl c_p_times_round (by decide) h28 (ax_cons (ex_v (i := 1) (j := 1) B rfl rfl rfl) (ax_cons (ex_v (i := 2) (j := 2) B rfl rfl rfl) ax_nil))) ax_nil)) (ex_v (i := 7) (j := 7) B rfl rfl rfl)) (fun hk => by (have hm := ifF h32 hk; obtain ⟨t30, h30, hm⟩ := bnd hm; obtain ⟨t31, h31, hm⟩ := bnd hm; obtain rfl := som hm; exact (wx_or1 (tx_cmp op_ne r2_neS (nomark _) (ex_fn (j := 2) B rfl g_repr (by decide +kernel) (call_repr B.gd B.room) (rc_repr h31) (ax_cons (ex_callk0 (a := (book_here, walk_here)) (b := t30) (gi := 8) (rest := (q_well_here, ol (List.map PyData.int t10.2)) :: os) B rfl c_p_times_round (by decide) kw_times_round_0_walk_book (by decide) h30 (kx_cons (ex_v (i := 2) (j := 2) B rfl rfl rfl) (kx_cons (ex_v (i := 1) (j := 1) B rfl rfl rfl) kx_nil)) rfl) ax_nil)) (ex_v (i := 7) (j := 7) B rfl rfl rfl))))) (fun hk => by (have hm := ifT h32 hk; obtain rfl := som hm; rfl)) (or_fix (fun hk => by (have hm := ifT h32 hk; obtain rfl := som hm; rfl))))) (fun hk => ?_) (fun hk => ?_)
      · have hm := ifT hm hk
        obtain rfl := som hm
        exact sx_ret ex_bool (fun F H v e o c => R.rt F H v e o c)
      · have hm := ifF hm hk
        refine sx_fall ?_ rfl
        obtain ⟨t33, h33, hm⟩ := bnd hm
        obtain rfl := som hm
        exact sx_ret (ex_call (a := (book_here, walk_here, t25)) (b := t33) (gi := 9) (rest := (q_well_here, ol (List.map PyData.int t10.2)) :: os) B rfl c_l_lists_right (by decide) h33 (ax_cons (ex_v (i := 1) (j := 1) B rfl rfl rfl) (ax_cons (ex_v (i := 2) (j := 2) B rfl rfl rfl) (ax_cons (ex_v (i := 6) (j := 6) B rfl rfl rfl) ax_nil)))) (fun F H v e o c => R.rt F H v e o c)
    · cases ho
      have hm := elimL hm
      obtain rfl := som hm
      obtain ⟨F, e, o, c⟩ := hr
      exact R.rt F H v e o c
theorem cal_l_walk_right {P : Program} {w : World} {K : PySem.W.Frag} {mg : Str → Option Value} {base : Heap} {f : Addr} {fd : FuncData} (Fn : Fun K "_law_walk_right" "_law_walk_right" s_l_walk_right f fd) (hmg : mg "_law_walk_right" = some (.ref f)) (hb : Binds K fd ["_law_well_here", "_law_book_here", "_law_walk_here"] []) (c_l_goals : Cal P w K mg base 2 "_law_goals" s_l_goals ["_law_book_here", "_law_walk_here"] (sp_l_goals K)) (g_len : mg "len" = none) (g_repr : mg "repr" = none) (c_p_turn_of : Cal P w K mg base 5 "turn_of" s_p_turn_of ["book", "walk"] (sp_p_turn_of K)) (c_l_pick : Cal P w K mg base 1 "_law_pick" s_l_pick ["_law_well_here", "_law_many"] (sp_l_pick K)) (c_p_place_after : Cal P w K mg base 5 "place_after" s_p_place_after ["book", "place", "walk"] (sp_p_place_after K)) (c_l_circles : Cal P w K mg base 1 "_law_circles" s_l_circles ["_law_turn_here"] (sp_l_circles K)) (c_l_common_round : Cal P w K mg base 1 "_law_common_round" s_l_common_round ["_law_circles_told"] (sp_l_common_round K)) (c_p_times_round : Cal P w K mg base 6 "times_round" s_p_times_round ["book", "walk"] (sp_p_times_round K)) (c_l_lists_right : Cal P w K mg base 6 "_law_lists_right" s_l_lists_right ["_law_book_here", "_law_walk_here", "_law_groups"] (sp_l_lists_right K)) : Cal P w K mg base 7 "_law_walk_right" s_l_walk_right ["_law_well_here", "_law_book_here", "_law_walk_here"] (sp_l_walk_right K) := by
  obtain ⟨sts_, hst_⟩ : ∃ z_, defBody s_l_walk_right = z_ := ⟨_, rfl⟩
  exact cal_ZQ (V := V_l_walk_right) (Gs := G_l_walk_right) (nl := 5) hst_ Fn sc_l_walk_right (by decide +kernel) (by decide +kernel) hmg hb (fun _ => rfl) rfl fun _ _ _ _ _ _ _ a b F0 os D B T hm R => body_l_walk_right rfl hst_ B T c_l_goals g_len g_repr c_p_turn_of c_l_pick c_p_place_after c_l_circles c_l_common_round c_p_times_round c_l_lists_right a.1 a.2.1 a.2.2.1 a.2.2.2 b F0 os D hm R
abbrev s_l_law : Stmt := top 65
def N_l_law : List Str := ["_law_script", "_law_k", "_law_well_here", "_law_letters", "_law_most", "_law_many", "_law_book_here", "_law_turn_here", "_law_walk_here", "_law_short_here", "_law_due", "_law_told"]
def V_l_law : List Str := ["_law_script", "_law_k", "_law_well_here", "_law_letters", "_law_most", "_law_many", "_law_book_here", "_law_turn_here", "_law_walk_here", "_law_short_here", "_law_due", "_law_told"]
def G_l_law : List Str := ["range", "max", "min", "len", "_law_well", "_law_pick", "_law_book", "is_book", "_law_walk", "_law_walk_right", "_law_short", "repr", "_law_short_goals", "short_turn", "_law_straight", "power", "turn_of", "_law_goals", "place_after", "tuple"]
theorem sc_l_law : FnScope N_l_law ["_law_script"] (defScope s_l_law) := ⟨rfl, rfl, rfl, by decide +kernel, rfl, by decide +kernel, by decide +kernel⟩
theorem kw_is_book_0_value : KwOk "is_book" s_p_is_book ["value"] ["value"] 0 [0] := fun _ _ _ _ _ _ us ws h1 h2 => match us, ws, h1, h2 with | [], [_], _, _ => rfl
theorem kw_short_turn_0_short_book : KwOk "short_turn" s_p_short_turn ["book", "short"] ["short", "book"] 0 [1, 0] := fun _ _ _ _ _ _ us ws h1 h2 => match us, ws, h1, h2 with | [], [_, _], _, _ => rfl
abbrev sp_l_law (K : PySem.W.Frag) : Sp := spZ (α := (List Int)) (β := Bool) (fun a => [(scr K a)]) (fun a => []) (fun a => m_l_law a) (fun a b => (dat (PyData.bool b))) (fun a b => [])
set_option maxHeartbeats 4000000 in
theorem body_l_law {X : Cx} (hsc : X.env.scope = defScope s_l_law) {sts_ : List Stmt} (hst_ : defBody s_l_law = sts_) (B : Bd X N_l_law V_l_law G_l_law 7) (T : Bt X V_l_law) (g_range : X.mg "range" = none) (g_max : X.mg "max" = none) (g_min : X.mg "min" = none) (g_len : X.mg "len" = none) (c_l_well : Cal X.prog X.w X.K X.mg X.base 1 "_law_well" s_l_well ["_law_script", "_law_k"] (sp_l_well X.K)) (c_l_pick : Cal X.prog X.w X.K X.mg X.base 1 "_law_pick" s_l_pick ["_law_well_here", "_law_many"] (sp_l_pick X.K)) (c_l_book : Cal X.prog X.w X.K X.mg X.base 3 "_law_book" s_l_book ["_law_well_here", "_law_letters", "_law_many"] (sp_l_book X.K)) (c_p_is_book : Cal X.prog X.w X.K X.mg X.base 4 "is_book" s_p_is_book ["value"] (sp_p_is_book X.K)) (c_l_walk : Cal X.prog X.w X.K X.mg X.base 2 "_law_walk" s_l_walk ["_law_well_here", "_law_letters", "_law_most"] (sp_l_walk X.K)) (c_l_walk_right : Cal X.prog X.w X.K X.mg X.base 7 "_law_walk_right" s_l_walk_right ["_law_well_here", "_law_book_here", "_law_walk_here"] (sp_l_walk_right X.K)) (c_l_short : Cal X.prog X.w X.K X.mg X.base 3 "_law_short" s_l_short ["_law_well_here", "_law_letters", "_law_most"] (sp_l_short X.K)) (g_repr : X.mg "repr" = none) (c_l_short_goals : Cal X.prog X.w X.K X.mg X.base 3 "_law_short_goals" s_l_short_goals ["_law_book_here", "_law_short_here"] (sp_l_short_goals X.K)) (c_p_short_turn : Cal X.prog X.w X.K X.mg X.base 7 "short_turn" s_p_short_turn ["book", "short"] (sp_p_short_turn X.K)) (c_l_straight : Cal X.prog X.w X.K X.mg X.base 1 "_law_straight" s_l_straight ["_law_walk_here"] (sp_l_straight X.K)) (c_p_power : Cal X.prog X.w X.K X.mg X.base 5 "power" s_p_power ["walk", "times"] (sp_p_power X.K)) (c_p_turn_of : Cal X.prog X.w X.K X.mg X.base 5 "turn_of" s_p_turn_of ["book", "walk"] (sp_p_turn_of X.K)) (c_l_goals : Cal X.prog X.w X.K X.mg X.base 2 "_law_goals" s_l_goals ["_law_book_here", "_law_walk_here"] (sp_l_goals X.K)) (c_p_place_after : Cal X.prog X.w X.K X.mg X.base 5 "place_after" s_p_place_after ["book", "place", "walk"] (sp_p_place_after X.K)) (g_tuple : X.mg "tuple" = none) (script : (List Int)) (b : Bool) (F0 : Hp) (os : Os) (D : Ends) (hm : m_l_law script = some b) (R : RetZ F0 (os) (dat (PyData.bool b)) D) :
    SX X [sl (scr X.K script), un, un, un, un, un, un, un, un, un, un, un] (os) F0 sts_ D := by
  subst hst_
  unfold m_l_law at hm
  obtain ⟨t1, h1, hm⟩ := bnd hm
  obtain ⟨f4o, h58, hm⟩ := bnd hm
  refine sx_forR (c := anyOs) _ (fun (s2 : Unit) (_ : Unit) => [sl (scr X.K script), un, un, un, un, un, un, un, un, un, un, un]) (fun (s2 : Unit) (_ : Unit) => os) (fun (r : Bool) v H => ∃ F, Same F0 F ∧ Ow F (os) H ∧ Cl (dat (PyData.bool r)) F v) B T (fun k_3 => gx_name (i := 1) (vi := 1) (φ := (dat (PyData.int k_3))) B T rfl rfl) () () f4o h58 (ix_rng1 (gi := 0) B rfl g_range h1 (ex_fn (j := 1) B rfl g_max (by decide +kernel) (call_max2 B.calm) rc_max (ax_cons ex_int (ax_cons (ex_fn (j := 2) B rfl g_min (by decide +kernel) (call_min2 B.calm) rc_min (ax_cons ex_int (ax_cons (EX.to (ex_fn (j := 3) B rfl g_len (by decide +kernel) call_len_seq (rc_lenL (ds := List.map PyData.int script) rdl_scr) (ax_cons (ex_v (i := 0) (j := 0) B rfl rfl rfl) ax_nil)) (by rw [List.length_map])) ax_nil))) ax_nil)))) ⟨.inl rfl, .inl rfl, .inl rfl, .inl rfl, .inl rfl, .inl rfl, .inl rfl, .inl rfl, .inl rfl, .inl rfl, .inl rfl, .inl rfl, trivial⟩ (fun _ _ => trivial) (fun F6 e5 s2 _ k_3 z60 hx hm2 => ?_) (fun f4 _ ho => ?_) (fun r59 v H ho hr => ?_)
  · clear hm h58
    have hm := hm2
    obtain ⟨t7, h7, hm⟩ := bnd hm
    refine sx_asgN (i := 2) (vi := 2) (n := ol (List.map PyData.int t7)) B T rfl rfl (en_call (a := (script, k_3)) (b := t7) (gi := 4) (rest := os) B rfl c_l_well (by decide) h7 (ax_cons (ex_v (i := 0) (j := 0) B rfl rfl rfl) (ax_cons (ex_v (i := 1) (j := 1) B rfl rfl rfl) ax_nil))) (fun q_well_here7 => ?_)
    obtain ⟨t8, h8, hm⟩ := bnd hm
    obtain ⟨t9, h9, hm⟩ := bnd hm
    obtain ⟨t10, h10, hm⟩ := bnd hm
    refine sx_par2 (i := 3) (j := 4) _ hsc B rfl rfl (by decide) (by decide +kernel) (by decide +kernel) (by intro env he; cases env; cases he; first | rfl | kernel_rfl) (aq_x (φ := (dat (PyData.int (1 + t8.1)))) (ex_add ex_int (ex_call (a := (q_well_here7, t7, 4)) (b := t8) (gi := 5) (rest := os) B rfl c_l_pick (by decide) h8 (ax_cons (ex_v (i := 2) (j := 2) B rfl rfl rfl) (ax_cons ex_int ax_nil)))) (aq_x (φ := (dat (PyData.int t10))) (ex_idxL (enc := PyData.int) h10 rdl_dat (EN.ex (en_lst (ds := [(PyData.int 4), (PyData.int 9), (PyData.int 9), (PyData.int 40)]) (hl := len_ok (n := 4) rfl) (ax_cons ex_int (ax_cons ex_int (ax_cons ex_int (ax_cons ex_int ax_nil)))))) (ex_call (a := (q_well_here7, t8.2, 4)) (b := t9) (gi := 5) (rest := os) B rfl c_l_pick (by decide) h9 (ax_cons (ex_v (i := 2) (j := 2) B rfl rfl rfl) (ax_cons ex_int ax_nil)))) aq_nil)) (fun v0 v1 os_ hr_ => ?_) (by rintro φs os_ ⟨_, rfl, _, rfl, rfl, rfl⟩; exact ⟨_, _, rfl⟩)
    obtain ⟨_, e0, _, e1, e8, e9⟩ := hr_
    cases e0; cases e1; cases e8; cases e9
    obtain ⟨t11, h11, hm⟩ := bnd hm
    refine sx_asg (i := 5) (vi := 5) (φ := (dat (PyData.int (1 + t11.1)))) B T rfl rfl (ex_add ex_int (ex_call (a := (q_well_here7, t9.2, t10)) (b := t11) (gi := 5) (rest := os) B rfl c_l_pick (by decide) h11 (ax_cons (ex_v (i := 2) (j := 2) B rfl rfl rfl) (ax_cons (ex_v (i := 4) (j := 4) B rfl rfl rfl) ax_nil)))) ?_
    obtain ⟨t13, h13, hm⟩ := bnd hm
    refine sx_asg (i := 5) (vi := 5) (φ := (dat (PyData.int (if t13.1 = true then 40 else (1 + t11.1))))) B T rfl rfl (ex_if (WX.tx (wx_and (l := t13.1) (os2 := (q_well_here7, ol (List.map PyData.int t13.2)) :: os) (tx_cmp op_eq r2_eqI (nomark _) (ex_v (i := 4) (j := 4) B rfl rfl rfl) ex_int) (fun hk => by (have hm := ifT h13 hk; obtain ⟨t12, h12, hm⟩ := bnd hm; obtain rfl := som hm; exact (wx_and1 (tx_cmp op_eq r2_eqI (nomark _) (ex_call (a := (q_well_here7, t11.2, 2)) (b := t12) (gi := 5) (rest := os) B rfl c_l_pick (by decide) h12 (ax_cons (ex_v (i := 2) (j := 2) B rfl rfl rfl) (ax_cons ex_int ax_nil))) ex_int)))) (fun hk => by (have hm := ifF h13 hk; obtain rfl := som hm; rfl)) (and_fix (fun hk => by (have hm := ifF h13 hk; obtain rfl := som hm; rfl))))) (fun hk => EX.to ex_int (by rw [if_pos hk] <;> rfl)) (fun hk => EX.to (ex_v (i := 5) (j := 5) B rfl rfl rfl) (by first | (rw [if_neg (by rw [hk]; exact Bool.false_ne_true)] <;> rfl) | (rw [if_neg (ne_true_of_eq_false hk)] <;> rfl)))) ?_
    obtain ⟨t14, h14, hm⟩ := bnd hm
    refine sx_asg (i := 6) (vi := 6) (φ := (dat (PyData.tuple [(PyData.int t14.1.1), (PyData.tuple (List.map (eT PyData.int) t14.1.2))]))) B T rfl rfl (ex_call (a := (q_well_here7, t13.2, (1 + t8.1), (if t13.1 = true then 40 else (1 + t11.1)))) (b := t14) (gi := 6) (rest := os) B rfl c_l_book (by decide) h14 (ax_cons (ex_v (i := 2) (j := 2) B rfl rfl rfl) (ax_cons (ex_v (i := 3) (j := 3) B rfl rfl rfl) (ax_cons (ex_v (i := 5) (j := 5) B rfl rfl rfl) ax_nil)))) ?_
    obtain ⟨t15, h15, hm⟩ := bnd hm
    obtain ⟨t17, h17, hm⟩ := bnd hm
    refine sx_if (WX.tx (wx_or (l := t17) (os2 := (q_well_here7, ol (List.map PyData.int t14.2)) :: os) (tx_cmp op_notBl r2_notB (nomark _) (ex_call (a := t14.1) (b := t15) (gi := 7) (rest := (q_well_here7, ol (List.map PyData.int t14.2)) :: os) B rfl c_p_is_book (by decide) h15 (ax_cons (ex_v (i := 6) (j := 6) B rfl rfl rfl) ax_nil)) ex_bool) (fun hk => by (have hm := ifF h17 hk; obtain ⟨t16, h16, hm⟩ := bnd hm; obtain rfl := som hm; exact (wx_or1 (tx_cmp op_notBl r2_notB (nomark _) (ex_callk0 (a := t14.1) (b := t16) (gi := 7) (rest := (q_well_here7, ol (List.map PyData.int t14.2)) :: os) B rfl c_p_is_book (by decide) kw_is_book_0_value (by decide) h16 (kx_cons (ex_v (i := 6) (j := 6) B rfl rfl rfl) kx_nil) rfl) ex_bool)))) (fun hk => by (have hm := ifT h17 hk; obtain rfl := som hm; rfl)) (or_fix (fun hk => by (have hm := ifT h17 hk; obtain rfl := som hm; rfl))))) (fun hk => ?_) (fun hk => ?_)
    · have hm := ifT hm hk
      exact sx_ret ex_bool (fun F H v e o c => ⟨_, (som hm).symm, F, (e5.trans e), (o.drop), c⟩)
    · have hm := ifF hm hk
      refine sx_fall ?_ rfl
      obtain ⟨t18, h18, hm⟩ := bnd hm
      obtain ⟨f21o, h36, hm⟩ := bnd hm
      refine sx_forR (c := anyOs) _ (fun (s19 : (List Int)) (_ : Unit) => [sl (scr X.K script), sl (dat (PyData.int k_3)), sl (own q_well_here7), sl (dat (PyData.int (1 + t8.1))), sl (dat (PyData.int t10)), sl (dat (PyData.int (if t13.1 = true then 40 else (1 + t11.1)))), sl (dat (PyData.tuple [(PyData.int t14.1.1), (PyData.tuple (List.map (eT PyData.int) t14.1.2))])), un, un, un, un, un]) (fun (s19 : (List Int)) (_ : Unit) => (q_well_here7, ol (List.map PyData.int s19)) :: os) (fun (r : Bool) v H => ∃ F, Same F0 F ∧ Ow F (os) H ∧ Cl (dat (PyData.bool r)) F v) B T (fun turn_here20 => gx_name (i := 7) (vi := 7) (φ := (dat (PyData.int turn_here20))) B T rfl rfl) t14.2 () f21o h36 (ix_rng1 (gi := 0) B rfl g_range h18 ex_int) ⟨.inl rfl, .inl rfl, .inl rfl, .inl rfl, .inl rfl, .inl rfl, .inl rfl, .inl rfl, .inl rfl, .inl rfl, .inl rfl, .inl rfl, trivial⟩ (fun _ _ => trivial) (fun F23 e22 s19 _ turn_here20 z57 hx hm2 => ?_) (fun f21 _ ho => ?_) (fun r56 v H ho hr => ?_)
      · clear hm h36
        have hm := hm2
        obtain ⟨t24, h24, hm⟩ := bnd hm
        obtain ⟨t25, h25, hm⟩ := bnd hm
        obtain ⟨t26, h26, hm⟩ := bnd hm
        refine sx_asg (i := 8) (vi := 8) (φ := (dat (PyData.tuple (List.map PyData.int t26.1)))) B T rfl rfl (ex_call (a := (q_well_here7, t24.2, (1 + t8.1), t25)) (b := t26) (gi := 8) (rest := os) B rfl c_l_walk (by decide) h26 (ax_cons (ex_v (i := 2) (j := 2) B rfl rfl rfl) (ax_cons (ex_v (i := 3) (j := 3) B rfl rfl rfl) (ax_cons (ex_idxL (enc := PyData.int) h25 rdl_dat (EN.ex (en_lst (ds := [(PyData.int 0), (PyData.int 3), (PyData.int 8), (PyData.int 60)]) (hl := len_ok (n := 4) rfl) (ax_cons ex_int (ax_cons ex_int (ax_cons ex_int (ax_cons ex_int ax_nil)))))) (ex_call (a := (q_well_here7, s19, 4)) (b := t24) (gi := 5) (rest := os) B rfl c_l_pick (by decide) h24 (ax_cons (ex_v (i := 2) (j := 2) B rfl rfl rfl) (ax_cons ex_int ax_nil)))) ax_nil)))) ?_
        obtain ⟨t27, h27, hm⟩ := bnd hm
        refine sx_if (tx_not (tx_val (ex_call (a := (q_well_here7, t26.2, t14.1, t26.1)) (b := t27) (gi := 9) (rest := os) B rfl c_l_walk_right (by decide) h27 (ax_cons (ex_v (i := 2) (j := 2) B rfl rfl rfl) (ax_cons (ex_v (i := 6) (j := 6) B rfl rfl rfl) (ax_cons (ex_v (i := 8) (j := 8) B rfl rfl rfl) ax_nil)))) (by intro _; rfl))) (fun hk => ?_) (fun hk => ?_)
        · have hm := ifT hm hk
          exact sx_ret ex_bool (fun F H v e o c => ⟨_, (som hm).symm, F, ((e5.trans e22).trans e), (o.drop), c⟩)
        · have hm := ifF hm hk
          refine sx_fall ?_ rfl
          obtain ⟨t28, h28, hm⟩ := bnd hm
          refine sx_asg (i := 9) (vi := 9) (φ := (dat (PyData.tuple (List.map (eP (eT PyData.int) PyData.int) t28.1)))) B T rfl rfl (ex_call (a := (q_well_here7, t27.2, (1 + t8.1), (if (decide ((if t13.1 = true then 40 else (1 + t11.1)) < 10)) = true then 8 else 3))) (b := t28) (gi := 10) (rest := os) B rfl c_l_short (by decide) h28 (ax_cons (ex_v (i := 2) (j := 2) B rfl rfl rfl) (ax_cons (ex_v (i := 3) (j := 3) B rfl rfl rfl) (ax_cons (ex_if (tx_cmp op_lt r2_lt (nomark _) (ex_v (i := 5) (j := 5) B rfl rfl rfl) ex_int) (fun hk => EX.to ex_int (by rw [if_pos hk] <;> rfl)) (fun hk => EX.to ex_int (by first | (rw [if_neg (by rw [hk]; exact Bool.false_ne_true)] <;> rfl) | (rw [if_neg (ne_true_of_eq_false hk)] <;> rfl)))) ax_nil)))) ?_
          obtain ⟨t29, h29, hm⟩ := bnd hm
          obtain ⟨t30, h30, hm⟩ := bnd hm
          refine sx_asg (i := 10) (vi := 10) (φ := (dat (PyData.str t30))) B T rfl rfl (ex_fn (j := 11) B rfl g_repr (by decide +kernel) (call_repr B.gd B.room) (rc_repr h30) (ax_cons (ex_call (a := (t14.1, t28.1)) (b := t29) (gi := 12) (rest := (q_well_here7, ol (List.map PyData.int t28.2)) :: os) B rfl c_l_short_goals (by decide) h29 (ax_cons (ex_v (i := 6) (j := 6) B rfl rfl rfl) (ax_cons (ex_v (i := 9) (j := 9) B rfl rfl rfl) ax_nil))) ax_nil)) ?_
          obtain ⟨t31, h31, hm⟩ := bnd hm
          obtain ⟨t32, h32, hm⟩ := bnd hm
          obtain ⟨t35, h35, hm⟩ := bnd hm
          refine sx_if (WX.tx (wx_or (l := t35) (os2 := (q_well_here7, ol (List.map PyData.int t28.2)) :: os) (tx_cmp op_ne r2_neS (nomark _) (ex_fn (j := 11) B rfl g_repr (by decide +kernel) (call_repr B.gd B.room) (rc_repr h32) (ax_cons (ex_call (a := (t14.1, t28.1)) (b := t31) (gi := 13) (rest := (q_well_here7, ol (List.map PyData.int t28.2)) :: os) B rfl c_p_short_turn (by decide) h31 (ax_cons (ex_v (i := 6) (j := 6) B rfl rfl rfl) (ax_cons (ex_v (i := 9) (j := 9) B rfl rfl rfl) ax_nil))) ax_nil)) (ex_v (i := 10) (j := 10) B rfl rfl rfl)) (fun hk => by (have hm := ifF h35 hk; obtain ⟨t33, h33, hm⟩ := bnd hm; obtain ⟨t34, h34, hm⟩ := bnd hm; obtain rfl := som hm; exact (wx_or1 (tx_cmp op_ne r2_neS (nomark _) (ex_fn (j := 11) B rfl g_repr (by decide +kernel) (call_repr B.gd B.room) (rc_repr h34) (ax_cons (ex_callk0 (a := (t14.1, t28.1)) (b := t33) (gi := 13) (rest := (q_well_here7, ol (List.map PyData.int t28.2)) :: os) B rfl c_p_short_turn (by decide) kw_short_turn_0_short_book (by decide) h33 (kx_cons (ex_v (i := 9) (j := 9) B rfl rfl rfl) (kx_cons (ex_v (i := 6) (j := 6) B rfl rfl rfl) kx_nil)) rfl) ax_nil)) (ex_v (i := 10) (j := 10) B rfl rfl rfl))))) (fun hk => by (have hm := ifT h35 hk; obtain rfl := som hm; rfl)) (or_fix (fun hk => by (have hm := ifT h35 hk; obtain rfl := som hm; rfl))))) (fun hk => ?_) (fun hk => ?_)
          · have hm := ifT hm hk
            exact sx_ret ex_bool (fun F H v e o c => ⟨_, (som hm).symm, F, ((e5.trans e22).trans e), (o.drop), c⟩)
          · have hm := ifF hm hk
            refine sx_fall ?_ rfl
            exact sx_nil fun σ H a => ⟨_, (), (som hm).symm, (a.weak ⟨.inl rfl, .inl rfl, .inl rfl, .inl rfl, .inl rfl, .inl rfl, .inl rfl, .inr rfl, .inr rfl, .inr rfl, .inr rfl, .inl rfl, trivial⟩)⟩
      · cases ho
        have hm := elimR hm
        obtain ⟨t37, h37, hm⟩ := bnd hm
        obtain ⟨t38, h38, hm⟩ := bnd hm
        refine sx_asg (i := 8) (vi := 8) (φ := (dat (PyData.tuple (List.map PyData.int t38)))) B T rfl rfl (ex_call (a := t37.1) (b := t38) (gi := 14) (rest := (q_well_here7, ol (List.map PyData.int t37.2)) :: os) B rfl c_l_straight (by decide) h38 (ax_cons (ex_call (a := (q_well_here7, f21, (1 + t8.1), 20)) (b := t37) (gi := 8) (rest := os) B rfl c_l_walk (by decide) h37 (ax_cons (ex_v (i := 2) (j := 2) B rfl rfl rfl) (ax_cons (ex_v (i := 3) (j := 3) B rfl rfl rfl) (ax_cons ex_int ax_nil)))) ax_nil)) ?_
        obtain ⟨t39, h39, hm⟩ := bnd hm
        obtain ⟨t40, h40, hm⟩ := bnd hm
        obtain ⟨t41, h41, hm⟩ := bnd hm
        refine sx_par2 (i := 11) (j := 10) _ hsc B rfl rfl (by decide) (by decide +kernel) (by decide +kernel) (by intro env he; cases env; cases he; first | rfl | kernel_rfl) (aq_x (φ := (dat (PyData.tuple (List.map PyData.int t39)))) (ex_call (a := (t38, 20)) (b := t39) (gi := 15) (rest := (q_well_here7, ol (List.map PyData.int t37.2)) :: os) B rfl c_p_power (by decide) h39 (ax_cons (ex_v (i := 8) (j := 8) B rfl rfl rfl) (ax_cons ex_int ax_nil))) (aq_x (φ := (dat (PyData.tuple (List.map PyData.int t41)))) (ex_call (a := t40) (b := t41) (gi := 14) (rest := (q_well_here7, ol (List.map PyData.int t37.2)) :: os) B rfl c_l_straight (by decide) h41 (ax_cons (ex_repT (enc := PyData.int) h40 (ex_v (i := 8) (j := 8) B rfl rfl rfl) ex_int) ax_nil)) aq_nil)) (fun v0 v1 os_ hr_ => ?_) (by rintro φs os_ ⟨_, rfl, _, rfl, rfl, rfl⟩; exact ⟨_, _, rfl⟩)
        obtain ⟨_, e0, _, e1, e8, e9⟩ := hr_
        cases e0; cases e1; cases e8; cases e9
        obtain ⟨t46, h46, hm⟩ := bnd hm
        refine sx_if (WX.tx (wx_or (l := t46) (os2 := (q_well_here7, ol (List.map PyData.int t37.2)) :: os) (tx_neR (e := (eT PyData.int)) (x := t39) (y := t41) B (eqv_tup eqv_int) (sh_tup sh_int) (by decide) rdx_dat rdx_dat (ex_v (i := 11) (j := 11) B rfl rfl rfl) (ex_v (i := 10) (j := 10) B rfl rfl rfl)) (fun hk => by (have hm := ifF h46 hk; obtain ⟨t42, h42, hm⟩ := bnd hm; obtain ⟨t43, h43, hm⟩ := bnd hm; obtain ⟨t44, h44, hm⟩ := bnd hm; obtain ⟨t45, h45, hm⟩ := bnd hm; obtain rfl := som hm; exact (wx_or1 (tx_cmp op_ne r2_neS (nomark _) (ex_fn (j := 11) B rfl g_repr (by decide +kernel) (call_repr B.gd B.room) (rc_repr h43) (ax_cons (ex_call (a := (t14.1, t39)) (b := t42) (gi := 16) (rest := (q_well_here7, ol (List.map PyData.int t37.2)) :: os) B rfl c_p_turn_of (by decide) h42 (ax_cons (ex_v (i := 6) (j := 6) B rfl rfl rfl) (ax_cons (ex_v (i := 11) (j := 11) B rfl rfl rfl) ax_nil))) ax_nil)) (ex_fn (j := 11) B rfl g_repr (by decide +kernel) (call_repr B.gd B.room) (rc_repr h45) (ax_cons (ex_call (a := (t14.1, t41)) (b := t44) (gi := 17) (rest := (q_well_here7, ol (List.map PyData.int t37.2)) :: os) B rfl c_l_goals (by decide) h44 (ax_cons (ex_v (i := 6) (j := 6) B rfl rfl rfl) (ax_cons (ex_v (i := 10) (j := 10) B rfl rfl rfl) ax_nil))) ax_nil)))))) (fun hk => by (have hm := ifT h46 hk; obtain rfl := som hm; rfl)) (or_fix (fun hk => by (have hm := ifT h46 hk; obtain rfl := som hm; rfl))))) (fun hk => ?_) (fun hk => ?_)
        · have hm := ifT hm hk
          exact sx_ret ex_bool (fun F H v e o c => ⟨_, (som hm).symm, F, (e5.trans e), (o.drop), c⟩)
        · have hm := ifF hm hk
          refine sx_fall ?_ rfl
          obtain ⟨t47, h47, hm⟩ := bnd hm
          obtain ⟨t48, h48, hm⟩ := bnd hm
          obtain ⟨t49, h49, hm⟩ := bnd hm
          obtain ⟨t50, h50, hm⟩ := bnd hm
          obtain ⟨t51, h51, hm⟩ := bnd hm
          refine sx_if (tx_cmp op_ne r2_neS (nomark _) (ex_fn (j := 11) B rfl g_repr (by decide +kernel) (call_repr B.gd B.room) (rc_repr h48) (ax_cons (ex_call (a := (t14.1, ((if t13.1 = true then 40 else (1 + t11.1)) - 1), t39)) (b := t47) (gi := 18) (rest := (q_well_here7, ol (List.map PyData.int t37.2)) :: os) B rfl c_p_place_after (by decide) h47 (ax_cons (ex_v (i := 6) (j := 6) B rfl rfl rfl) (ax_cons (ex_sub (ex_v (i := 5) (j := 5) B rfl rfl rfl) ex_int) (ax_cons (ex_v (i := 11) (j := 11) B rfl rfl rfl) ax_nil)))) ax_nil)) (ex_fn (j := 11) B rfl g_repr (by decide +kernel) (call_repr B.gd B.room) (rc_repr h51) (ax_cons (ex_idxT (enc := PyData.int) h50 rdt_dat (ex_call (a := (t14.1, t41)) (b := t49) (gi := 17) (rest := (q_well_here7, ol (List.map PyData.int t37.2)) :: os) B rfl c_l_goals (by decide) h49 (ax_cons (ex_v (i := 6) (j := 6) B rfl rfl rfl) (ax_cons (ex_v (i := 10) (j := 10) B rfl rfl rfl) ax_nil))) (ex_sub (ex_v (i := 5) (j := 5) B rfl rfl rfl) ex_int)) ax_nil))) (fun hk => ?_) (fun hk => ?_)
          · have hm := ifT hm hk
            exact sx_ret ex_bool (fun F H v e o c => ⟨_, (som hm).symm, F, (e5.trans e), (o.drop), c⟩)
          · have hm := ifF hm hk
            refine sx_fall ?_ rfl
            obtain ⟨t52, h52, hm⟩ := bnd hm
            obtain ⟨t53, h53, hm⟩ := bnd hm
            obtain ⟨t54, h54, hm⟩ := bnd hm
            obtain ⟨t55, h55, hm⟩ := bnd hm
            refine sx_if (tx_cmp op_ne r2_neS (nomark _) (ex_fn (j := 11) B rfl g_repr (by decide +kernel) (call_repr B.gd B.room) (rc_repr h53) (ax_cons (ex_call (a := (t14.1, ([] : (List Int)))) (b := t52) (gi := 16) (rest := (q_well_here7, ol (List.map PyData.int t37.2)) :: os) B rfl c_p_turn_of (by decide) h52 (ax_cons (ex_v (i := 6) (j := 6) B rfl rfl rfl) (ax_cons (ex_tup (ds := []) ax_nil) ax_nil))) ax_nil)) (ex_fn (j := 11) B rfl g_repr (by decide +kernel) (call_repr B.gd B.room) (rc_repr h55) (ax_cons (ex_rgT1 (gi := 19) (gj := 0) B rfl rfl g_tuple g_range h54 (ex_v (i := 5) (j := 5) B rfl rfl rfl)) ax_nil))) (fun hk => ?_) (fun hk => ?_)
            · have hm := ifT hm hk
              exact sx_ret ex_bool (fun F H v e o c => ⟨_, (som hm).symm, F, (e5.trans e), (o.drop), c⟩)
            · have hm := ifF hm hk
              refine sx_fall ?_ rfl
              exact sx_nil fun σ H a => ⟨_, (), (som hm).symm, ((a.drop).weak ⟨.inl rfl, .inr rfl, .inr rfl, .inr rfl, .inr rfl, .inr rfl, .inr rfl, .inl rfl, .inr rfl, .inl rfl, .inr rfl, .inr rfl, trivial⟩)⟩
      · cases ho
        have hm := elimL hm
        exact ⟨_, (som hm).symm, hr⟩
  · cases ho
    have hm := elimR hm
    obtain rfl := som hm
    exact sx_ret ex_bool (fun F H v e o c => R.rt F H v e o c)
  · cases ho
    have hm := elimL hm
    obtain rfl := som hm
    obtain ⟨F, e, o, c⟩ := hr
    exact R.rt F H v e o c
theorem cal_l_law {P : Program} {w : World} {K : PySem.W.Frag} {mg : Str → Option Value} {base : Heap} {f : Addr} {fd : FuncData} (Fn : Fun K "law" "law" s_l_law f fd) (hmg : mg "law" = some (.ref f)) (hb : Binds K fd ["_law_script"] []) (g_range : mg "range" = none) (g_max : mg "max" = none) (g_min : mg "min" = none) (g_len : mg "len" = none) (c_l_well : Cal P w K mg base 1 "_law_well" s_l_well ["_law_script", "_law_k"] (sp_l_well K)) (c_l_pick : Cal P w K mg base 1 "_law_pick" s_l_pick ["_law_well_here", "_law_many"] (sp_l_pick K)) (c_l_book : Cal P w K mg base 3 "_law_book" s_l_book ["_law_well_here", "_law_letters", "_law_many"] (sp_l_book K)) (c_p_is_book : Cal P w K mg base 4 "is_book" s_p_is_book ["value"] (sp_p_is_book K)) (c_l_walk : Cal P w K mg base 2 "_law_walk" s_l_walk ["_law_well_here", "_law_letters", "_law_most"] (sp_l_walk K)) (c_l_walk_right : Cal P w K mg base 7 "_law_walk_right" s_l_walk_right ["_law_well_here", "_law_book_here", "_law_walk_here"] (sp_l_walk_right K)) (c_l_short : Cal P w K mg base 3 "_law_short" s_l_short ["_law_well_here", "_law_letters", "_law_most"] (sp_l_short K)) (g_repr : mg "repr" = none) (c_l_short_goals : Cal P w K mg base 3 "_law_short_goals" s_l_short_goals ["_law_book_here", "_law_short_here"] (sp_l_short_goals K)) (c_p_short_turn : Cal P w K mg base 7 "short_turn" s_p_short_turn ["book", "short"] (sp_p_short_turn K)) (c_l_straight : Cal P w K mg base 1 "_law_straight" s_l_straight ["_law_walk_here"] (sp_l_straight K)) (c_p_power : Cal P w K mg base 5 "power" s_p_power ["walk", "times"] (sp_p_power K)) (c_p_turn_of : Cal P w K mg base 5 "turn_of" s_p_turn_of ["book", "walk"] (sp_p_turn_of K)) (c_l_goals : Cal P w K mg base 2 "_law_goals" s_l_goals ["_law_book_here", "_law_walk_here"] (sp_l_goals K)) (c_p_place_after : Cal P w K mg base 5 "place_after" s_p_place_after ["book", "place", "walk"] (sp_p_place_after K)) (g_tuple : mg "tuple" = none) : Cal P w K mg base 8 "law" s_l_law ["_law_script"] (sp_l_law K) := by
  obtain ⟨sts_, hst_⟩ : ∃ z_, defBody s_l_law = z_ := ⟨_, rfl⟩
  exact cal_ZQ (V := V_l_law) (Gs := G_l_law) (nl := 11) hst_ Fn sc_l_law (by decide +kernel) (by decide +kernel) hmg hb (fun _ => rfl) rfl fun _ _ _ _ _ _ _ a b F0 os D B T hm R => body_l_law rfl hst_ B T g_range g_max g_min g_len c_l_well c_l_pick c_l_book c_p_is_book c_l_walk c_l_walk_right c_l_short g_repr c_l_short_goals c_p_short_turn c_l_straight c_p_power c_p_turn_of c_l_goals c_p_place_after g_tuple a b F0 os D hm R
end L31
namespace Z
open PySem PySem.Spec L2
theorem log2_small {n k : Nat} (h : n < 2 ^ k) (hk : 0 < k) : n.log2 < k := by
  by_cases h0 : n = 0
  · subst h0
    simpa using hk
  · exact (Nat.log2_lt h0).mpr h
theorem log2_int {i : Int} {k : Nat} (h0 : 0 ≤ i) (h : i < 2 ^ k) (hk : 0 < k) : i.natAbs.log2 < k := by
  refine log2_small ?_ hk
  have e : ((2 ^ k : Nat) : Int) = (2 : Int) ^ k := by norm_cast
  omega
theorem idx_of {α : Type} {xs : List α} {i : Int} {v : α} (h0 : 0 ≤ i) (h : xs[i.toNat]? = some v) : idx xs i = some v := by
  have hl := (List.getElem?_eq_some_iff.mp h).1
  unfold idx atI ixN
  rw [if_pos h0, if_pos (by omega)]
  exact h
theorem idx_last {α : Type} {xs : List α} {v : α} (h : xs[xs.length - 1]? = some v) : idx xs (-1) = some v := by
  have hl := (List.getElem?_eq_some_iff.mp h).1
  unfold idx atI ixN
  rw [if_neg (by omega), if_pos (by omega)]
  have e : ((-1 : Int) + (xs.length : Int)).toNat = xs.length - 1 := by omega
  show xs[((-1 : Int) + (xs.length : Int)).toNat]? = _
  rw [e]
  exact h
theorem rngO_ok {a b : Int} (h : -(2 ^ 62) ≤ a ∧ a < 2 ^ 62 ∧ -(2 ^ 62) ≤ b ∧ b < 2 ^ 62) : rngO a b = some (range' a b) := if_pos h
theorem mem_rng {a b x : Int} (h : x ∈ range' a b) : a ≤ x ∧ x < b := by
  unfold range' at h
  obtain ⟨i, hi, rfl⟩ := List.mem_map.mp h
  have := List.mem_range.mp hi
  omega
theorem lpR_go {α R S : Type} {f : S → α → Option (Step R S)} (P : S → Prop) : ∀ {xs : List α}, (∀ x ∈ xs, ∀ s, P s → ∃ s', f s x = some (.go s') ∧ P s') → ∀ {s0 : S}, P s0 → ∃ s', lpR f xs s0 = some (.inr s') ∧ P s'
  | [], _, s0, h0 => ⟨s0, rfl, h0⟩
  | x :: xs, h, s0, h0 => by
    obtain ⟨s1, e, h1⟩ := h x List.mem_cons_self s0 h0
    obtain ⟨s2, e2, h2⟩ := lpR_go P (fun y hy => h y (List.mem_cons_of_mem _ hy)) h1
    refine ⟨s2, ?_, h2⟩
    unfold lpR
    rw [e]
    exact e2
theorem lpR_goN {α R S : Type} {f : S → α → Option (Step R S)} : ∀ {xs : List α} (P : Nat → S → Prop), (∀ (i : Nat) (x : α) (s : S), xs[i]? = some x → P i s → ∃ s', f s x = some (.go s') ∧ P (i + 1) s') → ∀ {s0 : S}, P 0 s0 → ∃ s', lpR f xs s0 = some (.inr s') ∧ P xs.length s'
  | [], P, _, s0, h0 => ⟨s0, rfl, h0⟩
  | x :: xs, P, h, s0, h0 => by
    obtain ⟨s1, e, h1⟩ := h 0 x s0 rfl h0
    obtain ⟨s2, e2, h2⟩ := lpR_goN (xs := xs) (fun i => P (i + 1)) (fun i y s hy hs => h (i + 1) y s (by simpa using hy) hs) h1
    refine ⟨s2, ?_, h2⟩
    unfold lpR
    rw [e]
    exact e2
theorem lp_goN {α S : Type} {f : S → α → Option S} : ∀ {xs : List α} (P : Nat → S → Prop), (∀ (i : Nat) (x : α) (s : S), xs[i]? = some x → P i s → ∃ s', f s x = some s' ∧ P (i + 1) s') → ∀ {s0 : S}, P 0 s0 → ∃ s', lp f xs s0 = some s' ∧ P xs.length s'
  | [], P, _, s0, h0 => ⟨s0, rfl, h0⟩
  | x :: xs, P, h, s0, h0 => by
    obtain ⟨s1, e, h1⟩ := h 0 x s0 rfl h0
    obtain ⟨s2, e2, h2⟩ := lp_goN (xs := xs) (fun i => P (i + 1)) (fun i y s hy hs => h (i + 1) y s (by simpa using hy) hs) h1
    refine ⟨s2, ?_, h2⟩
    unfold lp
    rw [e]
    exact e2
/-- three cells, of which so many draws were made at most -/
def SpOk (n : Nat) (w : List Int) : Prop := ∃ a b c : Int, w = [a, b, c] ∧ 0 ≤ a ∧ 0 ≤ b ∧ b < 2 ^ 101 ∧ 0 ≤ c ∧ c ≤ n
theorem SpOk.mono {n m : Nat} {w : List Int} (h : SpOk n w) (hm : n ≤ m) : SpOk m w := by
  obtain ⟨a, b, c, e, h1, h2, h3, h4, h5⟩ := h
  exact ⟨a, b, c, e, h1, h2, h3, h4, by omega⟩
end Z
namespace Z
open PySem PySem.Spec L2
/-- a step put on a pile -/
def psh : List Int → Int → List Int
  | [], x => [x]
  | y :: t, x => if y = -x then t else x :: y :: t
/-- no two opposite steps beside one another -/
def Gd : List Int → Prop
  | x :: y :: t => y ≠ -x ∧ Gd (y :: t)
  | _ => True
theorem gd_nil : Gd [] := trivial
def fl (s w : List Int) : List Int := w.foldl psh s
def red (w : List Int) : List Int := (fl [] w).reverse
def iv (w : List Int) : List Int := w.reverse.map fun x => -x
theorem gd_tail {x : Int} : ∀ {t : List Int}, Gd (x :: t) → Gd t
  | [], _ => trivial
  | _ :: _, h => h.2
theorem psh_gd {s : List Int} {x : Int} (h : Gd s) : Gd (psh s x) := by
  cases s with
  | nil => trivial
  | cons y t =>
    by_cases hy : y = -x
    · rw [show psh (y :: t) x = t from if_pos hy]
      exact gd_tail h
    · rw [show psh (y :: t) x = x :: y :: t from if_neg hy]
      exact ⟨hy, h⟩
theorem fl_gd : ∀ {w s : List Int}, Gd s → Gd (fl s w)
  | [], _, h => h
  | _ :: w, _, h => fl_gd (w := w) (psh_gd h)
theorem gd_suf : ∀ {a b : List Int}, Gd (a ++ b) → Gd b
  | [], _, h => h
  | _ :: a, _, h => gd_suf (a := a) (gd_tail h)
theorem gd_join {x y : Int} {t : List Int} (hxy : x ≠ -y) (h2 : Gd (x :: t)) : ∀ {a : List Int}, Gd (a ++ [y]) → Gd (a ++ y :: x :: t)
  | [], _ => ⟨hxy, h2⟩
  | [_], h => ⟨h.1, hxy, h2⟩
  | _ :: b :: a, h => ⟨h.1, gd_join (a := b :: a) hxy h2 h.2⟩
theorem gd_rev : ∀ {w : List Int}, Gd w → Gd w.reverse
  | [], _ => trivial
  | [_], _ => trivial
  | x :: y :: t, h => by
    have ih := gd_rev (w := y :: t) h.2
    rw [List.reverse_cons] at ih
    rw [List.reverse_cons, List.reverse_cons, List.append_assoc]
    have := h.1
    exact gd_join (t := []) (by omega) trivial ih
theorem fl_of_gd : ∀ {w s : List Int}, Gd (w.reverse ++ s) → fl s w = w.reverse ++ s
  | [], _, _ => rfl
  | x :: w, s, h => by
    rw [List.reverse_cons, List.append_assoc] at h
    have e : psh s x = x :: s := by
      have hs := gd_suf h
      cases s with
      | nil => rfl
      | cons y t => exact if_neg hs.1
    show fl (psh s x) w = _
    have h' : Gd (w.reverse ++ (x :: s)) := h
    rw [e, fl_of_gd (w := w) h', List.reverse_cons, List.append_assoc]
    rfl
theorem red_gd (w : List Int) : Gd (red w) := gd_rev (fl_gd gd_nil)
theorem red_of {w : List Int} (h : Gd w) : red w = w := by
  unfold red
  rw [fl_of_gd (s := []) (by rw [List.append_nil]; exact gd_rev h), List.append_nil, List.reverse_reverse]
theorem iv_cons (x : Int) (w : List Int) : iv (x :: w) = iv w ++ [-x] := by
  unfold iv
  rw [List.reverse_cons, List.map_append]
  rfl
theorem iv_iv (w : List Int) : iv (iv w) = w := by
  unfold iv
  rw [← List.map_reverse, List.reverse_reverse, List.map_map]
  have : ((fun x : Int => -x) ∘ fun x : Int => -x) = id := by
    funext x
    show -(-x) = x
    omega
  rw [this, List.map_id]
theorem psh_mem {P : Int → Prop} {s : List Int} {x : Int} (h : ∀ y ∈ s, P y) (hx : P x) : ∀ y ∈ psh s x, P y := by
  cases s with
  | nil =>
    intro y hy
    have : y = x := by simpa [psh] using hy
    exact this ▸ hx
  | cons z t =>
    by_cases hz : z = -x
    · rw [show psh (z :: t) x = t from if_pos hz]
      exact fun y hy => h y (List.mem_cons_of_mem _ hy)
    · rw [show psh (z :: t) x = x :: z :: t from if_neg hz]
      intro y hy
      rcases List.mem_cons.mp hy with rfl | hy
      · exact hx
      · exact h y hy
theorem fl_mem {P : Int → Prop} : ∀ {w s : List Int}, (∀ y ∈ s, P y) → (∀ y ∈ w, P y) → ∀ y ∈ fl s w, P y
  | [], _, h, _ => h
  | x :: w, _, h, h2 => fl_mem (w := w) (psh_mem h (h2 x List.mem_cons_self)) fun y hy => h2 y (List.mem_cons_of_mem _ hy)
theorem red_mem {P : Int → Prop} {w : List Int} (h : ∀ y ∈ w, P y) : ∀ y ∈ red w, P y := fun y hy =>
  fl_mem (s := []) (fun _ z => nomatch z) h y (List.mem_reverse.mp hy)
theorem psh_len (s : List Int) (x : Int) : (psh s x).length ≤ s.length + 1 := by
  cases s with
  | nil => exact Nat.le_refl _
  | cons y t =>
    by_cases hy : y = -x
    · rw [show psh (y :: t) x = t from if_pos hy, List.length_cons]
      omega
    · rw [show psh (y :: t) x = x :: y :: t from if_neg hy, List.length_cons, List.length_cons]
      exact Nat.le_refl _
theorem fl_len : ∀ (w s : List Int), (fl s w).length ≤ s.length + w.length
  | [], s => Nat.le_refl _
  | x :: w, s => by
    have h1 := fl_len w (psh s x)
    have h2 := psh_len s x
    show (fl (psh s x) w).length ≤ _
    rw [List.length_cons]
    omega
theorem red_len (w : List Int) : (red w).length ≤ w.length := by
  have := fl_len w []
  unfold red
  rw [List.length_reverse]
  simpa using this
def straightM (walk : List Int) : Option (List Int) :=
  ((lp (fun (s1 : (List Int)) (step2 : Int) => ((if (decide (0 < (s1.length : Int))) = true then ((idx s1 (-1)).bind fun t6 => some (decide (t6 = (-step2)))) else some false).bind fun t7 => ((if t7 = true then ((popO s1).bind fun t8 => some t8.2) else ((appO s1 step2).bind fun t9 => some t9) : Option (List Int)).bind fun s10 => some s10))) walk ([])).bind fun f3 => some f3)
theorem last_rev {α : Type} (y : α) (t : List α) : idx (y :: t).reverse (-1) = some y := by
  refine idx_last ?_
  rw [List.length_reverse, List.reverse_cons, List.length_cons, Nat.add_sub_cancel, List.getElem?_append_right (by rw [List.length_reverse]; exact Nat.le_refl _), List.length_reverse, Nat.sub_self]
  rfl
theorem pop_rev {α : Type} (y : α) (t : List α) : popO (y :: t).reverse = some (y, t.reverse) := by
  unfold popO
  rw [List.reverse_cons, List.getLast?_append]
  simp
theorem app_ok {α : Type} {s : List α} {x : α} (h : s.length < sizeLine) : appO s x = some (s ++ [x]) := if_pos h
theorem straight_lp : ∀ (w t : List Int), t.length + w.length ≤ sizeLine → lp (fun (s1 : (List Int)) (step2 : Int) => ((if (decide (0 < (s1.length : Int))) = true then ((idx s1 (-1)).bind fun t6 => some (decide (t6 = (-step2)))) else some false).bind fun t7 => ((if t7 = true then ((popO s1).bind fun t8 => some t8.2) else ((appO s1 step2).bind fun t9 => some t9) : Option (List Int)).bind fun s10 => some s10))) w t.reverse = some (fl t w).reverse
  | [], _, _ => rfl
  | x :: w, t, h => by
    rw [List.length_cons] at h
    have h2 := psh_len t x
    have ih := straight_lp w (psh t x) (by omega)
    unfold lp
    refine Eq.trans (congrArg (fun z => Option.bind z _) (?_ : _ = some (psh t x).reverse)) ih
    cases t with
    | nil =>
      have : appO ([] : List Int) x = some [x] := app_ok (by decide)
      simp [this, psh]
    | cons y t =>
      have hpos : decide (0 < ((y :: t).reverse.length : Int)) = true := by
        rw [List.length_reverse, List.length_cons]
        exact decide_eq_true (by omega)
      rw [hpos, if_pos rfl, last_rev]
      by_cases hy : y = -x
      · have e : psh (y :: t) x = t := if_pos hy
        simp only [Option.bind_some, hy, decide_true, if_true]
        rw [← hy, pop_rev, e]
        rfl
      · have e : psh (y :: t) x = x :: y :: t := if_neg hy
        simp only [Option.bind_some, hy, decide_false, Bool.false_eq_true, if_false]
        rw [app_ok (by rw [List.length_reverse]; omega), e]
        simp
theorem straight_ok {w : List Int} (h : w.length ≤ sizeLine) : straightM w = some (red w) := by
  unfold straightM
  rw [show ([] : List Int) = ([] : List Int).reverse from rfl, straight_lp w [] (by simpa using h)]
  rfl
theorem lcT_some {α β : Type} (f : α → β) {xs : List α} (h : xs.length < sizeLine) : lcT f xs = some (xs.map f) := if_pos h
theorem mapO_some {α β : Type} {f : α → Option β} {g : α → β} : ∀ {xs : List α}, (∀ x ∈ xs, f x = some (g x)) → mapO f xs = some (xs.map g)
  | [], _ => rfl
  | x :: xs, h => by
    unfold mapO
    rw [h x List.mem_cons_self, mapO_some (xs := xs) fun y hy => h y (List.mem_cons_of_mem _ hy)]
    rfl
theorem lcO_some {α β : Type} {f : α → Option β} (g : α → β) {xs : List α} (hl : xs.length < sizeLine) (h : ∀ x ∈ xs, f x = some (g x)) : lcO f xs = some (xs.map g) := by
  unfold lcO
  rw [if_pos hl, mapO_some h]
def kk : List Int → List Int → Nat
  | x :: u, y :: v => if x = -y then kk u v + 1 else 0
  | _, _ => 0
end Z
namespace Z
open PySem PySem.Spec L2
/-- three cells, of which so many draws were made at most -/
def WeOk (n : Nat) (w : List Int) : Prop := ∃ a b c : Int, w = [a, b, c] ∧ 0 ≤ a ∧ 0 ≤ b ∧ b < 2 ^ 104 ∧ 0 ≤ c ∧ c ≤ n
theorem WeOk.mono {n m : Nat} {w : List Int} (h : WeOk n w) (hm : n ≤ m) : WeOk m w := by
  obtain ⟨a, b, c, e, h1, h2, h3, h4, h5⟩ := h
  exact ⟨a, b, c, e, h1, h2, h3, h4, by omega⟩
theorem pow_three {i : Int} (h0 : 0 ≤ i) (h : i < 2 ^ 200) : powO i 3 = some (i ^ 3) := by
  unfold powO
  rw [if_pos]
  · rfl
  refine ⟨by decide, ?_⟩
  have hb : Builtin.Int.intBits i ≤ 200 := by
    unfold Builtin.Int.intBits
    split
    · omega
    · have := log2_int h0 h (by decide)
      omega
  omega
theorem rng_len (a b : Int) : (range' a b).length = (b - a).toNat := by
  unfold range'
  rw [List.length_map, List.length_range]
def Sok (L x : Int) : Prop := x ≠ 0 ∧ -L ≤ x ∧ x ≤ L
theorem Sok.mono {L M x : Int} (h : Sok L x) (hm : L ≤ M) : Sok M x := ⟨h.1, by have := h.2.1; omega, by have := h.2.2; omega⟩
theorem Sok.neg {L x : Int} (h : Sok L x) : Sok L (-x) := ⟨by have := h.1; omega, by have := h.2.2; omega, by have := h.2.1; omega⟩
theorem flat_len {α : Type} (xs : List α) : ∀ m : Nat, (List.replicate m xs).flatten.length = m * xs.length
  | 0 => by simp
  | m + 1 => by
    rw [List.replicate_succ, List.flatten_cons, List.length_append, flat_len xs m, Nat.add_mul]
    omega
theorem flat_mem {α : Type} {xs : List α} {x : α} {m : Nat} (h : x ∈ (List.replicate m xs).flatten) : x ∈ xs := by
  obtain ⟨l, hl, hx⟩ := List.mem_flatten.mp h
  exact (List.mem_replicate.mp hl).2 ▸ hx
end Z
namespace Z
open PySem PySem.Spec L2
theorem bindS {α β : Type} {m : Option α} {k : α → Option β} {a : α} {r : Option β} (h : m = some a) (h2 : k a = r) : m.bind k = r := by
  rw [h]
  exact h2
/-- three cells, of which so many draws were made at most -/
def WeC (n : Nat) (w : List Int) : Prop := ∃ a b c : Int, w = [a, b, c] ∧ 0 ≤ a ∧ 0 ≤ b ∧ b < 2 ^ 140 ∧ 0 ≤ c ∧ c ≤ n
theorem WeC.mono {n m : Nat} {w : List Int} (h : WeC n w) (hm : n ≤ m) : WeC m w := by
  obtain ⟨a, b, c, e, h1, h2, h3, h4, h5⟩ := h
  exact ⟨a, b, c, e, h1, h2, h3, h4, by omega⟩
theorem enum_get {α : Type} {xs : List α} {i : Nat} {x : Int × α} (h : (enum xs)[i]? = some x) : x.1 = (i : Int) ∧ xs[i]? = some x.2 := by
  unfold enum at h
  rw [List.getElem?_map, List.getElem?_zipIdx] at h
  cases e : xs[i]? with
  | none => rw [e] at h; cases h
  | some y =>
    rw [e] at h
    simp only [Option.map_some, Option.some.injEq] at h
    subst h
    exact ⟨by simp, rfl⟩
theorem cell_ok {ns : List Int} {k d : Int} (h0 : 0 ≤ k) : ∃ s, (if (decide (k < (ns.length : Int))) = true then ((idx ns k).bind fun t1 => some t1) else some d : Option Int) = some s := by
  by_cases hk : k < (ns.length : Int)
  · rw [if_pos (decide_eq_true hk)]
    have hk2 : k.toNat < ns.length := by omega
    exact ⟨ns[k.toNat], by rw [idx_of h0 (List.getElem?_eq_getElem hk2)]; rfl⟩
  · rw [if_neg (by simpa using hk)]
    exact ⟨_, rfl⟩
theorem idx_mem {α : Type} {xs : List α} {i : Int} (h0 : 0 ≤ i) (h : i < xs.length) : ∃ x, idx xs i = some x ∧ x ∈ xs := by
  have hl : i.toNat < xs.length := by omega
  exact ⟨xs[i.toNat], idx_of h0 (List.getElem?_eq_getElem hl), List.getElem_mem hl⟩
theorem listText_le (ts : List Str) : (listText ts).length ≤ piled ts + 2 := by
  cases ts with
  | nil => decide
  | cons t r =>
    have h := textFrom_length_pos r 1 (("[" : Str) ++ (if (0 : Nat) > 0 then ", " else "" : String) ++ t) (Nat.succ_pos 0)
    have e : ((("[" : Str) ++ (if (0 : Nat) > 0 then ", " else "" : String) ++ t)).length = 1 + t.length := by
      rw [strLen_append, strLen_append]; rfl
    have hX : (listText (t :: r)).length = (textFrom 0 "[" (t :: r)).length + 1 := by
      show (textFrom 0 "[" (t :: r) ++ "]").length = _
      rw [strLen_append]; rfl
    have hY : (textFrom 0 "[" (t :: r)).length = (textFrom 1 (("[" : Str) ++ (if (0 : Nat) > 0 then ", " else "" : String) ++ t) r).length := rfl
    rw [hX, hY, h, e, piled_cons]; omega
theorem tupleText_le (ts : List Str) : (tupleText ts).length ≤ piled ts + 3 := by
  unfold tupleText
  rw [strLen_append, strLen_append]
  have e1 : ((("(" : String) : Str)).length = 1 := rfl
  have e3 : (((if ts.length == 1 then ",)" else ")" : String) : Str)).length ≤ 2 := by split <;> decide
  rw [e1]
  by_cases h : ts = []
  · subst h
    have : (Str.join ", " ([] : List Str)).length = 0 := rfl
    omega
  · have := join_length_add ts h
    omega
/-- what a datum needs so that its text can be asked for: no deeper than k, no longer than n -/
def Txt (k n : Nat) (d : PyData) : Prop := d.showable = true ∧ d.hasDict = false ∧ d.depth ≤ k ∧ d.shown.length ≤ n
theorem Txt.mono {k n k' n' : Nat} {d : PyData} (h : Txt k n d) (hk : k ≤ k') (hn : n ≤ n') : Txt k' n' d := ⟨h.1, h.2.1, Nat.le_trans h.2.2.1 hk, Nat.le_trans h.2.2.2 hn⟩
theorem Txt.repr {k n : Nat} {d : PyData} (h : Txt k n d) (hk : k ≤ 60) (hn : n ≤ sizeLine) : reprO d = some d.shown := if_pos ⟨h.1, h.2.1, Nat.le_trans h.2.2.1 hk, by
  unfold shortO
  rw [decide_eq_true (Nat.le_trans h.2.2.2 hn), Bool.or_true]⟩
theorem txt_int {i : Int} {k : Nat} (hk : 0 < k) (hk2 : k ≤ 1900) (h : i.natAbs < 2 ^ k) : Txt 0 (k + 1) (.int i) := by
  have hl := log2_small h hk
  refine ⟨by simp only [PyData.showable]; exact decide_eq_true (by omega), by simp only [PyData.hasDict], by simp only [PyData.depth]; omega, ?_⟩
  simp only [PyData.shown]
  have := int_text_length_le hk hl
  show (Str.ofString (toString i)).length ≤ k + 1
  rw [ofString_length]
  exact this
theorem txt_all {k n : Nat} : ∀ {ds : List PyData}, (∀ d ∈ ds, Txt k n d) → PyData.showableAll ds = true ∧ PyData.hasDictAll ds = false ∧ PyData.depthAll ds ≤ k ∧ piled (PyData.shownAll ds) ≤ ds.length * (n + 2)
  | [], _ => ⟨by simp only [PyData.showableAll], by simp only [PyData.hasDictAll], by simp only [PyData.depthAll]; omega, by simp [PyData.shownAll, piled]⟩
  | d :: ds, h => by
    obtain ⟨a1, a2, a3, a4⟩ := h d List.mem_cons_self
    obtain ⟨b1, b2, b3, b4⟩ := txt_all fun x hx => h x (List.mem_cons_of_mem _ hx)
    refine ⟨by simp only [PyData.showableAll, a1, b1, Bool.and_self], by simp only [PyData.hasDictAll, a2, b2, Bool.or_self], by simp only [PyData.depthAll]; omega, ?_⟩
    simp only [PyData.shownAll]
    rw [piled_cons, List.length_cons, Nat.add_mul]
    omega
theorem txt_list {k n : Nat} {ds : List PyData} (h : ∀ d ∈ ds, Txt k n d) : Txt (k + 1) (ds.length * (n + 2) + 2) (.list ds) := by
  obtain ⟨b1, b2, b3, b4⟩ := txt_all h
  refine ⟨by simp only [PyData.showable, b1], by simp only [PyData.hasDict, b2], by simp only [PyData.depth]; omega, ?_⟩
  simp only [PyData.shown]
  have := listText_le (PyData.shownAll ds)
  omega
theorem txt_tup {k n : Nat} {ds : List PyData} (h : ∀ d ∈ ds, Txt k n d) : Txt (k + 1) (ds.length * (n + 2) + 3) (.tuple ds) := by
  obtain ⟨b1, b2, b3, b4⟩ := txt_all h
  refine ⟨by simp only [PyData.showable, b1], by simp only [PyData.hasDict, b2], by simp only [PyData.depth]; omega, ?_⟩
  simp only [PyData.shown]
  have := tupleText_le (PyData.shownAll ds)
  omega
end Z
namespace Z
open PySem PySem.Spec L2
def Q_is_integer (value : Int) : Option Bool :=
  some (true && true)
def Q_is_letters (value : Int) : Option Bool :=
  ((Q_is_integer value).bind fun t1 => some (t1 && (decide (1 ≤ value) && decide (value ≤ 4))))
theorem bndX {α β : Type} {m : Option α} {k : α → Option β} {a : α} {P : β → Prop} (h : m = some a) (h2 : ∃ r, k a = some r ∧ P r) : ∃ r, m.bind k = some r ∧ P r := by
  rw [h]
  exact h2
theorem sizeL : sizeLine = 16777216 := by decide
/-- three cells, of which so many draws were made at most -/
def Pot (n : Nat) (w : List Int) : Prop := ∃ a b c : Int, w = [a, b, c] ∧ 0 ≤ a ∧ 0 ≤ b ∧ b < 2 ^ 100 ∧ 0 ≤ c ∧ c ≤ n
theorem Pot.mono {n m : Nat} {w : List Int} (h : Pot n w) (hm : n ≤ m) : Pot m w := by
  obtain ⟨a, b, c, e, h1, h2, h3, h4, h5⟩ := h
  exact ⟨a, b, c, e, h1, h2, h3, h4, by omega⟩
def stL (L : Int) : List Int := (range' 1 (L + 1)).flatMap fun l => [l, -l]
theorem four {P : Int → Prop} {L : Int} (h1 : 1 ≤ L) (h4 : L ≤ 4) (a : P 1) (b : P 2) (c : P 3) (d : P 4) : P L := by
  have : L = 1 ∨ L = 2 ∨ L = 3 ∨ L = 4 := by omega
  rcases this with rfl | rfl | rfl | rfl <;> assumption
theorem mem_stL {L s : Int} : s ∈ stL L ↔ Sok L s := by
  unfold stL Sok
  rw [List.mem_flatMap]
  constructor
  · rintro ⟨l, hl, hs⟩
    have := mem_rng hl
    simp only [List.mem_cons, List.not_mem_nil, or_false] at hs
    omega
  · intro h
    refine ⟨(s.natAbs : Int), ?_, ?_⟩
    · unfold range'
      refine List.mem_map.mpr ⟨s.natAbs - 1, List.mem_range.mpr (by omega), by omega⟩
    · simp only [List.mem_cons, List.not_mem_nil, or_false]
      omega
theorem stL_nd {L : Int} (h1 : 1 ≤ L) (h4 : L ≤ 4) : (stL L).Nodup := four (P := fun L => (stL L).Nodup) h1 h4 (by decide) (by decide) (by decide) (by decide)
theorem nodup_le {α : Type} [DecidableEq α] : ∀ (l k : List α), l.Nodup → (∀ x ∈ l, x ∈ k) → l.length ≤ k.length
  | [], _, _, _ => Nat.zero_le _
  | x :: l, k, h, hs => by
    have hx := hs x List.mem_cons_self
    have h2 := List.nodup_cons.mp h
    have := nodup_le l (k.erase x) h2.2 (fun y hy => (List.mem_erase_of_ne (fun e => h2.1 (by rw [← e]; exact hy))).mpr (hs y (List.mem_cons_of_mem _ hy)))
    rw [List.length_erase_of_mem hx] at this
    have := List.length_pos_of_mem hx
    rw [List.length_cons]
    omega
section
variable {κ β : Type} [DecidableEq κ]
theorem dGet_nil (k : κ) : dGet ([] : List (κ × β)) k = none := rfl
theorem dGet_cons (p : κ × β) (d : List (κ × β)) (k : κ) : dGet (p :: d) k = if p.1 = k then some p.2 else dGet d k := by
  unfold dGet
  rw [List.find?_cons]
  by_cases h : p.1 = k
  · simp [h]
  · simp [h]
theorem dGet_mem : ∀ {d : List (κ × β)} {k : κ} {v : β}, dGet d k = some v → (k, v) ∈ d
  | [], _, _, h => by cases h
  | p :: d, k, v, h => by
    rw [dGet_cons] at h
    by_cases e : p.1 = k
    · rw [if_pos e] at h
      cases h
      subst e
      exact List.mem_cons_self
    · rw [if_neg e] at h
      exact List.mem_cons_of_mem _ (dGet_mem h)
theorem mem_dGet : ∀ {d : List (κ × β)} {k : κ} {v : β}, (d.map Prod.fst).Nodup → (k, v) ∈ d → dGet d k = some v
  | [], _, _, _, h => by cases h
  | p :: d, k, v, hn, h => by
    rw [dGet_cons]
    rw [List.map_cons, List.nodup_cons] at hn
    rcases List.mem_cons.mp h with h | h
    · subst h
      rw [if_pos rfl]
    · rw [if_neg (fun e => hn.1 (by rw [e]; exact List.mem_map.mpr ⟨_, h, rfl⟩))]
      exact mem_dGet hn.2 h
theorem dGet_key_mem {d : List (κ × β)} {k : κ} : (dGet d k).isSome = true ↔ k ∈ d.map Prod.fst := by
  constructor
  · intro h
    obtain ⟨v, hv⟩ := Option.isSome_iff_exists.mp h
    exact List.mem_map.mpr ⟨_, dGet_mem hv, rfl⟩
  · intro h
    induction d with
    | nil => cases h
    | cons p d ih =>
      rw [dGet_cons]
      by_cases e : p.1 = k
      · rw [if_pos e]; rfl
      · rw [if_neg e]
        rw [List.map_cons] at h
        rcases List.mem_cons.mp h with h | h
        · exact absurd h.symm e
        · exact ih h
theorem dGet_set (k : κ) (v : β) (k' : κ) : ∀ d : List (κ × β), dGet (d.map fun kv => if kv.1 = k then (kv.1, v) else kv) k' = if k = k' then (dGet d k).map (fun _ => v) else dGet d k'
  | [] => by by_cases h : k = k' <;> simp [h, dGet_nil]
  | p :: d => by
    rw [List.map_cons, dGet_cons, dGet_set k v k' d, dGet_cons, dGet_cons]
    by_cases h1 : p.1 = k
    · by_cases h2 : k = k'
      · subst h2; simp [h1]
      · have h3 : ¬ p.1 = k' := fun e => h2 (h1.symm.trans e)
        simp [h1, h2]
    · by_cases h2 : k = k'
      · subst h2; simp [h1]
      · simp [h1, h2]
theorem dGet_snoc (k : κ) (v : β) (k' : κ) : ∀ d : List (κ × β), dGet (d ++ [(k, v)]) k' = (dGet d k').or (if k = k' then some v else none)
  | [] => by rw [List.nil_append, dGet_cons]; rfl
  | p :: d => by
    rw [List.cons_append, dGet_cons, dGet_cons, dGet_snoc k v k' d]
    by_cases h : p.1 = k' <;> simp [h]
theorem any_key (d : List (κ × β)) (k : κ) : (d.any fun kv => decide (kv.1 = k)) = (dGet d k).isSome := by
  induction d with
  | nil => rfl
  | cons p d ih =>
    rw [List.any_cons, dGet_cons, ih]
    by_cases h : p.1 = k <;> simp [h]
theorem dGet_put (d : List (κ × β)) (k : κ) (v : β) (k' : κ) : dGet (dPut d k v) k' = if k = k' then some v else dGet d k' := by
  unfold dPut
  rw [any_key]
  by_cases h : (dGet d k).isSome = true
  · rw [if_pos h, dGet_set]
    obtain ⟨w, hw⟩ := Option.isSome_iff_exists.mp h
    rw [hw]
    rfl
  · rw [if_neg h, dGet_snoc]
    by_cases e : k = k'
    · subst e
      have : dGet d k = none := by simpa using h
      simp [this]
    · simp [e]
theorem dPut_keys (d : List (κ × β)) (k : κ) (v : β) : (dPut d k v).map Prod.fst = if (dGet d k).isSome = true then d.map Prod.fst else d.map Prod.fst ++ [k] := by
  unfold dPut
  rw [any_key]
  by_cases h : (dGet d k).isSome = true
  · rw [if_pos h, if_pos h, List.map_map]
    refine List.map_congr_left fun p _ => ?_
    show (if p.1 = k then (p.1, v) else p).1 = p.1
    split <;> rfl
  · rw [if_neg h, if_neg h, List.map_append]
    rfl
theorem dPut_nd {d : List (κ × β)} (h : (d.map Prod.fst).Nodup) (k : κ) (v : β) : ((dPut d k v).map Prod.fst).Nodup := by
  rw [dPut_keys]
  split
  · exact h
  · rename_i hn
    rw [List.nodup_append]
    refine ⟨h, by simp, fun a ha b hb => ?_⟩
    rw [List.mem_singleton.mp hb]
    exact fun e => hn (dGet_key_mem.mpr (e ▸ ha))
theorem dDel_nd {d : List (κ × β)} (h : (d.map Prod.fst).Nodup) (k : κ) : ((dDel d k).map Prod.fst).Nodup := by
  unfold dDel
  exact h.sublist (List.Sublist.map _ List.filter_sublist)
theorem dGet_del (k k' : κ) : ∀ d : List (κ × β), dGet (dDel d k) k' = if k = k' then none else dGet d k'
  | [] => by by_cases h : k = k' <;> simp [h, dDel, dGet_nil]
  | p :: d => by
    have ih := dGet_del k k' d
    unfold dDel at ih ⊢
    rw [List.filter_cons]
    by_cases h : p.1 = k
    · simp only [h, ne_eq, not_true_eq_false, decide_false, Bool.false_eq_true, if_false]
      rw [ih, dGet_cons, h]
      by_cases e : k = k' <;> simp [e]
    · have : decide (p.1 ≠ k) = true := by simp [h]
      rw [if_pos this, dGet_cons, ih, dGet_cons]
      by_cases e : k = k'
      · subst e; simp [h]
      · simp [e]
theorem putO_ok {d : List (κ × β)} {k : κ} {v : β} (h : d.length < sizeLine) : dPutO d k v = some (dPut d k v) := if_pos h
end
abbrev Dd := List (List (Int × Int))
def row (D : Dd) (a : Int) : List (Int × Int) := D.getD a.toNat []
def go (D : Dd) (a s : Int) : Option Int := dGet (row D a) s
theorem getD_set' {α : Type} (l : List α) (i j : Nat) (x d : α) (h : i < l.length) : (l.set i x).getD j d = if i = j then x else l.getD j d := by
  rw [List.getD_eq_getElem?_getD, List.getElem?_set, List.getD_eq_getElem?_getD]
  by_cases e : i = j
  · rw [if_pos e, if_pos e, if_pos h]; rfl
  · rw [if_neg e, if_neg e]
theorem setI_nn {α : Type} {xs : List α} {a : Int} (h0 : 0 ≤ a) (h : a < xs.length) (x : α) : setI xs a x = xs.set a.toNat x := by
  unfold setI ixD ixN
  rw [if_pos h0, if_pos (by omega)]
  rfl
theorem idx_row {D : Dd} {a : Int} (h0 : 0 ≤ a) (h : a < D.length) : idx D a = some (row D a) := by
  have hl : a.toNat < D.length := by omega
  refine idx_of h0 ?_
  unfold row
  rw [List.getD_eq_getElem?_getD, List.getElem?_eq_getElem hl]
  rfl
theorem row_set {D : Dd} {a b : Int} (h0 : 0 ≤ a) (h : a < D.length) (hb : 0 ≤ b) (d : List (Int × Int)) : row (setI D a d) b = if a = b then d else row D b := by
  unfold row
  rw [setI_nn h0 h, getD_set' _ _ _ _ _ (by omega)]
  by_cases e : a = b
  · rw [if_pos e, if_pos (by omega)]
  · rw [if_neg e, if_neg (by omega)]
theorem row_mem {D : Dd} {a : Int} (h0 : 0 ≤ a) (h : a < D.length) : row D a ∈ D := by
  have hl : a.toNat < D.length := by omega
  unfold row
  rw [List.getD_eq_getElem?_getD, List.getElem?_eq_getElem hl]
  exact List.getElem_mem hl
theorem go_lt {D : Dd} {a s b : Int} (h0 : 0 ≤ a) (h : go D a s = some b) : a < D.length := by
  refine Int.not_le.mp fun hn => ?_
  unfold go row at h
  rw [List.getD_eq_getElem?_getD, List.getElem?_eq_none_iff.mpr (by omega)] at h
  cases h
def putD (D : Dd) (a s b : Int) : Dd := setI (setI D a (dPut (row D a) s b)) b (dPut (row (setI D a (dPut (row D a) s b)) b) (-s) a)
def delD (D : Dd) (a s b : Int) : Dd := setI (setI D a (dDel (row D a) s)) b (dDel (row (setI D a (dDel (row D a) s)) b) (-s))
theorem putD_len (D : Dd) (a s b : Int) : (putD D a s b).length = D.length := by unfold putD; rw [setI_len, setI_len]
theorem delD_len (D : Dd) (a s b : Int) : (delD D a s b).length = D.length := by unfold delD; rw [setI_len, setI_len]
section
variable {D : Dd} {a b s : Int} (a0 : 0 ≤ a) (a1 : a < D.length) (b0 : 0 ≤ b) (b1 : b < D.length) (hs : s ≠ 0)
include a0 a1 b0 b1 hs
theorem go_put {x : Int} (hx : 0 ≤ x) (t : Int) : go (putD D a s b) x t = if x = b ∧ t = -s then some a else if x = a ∧ t = s then some b else go D x t := by
  unfold go putD
  rw [row_set b0 (by rw [setI_len]; exact b1) hx]
  by_cases hb : b = x
  · subst hb
    rw [if_pos rfl, dGet_put]
    by_cases ht : -s = t
    · rw [if_pos ht, if_pos ⟨rfl, ht.symm⟩]
    · rw [if_neg ht, if_neg (fun z => ht z.2.symm), row_set a0 a1 b0]
      by_cases ha : a = b
      · subst ha
        rw [if_pos rfl, dGet_put]
        by_cases e : s = t
        · rw [if_pos e, if_pos ⟨rfl, e.symm⟩]
        · rw [if_neg e, if_neg (fun z => e z.2.symm)]
      · rw [if_neg ha, if_neg (fun z => ha z.1.symm)]
  · rw [if_neg hb, if_neg (fun z => hb z.1.symm), row_set a0 a1 hx]
    by_cases ha : a = x
    · subst ha
      rw [if_pos rfl, dGet_put]
      by_cases e : s = t
      · rw [if_pos e, if_pos ⟨rfl, e.symm⟩]
      · rw [if_neg e, if_neg (fun z => e z.2.symm)]
    · rw [if_neg ha, if_neg (fun z => ha z.1.symm)]
theorem go_del {x : Int} (hx : 0 ≤ x) (t : Int) : go (delD D a s b) x t = if (x = b ∧ t = -s) ∨ (x = a ∧ t = s) then none else go D x t := by
  unfold go delD
  rw [row_set b0 (by rw [setI_len]; exact b1) hx]
  by_cases hb : b = x
  · subst hb
    rw [if_pos rfl, dGet_del]
    by_cases ht : -s = t
    · rw [if_pos ht, if_pos (.inl ⟨rfl, ht.symm⟩)]
    · rw [if_neg ht, row_set a0 a1 b0]
      by_cases ha : a = b
      · subst ha
        rw [if_pos rfl, dGet_del]
        by_cases e : s = t
        · rw [if_pos e, if_pos (.inr ⟨rfl, e.symm⟩)]
        · rw [if_neg e, if_neg (by rintro (z | z); exact ht z.2.symm; exact e z.2.symm)]
      · rw [if_neg ha, if_neg (by rintro (z | z); exact ht z.2.symm; exact ha z.1.symm)]
  · rw [if_neg hb, row_set a0 a1 hx]
    by_cases ha : a = x
    · subst ha
      rw [if_pos rfl, dGet_del]
      by_cases e : s = t
      · rw [if_pos e, if_pos (.inr ⟨rfl, e.symm⟩)]
      · rw [if_neg e, if_neg (by rintro (z | z); exact hb z.1.symm; exact e z.2.symm)]
    · rw [if_neg ha, if_neg (by rintro (z | z); exact hb z.1.symm; exact ha z.1.symm)]
end
/-- doors that lead there and back -/
structure Dr (L : Int) (n : Nat) (D : Dd) : Prop where
  len : D.length = n
  nd : ∀ d ∈ D, (d.map Prod.fst).Nodup
  ok : ∀ a s b, 0 ≤ a → go D a s = some b → 0 ≤ b ∧ b < n ∧ Sok L s ∧ go D b (-s) = some a
theorem Dr.nil (L : Int) (n : Nat) {D : Dd} (h : D = List.replicate n []) : Dr L n D := by
  subst h
  refine ⟨List.length_replicate, fun d hd => ?_, fun a s b h0 h => ?_⟩
  · rw [(List.mem_replicate.mp hd).2]
    simp
  · have hr : row (List.replicate n []) a = [] := by
      unfold row
      rw [List.getD_eq_getElem?_getD, List.getElem?_replicate]
      split <;> rfl
    unfold go at h
    rw [hr] at h
    cases h
theorem Dr.put {L : Int} {n : Nat} {D : Dd} (h : Dr L n D) {a s b : Int} (a0 : 0 ≤ a) (a1 : a < n) (b0 : 0 ≤ b) (b1 : b < n) (hs : Sok L s) (f1 : go D a s = none) (f2 : go D b (-s) = none) : Dr L n (putD D a s b) := by
  have a1' : a < D.length := by rw [h.len]; exact a1
  have b1' : b < D.length := by rw [h.len]; exact b1
  have hz := hs.1
  refine ⟨by rw [putD_len]; exact h.len, fun d hd => ?_, fun x t y hx hy => ?_⟩
  · unfold putD at hd
    rcases List.mem_or_eq_of_mem_set hd with hd | rfl
    · rcases List.mem_or_eq_of_mem_set hd with hd | rfl
      · exact h.nd d hd
      · exact dPut_nd (h.nd _ (row_mem a0 a1')) _ _
    · refine dPut_nd ?_ _ _
      rw [row_set a0 a1' b0]
      split
      · exact dPut_nd (h.nd _ (row_mem a0 a1')) _ _
      · exact h.nd _ (row_mem b0 b1')
  · rw [go_put a0 a1' b0 b1' hz hx] at hy
    by_cases e1 : x = b ∧ t = -s
    · rw [if_pos e1] at hy
      cases hy
      refine ⟨a0, a1, by rw [e1.2]; exact hs.neg, ?_⟩
      rw [go_put a0 a1' b0 b1' hz a0, if_neg (fun z => by omega), if_pos ⟨rfl, by omega⟩, e1.1]
    · rw [if_neg e1] at hy
      by_cases e2 : x = a ∧ t = s
      · rw [if_pos e2] at hy
        cases hy
        refine ⟨b0, b1, by rw [e2.2]; exact hs, ?_⟩
        rw [go_put a0 a1' b0 b1' hz b0, if_pos ⟨rfl, by omega⟩, e2.1]
      · rw [if_neg e2] at hy
        obtain ⟨y0, y1, ht, hb⟩ := h.ok x t y hx hy
        refine ⟨y0, y1, ht, ?_⟩
        rw [go_put a0 a1' b0 b1' hz y0, if_neg, if_neg]
        · exact hb
        · rintro ⟨rfl, e⟩
          rw [e, f1] at hb
          cases hb
        · rintro ⟨rfl, e⟩
          rw [e, f2] at hb
          cases hb
theorem Dr.del {L : Int} {n : Nat} {D : Dd} (h : Dr L n D) {a s b : Int} (a0 : 0 ≤ a) (f : go D a s = some b) : Dr L n (delD D a s b) := by
  obtain ⟨b0, b1, hs, g⟩ := h.ok a s b a0 f
  have a1' : a < D.length := go_lt a0 f
  have b1' : b < D.length := by rw [h.len]; exact b1
  have hz := hs.1
  refine ⟨by rw [delD_len]; exact h.len, fun d hd => ?_, fun x t y hx hy => ?_⟩
  · unfold delD at hd
    rcases List.mem_or_eq_of_mem_set hd with hd | rfl
    · rcases List.mem_or_eq_of_mem_set hd with hd | rfl
      · exact h.nd d hd
      · exact dDel_nd (h.nd _ (row_mem a0 a1')) _
    · refine dDel_nd ?_ _
      rw [row_set a0 a1' b0]
      split
      · exact dDel_nd (h.nd _ (row_mem a0 a1')) _
      · exact h.nd _ (row_mem b0 b1')
  · rw [go_del a0 a1' b0 b1' hz hx] at hy
    split at hy
    · cases hy
    · rename_i hn
      obtain ⟨y0, y1, ht, hb⟩ := h.ok x t y hx hy
      refine ⟨y0, y1, ht, ?_⟩
      rw [go_del a0 a1' b0 b1' hz y0, if_neg]
      · exact hb
      · rintro (⟨rfl, e⟩ | ⟨rfl, e⟩)
        · have e' : t = s := by omega
          subst e'
          rw [g] at hb
          cases hb
          exact hn (.inr ⟨rfl, rfl⟩)
        · have e' : t = -s := by omega
          subst e'
          rw [e, f] at hb
          cases hb
          exact hn (.inl ⟨rfl, rfl⟩)
theorem eightL : ∀ s : Int, Sok 4 s → s ∈ [1, -1, 2, -2, 3, -3, 4, (-4 : Int)] := fun s h => by
  obtain ⟨h1, h2, h3⟩ := h
  simp only [List.mem_cons, List.not_mem_nil, or_false]
  omega
theorem Dr.small {L : Int} {n : Nat} {D : Dd} (h : Dr L n D) (h4 : L ≤ 4) {a : Int} (a0 : 0 ≤ a) : (row D a).length ≤ 8 := by
  by_cases ha : a < D.length
  · have hn := h.nd _ (row_mem a0 ha)
    have := nodup_le ((row D a).map Prod.fst) [1, -1, 2, -2, 3, -3, 4, (-4 : Int)] hn fun k hk => by
      obtain ⟨p, hp, rfl⟩ := List.mem_map.mp hk
      obtain ⟨k, v⟩ := p
      have hg : go D a k = some v := mem_dGet hn hp
      exact eightL _ ((h.ok a k v a0 hg).2.2.1.mono h4)
    rw [List.length_map] at this
    exact this
  · unfold row
    rw [List.getD_eq_getElem?_getD, List.getElem?_eq_none_iff.mpr (by omega)]
    exact Nat.zero_le _
/-- both ends of a way are laid -/
theorem put_run {L : Int} {n : Nat} {D : Dd} (h : Dr L n D) (h4 : L ≤ 4) {a b k k2 : Int} (a0 : 0 ≤ a) (a1 : a < n) (b0 : 0 ≤ b) (b1 : b < n) (hk : k2 = -k) :
    ((idx D a).bind fun t16 => (dPutO t16 k b).bind fun t17 => ((idx (setI D a t17) b).bind fun t18 => (dPutO t18 k2 a).bind fun t19 => some (setI (setI D a t17) b t19))) = some (putD D a k b) := by
  subst hk
  have a1' : a < D.length := by rw [h.len]; exact a1
  have b1' : b < D.length := by rw [h.len]; exact b1
  have s1 := h.small h4 a0
  have s2 := h.small h4 b0
  have s3 := dput_len (row D a) k b
  refine bindS (idx_row a0 a1') (bindS (putO_ok (by rw [sizeL]; omega)) (bindS (idx_row b0 (by rw [setI_len]; exact b1')) (bindS (putO_ok ?_) rfl)))
  rw [row_set a0 a1' b0, sizeL]
  split <;> omega
end Z
namespace Z
open PySem PySem.Spec L2
theorem lpX {α S β : Type} {f : S → α → Option S} {xs : List α} {s0 : S} {k : S → Option β} {Q : β → Prop} (P : Nat → S → Prop) (h0 : P 0 s0) (step : ∀ (i : Nat) (x : α) (s : S), xs[i]? = some x → P i s → ∃ s', f s x = some s' ∧ P (i + 1) s') (hk : ∀ s, P xs.length s → ∃ r, k s = some r ∧ Q r) : ∃ r, (lp f xs s0).bind k = some r ∧ Q r := by
  obtain ⟨s, e, h⟩ := lp_goN P step h0
  rw [e]
  exact hk s h
theorem lpRX {α R S β : Type} {f : S → α → Option (Step R S)} {xs : List α} {s0 : S} {k : Sum R S → Option β} {Q : β → Prop} (P : Nat → S → Prop) (h0 : P 0 s0) (step : ∀ (i : Nat) (x : α) (s : S), xs[i]? = some x → P i s → ∃ s', f s x = some (.go s') ∧ P (i + 1) s') (hk : ∀ s, P xs.length s → ∃ r, k (.inr s) = some r ∧ Q r) : ∃ r, (lpR f xs s0).bind k = some r ∧ Q r := by
  obtain ⟨s, e, h⟩ := lpR_goN P step h0
  rw [e]
  exact hk s h
theorem whX {R S β : Type} {c : S → Option Bool} {f : S → Option (Step R S)} {k : Sum R S → Option β} {Q : β → Prop} (P : S → Prop) (μ : S → Nat) {n : Nat} {s0 : S} (h0 : P s0) (hn : μ s0 < n) (step : ∀ s, P s → c s = some false ∨ (c s = some true ∧ ∃ s', f s = some (.go s') ∧ P s' ∧ μ s' < μ s)) (hk : ∀ s, P s → c s = some false → ∃ r, k (.inr s) = some r ∧ Q r) : ∃ r, (wh c f n s0).bind k = some r ∧ Q r := by
  have : ∃ s, wh c f n s0 = some (.inr s) ∧ P s ∧ c s = some false := by
    induction n generalizing s0 with
    | zero => exact absurd hn (Nat.not_lt_zero _)
    | succ n ih =>
      unfold wh
      rcases step s0 h0 with e | ⟨e, s', e2, h2, h3⟩
      · exact ⟨s0, bindS e (if_neg (by simp)), h0, e⟩
      · obtain ⟨s, h4, h5⟩ := ih h2 (by omega)
        exact ⟨s, bindS e ((if_pos rfl).trans (bindS e2 h4)), h5⟩
  obtain ⟨s, e, h, h2⟩ := this
  rw [e]
  exact hk s h h2
theorem rngAt {a b x : Int} {i : Nat} (h : (range' a b)[i]? = some x) : x = a + i ∧ i < (b - a).toNat := by
  unfold range' at h
  rw [List.getElem?_map] at h
  cases e : (List.range (b - a).toNat)[i]? with
  | none => rw [e] at h; cases h
  | some y =>
    rw [e] at h
    obtain ⟨h1, h2⟩ := List.getElem?_eq_some_iff.mp e
    rw [List.getElem_range] at h2
    rw [List.length_range] at h1
    subst h2
    cases h
    exact ⟨rfl, h1⟩
theorem erase_out {α : Type} {l : List α} {v : Nat} {g : α} (hn : l.Nodup) (h : l[v]? = some g) : g ∉ l.eraseIdx v ∧ (l.eraseIdx v).Nodup ∧ (∀ x ∈ l.eraseIdx v, x ∈ l) ∧ (l.eraseIdx v).length + 1 = l.length := by
  have hv := (List.getElem?_eq_some_iff.mp h).1
  have e : l = l.take v ++ g :: l.drop (v + 1) := by
    have := (List.getElem?_eq_some_iff.mp h).2
    rw [← this, List.getElem_cons_drop, List.take_append_drop]
  have e2 : l.eraseIdx v = l.take v ++ l.drop (v + 1) := List.eraseIdx_eq_take_drop_succ _ _
  refine ⟨?_, hn.sublist (List.eraseIdx_sublist _ _), fun x hx => (List.eraseIdx_sublist _ _).subset hx, ?_⟩
  · rw [e2]
    rw [e, List.nodup_append] at hn
    obtain ⟨_, h2, h3⟩ := hn
    rw [List.nodup_cons] at h2
    intro hm
    rcases List.mem_append.mp hm with hm | hm
    · exact h3 g hm g List.mem_cons_self rfl
    · exact h2.1 hm
  · rw [List.length_eraseIdx_of_lt hv]; omega
theorem popI_ok {α : Type} {xs : List α} {v : Int} (h0 : 0 ≤ v) (h : v < xs.length) (hb : v < 2 ^ 63) : ∃ g, popI xs v = some (g, xs.eraseIdx v.toNat) ∧ xs[v.toNat]? = some g := by
  have hl : v.toNat < xs.length := by omega
  refine ⟨xs[v.toNat], ?_, List.getElem?_eq_getElem hl⟩
  unfold popI
  rw [if_pos (by omega)]
  have : seqIndex? v xs.length = some v.toNat := by
    unfold seqIndex?
    simp
    omega
  rw [this]
  show (xs[v.toNat]?).map _ = _
  rw [List.getElem?_eq_getElem hl]
  rfl
end Z
namespace Z
open PySem PySem.Spec L2
theorem small_of {d : List (Int × Int)} (hn : (d.map Prod.fst).Nodup) (h : ∀ k v, dGet d k = some v → Sok 4 k) : d.length ≤ 8 := by
  have := nodup_le (d.map Prod.fst) [1, -1, 2, -2, 3, -3, 4, (-4 : Int)] hn fun k hk => by
    obtain ⟨v, hv⟩ := Option.isSome_iff_exists.mp (dGet_key_mem.mpr hk)
    exact eightL _ (h k v hv)
  rw [List.length_map] at this
  exact this
/-- ways laid there and back -/
def WyR (L c : Int) (W : List (Tri Int Int Int)) : Prop := ∀ t ∈ W, 0 ≤ t.a ∧ t.a < c ∧ 0 ≤ t.c ∧ t.c < c ∧ Sok L t.b ∧ Tri.mk t.c (-t.b) t.a ∈ W
theorem WyR.mono {L c d : Int} {W : List (Tri Int Int Int)} (h : WyR L c W) (hc : c ≤ d) : WyR L d W := fun t ht => by
  obtain ⟨a, b, e, f, g, i⟩ := h t ht
  exact ⟨a, by omega, e, by omega, g, i⟩
end Z
namespace Z
open PySem PySem.Spec L2
def vis (o : List Int) (g : Int) : List Int := if g ∈ o then o else o ++ [g]
end Z
namespace Z
open PySem PySem.Spec L2
def cell (rows : List (List Int)) (a l : Int) : Int := (rows.getD a.toNat []).getD l.toNat (-1)
theorem cell_out {rows : List (List Int)} {a l : Int} (h : rows.length ≤ a.toNat ∨ ∀ r, rows[a.toNat]? = some r → r.length ≤ l.toNat) : cell rows a l = -1 := by
  unfold cell
  rw [List.getD_eq_getElem?_getD, List.getD_eq_getElem?_getD]
  rcases h with h | h
  · rw [List.getElem?_eq_none_iff.mpr h]
    rfl
  · cases e : rows[a.toNat]? with
    | none => rfl
    | some r =>
      show (r[l.toNat]?).getD (-1) = -1
      rw [List.getElem?_eq_none_iff.mpr (h r e)]
      rfl
/-- rows in their bounds -/
structure Reg (L : Int) (rows : List (List Int)) : Prop where
  l1 : 1 ≤ L
  l4 : L ≤ 4
  rl : ∀ r ∈ rows, r.length = L.toNat
  rb : ∀ r ∈ rows, ∀ x ∈ r, -1 ≤ x ∧ x < rows.length
  one : ∀ a b l k : Int, 0 ≤ a → 0 ≤ b → 0 ≤ k → cell rows a l = k → cell rows b l = k → a = b
theorem Reg.bd {L : Int} {rows : List (List Int)} (h : Reg L rows) (a l : Int) : cell rows a l < rows.length ∨ cell rows a l = -1 := by
  cases e : rows[a.toNat]? with
  | none => exact .inr (cell_out (.inl (List.getElem?_eq_none_iff.mp e)))
  | some r =>
    by_cases hl : l.toNat < r.length
    · refine .inl ?_
      have hm := List.mem_of_getElem? e
      have : cell rows a l = r[l.toNat] := by
        unfold cell
        rw [List.getD_eq_getElem?_getD (l := rows), e]
        show r.getD l.toNat (-1) = _
        rw [List.getD_eq_getElem?_getD, List.getElem?_eq_getElem hl]
        rfl
      rw [this]
      exact (h.rb r hm _ (List.getElem_mem hl)).2
    · exact .inr (cell_out (.inr fun r' hr' => by rw [e] at hr'; cases hr'; omega))
structure Lay (L : Int) (rows : List (List Int)) (r c : Nat) (D : Dd) : Prop where
  dr : Dr L rows.length D
  rep : ∀ x l y, 0 ≤ x → 0 < l → (go D x l = some y ↔ 0 ≤ y ∧ cell rows x (l - 1) = y ∧ (x < r ∨ (x = r ∧ l - 1 < c)))
theorem Lay.step {L : Int} {rows : List (List Int)} (R : Reg L rows) {r c : Nat} {D : Dd} (h : Lay L rows r c D) (hr : r < rows.length) (hc : c < L.toNat) {a k k2 g : Int} (ea : a = r) (ek : k = (c : Int) + 1) (ek2 : k2 = -k) (eg : g = cell rows r c) :
    ∃ D', (if (decide (0 ≤ g)) = true then ((idx D a).bind fun t16 => (dPutO t16 k g).bind fun t17 => ((idx (setI D a t17) g).bind fun t18 => (dPutO t18 k2 a).bind fun t19 => some (setI (setI D a t17) g t19))) else some D : Option Dd) = some D' ∧ Lay L rows r (c + 1) D' := by
  subst ea ek
  by_cases hg : 0 ≤ g
  · have g1 : g < rows.length := by
      rcases R.bd (r : Int) (c : Int) with h | h
      · rw [eg]; exact h
      · omega
    have a1 : (r : Int) < rows.length := by omega
    have hs : Sok L ((c : Int) + 1) := ⟨by omega, by omega, by omega⟩
    have f1 : go D r ((c : Int) + 1) = none := by
      cases e : go D r ((c : Int) + 1) with
      | none => rfl
      | some y =>
        have := (h.rep r _ y (by omega) (by omega)).mp e
        omega
    have f2 : go D g (-((c : Int) + 1)) = none := by
      cases e : go D g (-((c : Int) + 1)) with
      | none => rfl
      | some y =>
        obtain ⟨y0, _, _, hb⟩ := h.dr.ok g _ y hg e
        rw [Int.neg_neg] at hb
        obtain ⟨_, h2, h3⟩ := (h.rep y _ g y0 (by omega)).mp hb
        have h2' : cell rows y (c : Int) = g := by rw [← h2]; congr 1; omega
        have := R.one y r c g y0 (by omega) hg h2' eg.symm
        omega
    refine ⟨_, (if_pos (decide_eq_true hg)).trans (put_run h.dr R.l4 (by omega) a1 hg g1 ek2), h.dr.put (by omega) a1 hg g1 hs f1 f2, fun x l y hx hl => ?_⟩
    rw [go_put (by omega) (by rw [h.dr.len]; exact a1) hg (by rw [h.dr.len]; exact g1) hs.1 hx, if_neg (fun z => by omega)]
    by_cases e : x = (r : Int) ∧ l = (c : Int) + 1
    · rw [if_pos e]
      obtain ⟨rfl, rfl⟩ := e
      have ec : (c : Int) + 1 - 1 = c := by omega
      rw [ec, ← eg]
      constructor
      · intro z; cases z; exact ⟨hg, rfl, by omega⟩
      · rintro ⟨_, z, _⟩; rw [z]
    · rw [if_neg e, h.rep x l y hx hl]
      constructor
      · rintro ⟨z1, z2, z3⟩; exact ⟨z1, z2, by omega⟩
      · rintro ⟨z1, z2, z3⟩; exact ⟨z1, z2, by omega⟩
  · refine ⟨D, if_neg (by simpa using hg), h.dr, fun x l y hx hl => ?_⟩
    rw [h.rep x l y hx hl]
    constructor
    · rintro ⟨z1, z2, z3⟩; exact ⟨z1, z2, by omega⟩
    · rintro ⟨z1, z2, z3⟩
      refine ⟨z1, z2, ?_⟩
      by_cases e : x = (r : Int) ∧ l - 1 = c
      · rw [e.1, e.2, ← eg] at z2
        omega
      · omega
theorem Lay.row {L : Int} {rows : List (List Int)} (R : Reg L rows) {r : Nat} {D : Dd} (h : Lay L rows r L.toNat D) : Lay L rows (r + 1) 0 D := by
  refine ⟨h.dr, fun x l y hx hl => ?_⟩
  rw [h.rep x l y hx hl]
  constructor
  · rintro ⟨z1, z2, z3⟩; exact ⟨z1, z2, by omega⟩
  · rintro ⟨z1, z2, z3⟩
    refine ⟨z1, z2, ?_⟩
    by_cases e : l - 1 < L.toNat
    · omega
    · have : cell rows x (l - 1) = -1 := cell_out (.inr fun r' hr' => by rw [R.rl r' (List.mem_of_getElem? hr')]; omega)
      omega
theorem Lay.all {L : Int} {rows : List (List Int)} {D : Dd} (h : Lay L rows rows.length 0 D) (x l y : Int) (hx : 0 ≤ x) (hl : 0 < l) : go D x l = some y ↔ 0 ≤ y ∧ cell rows x (l - 1) = y := by
  rw [h.rep x l y hx hl]
  constructor
  · rintro ⟨z1, z2, _⟩; exact ⟨z1, z2⟩
  · rintro ⟨z1, z2⟩
    refine ⟨z1, z2, ?_⟩
    by_cases e : x < rows.length
    · exact .inl e
    · have : cell rows x (l - 1) = -1 := cell_out (.inl (by omega))
      omega
theorem Lay.nil {L : Int} {rows : List (List Int)} : Lay L rows 0 0 (List.replicate rows.length []) := by
  have hd := Dr.nil L rows.length (D := List.replicate rows.length []) rfl
  refine ⟨hd, fun x l y hx hl => ?_⟩
  have hr : Z.row (List.replicate rows.length []) x = [] := by
    unfold Z.row
    rw [List.getD_eq_getElem?_getD, List.getElem?_replicate]
    split <;> rfl
  unfold go
  rw [hr]
  constructor
  · intro z; cases z
  · rintro ⟨_, _, z⟩; omega
theorem letters_okW {L : Int} (h1 : 1 ≤ L) (h4 : L ≤ 4) : Q_is_letters L = some true := by
  unfold Q_is_letters Q_is_integer
  simp [h1, h4]
end Z
namespace Z
open PySem PySem.Spec L2
end Z
namespace Z
open PySem PySem.Spec L2
end Z
namespace Z
open PySem PySem.Spec L2
theorem pairs_len {α β : Type} (E : List β) : ∀ l : List α, (l.flatMap fun b => E.map fun e => (b, e)).length = l.length * E.length
  | [] => by simp
  | x :: l => by
    rw [List.flatMap_cons, List.length_append, List.length_map, pairs_len E l, List.length_cons, Nat.add_mul, Nat.one_mul]
    omega
/-- the places of such a table -/
def PlOk (n : Nat) (w : List ((Int × Int) × Int)) : Prop := (w.map Prod.fst).Nodup ∧ ∀ k ∈ w.map Prod.fst, 0 ≤ k.1 ∧ k.1 < n ∧ -4 ≤ k.2 ∧ k.2 ≤ 4
theorem PlOk.len {n : Nat} {w : List ((Int × Int) × Int)} (h : PlOk n w) : w.length ≤ n * 9 := by
  have := nodup_le (w.map Prod.fst) ((range' 0 (n : Int)).flatMap fun b => [0, 1, -1, 2, -2, 3, -3, 4, (-4 : Int)].map fun e => (b, e)) h.1 fun k hk => by
    obtain ⟨h1, h2, h3, h4⟩ := h.2 k hk
    refine List.mem_flatMap.mpr ⟨k.1, ?_, List.mem_map.mpr ⟨k.2, ?_, rfl⟩⟩
    · unfold range'
      exact List.mem_map.mpr ⟨k.1.toNat, List.mem_range.mpr (by omega), by omega⟩
    · simp only [List.mem_cons, List.not_mem_nil, or_false]
      omega
  rw [List.length_map, pairs_len, rng_len] at this
  simp only [List.length_cons, List.length_nil] at this
  omega
theorem PlOk.put {n : Nat} {w : List ((Int × Int) × Int)} (h : PlOk n w) {k : Int × Int} (v : Int) (hk : 0 ≤ k.1 ∧ k.1 < n ∧ -4 ≤ k.2 ∧ k.2 ≤ 4) : PlOk n (dPut w k v) := by
  refine ⟨dPut_nd h.1 k v, fun x hx => ?_⟩
  rw [dPut_keys] at hx
  split at hx
  · exact h.2 x hx
  · rcases List.mem_append.mp hx with hx | hx
    · exact h.2 x hx
    · rw [List.mem_singleton.mp hx]; exact hk
end Z
namespace Z
open PySem PySem.Spec L2
end Z
namespace Z
open PySem PySem.Spec L2
def Q_is_step (value : Int) (letters : Int) : Option Bool :=
  ((Q_is_integer value).bind fun t1 => some (t1 && (decide (1 ≤ (absI value)) && decide ((absI value) ≤ letters))))
def Q_is_a_walk (value : (List Int)) (letters : Int) : Option Bool :=
  ((if true = true then ((lcO (β := Bool) (fun (step1 : Int) => ((Q_is_step step1 letters).bind fun t3 => some t3)) value).bind fun t4 => some (t4.all id)) else some false).bind fun t5 => some t5)
def Q_need_walk (walk : (List Int)) (letters : Int) : Option Unit :=
  ((Q_is_a_walk walk letters).bind fun t1 => (if (!t1) = true then none else some ()))
/-- the steps that may be gone, in their order, and whither -/
def ext (L : Int) (D : Dd) (a s : Int) : List (Int × Int) := (stL L).filterMap fun t => if t = -s then none else (go D a t).map fun b => (t, b)
end Z
namespace Z
open PySem PySem.Spec L2
def codeS (t : Int) : Int := if 0 < t then 2 * t - 2 else -2 * t - 1
def keyW (w : List Int) : Int × List Int := ((w.length : Int), w.map codeS)
/-- earlier in the order -/
def klt (u v : List Int) : Bool := ltP2 ltI (ltL ltI) (keyW u) (keyW v)
def clt (u v : List Int) : Bool := ltL ltI (u.map codeS) (v.map codeS)
theorem clt_cons (s t : Int) (u v : List Int) : clt (s :: u) (t :: v) = if codeS s = codeS t then clt u v else decide (codeS s < codeS t) := rfl
theorem klt_same {u v : List Int} (h : u.length = v.length) : klt u v = clt u v := by
  unfold klt ltP2 keyW
  rw [if_pos (by rw [h])]
  rfl
theorem klt_len {u v : List Int} (h : u.length ≠ v.length) : klt u v = decide (u.length < v.length) := by
  unfold klt ltP2 keyW
  rw [if_neg (by show ¬ ((u.length : Int) = (v.length : Int)); omega)]
  unfold ltI
  simp
theorem clt_irr : ∀ u : List Int, clt u u = false
  | [] => rfl
  | s :: u => by rw [clt_cons, if_pos rfl, clt_irr u]
/-- the room behind a walk -/
def goW (D : Dd) : Int → List Int → Option Int
  | a, [] => some a
  | a, t :: w => match go D a t with
    | some b => goW D b w
    | none => none
end Z
namespace Z
open PySem PySem.Spec L2
theorem stepW_ok {L x : Int} (h : Sok L x) : Q_is_step x L = some true := by
  have a : 1 ≤ absI x ∧ absI x ≤ L := by
    obtain ⟨h1, h2, h3⟩ := h
    unfold absI
    split <;> constructor <;> omega
  unfold Q_is_step Q_is_integer
  simp [a.1, a.2]
theorem walkW_ok {L : Int} {w : List Int} (h : ∀ x ∈ w, Sok L x) (hn : w.length ≤ 100000) : Q_need_walk w L = some () := by
  unfold Q_need_walk
  refine bindS (a := true) ?_ (if_neg (by simp))
  unfold Q_is_a_walk
  rw [if_pos rfl, lcO_some (fun _ => true) (by rw [sizeL]; omega) (fun x hx => by rw [stepW_ok (h x hx)]; rfl)]
  simp
end Z
namespace Z
open PySem PySem.Spec L2
end Z
namespace Z
open PySem PySem.Spec L2
theorem rng_at {a b x : Int} {i : Nat} (h : (range' a b)[i]? = some x) : x = a + i ∧ i < (b - a).toNat := by
  have hl := (List.getElem?_eq_some_iff.mp h).1
  rw [rng_len] at hl
  unfold range' at h
  rw [List.getElem?_map, List.getElem?_range hl] at h
  exact ⟨(Option.some.inj h).symm, hl⟩
def rep (w : List Int) (m : Nat) : List Int := (List.replicate m w).flatten
theorem rep_len (w : List Int) (m : Nat) : (rep w m).length = m * w.length := flat_len w m
theorem rep_succ (w : List Int) (m : Nat) : rep w (m + 1) = w ++ rep w m := by
  unfold rep
  rw [List.replicate_succ, List.flatten_cons]
theorem rep_zero (w : List Int) : rep w 0 = [] := rfl
theorem rep_one (w : List Int) : rep w 1 = w := by rw [rep_succ, rep_zero, List.append_nil]
theorem rep_succ' (w : List Int) : ∀ m : Nat, rep w (m + 1) = rep w m ++ w
  | 0 => by rw [rep_one, rep_zero, List.nil_append]
  | m + 1 => by rw [rep_succ, rep_succ' w m, ← List.append_assoc, ← rep_succ, rep_succ' w m]
theorem rep_ok {w : List Int} {m : Int} (h0 : 0 ≤ m) (h1 : m ≤ 1000) (h : w.length ≤ 1000) : repT w m = some (rep w m.toNat) := by
  unfold repT
  rw [if_pos ⟨by omega, h1, h⟩]
  rfl
theorem iv_app (u v : List Int) : iv (u ++ v) = iv v ++ iv u := by
  unfold iv
  rw [List.reverse_append, List.map_append]
def pr (P : List Int) (i : Int) : Int := P.getD (i % (P.length : Int)).toNat 0
def dn (P : List Int) (b : Int) (n : Nat) : List Int := (List.range n).map fun (i : Nat) => pr P (b + (i : Int))
end Z
namespace Z
open PySem PySem.Spec L2
def Q_turned_back (walk : (List Int)) : Option (List Int) :=
  ((lcT (fun (step1 : Int) => (-step1)) walk.reverse).bind fun t3 => some t3)
end Z
namespace Z
open PySem PySem.Spec L2
abbrev Pc := Int × List Int
def stp (D : Dd) (p : Pc) (x : Int) : Pc := match p.2 with
  | y :: s => if y = -x then (p.1, s) else (p.1, x :: y :: s)
  | [] => match go D p.1 x with
    | some b => (b, [])
    | none => (p.1, [x])
def act (D : Dd) (p : Pc) (w : List Int) : Pc := w.foldl (stp D) p
end Z
namespace Z
open PySem PySem.Spec L2
theorem rep_addW (w : List Int) : ∀ a b : Nat, rep w (a + b) = rep w a ++ rep w b
  | 0, b => by rw [Nat.zero_add, rep_zero, List.nil_append]
  | a + 1, b => by rw [show a + 1 + b = (a + b) + 1 by omega, rep_succ, rep_addW w a b, rep_succ, List.append_assoc]
theorem rep_oneW (w : List Int) : rep w 1 = w := by rw [rep_succ, rep_zero, List.append_nil]
end Z
namespace Z
open PySem PySem.Spec L2
end Z
namespace Z
open PySem PySem.Spec L2
end Z
namespace Z
open PySem PySem.Spec L2
theorem goW_in {L : Int} {n : Nat} {D : Dd} (h : Dr L n D) : ∀ (w : List Int) (a : Int), 0 ≤ a → a < n → ∀ b, goW D a w = some b → 0 ≤ b ∧ b < n
  | [], a, a0, a1, b, e => by cases e; exact ⟨a0, a1⟩
  | x :: w, a, a0, a1, b, e => by
    unfold goW at e
    cases eg : go D a x with
    | none => rw [eg] at e; cases e
    | some c =>
      rw [eg] at e
      obtain ⟨c0, c1, _⟩ := h.ok a x c a0 eg
      exact goW_in h w c c0 c1 b e
end Z
namespace Z
open PySem PySem.Spec L2
def hel (P : Int → Bool) (most : Int) : List Int := (range' (-most) (most + 1)).filterMap fun t => if P t = true then some t else none
theorem rng_nd (a b : Int) : (range' a b).Nodup := by
  unfold range'
  rw [List.nodup_iff_pairwise_ne, List.pairwise_map]
  exact List.Pairwise.imp (fun {x y} h e => by omega) (List.pairwise_lt_range (n := (b - a).toNat))
theorem mem_rng' {a b x : Int} : x ∈ range' a b ↔ a ≤ x ∧ x < b := by
  refine ⟨mem_rng, fun h => ?_⟩
  unfold range'
  exact List.mem_map.mpr ⟨(x - a).toNat, List.mem_range.mpr (by omega), by omega⟩
def Fw (L : Int) (n : Nat) (ws : List (Int × List Int)) (o : List Int) : Prop := (∀ g, (dGet ws g).isSome = true ↔ g ∈ o) ∧ ws.length ≤ o.length ∧ ∀ g w, dGet ws g = some w → (∀ x ∈ w, Sok L x) ∧ w.length ≤ n
theorem Fw.mono {L : Int} {n m : Nat} {ws : List (Int × List Int)} {o : List Int} (h : Fw L n ws o) (k : n ≤ m) : Fw L m ws o := ⟨h.1, h.2.1, fun g w e => ⟨(h.2.2 g w e).1, Nat.le_trans (h.2.2 g w e).2 k⟩⟩
end Z
namespace Z
open PySem PySem.Spec L2
def upH (h : List Int) (a : Int) : Int := h.getD a.toNat 0
structure Hd (m : Nat) (h : List Int) : Prop where
  len : h.length = m
  le : ∀ a : Int, 0 ≤ a → a < m → 0 ≤ upH h a ∧ upH h a ≤ a
def hdN (h : List Int) : Nat → Int → Int
  | 0, a => a
  | n + 1, a => if upH h a = a then a else hdN h n (upH h a)
def hd (h : List Int) (a : Int) : Int := hdN h (a.toNat + 1) a
section
variable {m : Nat} {h : List Int} (H : Hd m h) {g k : Int} (g0 : 0 ≤ g) (g1 : g < m) (k0 : 0 ≤ k) (kg : k < g) (eg : upH h g = g) (ek : upH h k = k)
include H g0 g1 k0 kg
theorem up_set {a : Int} (a0 : 0 ≤ a) : upH (h.set g.toNat k) a = if a = g then k else upH h a := by
  unfold upH
  rw [getD_set' h g.toNat a.toNat k 0 (by rw [H.len]; omega)]
  by_cases e : a = g
  · rw [if_pos (by omega), if_pos e]
  · rw [if_neg (by omega), if_neg e]
theorem Hd.set : Hd m (h.set g.toNat k) := ⟨by rw [List.length_set]; exact H.len, fun a a0 a1 => by
  rw [up_set H g0 g1 k0 kg a0]
  split
  · omega
  · exact H.le a a0 a1⟩
include eg ek
end
/-- one and the same behind all joinings that are noted -/
def Cl2 (m : Nat) (h : List Int) (J : List (Int × Int)) (x y : Int) : Prop := ∀ E : Int → Int → Prop, Equivalence E → (∀ a : Int, 0 ≤ a → a < m → E a (hd h a)) → (∀ p ∈ J, E p.1 p.2) → E x y
theorem Cl2.refl {m : Nat} {h : List Int} {J : List (Int × Int)} (x : Int) : Cl2 m h J x x := fun E e _ _ => e.refl x
theorem Cl2.trans {m : Nat} {h : List Int} {J : List (Int × Int)} {x y z : Int} (a : Cl2 m h J x y) (b : Cl2 m h J y z) : Cl2 m h J x z := fun E e u v => e.trans (a E e u v) (b E e u v)
theorem Cl2.mono {m : Nat} {h : List Int} {J J' : List (Int × Int)} {x y : Int} (a : Cl2 m h J x y) (hj : ∀ p ∈ J, p ∈ J') : Cl2 m h J' x y := fun E e u v => a E e u fun p hp => v p (hj p hp)
/-- folding by equivalence classes -/
def Closed (Wy : Int → Int → Int → Prop) (E : Int → Int → Prop) : Prop := ∀ a a' s b b', Wy a s b → Wy a' s b' → E a a' → E b b'
structure Fo (L : Int) (m : Nat) (Wy dn : Int → Int → Int → Prop) (h : List Int) (D : Dd) (J : List (Int × Int)) (P : List (Int × Int × Int)) : Prop where
  hh : Hd m h
  len : D.length = m
  nd : ∀ d ∈ D, (d.map Prod.fst).Nodup
  sd : ∀ r s g, 0 ≤ r → go D r s = some g → ∃ a, Wy a s g ∧ hd h a = r
  sp : ∀ q ∈ P, ∃ a, Wy a q.2.1 q.2.2 ∧ hd h a = q.1
  rt : ∀ a s b, dn a s b → (∃ x, go D (hd h a) s = some x ∧ Cl2 m h J x b) ∨ ∃ x, (hd h a, s, x) ∈ P ∧ Cl2 m h J x b
  ej : ∀ p ∈ J, 0 ≤ p.1 ∧ p.1 < m ∧ 0 ≤ p.2 ∧ p.2 < m
  le : ∀ E : Int → Int → Prop, Equivalence E → Closed Wy E → (∀ a : Int, 0 ≤ a → a < m → E a (hd h a)) ∧ ∀ p ∈ J, E p.1 p.2
  dw : ∀ a s b, dn a s b → Wy a s b
structure WyB (L : Int) (m : Nat) (Wy : Int → Int → Int → Prop) : Prop where
  bd : ∀ a s b, Wy a s b → 0 ≤ a ∧ a < m ∧ 0 ≤ b ∧ b < m ∧ Sok L s
  sy : ∀ a s b, Wy a s b → Wy b (-s) a
section
variable {L : Int} {m : Nat} {Wy dn : Int → Int → Int → Prop} (B : WyB L m Wy) (h4 : L ≤ 4) (hm : m ≤ 3999)
include B h4
theorem Fo.small {h : List Int} {D : Dd} {J : List (Int × Int)} {P : List (Int × Int × Int)} (I : Fo L m Wy dn h D J P) {a : Int} (a0 : 0 ≤ a) : (row D a).length ≤ 8 := by
  by_cases a1 : a < D.length
  · refine small_of (I.nd _ (row_mem a0 a1)) fun k v e => ?_
    obtain ⟨b, w, _⟩ := I.sd a k v a0 e
    have := (B.bd b k v w).2.2.2.2
    unfold Sok at this ⊢
    omega
  · have : row D a = [] := by
      unfold row
      rw [List.getD_eq_getElem?_getD, List.getElem?_eq_none (by omega)]
      rfl
    rw [this]
    decide
end
theorem flt_le {α : Type} {p q : α → Bool} : ∀ {l : List α}, (∀ x ∈ l, p x = true → q x = true) → (l.filter p).length ≤ (l.filter q).length
  | [], _ => Nat.le_refl _
  | x :: l, h => by
    have ih := flt_le (p := p) (q := q) (l := l) fun y hy => h y (List.mem_cons_of_mem _ hy)
    rw [List.filter_cons, List.filter_cons]
    cases e : p x with
    | true =>
      rw [h x List.mem_cons_self e]
      simp only [if_true, List.length_cons]
      omega
    | false =>
      cases e2 : q x <;> simp only [Bool.false_eq_true, if_false, if_true, List.length_cons] <;> omega
theorem flt_lt {α : Type} {p q : α → Bool} {g : α} : ∀ {l : List α}, (∀ x ∈ l, p x = true → q x = true) → g ∈ l → p g = false → q g = true → (l.filter p).length < (l.filter q).length
  | [], _, hg, _, _ => nomatch hg
  | x :: l, h, hg, hp, hq => by
    have ih := fun hg => flt_lt (p := p) (q := q) (g := g) (l := l) (fun y hy => h y (List.mem_cons_of_mem _ hy)) hg hp hq
    have il := flt_le (p := p) (q := q) (l := l) fun y hy => h y (List.mem_cons_of_mem _ hy)
    rw [List.filter_cons, List.filter_cons]
    rcases List.mem_cons.mp hg with e | hg
    · rw [← e, hp, hq]
      simp only [Bool.false_eq_true, if_false, if_true, List.length_cons]
      omega
    · have := ih hg
      cases e : p x with
      | true =>
        rw [h x List.mem_cons_self e]
        simp only [if_true, List.length_cons]
        omega
      | false => cases e2 : q x <;> simp only [Bool.false_eq_true, if_false, if_true, List.length_cons] <;> omega
theorem popO_snoc {α : Type} (xs : List α) (x : α) : popO (xs ++ [x]) = some (x, xs) := by
  unfold popO
  rw [List.getLast?_concat, List.dropLast_concat]
end Z
namespace Z
open PySem PySem.Spec L2
end Z
namespace Z
open PySem PySem.Spec L2
theorem unH_some {γ : Type} : ∀ l : List γ, unH (l.map some) = some l
  | [] => rfl
  | x :: l => by
    rw [List.map_cons]
    unfold unH
    rw [unH_some l]
    rfl
theorem setI_map {α β : Type} (f : α → β) (xs : List α) (z : Int) (x : α) : (setI xs z x).map f = setI (xs.map f) z (f x) := by
  unfold setI
  rw [List.map_set, List.length_map]
theorem setI_setI {α : Type} (xs : List α) (z : Int) (x y : α) : setI (setI xs z x) z y = setI xs z y := by
  unfold setI
  rw [List.length_set, List.set_set]
theorem setI_comm {α : Type} {xs : List α} {a b : Int} (a0 : 0 ≤ a) (a1 : a < xs.length) (b0 : 0 ≤ b) (b1 : b < xs.length) (hab : a ≠ b) (x y : α) : setI (setI xs a x) b y = setI (setI xs b y) a x := by
  rw [setI_nn a0 a1, setI_nn b0 b1, setI_nn b0 (by rw [List.length_set]; exact b1), setI_nn a0 (by rw [List.length_set]; exact a1)]
  exact List.set_comm _ _ (by omega)
theorem setI_rowB {D : Dd} {a : Int} (a0 : 0 ≤ a) (a1 : a < D.length) : setI D a (row D a) = D := by
  rw [setI_nn a0 a1]
  refine List.ext_getElem? fun i => ?_
  rw [List.getElem?_set]
  by_cases h : a.toNat = i
  · subst h
    have : a.toNat < D.length := by omega
    rw [if_pos rfl, if_pos this, List.getElem?_eq_getElem this]
    unfold row
    rw [List.getD_eq_getElem?_getD, List.getElem?_eq_getElem this]
    rfl
  · rw [if_neg h]
theorem idx_setI {α : Type} {xs : List α} {a b : Int} (a0 : 0 ≤ a) (a1 : a < xs.length) (b0 : 0 ≤ b) (x : α) : idx (setI xs a x) b = if a = b then some x else idx xs b := by
  by_cases b1 : b < xs.length
  · have h1 : (setI xs a x)[b.toNat]? = if a = b then some x else xs[b.toNat]? := by
      rw [setI_nn a0 a1, List.getElem?_set]
      by_cases e : a = b
      · rw [if_pos (by omega), if_pos e, if_pos (by omega)]
      · rw [if_neg (by omega), if_neg e]
    have h2 : ∀ {ys : List α}, idx ys b = ys[b.toNat]? := fun {ys} => by
      unfold idx atI ixN
      rw [if_pos b0]
      by_cases h : b < (ys.length : Int)
      · rw [if_pos h]
        rfl
      · rw [if_neg h]
        exact (List.getElem?_eq_none (by omega)).symm
    rw [h2, h1, h2]
  · have h2 : ∀ {ys : List α}, ys.length = xs.length → idx ys b = none := fun {ys} e => by
      unfold idx atI ixN
      rw [if_pos b0, if_neg (by omega)]
      rfl
    rw [h2 (setI_len _ _ _), h2 rfl, if_neg (by omega)]
/-- loops that are straight are kept -/
theorem loops_del {L : Int} {n : Nat} {D : Dd} (h : Dr L n D) {c r k g : Int} (r0 : 0 ≤ r) (hrc : r ≠ c) (hr : row D r = [(k, g)]) : ∀ (w : List Int) (a : Int), 0 ≤ a → a ≠ r → Gd w → goW D a w = some c → goW (delD D r k g) a w = some c
  | [], a, _, _, _, e => e
  | t :: w, a, a0, har, gw, e => by
    have hg0 : go D r k = some g := by
      unfold go
      rw [hr, dGet_cons, if_pos rfl]
    unfold goW at e ⊢
    cases hb : go D a t with
    | none => rw [hb] at e; cases e
    | some b =>
      rw [hb] at e
      obtain ⟨b0, _, _, hback⟩ := h.ok a t b a0 hb
      by_cases hbr : b = r
      · subst hbr
        exfalso
        have hk : k = -t := by
          unfold go at hback
          rw [hr, dGet_cons] at hback
          by_cases z : k = -t
          · exact z
          · rw [if_neg z] at hback
            cases hback
        cases w with
        | nil =>
          have e : some b = some c := e
          cases e
          exact hrc rfl
        | cons u w =>
          have e : (match go D b u with | some b => goW D b w | none => none) = some c := e
          have hu : u = k := by
            unfold go at e
            rw [hr, dGet_cons] at e
            by_cases z : k = u
            · exact z.symm
            · rw [if_neg z] at e
              cases e
          exact gw.1 (by rw [hu, hk])
      · have hd : go (delD D r k g) a t = some b := by
          rw [go_del r0 (go_lt r0 hg0) (h.ok r k g r0 hg0).1 (by rw [h.len]; exact (h.ok r k g r0 hg0).2.1) (h.ok r k g r0 hg0).2.2.1.1 a0, if_neg]
          · exact hb
          · rintro (⟨rfl, rfl⟩ | ⟨rfl, _⟩)
            · have := (h.ok r k a r0 hg0).2.2.2
              rw [this] at hb
              cases hb
              exact hbr rfl
            · exact har rfl
        rw [hd]
        exact loops_del h r0 hrc hr w b b0 hbr (gd_tail gw) e
def tmF (home : Int) (s11 : List Int × Dd) : Option (Step Dd (List Int × Dd)) :=
  (((popO s11.1).bind fun t16 => ((idx s11.2 t16.1).bind fun t17 => ((lp (fun (s18 : ((List Int) × (List (Option (List (Int × Int)))))) (x19 : (Int × Int)) => ((idxH s18.2 x19.2).bind fun t23 => (dPopO t23 (-x19.1)).bind fun t24 => ((if (!decide (x19.2 = home)) = true then ((idxH (setI s18.2 x19.2 (some t24.2)) x19.2).bind fun t25 => some (decide ((t25.length : Int) = 1))) else some false).bind fun t26 => ((if t26 = true then ((appO s18.1 x19.2).bind fun t27 => some t27) else some s18.1 : Option (List Int)).bind fun s28 => some (s28, (setI s18.2 x19.2 (some t24.2))))))) t17 (t16.2, (setI (List.map some s11.2) t16.1 none))).bind fun f20 => ((idx f20.2 t16.1).bind fun t30 => (unH (setI f20.2 t16.1 (some ([] : (List (Int × Int)))))).bind fun t31 => some (Step.go (f20.1, t31)))))))
theorem tmF_ok {L : Int} {n : Nat} {D : Dd} (h : Dr L n D) {home r : Int} {idle : List Int} (r0 : 0 ≤ r) (r1 : r < n) (hl : (row D r).length ≤ 1) (hi : idle.length < 10000000) :
    ∃ idle' D', tmF home (idle ++ [r], D) = some (Step.go (idle', D')) ∧ ((row D r = [] ∧ D' = D ∧ idle' = idle) ∨ ∃ k g, row D r = [(k, g)] ∧ g ≠ r ∧ D' = delD D r k g ∧ idle' = if g ≠ home ∧ (row D' g).length = 1 then idle ++ [g] else idle) := by
  have r2 : r < D.length := by rw [h.len]; exact r1
  have r3 : r < (D.map some).length := by rw [List.length_map]; exact r2
  unfold tmF
  rcases e : row D r with _ | ⟨⟨k, g⟩, t⟩
  · refine ⟨idle, D, ?_, .inl ⟨rfl, rfl, rfl⟩⟩
    refine bindS (popO_snoc _ _) (bindS (idx_row r0 r2) ?_)
    show ((lp _ (row D r) _).bind _) = _
    rw [e]
    refine bindS (a := (idle, setI (D.map some) r none)) rfl (bindS (a := none) ?_ (bindS (a := D) ?_ rfl))
    · rw [idx_setI r0 r3 r0, if_pos rfl]
    · show unH (setI (setI (D.map some) r none) r (some [])) = some D
      rw [setI_setI, ← e, ← setI_map, setI_rowB r0 r2]
      exact unH_some D
  · have ht : t = [] := by
      rw [e, List.length_cons] at hl
      exact List.eq_nil_of_length_eq_zero (by omega)
    subst ht
    have hg : go D r k = some g := by
      unfold go
      rw [e, dGet_cons, if_pos rfl]
    obtain ⟨g0, g1, sk, hb⟩ := h.ok r k g r0 hg
    have g2 : g < D.length := by rw [h.len]; exact g1
    have g3 : g < (D.map some).length := by rw [List.length_map]; exact g2
    have hgr : g ≠ r := fun z => by
      subst z
      unfold go at hb
      rw [e, dGet_cons] at hb
      have := sk.1
      rw [if_neg (by omega)] at hb
      cases hb
    have hD : delD D r k g = setI (setI D g (dDel (row D g) (-k))) r [] := by
      unfold delD
      rw [row_set r0 r2 g0, if_neg (Ne.symm hgr), e]
      rw [show dDel [(k, g)] k = [] from by simp [dDel]]
      exact setI_comm r0 r2 g0 g2 (Ne.symm hgr) _ _
    have hrow : row (delD D r k g) g = dDel (row D g) (-k) := by
      rw [hD, row_set r0 (by rw [setI_len]; exact r2) g0, if_neg (Ne.symm hgr), row_set g0 g2 g0, if_pos rfl]
    -- the walk over one door
    have i1 : idxH (setI (D.map some) r none) g = some (row D g) := by
      unfold idxH
      rw [idx_setI r0 r3 g0, if_neg (Ne.symm hgr), idx_mapS (idx_row g0 g2)]
      rfl
    have i2 : dPopO (row D g) (-k) = some (r, dDel (row D g) (-k)) := by
      unfold dPopO
      rw [show dGet (row D g) (-k) = some r from hb]
      rfl
    have i3 : idxH (setI (setI (D.map some) r none) g (some (dDel (row D g) (-k)))) g = some (dDel (row D g) (-k)) := by
      unfold idxH
      rw [idx_setI g0 (by rw [setI_len]; exact g3) g0, if_pos rfl]
      rfl
    have i4 : idx (setI (setI (D.map some) r none) g (some (dDel (row D g) (-k)))) r = some none := by
      rw [idx_setI g0 (by rw [setI_len]; exact g3) r0, if_neg hgr, idx_setI r0 r3 r0, if_pos rfl]
    have i5 : unH (setI (setI (setI (D.map some) r none) g (some (dDel (row D g) (-k)))) r (some [])) = some (delD D r k g) := by
      rw [setI_comm r0 r3 g0 g3 (Ne.symm hgr), setI_setI, hD, ← setI_map, ← setI_map]
      exact unH_some _
    refine ⟨if g ≠ home ∧ (row (delD D r k g) g).length = 1 then idle ++ [g] else idle, delD D r k g, ?_, .inr ⟨k, g, rfl, hgr, rfl, rfl⟩⟩
    refine bindS (popO_snoc _ _) (bindS (idx_row r0 r2) ?_)
    show ((lp _ (row D r) _).bind _) = _
    rw [e]
    refine bindS (a := (if g ≠ home ∧ (row (delD D r k g) g).length = 1 then idle ++ [g] else idle, setI (setI (D.map some) r none) g (some (dDel (row D g) (-k))))) ?_ (bindS i4 (bindS i5 rfl))
    unfold lp
    refine bindS (bindS i1 (bindS i2 (bindS (a := decide (g ≠ home ∧ (row (delD D r k g) g).length = 1)) ?_ (bindS (a := if g ≠ home ∧ (row (delD D r k g) g).length = 1 then idle ++ [g] else idle) ?_ rfl)))) rfl
    · rw [hrow]
      by_cases z : g = home
      · exact (if_neg (by simp [z])).trans (by simp [z])
      · refine (if_pos (by simp [z])).trans (bindS i3 ?_)
        simp [z]
        omega
    · by_cases z : g ≠ home ∧ (row (delD D r k g) g).length = 1
      · rw [if_pos z]
        exact (if_pos (decide_eq_true z)).trans (bindS (app_ok (by show idle.length < _; rw [sizeL]; omega)) rfl)
      · rw [if_neg z]
        exact if_neg (by simpa using z)
structure Trm (L : Int) (n : Nat) (home : Int) (D0 D : Dd) (idle : List Int) : Prop where
  dr : Dr L n D
  sub : ∀ a s b, 0 ≤ a → go D a s = some b → go D0 a s = some b
  lo : ∀ w, Gd w → goW D0 home w = some home → goW D home w = some home
  id1 : ∀ r ∈ idle, 0 ≤ r ∧ r < n ∧ r ≠ home ∧ (row D r).length ≤ 1
  id2 : ∀ a : Int, 0 ≤ a → a < n → a ≠ home → (row D a).length = 1 → a ∈ idle
def neR (n : Nat) (D : Dd) : Nat := ((range' 0 (n : Int)).filter fun a => decide (row D a ≠ [])).length
theorem Trm.step {L : Int} {n : Nat} {home : Int} (hh : 0 ≤ home) {D0 D : Dd} {idle : List Int} {r : Int} (T : Trm L n home D0 D (idle ++ [r])) (hi : idle.length < 10000000) :
    ∃ idle' D', tmF home (idle ++ [r], D) = some (Step.go (idle', D')) ∧ Trm L n home D0 D' idle' ∧ idle'.length + neR n D' < (idle.length + 1) + neR n D := by
  obtain ⟨r0, r1, rh, rl⟩ := T.id1 r (List.mem_append_right _ List.mem_cons_self)
  obtain ⟨idle', D', e, hc⟩ := tmF_ok (home := home) T.dr r0 r1 rl hi
  refine ⟨idle', D', e, ?_⟩
  rcases hc with ⟨hr, rfl, rfl⟩ | ⟨k, g, hr, hgr, rfl, rfl⟩
  · refine ⟨⟨T.dr, T.sub, T.lo, fun x hx => T.id1 x (List.mem_append_left _ hx), fun a a0 a1 ah al => ?_⟩, by omega⟩
    rcases List.mem_append.mp (T.id2 a a0 a1 ah al) with z | z
    · exact z
    · rw [List.mem_singleton.mp z, hr] at al
      cases al
  · have hg : go D r k = some g := by
      unfold go
      rw [hr, dGet_cons, if_pos rfl]
    obtain ⟨g0, g1, sk, hb⟩ := T.dr.ok r k g r0 hg
    have rl' : r < D.length := by rw [T.dr.len]; exact r1
    have gl' : g < D.length := by rw [T.dr.len]; exact g1
    have d2 := T.dr.del r0 hg
    have rw1 : ∀ x : Int, 0 ≤ x → row (delD D r k g) x = if x = g then dDel (row D g) (-k) else if x = r then [] else row D x := fun x x0 => by
      unfold delD
      rw [row_set g0 (by rw [setI_len]; exact gl') x0, row_set r0 rl' g0, if_neg (Ne.symm hgr), row_set r0 rl' x0, hr]
      by_cases e1 : x = g
      · rw [if_pos e1.symm, if_pos e1]
      · rw [if_neg (fun z => e1 z.symm), if_neg e1]
        by_cases e2 : x = r
        · rw [if_pos e2.symm, if_pos e2]
          simp [dDel]
        · rw [if_neg (fun z => e2 z.symm), if_neg e2]
    refine ⟨⟨d2, fun a s b a0 hx => ?_, fun w gw hw => ?_, fun x hx => ?_, fun a a0 a1 ah al => ?_⟩, ?_⟩
    · rw [go_del r0 rl' g0 gl' sk.1 a0] at hx
      split at hx
      · cases hx
      · exact T.sub a s b a0 hx
    · exact loops_del T.dr r0 rh hr w home hh (Ne.symm rh) gw (T.lo w gw hw)
    · have old : ∀ y ∈ idle, 0 ≤ y ∧ y < n ∧ y ≠ home ∧ (row (delD D r k g) y).length ≤ 1 := fun y hy => by
        obtain ⟨y0, y1, yh, yl⟩ := T.id1 y (List.mem_append_left _ hy)
        refine ⟨y0, y1, yh, ?_⟩
        rw [rw1 y y0]
        split
        · rename_i e1
          rw [e1] at yl
          have : (dDel (row D g) (-k)).length ≤ (row D g).length := List.length_filter_le _ _
          omega
        · split
          · exact Nat.zero_le _
          · exact yl
      split at hx
      · rename_i z
        rcases List.mem_append.mp hx with hx | hx
        · exact old x hx
        · rw [List.mem_singleton.mp hx]
          exact ⟨g0, g1, z.1, by rw [z.2]; exact Nat.le_refl _⟩
      · exact old x hx
    · by_cases e1 : a = g
      · subst e1
        rw [if_pos ⟨ah, al⟩]
        exact List.mem_append_right _ List.mem_cons_self
      · have ra : row (delD D r k g) a = if a = r then [] else row D a := by rw [rw1 a a0, if_neg e1]
        by_cases e2 : a = r
        · rw [ra, if_pos e2] at al
          cases al
        · rw [ra, if_neg e2] at al
          have : a ∈ idle := by
            rcases List.mem_append.mp (T.id2 a a0 a1 ah al) with z | z
            · exact z
            · exact absurd (List.mem_singleton.mp z) e2
          split
          · exact List.mem_append_left _ this
          · exact this
    · have lt : neR n (delD D r k g) < neR n D := by
        refine flt_lt (g := r) (fun x hx hp => ?_) (mem_rng'.mpr ⟨r0, r1⟩) ?_ (by simp [hr])
        · have x0 := (mem_rng hx).1
          rw [rw1 x x0] at hp
          refine decide_eq_true fun z => ?_
          have hp := of_decide_eq_true hp
          split at hp
          · rename_i e1
            rw [e1] at z
            rw [z] at hp
            exact hp rfl
          · split at hp
            · exact hp rfl
            · exact hp z
        · rw [rw1 r r0, if_neg (Ne.symm hgr), if_pos rfl]
          simp
      have : (if g ≠ home ∧ (row (delD D r k g) g).length = 1 then idle ++ [g] else idle).length ≤ idle.length + 1 := by
        split
        · rw [List.length_append]
          exact Nat.le_refl _
        · omega
      omega
end Z
namespace Z
open PySem PySem.Spec L2
end Z
namespace Z
open PySem PySem.Spec L2
theorem goW_app {D : Dd} : ∀ (u v : List Int) (a : Int), goW D a (u ++ v) = (goW D a u).bind fun b => goW D b v
  | [], v, a => rfl
  | x :: u, v, a => by
    show (match go D a x with | some b => goW D b (u ++ v) | none => none) = ((match go D a x with | some b => goW D b u | none => none) : Option Int).bind _
    cases go D a x with
    | none => rfl
    | some b => exact goW_app u v b
end Z
namespace Z
open PySem PySem.Spec L2
end Z
namespace Z
open PySem PySem.Spec L2
def Sub (D1 D2 : Dd) (p0 : Pc) : Prop := ∀ w : List Int, (∀ x ∈ w, x ≠ 0) → act D1 (0, []) w = (0, []) → act D2 p0 w = p0
end Z
namespace Z
open PySem PySem.Spec L2
end Z
namespace Z
open PySem PySem.Spec L2
end Z
namespace Z
open PySem PySem.Spec L2
end Z
namespace Z
open PySem PySem.Spec L2
end Z
namespace Z
open PySem PySem.Spec L2
end Z
namespace Z
open PySem PySem.Spec L2
def fwStep (D : Dd) (a : Int) (ws : List (Int × List Int)) (s : Int) : List (Int × List Int) := match go D a s with
  | none => ws
  | some g => if (dGet ws g).isSome = true then ws else dPut ws g ((dGet ws a).getD [] ++ [s])
def visS (D : Dd) (a : Int) (o : List Int) (s : Int) : List Int := match go D a s with
  | none => o
  | some g => vis o g
end Z
namespace Z
open PySem PySem.Spec L2
theorem klt_snoc {u v : List Int} (s t : Int) (h : klt u v = true) : klt (u ++ [s]) (v ++ [t]) = true := by
  have key : ∀ u v : List Int, u.length = v.length → clt u v = true → clt (u ++ [s]) (v ++ [t]) = true := by
    intro u
    induction u with
    | nil =>
      intro v hl hc
      cases v with
      | nil => rw [clt_irr] at hc; cases hc
      | cons _ _ => cases hl
    | cons x u ih =>
      intro v hl hc
      cases v with
      | nil => cases hl
      | cons y v =>
        rw [clt_cons] at hc
        show clt (x :: (u ++ [s])) (y :: (v ++ [t])) = true
        rw [clt_cons]
        by_cases e : codeS x = codeS y
        · rw [if_pos e] at hc ⊢
          exact ih v (Nat.succ.inj hl) hc
        · rw [if_neg e] at hc ⊢
          exact hc
  by_cases hl : u.length = v.length
  · rw [klt_same hl] at h
    rw [klt_same (by rw [List.length_append, List.length_append, hl]; rfl)]
    exact key u v hl h
  · rw [klt_len hl, decide_eq_true_eq] at h
    rw [klt_len (by rw [List.length_append, List.length_append]; show u.length + 1 ≠ v.length + 1; omega), decide_eq_true_eq, List.length_append, List.length_append]
    show u.length + 1 < v.length + 1
    omega
theorem klt_last {s t : Int} (h : codeS s < codeS t) : ∀ u : List Int, klt (u ++ [s]) (u ++ [t]) = true := fun u => by
  rw [klt_same (by rw [List.length_append, List.length_append]; rfl)]
  induction u with
  | nil =>
    show clt [s] [t] = true
    rw [clt_cons, if_neg (by omega)]
    exact decide_eq_true h
  | cons x u ih =>
    show clt (x :: (u ++ [s])) (x :: (u ++ [t])) = true
    rw [clt_cons, if_pos rfl]
    exact ih
theorem klt_nil (u : List Int) (s : Int) : klt [] (u ++ [s]) = true := by
  rw [klt_len (by rw [List.length_append]; show 0 ≠ u.length + 1; omega), decide_eq_true_eq, List.length_append]
  show 0 < u.length + 1
  omega
def wv (ws : List (Int × List Int)) (g : Int) : List Int := (dGet ws g).getD []
/-- what holds while the room a is gone through, the steps pre behind -/
structure Fi (L : Int) (D : Dd) (ws : List (Int × List Int)) (o : List Int) (a : Int) (pre : List Int) : Prop where
  key : ∀ g, (dGet ws g).isSome = true ↔ g ∈ o
  zero : dGet ws 0 = some []
  led : ∀ g ∈ o, goW D 0 (wv ws g) = some g
  asc : ∀ (i j : Nat) (x y : Int), o[i]? = some x → o[j]? = some y → i < j → klt (wv ws x) (wv ws y) = true
  par : ∀ g ∈ o, wv ws g = [] ∨ ∃ v s, wv ws g = v ++ [s] ∧ (klt v (wv ws a) = true ∨ (v = wv ws a ∧ s ∈ pre))
theorem Fi.below {L : Int} {D : Dd} {ws : List (Int × List Int)} {o pre : List Int} {a t : Int} (f : Fi L D ws o a pre) (hp : ∀ s ∈ pre, codeS s < codeS t) {g : Int} (hg : g ∈ o) : klt (wv ws g) (wv ws a ++ [t]) = true := by
  rcases f.par g hg with e | ⟨v, s, e, h | ⟨rfl, h⟩⟩
  · rw [e]; exact klt_nil _ _
  · rw [e]; exact klt_snoc s t h
  · rw [e]; exact klt_last (hp s h) _
theorem Fi.step {L : Int} {n : Nat} {D : Dd} (h : Dr L n D) {ws : List (Int × List Int)} {o pre : List Int} {a t : Int} (a0 : 0 ≤ a) (f : Fi L D ws o a pre) (ha : a ∈ o) (hp : ∀ s ∈ pre, codeS s < codeS t) :
    Fi L D (fwStep D a ws t) (visS D a o t) a (pre ++ [t]) ∧ (∀ g ∈ o, wv (fwStep D a ws t) g = wv ws g) ∧ (∀ g ∈ o, g ∈ visS D a o t) ∧ ∀ g, go D a t = some g → g ∈ visS D a o t ∧ (wv (fwStep D a ws t) g = wv ws a ++ [t] ∨ klt (wv (fwStep D a ws t) g) (wv ws a ++ [t]) = true) := by
  have wid : Fi L D ws o a (pre ++ [t]) := ⟨f.key, f.zero, f.led, f.asc, fun g hg => (f.par g hg).imp id fun ⟨v, s, e, q⟩ => ⟨v, s, e, q.imp id fun q => ⟨q.1, List.mem_append_left _ q.2⟩⟩⟩
  unfold fwStep visS
  cases hgo : go D a t with
  | none => exact ⟨wid, fun _ _ => rfl, fun _ z => z, fun _ z => nomatch z⟩
  | some g =>
    show Fi L D (if (dGet ws g).isSome = true then ws else dPut ws g ((dGet ws a).getD [] ++ [t])) (vis o g) a (pre ++ [t]) ∧ (∀ x ∈ o, wv (if (dGet ws g).isSome = true then ws else dPut ws g ((dGet ws a).getD [] ++ [t])) x = wv ws x) ∧ (∀ x ∈ o, x ∈ vis o g) ∧ ∀ x, some g = some x → x ∈ vis o g ∧ (wv (if (dGet ws g).isSome = true then ws else dPut ws g ((dGet ws a).getD [] ++ [t])) x = wv ws a ++ [t] ∨ klt (wv (if (dGet ws g).isSome = true then ws else dPut ws g ((dGet ws a).getD [] ++ [t])) x) (wv ws a ++ [t]) = true)
    by_cases hm : g ∈ o
    · have hv : vis o g = o := if_pos hm
      rw [hv, if_pos ((f.key g).mpr hm)]
      refine ⟨wid, fun _ _ => rfl, fun _ z => z, fun x e => ?_⟩
      cases e
      exact ⟨hm, .inr (f.below hp hm)⟩
    · have hv : vis o g = o ++ [g] := if_neg hm
      have hnone : ¬ (dGet ws g).isSome = true := fun z => hm ((f.key g).mp z)
      rw [hv, if_neg hnone]
      have new : wv (dPut ws g ((dGet ws a).getD [] ++ [t])) g = wv ws a ++ [t] := by
        unfold wv
        rw [dGet_put, if_pos rfl]
        rfl
      have old : ∀ x ∈ o, wv (dPut ws g ((dGet ws a).getD [] ++ [t])) x = wv ws x := fun x hx => by
        have hgx : g ≠ x := fun e => hm (by rw [e]; exact hx)
        unfold wv
        rw [dGet_put, if_neg hgx]
      have h0 : (0 : Int) ∈ o := (f.key 0).mp (by rw [f.zero]; rfl)
      have hg0 : g ≠ 0 := fun e => hm (e ▸ h0)
      refine ⟨⟨fun x => ?_, by rw [dGet_put, if_neg hg0]; exact f.zero, fun x hx => ?_, fun i j x y hx hy hij => ?_, fun x hx => ?_⟩, old, fun x hx => List.mem_append_left _ hx, fun x e => by cases e; exact ⟨by simp, .inl new⟩⟩
      · rw [dGet_put, List.mem_append, List.mem_singleton]
        by_cases e : g = x
        · subst e; simp
        · rw [if_neg e, f.key x]
          exact ⟨.inl, fun z => z.elim id fun z => absurd z.symm e⟩
      · rcases List.mem_append.mp hx with hx | hx
        · rw [old x hx]
          exact f.led x hx
        · rw [List.mem_singleton.mp hx, new, goW_app, f.led a ha]
          show (match go D a t with | some b => goW D b [] | none => none) = some g
          rw [hgo]
          rfl
      · have hjl := (List.getElem?_eq_some_iff.mp hy).1
        rw [List.length_append] at hjl
        have hjl : j < o.length + 1 := hjl
        have hx' : o[i]? = some x := by rw [List.getElem?_append_left (by omega)] at hx; exact hx
        have mx := List.mem_of_getElem? hx'
        by_cases hj : j < o.length
        · rw [List.getElem?_append_left hj] at hy
          rw [old x mx, old y (List.mem_of_getElem? hy)]
          exact f.asc i j x y hx' hy hij
        · have ej : j = o.length := by omega
          rw [ej, List.getElem?_append_right (Nat.le_refl _), Nat.sub_self] at hy
          have ey : g = y := Option.some.inj hy
          rw [← ey, new, old x mx]
          exact f.below hp mx
      · rcases List.mem_append.mp hx with hx | hx
        · rw [old x hx, old a ha]
          exact wid.par x hx
        · rw [List.mem_singleton.mp hx, new, old a ha]
          exact .inr ⟨wv ws a, t, rfl, .inr ⟨rfl, by simp⟩⟩
/-- what is so of the pairs that are behind -/
def Done (D : Dd) (ws : List (Int × List Int)) (o : List Int) (b s : Int) : Prop := ∀ g, go D b s = some g → g ∈ o ∧ (wv ws g = wv ws b ++ [s] ∨ klt (wv ws g) (wv ws b ++ [s]) = true)
theorem Fi.all {L : Int} {n : Nat} {D : Dd} (h : Dr L n D) {a : Int} (a0 : 0 ≤ a) : ∀ (ss pre : List Int) (ws : List (Int × List Int)) (o : List Int), Fi L D ws o a pre → a ∈ o → (pre ++ ss).Pairwise (fun s t => codeS s < codeS t) →
    Fi L D (ss.foldl (fwStep D a) ws) (ss.foldl (visS D a) o) a (pre ++ ss) ∧ (∀ g ∈ o, wv (ss.foldl (fwStep D a) ws) g = wv ws g) ∧ (∀ g ∈ o, g ∈ ss.foldl (visS D a) o) ∧ (∀ b s, b ∈ o → Done D ws o b s → Done D (ss.foldl (fwStep D a) ws) (ss.foldl (visS D a) o) b s) ∧ ∀ s ∈ ss, Done D (ss.foldl (fwStep D a) ws) (ss.foldl (visS D a) o) a s
  | [], pre, ws, o, f, _, _ => by
    rw [List.append_nil]
    exact ⟨f, fun _ _ => rfl, fun _ z => z, fun _ _ _ z => z, fun _ z => nomatch z⟩
  | s :: ss, pre, ws, o, f, ha, hp => by
    have hp1 : ∀ x ∈ pre, codeS x < codeS s := fun x hx => (List.pairwise_append.mp hp).2.2 x hx s List.mem_cons_self
    obtain ⟨f1, k1, o1, d1⟩ := f.step h a0 ha hp1
    have e : pre ++ s :: ss = (pre ++ [s]) ++ ss := by rw [List.append_assoc]; rfl
    obtain ⟨f2, k2, o2, d2, n2⟩ := Fi.all h a0 ss (pre ++ [s]) (fwStep D a ws s) (visS D a o s) f1 (o1 a ha) (by rw [← e]; exact hp)
    rw [e]
    have carry : ∀ b t, b ∈ o → Done D ws o b t → Done D (fwStep D a ws s) (visS D a o s) b t := fun b t hb hd g hg => by
      obtain ⟨z1, z2⟩ := hd g hg
      rw [k1 g z1, k1 b hb]
      exact ⟨o1 g z1, z2⟩
    refine ⟨f2, fun g hg => by rw [List.foldl_cons, k2 g (o1 g hg), k1 g hg], fun g hg => o2 g (o1 g hg), fun b t hb hd => d2 b t (o1 b hb) (carry b t hb hd), fun t ht => ?_⟩
    rcases List.mem_cons.mp ht with rfl | ht
    · refine d2 a t (o1 a ha) fun g hg => ?_
      obtain ⟨z1, z2⟩ := d1 g hg
      rw [k1 a ha]
      exact ⟨z1, z2⟩
    · exact n2 t ht
end Z
namespace Z
open PySem PySem.Spec L2
end Z
namespace Z
open PySem PySem.Spec L2
end Z
namespace Z
open PySem PySem.Spec L2
structure TrA (L : Int) (n : Nat) (home : Int) (D0 D : Dd) : Prop where
  dr : Dr L n D
  sub : ∀ a s b, 0 ≤ a → go D a s = some b → go D0 a s = some b
  lo : ∀ w, Gd w → goW D0 home w = some home → goW D home w = some home
theorem TrA.del {L : Int} {n : Nat} {home : Int} (hh : 0 ≤ home) {D0 D : Dd} {r k g : Int} (T : TrA L n home D0 D) (r0 : 0 ≤ r) (r1 : r < n) (rh : r ≠ home) (hr : row D r = [(k, g)]) :
    TrA L n home D0 (delD D r k g) ∧ neR n (delD D r k g) < neR n D ∧ g ≠ r ∧ go D r k = some g ∧ delD D r k g = setI (setI D g (dDel (row D g) (-k))) r [] := by
  have r2 : r < D.length := by rw [T.dr.len]; exact r1
  have hg : go D r k = some g := by
    unfold go
    rw [hr, dGet_cons, if_pos rfl]
  obtain ⟨g0, g1, sk, hb⟩ := T.dr.ok r k g r0 hg
  have gl' : g < D.length := by rw [T.dr.len]; exact g1
  have hgr : g ≠ r := fun z => by
    subst z
    unfold go at hb
    rw [hr, dGet_cons] at hb
    have := sk.1
    rw [if_neg (by omega)] at hb
    cases hb
  have hD : delD D r k g = setI (setI D g (dDel (row D g) (-k))) r [] := by
    unfold delD
    rw [row_set r0 r2 g0, if_neg (Ne.symm hgr), hr]
    rw [show dDel [(k, g)] k = [] from by simp [dDel]]
    exact setI_comm r0 r2 g0 gl' (Ne.symm hgr) _ _
  have rw1 : ∀ x : Int, 0 ≤ x → row (delD D r k g) x = if x = g then dDel (row D g) (-k) else if x = r then [] else row D x := fun x x0 => by
    unfold delD
    rw [row_set g0 (by rw [setI_len]; exact gl') x0, row_set r0 r2 g0, if_neg (Ne.symm hgr), row_set r0 r2 x0, hr]
    by_cases e1 : x = g
    · rw [if_pos e1.symm, if_pos e1]
    · rw [if_neg (fun z => e1 z.symm), if_neg e1]
      by_cases e2 : x = r
      · rw [if_pos e2.symm, if_pos e2]
        simp [dDel]
      · rw [if_neg (fun z => e2 z.symm), if_neg e2]
  refine ⟨⟨T.dr.del r0 hg, fun a s b a0 hx => ?_, fun w gw hw => loops_del T.dr r0 rh hr w home hh (Ne.symm rh) gw (T.lo w gw hw)⟩, ?_, hgr, hg, hD⟩
  · rw [go_del r0 r2 g0 gl' sk.1 a0] at hx
    split at hx
    · cases hx
    · exact T.sub a s b a0 hx
  · refine flt_lt (g := r) (fun x hx hp => ?_) (mem_rng'.mpr ⟨r0, r1⟩) ?_ (by simp [hr])
    · have x0 := (mem_rng hx).1
      rw [rw1 x x0] at hp
      refine decide_eq_true fun z => ?_
      have hp := of_decide_eq_true hp
      split at hp
      · rename_i e1
        rw [e1] at z
        rw [z] at hp
        exact hp rfl
      · split at hp
        · exact hp rfl
        · exact hp z
    · rw [rw1 r r0, if_neg (Ne.symm hgr), if_pos rfl]
      simp
end Z
namespace Z
open PySem PySem.Spec L2
abbrev Str3 := Tri (List Int) Int Int
def S_turned_back (walk : (List Int)) : Option (List Int) :=
  ((lcT (fun (step1 : Int) => (-step1)) walk.reverse).bind fun t3 => some t3)
theorem tback_okS {w : List Int} (h : w.length ≤ 100000) : S_turned_back w = some (iv w) := by
  unfold S_turned_back
  rw [lcT_some _ (by rw [List.length_reverse]; exact Nat.lt_of_le_of_lt h (by decide))]
  rfl
/-- the steps of a stretch, of a list of them -/
def den (s : Str3) : List Int := dn s.a s.b s.c.toNat
def denL (l : List Str3) : List Int := (l.map den).flatten
/-- as often as that at most -/
abbrev most30 : Int := 1000000000000000000000000000000
/-- a stretch as it should be: a period of at most n steps, begun at one of its places -/
structure Stre (n : Nat) (L : Int) (s : Str3) : Prop where
  ne : s.a ≠ []
  le : s.a.length ≤ n
  b0 : 0 ≤ s.b
  b1 : s.b < s.a.length
  c0 : 0 < s.c
  c1 : s.c ≤ most30 * (s.a.length : Int)
  ok : ∀ x ∈ s.a, Sok L x
theorem Stre.mono {n m : Nat} {L : Int} {s : Str3} (h : Stre n L s) (k : n ≤ m) : Stre m L s := ⟨h.ne, Nat.le_trans h.le k, h.b0, h.b1, h.c0, h.c1, h.ok⟩
theorem Stre.pos {n : Nat} {L : Int} {s : Str3} (h : Stre n L s) : 0 < s.a.length := List.length_pos_iff.mpr h.ne
/-- a straight list of stretches -/
structure Lst (n : Nat) (L : Int) (l : List Str3) : Prop where
  ok : ∀ s ∈ l, Stre n L s
  gd : Gd (denL l)
theorem Lst.nil {n : Nat} {L : Int} : Lst n L [] := ⟨(fun _ z => nomatch z), trivial⟩
end Z
namespace Z
open PySem PySem.Spec L2
/-- a walk as many times as t tells, turned back if t is below 0 -/
def timesW (w : List Int) (t : Int) : List Int := rep (if 0 < t then w else iv w) t.natAbs
/-- all steps of a short writing, written out -/
def outW : List (List Int × Int) → List Int
  | [] => []
  | p :: r => timesW p.1 p.2 ++ outW r
/-- a short writing whose walks are no longer than n -/
structure ShO (n : Nat) (L : Int) (sh : List (List Int × Int)) : Prop where
  len : ∀ p ∈ sh, p.1.length ≤ n
  ok : ∀ p ∈ sh, ∀ x ∈ p.1, Sok L x
  tz : ∀ p ∈ sh, p.2 ≠ 0 ∧ p.2.natAbs ≤ 1000000000000000000000000000000
end Z
namespace Z
open PySem PySem.Spec L2
def wellB (script : (List Int)) (k_ : Int) : Option (List Int) :=
  ((if (decide (k_ < (script.length : Int))) = true then ((idx script k_).bind fun t1 => some t1) else some (((43 * k_) + 29) + (7 * (script.length : Int))) : Option Int).bind fun s2 => ((lcT (fun (other3 : Int) => (other3 % 1000000000000000000000007)) script).bind fun t5 => ((some ((((((absI s2) * 60013) + (11 * (if (decide (s2 < 0)) = true then 1 else 0))) + (t5.sum * 1327217)) + (97 * k_)) % 1000000000000000000000000000057)).bind fun seed6 => some [(maxI 0 (s2 - 1000000000000000000)), seed6, 0])))
def pickB (w_well_here : (List Int)) (many : Int) : Option (Int × (List Int)) :=
  ((idx w_well_here 0).bind fun t1 => (if (decide (0 < t1)) = true then ((idx w_well_here 0).bind fun t2 => (modO t2 many).bind fun t3 => ((idx w_well_here 0).bind fun t4 => (fdivO t4 many).bind fun t5 => (setO w_well_here 0 t5).bind fun t6 => some (t3, t6))) else ((idx w_well_here 2).bind fun t7 => (setO w_well_here 2 (t7 + 1)).bind fun t8 => ((idx t8 1).bind fun t9 => (idx t8 2).bind fun t10 => (powO (t9 + (161803398 * t10)) 3).bind fun t11 => (idx t8 2).bind fun t12 => ((idx t8 2).bind fun t13 => (mulW ((t11 + (29 * t12)) % 10000000000000000000000000000033) (((t11 + (29 * t12)) % 10000000000000000000000000000033) + (5113 * t13))).bind fun t14 => ((modO ((t14 % 100000000000000000000000000319) / 12289) many).bind fun t15 => some (t15, t8)))))))
def walkB (w_well_here : (List Int)) (letters : Int) (most : Int) : Option ((List Int) × (List Int)) :=
  ((pickB w_well_here (most + 1)).bind fun t1 => (rngO 0 t1.1).bind fun t2 => ((lp (fun (s3 : ((List Int) × (List Int))) (turn4 : Int) => ((pickB s3.1 letters).bind fun t8 => ((pickB t8.2 2).bind fun t9 => (appO s3.2 (if (decide (t9.1 = 0)) = true then (1 + t8.1) else (-(1 + t8.1)))).bind fun t10 => some (t9.2, t10)))) t2 (t1.2, ([] : (List Int)))).bind fun f5 => some (f5.2, f5.1)))
/-- three cells, of which so many draws were made at most -/
def WeB (n : Nat) (w : List Int) : Prop := ∃ a b c : Int, w = [a, b, c] ∧ 0 ≤ a ∧ 0 ≤ b ∧ b < 2 ^ 104 ∧ 0 ≤ c ∧ c ≤ n
theorem WeB.mono {n m : Nat} {w : List Int} (h : WeB n w) (hm : n ≤ m) : WeB m w := by
  obtain ⟨a, b, c, e, h1, h2, h3, h4, h5⟩ := h
  exact ⟨a, b, c, e, h1, h2, h3, h4, by omega⟩
theorem wellB_ok {ns : List Int} {k : Int} (hl : ns.length < sizeLine) (h0 : 0 ≤ k) : ∃ w, wellB ns k = some w ∧ WeB 0 w := by
  unfold wellB
  obtain ⟨s, e⟩ := cell_ok (ns := ns) (d := ((43 * k) + 29) + (7 * (ns.length : Int))) h0
  refine ⟨_, bindS e (bindS (lcT_some _ hl) rfl), _, _, _, rfl, ?_, Int.emod_nonneg _ (by decide), ?_, Int.le_refl 0, Int.le_refl 0⟩
  · unfold maxI
    split <;> omega
  · exact Int.lt_trans (Int.emod_lt_of_pos _ (by decide)) (by decide)
theorem pickB_big {n : Nat} (hn : n < 2 ^ 60) {w : List Int} (h : WeB n w) {many : Int} (h0 : 0 < many) (hbl : many.natAbs.log2 < 9000) : ∃ v w', pickB w many = some (v, w') ∧ 0 ≤ v ∧ v < many ∧ WeB (n + 1) w' := by
  obtain ⟨a, b, c, rfl, ha, hb0, hb1, hc0, hc1⟩ := h
  unfold pickB
  have i0 : idx [a, b, c] 0 = some a := rfl
  have i2 : idx [a, b, c] 2 = some c := rfl
  have j1 : idx [a, b, c + 1] 1 = some b := rfl
  have j2 : idx [a, b, c + 1] 2 = some (c + 1) := rfl
  have m0 : setO [a, b, c] 2 (c + 1) = some [a, b, c + 1] := rfl
  have m1 : modO a many = some (a % many) := if_pos h0
  have m2 : fdivO a many = some (a / many) := if_pos ⟨h0, hbl⟩
  have m3 : setO [a, b, c] 0 (a / many) = some [a / many, b, c] := rfl
  have m4 : powO (b + (161803398 * (c + 1))) 3 = some ((b + (161803398 * (c + 1))) ^ 3) := pow_three (by omega) (by omega)
  simp only [i0, i2, j1, j2, m0, m1, m2, m3, m4, Option.bind_some]
  by_cases hp : 0 < a
  · rw [if_pos (decide_eq_true hp)]
    exact ⟨a % many, [a / many, b, c], rfl, Int.emod_nonneg _ (by omega), Int.emod_lt_of_pos _ h0, _, _, _, rfl, Int.ediv_nonneg ha (by omega), hb0, hb1, hc0, by omega⟩
  · rw [if_neg (by simpa using hp)]
    generalize (b + (161803398 * (c + 1))) ^ 3 = t11
    have q0 : 0 ≤ (t11 + 29 * (c + 1)) % 10000000000000000000000000000033 := Int.emod_nonneg _ (by decide)
    have q1 : (t11 + 29 * (c + 1)) % 10000000000000000000000000000033 < 10000000000000000000000000000033 := Int.emod_lt_of_pos _ (by decide)
    generalize (t11 + 29 * (c + 1)) % 10000000000000000000000000000033 = x at q0 q1
    have m5 : mulW x (x + 5113 * (c + 1)) = some (x * (x + 5113 * (c + 1))) := by
      refine if_pos (.inr (.inr ?_))
      have e1 : x.natAbs.log2 < 110 := log2_int q0 (by omega) (by decide)
      have e2 : (x + 5113 * (c + 1)).natAbs.log2 < 111 := log2_int (by omega) (by omega) (by decide)
      omega
    have m6 : modO (x * (x + 5113 * (c + 1)) % 100000000000000000000000000319 / 12289) many = some (x * (x + 5113 * (c + 1)) % 100000000000000000000000000319 / 12289 % many) := if_pos h0
    simp only [m5, m6, Option.bind_some]
    exact ⟨_, _, rfl, Int.emod_nonneg _ (by omega), Int.emod_lt_of_pos _ h0, _, _, _, rfl, ha, hb0, hb1, by omega, by omega⟩
theorem pickB_ok {n : Nat} (hn : n < 2 ^ 60) {w : List Int} (h : WeB n w) {many : Int} (h0 : 0 < many) (hb : many < 2 ^ 64) : ∃ v w', pickB w many = some (v, w') ∧ 0 ≤ v ∧ v < many ∧ WeB (n + 1) w' :=
  pickB_big hn h h0 (Nat.lt_trans (log2_int (by omega) hb (by decide)) (by decide))
theorem walkB_ok {n : Nat} {L most : Int} (hn : n + 3000 < 2 ^ 60) {w : List Int} (h : WeB n w) (h1 : 1 ≤ L) (h4 : L ≤ 4) (hm0 : 0 ≤ most) (hm1 : most ≤ 1000) :
    ∃ ws w', walkB w L most = some (ws, w') ∧ (∀ x ∈ ws, Sok L x) ∧ (ws.length : Int) ≤ most ∧ WeB (n + 2100) w' := by
  unfold walkB
  obtain ⟨v2, w2, e2, a2, b2, k2⟩ := pickB_ok (by omega) h (many := most + 1) (by omega) (by omega)
  have hlr : (range' 0 v2).length = v2.toNat := by rw [rng_len, Int.sub_zero]
  obtain ⟨s', e3, k3⟩ := lp_goN (f := (fun (s3 : ((List Int) × (List Int))) (turn4 : Int) => ((pickB s3.1 L).bind fun t8 => ((pickB t8.2 2).bind fun t9 => (appO s3.2 (if (decide (t9.1 = 0)) = true then (1 + t8.1) else (-(1 + t8.1)))).bind fun t10 => some (t9.2, t10))))) (xs := range' 0 v2) (fun i s => WeB (n + 1 + 2 * i) s.1 ∧ s.2.length = i ∧ ∀ x ∈ s.2, Sok L x) (fun i x s hx hs => by
    have hi : i < v2.toNat := by
      have := (List.getElem?_eq_some_iff.mp hx).1
      omega
    obtain ⟨g1, g2, g3⟩ := hs
    obtain ⟨u1, x1, f1, c1, d1, g4⟩ := pickB_ok (by omega) g1 (many := L) (by omega) (by omega)
    obtain ⟨u2, x2, f2, c2, d2, g5⟩ := pickB_ok (by omega) g4 (many := 2) (by decide) (by decide)
    have hy : Sok L (if (decide (u2 = 0)) = true then (1 + u1) else (-(1 + u1))) := by
      split <;> exact ⟨by omega, by omega, by omega⟩
    refine ⟨_, bindS f1 (bindS f2 (bindS (app_ok (by rw [g2]; exact Nat.lt_of_lt_of_le (show i < 1001 by omega) (by decide))) rfl)), g5.mono (by omega), by rw [List.length_append, g2]; rfl, fun z hz => ?_⟩
    rcases List.mem_append.mp hz with hz | hz
    · exact g3 z hz
    · exact List.mem_singleton.mp hz ▸ hy) (s0 := (w2, [])) ⟨k2.mono (by omega), rfl, (fun _ z => nomatch z)⟩
  rw [hlr] at k3
  exact ⟨_, _, bindS e2 (bindS (rngO_ok (show -(2 ^ 62) ≤ (0 : Int) ∧ (0 : Int) < 2 ^ 62 ∧ -(2 ^ 62) ≤ v2 ∧ v2 < 2 ^ 62 by omega)) (bindS e3 rfl)), k3.2.2, by rw [k3.2.1]; omega, k3.1.mono (by omega)⟩
/-- of the letters to L, no more than m walks, none longer than n, none oftener than t -/
structure Shw (L : Int) (m n : Nat) (t : Int) (sh : List (List Int × Int)) : Prop where
  ok : ∀ p ∈ sh, ∀ x ∈ p.1, Sok L x
  len : ∀ p ∈ sh, p.1.length ≤ n
  tim : ∀ p ∈ sh, p.2 ≠ 0 ∧ -t ≤ p.2 ∧ p.2 ≤ t
  num : sh.length ≤ m
theorem Shw.mono {L : Int} {m n m' n' : Nat} {t t' : Int} {sh : List (List Int × Int)} (h : Shw L m n t sh) (hm : m ≤ m') (hn : n ≤ n') (ht : t ≤ t') : Shw L m' n' t' sh := ⟨h.ok, fun p hp => Nat.le_trans (h.len p hp) hn, fun p hp => by have := h.tim p hp; omega, Nat.le_trans h.num hm⟩
theorem Shw.nil {L : Int} {m n : Nat} {t : Int} : Shw L m n t [] := ⟨(fun _ z => nomatch z), (fun _ z => nomatch z), (fun _ z => nomatch z), Nat.zero_le _⟩
theorem Shw.sub {L : Int} {m n : Nat} {t : Int} {sh u : List (List Int × Int)} (h : Shw L m n t sh) (hu : ∀ p ∈ u, p ∈ sh) (hl : u.length ≤ sh.length) : Shw L m n t u := ⟨fun p hp => h.ok p (hu p hp), fun p hp => h.len p (hu p hp), fun p hp => h.tim p (hu p hp), Nat.le_trans hl h.num⟩
theorem Shw.one {L : Int} {n : Nat} {t : Int} {p : List Int × Int} (h1 : ∀ x ∈ p.1, Sok L x) (h2 : p.1.length ≤ n) (h3 : p.2 ≠ 0) (h4 : -t ≤ p.2) (h5 : p.2 ≤ t) : Shw L 1 n t [p] := ⟨fun q hq => List.mem_singleton.mp hq ▸ h1, fun q hq => List.mem_singleton.mp hq ▸ h2, fun q hq => List.mem_singleton.mp hq ▸ ⟨h3, h4, h5⟩, Nat.le_refl _⟩
end Z
namespace Z
open PySem PySem.Spec L2
theorem ifFE {β : Type} {c : Bool} {x y : Option β} {P : β → Prop} (h : ¬ c = true) (h2 : ∃ r, y = some r ∧ P r) : ∃ r, (if c = true then x else y) = some r ∧ P r := by
  rw [if_neg h]
  exact h2
abbrev Pcw := List Int × Int
structure Pk (n : Nat) (p : Pcw) : Prop where
  ne : p.1 ≠ []
  le : p.1.length ≤ n
  pos : 0 < p.2
theorem Pk.len {n : Nat} {p : Pcw} (h : Pk n p) : 0 < p.1.length := List.length_pos_iff.mpr h.ne
def bk (p : Pcw) : List Int := (List.range p.1.length).map fun (j : Nat) => -pr p.1 (p.2 - 1 - (j : Int))
end Z
namespace Z
open PySem PySem.Spec L2
end Z
namespace Z
open PySem PySem.Spec L2
end Z
namespace Z
open PySem PySem.Spec L2
theorem goW_iv {L : Int} {n : Nat} {D : Dd} (h : Dr L n D) : ∀ (w : List Int) (a b : Int), 0 ≤ a → goW D a w = some b → goW D b (iv w) = some a
  | [], a, b, _, e => by
    cases e
    rfl
  | x :: w, a, b, a0, e => by
    unfold goW at e
    cases eg : go D a x with
    | none => rw [eg] at e; cases e
    | some c =>
      rw [eg] at e
      obtain ⟨c0, c1, _, hb⟩ := h.ok a x c a0 eg
      rw [iv_cons, goW_app, goW_iv h w c b c0 e]
      show goW D c [-x] = some a
      show (match go D c (-x) with | some b => goW D b [] | none => none) = _
      rw [hb]
      rfl
theorem goW_one {L : Int} {n : Nat} {D : Dd} (h : Dr L n D) {w : List Int} {a a' b : Int} (a0 : 0 ≤ a) (a0' : 0 ≤ a') (e : goW D a w = some b) (e' : goW D a' w = some b) : a = a' :=
  Option.some.inj ((goW_iv h w a b a0 e).symm.trans (goW_iv h w a' b a0' e'))
theorem rep_round {D : Dd} {w : List Int} {a : Int} {k : Nat} (hk : goW D a (rep w k) = some a) : ∀ (q r : Nat), goW D a (rep w (q * k + r)) = goW D a (rep w r)
  | 0, r => by rw [Nat.zero_mul, Nat.zero_add]
  | q + 1, r => by
    rw [show (q + 1) * k + r = k + (q * k + r) by rw [Nat.add_mul, Nat.one_mul]; omega, rep_addW, goW_app, hk]
    exact rep_round hk q r
theorem rep_fresh {L : Int} {n : Nat} {D : Dd} (h : Dr L n D) {w : List Int} {a : Int} (a0 : 0 ≤ a) (a1 : a < n) {k : Nat} {row : List Int} (hl : row.length = k) (hr : ∀ j, j < k → ∃ b, row[j]? = some b ∧ goW D a (rep w j) = some b) (hf : ∀ j, 1 ≤ j → j < k → goW D a (rep w j) ≠ some a) : k ≤ n := by
  have hnd : row.Nodup := by
    rw [List.nodup_iff_pairwise_ne, List.pairwise_iff_getElem]
    intro i j hi hj hij e
    obtain ⟨b, e1, e2⟩ := hr i (by omega)
    obtain ⟨c, e3, e4⟩ := hr j (by omega)
    rw [List.getElem?_eq_getElem hi] at e1
    rw [List.getElem?_eq_getElem hj] at e3
    have hbc : b = c := by
      rw [← Option.some.inj e1, ← Option.some.inj e3]
      exact e
    subst hbc
    rw [show j = (j - i) + i by omega, rep_addW, goW_app] at e4
    cases e5 : goW D a (rep w (j - i)) with
    | none => rw [e5] at e4; cases e4
    | some d =>
      rw [e5] at e4
      have e4 : goW D d (rep w i) = some b := e4
      obtain ⟨d0, d1⟩ := goW_in h _ a a0 a1 d e5
      have := goW_one h d0 a0 e4 e2
      subst this
      exact hf (j - i) (by omega) (by omega) e5
  have := nodup_le row (range' 0 (n : Int)) hnd fun x hx => by
    obtain ⟨j, hj⟩ := List.mem_iff_getElem?.mp hx
    have hj' := (List.getElem?_eq_some_iff.mp hj).1
    obtain ⟨b, e1, e2⟩ := hr j (by omega)
    rw [hj] at e1
    cases e1
    obtain ⟨b0, b1⟩ := goW_in h _ a a0 a1 x e2
    exact mem_rng'.mpr ⟨b0, b1⟩
  rw [rng_len, hl] at this
  omega
end Z
namespace Z
open PySem PySem.Spec L2
theorem sel_ok {n : Nat} (hn : n ≤ 100000) {g : Int → Option Int} {row : List (Option Int)} (hrow : row = (range' 0 (n : Int)).map g) {found : List (Option Int)} (hl : found.length < sizeLine) (hf : ∀ o ∈ found, ∀ a : Int, o = some a → 0 ≤ a ∧ a < n) :
    lcO (β := (Option Int)) (fun (here16 : (Option Int)) => ((if here16.isNone = true then some none else ((here16).bind fun t18 => (idx row t18).bind fun t19 => some t19)).bind fun t20 => some t20)) found = some (found.map fun o => o.bind g) := by
  refine lcO_some (fun o => o.bind g) hl fun o ho => ?_
  cases o with
  | none => rfl
  | some a =>
    obtain ⟨a0, a1⟩ := hf _ ho a rfl
    refine bindS (a := g a) ((if_neg (by simp)).trans (bindS (a := a) rfl (bindS (idx_of a0 ?_) rfl))) rfl
    rw [hrow, List.getElem?_map, show (range' 0 (n : Int))[a.toNat]? = some a from ?_]
    · rfl
    · unfold range'
      rw [List.getElem?_map, List.getElem?_range (by omega)]
      exact congrArg some (show (0 : Int) + ((a.toNat : Nat) : Int) = a by omega)
theorem map_bind2 {g1 g2 g3 : Int → Option Int} (h : ∀ a, (g1 a).bind g2 = g3 a) (l : List (Option Int)) : ((l.map fun o => o.bind g1).map fun o => o.bind g2) = l.map fun o => o.bind g3 := by
  rw [List.map_map]
  refine List.map_congr_left fun o _ => ?_
  cases o with
  | none => rfl
  | some a => exact h a
theorem in_bind {L : Int} {n : Nat} {D : Dd} (h : Dr L n D) {w : List Int} {found : List (Option Int)} (hf : ∀ o ∈ found, ∀ a : Int, o = some a → 0 ≤ a ∧ a < n) : ∀ o ∈ (found.map fun o => o.bind fun a => goW D a w), ∀ a : Int, o = some a → 0 ≤ a ∧ a < n := fun o ho a ha => by
  obtain ⟨o', h1, rfl⟩ := List.mem_map.mp ho
  cases o' with
  | none => cases ha
  | some b =>
    obtain ⟨b0, b1⟩ := hf _ h1 b rfl
    exact goW_in h w b b0 b1 a ha
theorem far_wh {L : Int} {n : Nat} {D : Dd} (h : Dr L n D) (hn : n ≤ 100000) {w : List Int} : ∀ (k fuel : Nat) (q : Int) (m : Nat) (found row : List (Option Int)), 0 ≤ q → q < 2 ^ k → k < fuel → row = ((range' 0 (n : Int)).map fun a => goW D a (rep w m)) → found.length < sizeLine → (∀ o ∈ found, ∀ a : Int, o = some a → 0 ≤ a ∧ a < n) →
    ∃ r, wh (fun (s12 : ((List (Option Int)) × Int × (List (Option Int)))) => some (decide (0 < s12.2.1))) (fun (s12 : ((List (Option Int)) × Int × (List (Option Int)))) => (((if (decide ((s12.2.1 % 2) = 1)) = true then ((lcO (β := (Option Int)) (fun (here16 : (Option Int)) => ((if here16.isNone = true then some none else ((here16).bind fun t18 => (idx s12.2.2 t18).bind fun t19 => some t19)).bind fun t20 => some t20)) s12.1).bind fun t21 => some t21) else some s12.1 : Option (List (Option Int))).bind fun s22 => ((lcO (β := (Option Int)) (fun (goal23 : (Option Int)) => ((if goal23.isNone = true then some none else ((goal23).bind fun t25 => (idx s12.2.2 t25).bind fun t26 => some t26)).bind fun t27 => some t27)) s12.2.2).bind fun t28 => some (Step.go (s22, (s12.2.1 / 2), t28)))) : Option (Step (List (Option Int)) ((List (Option Int)) × Int × (List (Option Int)))))) fuel (found, q, row) = some (.inr (found.map (fun o => o.bind fun a => goW D a (rep w (m * q.toNat))), r))
  | k, 0, _, _, _, _, _, _, hk, _, _, _ => absurd hk (Nat.not_lt_zero _)
  | k, fuel + 1, q, m, found, row, q0, q1, hk, hrow, hl, hf => by
    by_cases hq : 0 < q
    · obtain ⟨k, rfl⟩ : ∃ k', k = k' + 1 := by
        cases k with
        | zero => rw [Int.pow_zero] at q1; omega
        | succ k => exact ⟨k, rfl⟩
      have hrl : row.length < sizeLine := by rw [hrow, List.length_map, rng_len, sizeL]; omega
      have hrf : ∀ o ∈ row, ∀ a : Int, o = some a → 0 ≤ a ∧ a < n := fun o ho a ha => by
        rw [hrow] at ho
        obtain ⟨b, hb, rfl⟩ := List.mem_map.mp ho
        obtain ⟨b0, b1⟩ := mem_rng hb
        exact goW_in h _ b b0 b1 a ha
      have e1 : (if (decide ((q % 2) = 1)) = true then ((lcO (β := (Option Int)) (fun (here16 : (Option Int)) => ((if here16.isNone = true then some none else ((here16).bind fun t18 => (idx row t18).bind fun t19 => some t19)).bind fun t20 => some t20)) found).bind fun t21 => some t21) else some found : Option (List (Option Int))) = some (found.map fun o => o.bind fun a => goW D a (rep w (if q % 2 = 1 then m else 0))) := by
        by_cases ho : q % 2 = 1
        · rw [if_pos ho]
          exact (if_pos (decide_eq_true ho)).trans (bindS (sel_ok hn hrow hl hf) rfl)
        · rw [if_neg ho]
          refine (if_neg (by simpa using ho)).trans ?_
          refine congrArg some (List.map_id'' (fun o => ?_) _).symm
          cases o <;> rfl
      have e2 := sel_ok hn hrow hrl hrf
      have hp : (2 : Int) ^ (k + 1) = 2 ^ k * 2 := Int.pow_succ 2 k
      obtain ⟨r, e3⟩ := far_wh h hn (w := w) k fuel (q / 2) (m + m) (found.map fun o => o.bind fun a => goW D a (rep w (if q % 2 = 1 then m else 0))) (row.map fun o => o.bind fun a => goW D a (rep w m)) (by omega) (by omega) (by omega) (by
        rw [hrow, List.map_map]
        refine List.map_congr_left fun a _ => ?_
        show (goW D a (rep w m)).bind _ = _
        rw [rep_addW, goW_app]) (by rw [List.length_map]; exact hl) (in_bind h hf)
      refine ⟨r, ?_⟩
      unfold wh
      refine bindS (a := true) (congrArg some (decide_eq_true hq)) ((if_pos rfl).trans ?_)
      refine bindS (bindS e1 (bindS e2 rfl)) (e3.trans ?_)
      refine congrArg some (congrArg Sum.inr ?_)
      refine Prod.ext ?_ rfl
      show List.map _ (List.map _ found) = List.map _ found
      refine map_bind2 (fun a => ?_) found
      rw [← goW_app, ← rep_addW]
      congr 2
      have hd := Int.emod_add_mul_ediv q 2
      have hm2 := Int.emod_nonneg q (show (2 : Int) ≠ 0 by decide)
      have hq2 : q.toNat = (if q % 2 = 1 then 1 else 0) + 2 * (q / 2).toNat := by
        split <;> omega
      rw [hq2, Nat.mul_add, Nat.add_mul]
      have : m * (if q % 2 = 1 then 1 else 0) = if q % 2 = 1 then m else 0 := by split <;> omega
      rw [this, ← Nat.mul_assoc, Nat.mul_comm m 2]
      congr 1
      rw [Nat.two_mul, Nat.add_mul]
    · have : q = 0 := by omega
      subst this
      refine ⟨(0, row), ?_⟩
      unfold wh
      refine bindS (a := false) rfl ?_
      refine congrArg some (congrArg Sum.inr (Prod.ext ?_ rfl))
      show found = List.map _ found
      refine (List.map_id'' (fun o => ?_) _).symm
      cases o <;> rfl
structure WgI (L : Int) (n : Nat) (l r : Int) (D : Dd) : Prop where
  dr : Dr L n D
  no : ∀ x l', 0 ≤ x → l ≤ l' → (l' = l → r ≤ x) → go D x l' = none
theorem WgI.free {L : Int} {n : Nat} {l r : Int} {D : Dd} (h : WgI L n l r D) (r0 : 0 ≤ r) (r1 : r < n) : ∃ b : Int, 0 ≤ b ∧ b < n ∧ go D b (-l) = none := by
  refine Classical.byContradiction fun hc => ?_
  have hall : ∀ b : Int, 0 ≤ b → b < n → ∃ x, go D b (-l) = some x := fun b b0 b1 => by
    cases e : go D b (-l) with
    | some x => exact ⟨x, rfl⟩
    | none => exact absurd ⟨b, b0, b1, e⟩ hc
  have hsrc : ∀ b : Int, 0 ≤ b → b < n → 0 ≤ (go D b (-l)).getD 0 ∧ (go D b (-l)).getD 0 < r ∧ go D ((go D b (-l)).getD 0) l = some b := fun b b0 b1 => by
    obtain ⟨x, hx⟩ := hall b b0 b1
    obtain ⟨x0, x1, _, hb⟩ := h.dr.ok b (-l) x b0 hx
    rw [Int.neg_neg] at hb
    rw [hx]
    refine ⟨x0, ?_, hb⟩
    show x < r
    refine Int.not_le.mp fun z => ?_
    have := h.no x l x0 (Int.le_refl _) fun _ => z
    rw [hb] at this
    cases this
  have hnd : ((range' 0 (n : Int)).map fun b => (go D b (-l)).getD 0).Nodup := by
    rw [List.nodup_iff_pairwise_ne, List.pairwise_map]
    refine (rng_nd 0 (n : Int)).imp_of_mem fun {a b} ha hb hab e => hab ?_
    obtain ⟨a0, a1⟩ := mem_rng ha
    obtain ⟨b0, b1⟩ := mem_rng hb
    have ea := (hsrc a a0 a1).2.2
    have eb := (hsrc b b0 b1).2.2
    rw [e, eb] at ea
    exact (Option.some.inj ea).symm
  have := nodup_le _ (range' 0 r) hnd fun x hx => by
    obtain ⟨b, hb, rfl⟩ := List.mem_map.mp hx
    obtain ⟨b0, b1⟩ := mem_rng hb
    exact mem_rng'.mpr ⟨(hsrc b b0 b1).1, (hsrc b b0 b1).2.1⟩
  rw [List.length_map, rng_len, rng_len] at this
  omega
end Z
namespace Z
open PySem PySem.Spec L2
end Z
namespace Z
open PySem PySem.Spec L2
def Q_is_a_part (value : ((List Int) × Int)) (letters : Int) : Option Bool :=
  ((if false = true then some true else ((if (!decide (2 = 2)) = true then some true else ((Q_is_a_walk value.1 letters).bind fun t1 => some (!t1))).bind fun t2 => some t2)).bind fun t3 => (if t3 = true then some false else ((Q_is_integer value.2).bind fun t4 => some (t4 && (decide (1 ≤ (absI value.2)) && decide ((absI value.2) ≤ 1000000000000000000000000000000))))))
def Q_is_a_short (value : (List ((List Int) × Int))) (letters : Int) : Option Bool :=
  (if (false || (decide (60 < (value.length : Int)))) = true then some false else ((lcO (β := Bool) (fun (part_1 : ((List Int) × Int)) => ((Q_is_a_part part_1 letters).bind fun t3 => some t3)) value).bind fun t4 => some (t4.all id)))
def Q_need_short (short : (List ((List Int) × Int))) (letters : Int) : Option Unit :=
  ((Q_is_a_short short letters).bind fun t1 => (if (!t1) = true then none else some ()))
theorem app_sokW {L : Int} {u v : List Int} (h : ∀ x ∈ u, Sok L x) (k : ∀ x ∈ v, Sok L x) : ∀ x ∈ u ++ v, Sok L x := fun x hx => (List.mem_append.mp hx).elim (h x) (k x)
theorem iv_sokW {L : Int} {w : List Int} (h : ∀ x ∈ w, Sok L x) : ∀ x ∈ iv w, Sok L x := fun x hx => by
  obtain ⟨y, hy, rfl⟩ := List.mem_map.mp hx
  exact (h y (List.mem_reverse.mp hy)).neg
theorem walk_isW {L : Int} {w : List Int} (h : ∀ x ∈ w, Sok L x) (hn : w.length ≤ 100000) : Q_is_a_walk w L = some true := by
  have e := walkW_ok h hn
  unfold Q_need_walk at e
  obtain ⟨b, e1, e2⟩ := Option.bind_eq_some_iff.mp e
  cases b with
  | true => exact e1
  | false => cases e2
theorem aparts_ok {L : Int} {p : List Int × Int} (h : ∀ x ∈ p.1, Sok L x) (hn : p.1.length ≤ 10000) (h0 : p.2 ≠ 0) (h1 : p.2.natAbs ≤ 1000000000000000000000000000000) : Q_is_a_part p L = some true := by
  have a : 1 ≤ absI p.2 ∧ absI p.2 ≤ 1000000000000000000000000000000 := by
    unfold absI
    split <;> constructor <;> omega
  unfold Q_is_a_part Q_is_integer
  rw [walk_isW h (by omega)]
  simp [a.1, a.2]
theorem ashorts_ok {n : Nat} {L : Int} (hn : n ≤ 10000) {sh : List (List Int × Int)} (h : ShO n L sh) (hl : sh.length ≤ 60) : Q_is_a_short sh L = some true := by
  unfold Q_is_a_short
  rw [if_neg (by simp; omega), lcO_some (fun _ => true) (by rw [sizeL]; omega) (fun p hp => by
    have ht := h.tz p hp
    rw [aparts_ok (h.ok p hp) (Nat.le_trans (h.len p hp) hn) ht.1 ht.2]
    rfl)]
  simp
theorem need_shorts_ok {n : Nat} {L : Int} (hn : n ≤ 10000) {sh : List (List Int × Int)} (h : ShO n L sh) (hl : sh.length ≤ 60) : Q_need_short sh L = some () := by
  unfold Q_need_short
  exact bindS (ashorts_ok hn h hl) (if_neg (by simp))
theorem int_reprW {x : Int} (h : x.natAbs < 2 ^ 200) : reprO (PyData.int x) = some (PyData.int x).shown := (txt_int (k := 200) (by decide) (by decide) h).repr (by decide) (by rw [sizeL]; decide)
end Z
set_option maxHeartbeats 8000000
namespace Z
open PySem PySem.Spec L2
def Q_is_a_turn (value : (List Int)) (many : Int) : Option Bool :=
  ((if false = true then some true else ((if (!decide ((value.length : Int) = many)) = true then some true else ((lcO (β := Bool) (fun (place1 : Int) => ((Q_is_integer place1).bind fun t3 => some t3)) value).bind fun t4 => some (!(t4.all id)))).bind fun t5 => some t5)).bind fun t6 => (if t6 = true then some false else ((rgO 0 many).bind fun t7 => some (decide ((srtI value) = t7)))))
def Q_is_a_book (value : (Int × (List (List Int)))) : Option Bool :=
  ((if false = true then some true else ((if (!decide (2 = 2)) = true then some true else ((Q_is_letters value.1).bind fun t1 => some (!t1))).bind fun t2 => some t2)).bind fun t3 => (if t3 = true then some false else ((if false = true then some true else ((if (!decide ((value.2.length : Int) = value.1)) = true then some true else ((idx value.2 0).bind fun t4 => some false)).bind fun t5 => some t5)).bind fun t6 => (if t6 = true then some false else ((idx value.2 0).bind fun t7 => ((if (decide (1 ≤ (t7.length : Int)) && decide ((t7.length : Int) ≤ 40)) = true then ((lcO (β := Bool) (fun (turn8 : (List Int)) => ((Q_is_a_turn turn8 (t7.length : Int)).bind fun t10 => some t10)) value.2).bind fun t11 => some (t11.all id)) else some false).bind fun t12 => some t12))))))
def Q_need_book (book : (Int × (List (List Int)))) : Option Unit :=
  ((Q_is_a_book book).bind fun t1 => (if (!t1) = true then none else some ()))
def Q_places_of (book : (Int × (List (List Int)))) : Option Int :=
  ((idx book.2 0).bind fun t1 => some (t1.length : Int))
def Q_turns_by_step (book : (Int × (List (List Int)))) : Option (List (Int × (List Int))) :=
  ((rngO 1 (book.1 + 1)).bind fun t1 => ((lp (fun (s2 : (List (Int × (List Int)))) (letter3 : Int) => ((idx book.2 (letter3 - 1)).bind fun t7 => ((repO ([0]) (t7.length : Int)).bind fun t8 => ((lp (fun (s9 : (List Int)) (x10 : (Int × Int)) => ((setO s9 x10.2 x10.1).bind fun t14 => some t14)) (enum t7) t8).bind fun f11 => ((dPutO s2 letter3 t7).bind fun t16 => (dPutO t16 (-letter3) f11).bind fun t17 => some t17))))) t1 ([] : (List (Int × (List Int))))).bind fun f4 => some f4))
def Q_turned_by (book : (Int × (List (List Int)))) (walk : (List Int)) : Option (List Int) :=
  ((Q_turns_by_step book).bind fun t1 => (Q_places_of book).bind fun t2 => (rgO 0 t2).bind fun t3 => ((lp (fun (s4 : (List Int)) (step5 : Int) => ((lcO (β := Int) (fun (place9 : Int) => ((dGet t1 step5).bind fun t11 => (idx t11 place9).bind fun t12 => some t12)) s4).bind fun t13 => some t13)) walk t3).bind fun f6 => some f6))
def Q_turned_often (turn : (List Int)) (times : Int) : Option (List Int) :=
  ((rngO 0 (turn.length : Int)).bind fun t1 => ((lp (fun (s2 : (List Int)) (first3 : Int) => ((idx turn first3).bind fun t8 => ((wh (fun (s9 : (Int × (List Int))) => some (!decide (s9.1 = first3))) (fun (s9 : (Int × (List Int))) => (((appO s9.2 s9.1).bind fun t13 => ((idx turn s9.1).bind fun t14 => some (Step.go (t14, t13)))) : Option (Step (List Int) (Int × (List Int))))) 10000 (t8, [first3])).bind fun f10o => Sum.elim (fun r18 => none) (fun f10 => ((modO times (f10.2.length : Int)).bind fun t15 => (idx f10.2 t15).bind fun t16 => (setO s2 first3 t16).bind fun t17 => some t17)) f10o))) t1 turn).bind fun f4 => some f4))
def Q_short_turn (book : (Int × (List (List Int)))) (short : (List ((List Int) × Int))) : Option (List Int) :=
  ((Q_need_book book).bind fun t1 => ((Q_need_short short book.1).bind fun t2 => ((Q_places_of book).bind fun t3 => (rgO 0 t3).bind fun t4 => ((lp (fun (s5 : (List Int)) (x6 : ((List Int) × Int)) => ((if (decide (0 < x6.2)) = true then some x6.1 else ((Q_turned_back x6.1).bind fun t10 => some t10)).bind fun t11 => ((Q_turned_by book t11).bind fun t12 => (Q_turned_often t12 (absI x6.2)).bind fun t13 => ((lcO (β := Int) (fun (place14 : Int) => ((idx t13 place14).bind fun t16 => some t16)) s5).bind fun t17 => some t17)))) short t4).bind fun f7 => some f7))))
theorem flat_rep0 : ∀ q : Nat, (List.replicate q [(0 : Int)]).flatten = List.replicate q 0
  | 0 => rfl
  | q + 1 => by
    rw [List.replicate_succ, List.replicate_succ, List.flatten_cons, flat_rep0 q]
    rfl
structure IsP (c : Nat) (w : List Int) : Prop where
  len : w.length = c
  nd : w.Nodup
  rg : ∀ x ∈ w, 0 ≤ x ∧ x < c
theorem IsP.all {c : Nat} {w : List Int} (h : IsP c w) {y : Int} (y0 : 0 ≤ y) (y1 : y < c) : y ∈ w := by
  refine Classical.byContradiction fun hn => ?_
  have := nodup_le (y :: w) (range' 0 (c : Int)) (List.nodup_cons.mpr ⟨hn, h.nd⟩) fun x hx => by
    rcases List.mem_cons.mp hx with rfl | hx
    · exact mem_rng'.mpr ⟨y0, y1⟩
    · exact mem_rng'.mpr (h.rg x hx)
  rw [List.length_cons, h.len, rng_len] at this
  omega
theorem IsP.perm {c : Nat} {w : List Int} (h : IsP c w) : w.Perm (range' 0 (c : Int)) := by
  refine (List.perm_ext_iff_of_nodup h.nd (rng_nd 0 _)).mpr fun x => ?_
  exact ⟨fun hx => mem_rng'.mpr (h.rg x hx), fun hx => h.all (mem_rng hx).1 (mem_rng hx).2⟩
theorem rng_srt (c : Int) : (range' 0 c).Pairwise (· ≤ ·) := by
  unfold range'
  rw [List.pairwise_map]
  exact List.pairwise_lt_range.imp fun {a b} h => by omega
theorem IsP.srt {c : Nat} {w : List Int} (h : IsP c w) : srtI w = range' 0 (c : Int) := srt_one ((srtI_perm w).trans h.perm) (srtI_srt w) (rng_srt _)
theorem set_okI {α : Type} {xs : List α} {i : Int} (h0 : 0 ≤ i) (h : i < xs.length) (x : α) : setO xs i x = some (xs.set i.toNat x) := by
  unfold setO
  have : ixN xs.length i = some i.toNat := by
    unfold ixN
    rw [if_pos h0, if_pos (by omega)]
  rw [this]
  rfl
theorem rgO_okN {c : Nat} (h : c ≤ 100000) : rgO 0 (c : Int) = some (range' 0 (c : Int)) := if_pos ⟨by omega, by omega, by omega, by omega, by omega⟩
/-- a list of so many turns -/
def Bk (c : Nat) (L : Int) (T : List (List Int)) : Prop := (T.length : Int) = L ∧ ∀ t ∈ T, IsP c t
theorem a_turn_ok {c : Nat} {w : List Int} (h : IsP c w) (hc : c ≤ 1000) : Q_is_a_turn w (c : Int) = some true := by
  unfold Q_is_a_turn
  have e1 : lcO (β := Bool) (fun (place1 : Int) => ((Q_is_integer place1).bind fun t3 => some t3)) w = some (w.map fun _ => true) := lcO_some _ (by rw [h.len, sizeL]; omega) fun x _ => rfl
  refine bindS (a := false) ((if_neg (by simp)).trans (bindS (a := false) ((if_neg (by simp [h.len])).trans (bindS e1 (by simp))) rfl)) ((if_neg (by simp)).trans (bindS (rgO_okN (by omega)) ?_))
  rw [h.srt]
  simp
theorem need_book_ok {c : Nat} {L : Int} {T : List (List Int)} (h : Bk c L T) (h1 : 1 ≤ L) (h4 : L ≤ 4) (c0 : 1 ≤ c) (c1 : c ≤ 40) : Q_need_book (L, T) = some () := by
  obtain ⟨hl, ht⟩ := h
  obtain ⟨t0, e0⟩ : ∃ t0, T[0]? = some t0 := ⟨_, List.getElem?_eq_getElem (by omega)⟩
  have h0 := ht t0 (List.mem_of_getElem? e0)
  have ei : idx T 0 = some t0 := idx_of (by decide) e0
  have e1 : lcO (β := Bool) (fun (turn8 : (List Int)) => ((Q_is_a_turn turn8 (t0.length : Int)).bind fun t10 => some t10)) T = some (T.map fun _ => true) := lcO_some _ (by rw [sizeL]; omega) fun x hx => bindS (by rw [h0.len]; exact a_turn_ok (ht x hx) (by omega)) rfl
  have e2 : Q_is_a_book (L, T) = some true := by
    unfold Q_is_a_book
    refine bindS (a := false) ((if_neg (by simp)).trans (bindS (a := false) ((if_neg (by simp)).trans (bindS (letters_okW h1 h4) rfl)) rfl)) ((if_neg (by simp)).trans (bindS (a := false) ((if_neg (by simp)).trans (bindS (a := false) ((if_neg (by simp [hl])).trans (bindS ei rfl)) rfl)) ((if_neg (by simp)).trans (bindS ei (bindS (a := true) ((if_pos ?_).trans (bindS e1 (by simp))) rfl)))))
    rw [h0.len]
    simp
    omega
  unfold Q_need_book
  exact bindS e2 (if_neg (by simp))
/-- what turns_by_step tells -/
structure Bks (c : Nat) (L : Int) (T : List (List Int)) (B : List (Int × List Int)) : Prop where
  fw : ∀ l : Int, 1 ≤ l → l ≤ L → ∃ t, T[(l - 1).toNat]? = some t ∧ dGet B l = some t
  bw : ∀ l : Int, 1 ≤ l → l ≤ L → ∃ t b, T[(l - 1).toNat]? = some t ∧ dGet B (-l) = some b ∧ b.length = c ∧ ∀ (i : Nat) (x : Int), t[i]? = some x → b[x.toNat]? = some (i : Int)
theorem back_lp {c : Nat} {t : List Int} (h : IsP c t) (hc : c ≤ 1000) : ∃ b, lp (fun (s9 : (List Int)) (x10 : (Int × Int)) => ((setO s9 x10.2 x10.1).bind fun t14 => some t14)) (enum t) (List.replicate c 0) = some b ∧ b.length = c ∧ ∀ (i : Nat) (x : Int), t[i]? = some x → b[x.toNat]? = some (i : Int) := by
  obtain ⟨b, e, b1, b2⟩ := lp_goN (f := fun (s9 : (List Int)) (x10 : (Int × Int)) => ((setO s9 x10.2 x10.1).bind fun t14 => some t14)) (xs := enum t) (fun i s => s.length = c ∧ ∀ (j : Nat) (x : Int), j < i → t[j]? = some x → s[x.toNat]? = some (j : Int)) (fun i y s hy hs => by
    obtain ⟨y1, y2⟩ := enum_get hy
    obtain ⟨q1, q2⟩ := hs
    have hr := h.rg _ (List.mem_of_getElem? y2)
    refine ⟨_, bindS (set_okI hr.1 (by omega) _) rfl, by rw [List.length_set]; exact q1, fun j x hj hx => ?_⟩
    rw [List.getElem?_set]
    by_cases z : j = i
    · subst z
      rw [hx] at y2
      cases y2
      rw [if_pos rfl, if_pos (by omega), y1]
    · have hx' := h.rg _ (List.mem_of_getElem? hx)
      have hne : x ≠ y.2 := fun e => by
        have h1 := (List.getElem?_eq_some_iff.mp hx).1
        have := (List.getElem?_inj h1 h.nd).mp (hx.trans (e ▸ y2.symm))
        exact z this
      rw [if_neg (by omega)]
      exact q2 j x (by omega) hx) (s0 := List.replicate c 0) ⟨List.length_replicate, fun j x z => by omega⟩
  refine ⟨b, e, b1, fun i x hx => b2 i x ?_ hx⟩
  rw [enum_len]
  exact (List.getElem?_eq_some_iff.mp hx).1
theorem by_step_ok {c : Nat} {L : Int} {T : List (List Int)} (h : Bk c L T) (h1 : 1 ≤ L) (h4 : L ≤ 4) (hc : c ≤ 1000) : ∃ B, Q_turns_by_step (L, T) = some B ∧ Bks c L T B := by
  obtain ⟨hl, ht⟩ := h
  unfold Q_turns_by_step
  have hll : (range' 1 (L + 1)).length = L.toNat := by rw [rng_len]; omega
  refine bndX (rngO_ok (by omega)) ?_
  refine lpX (fun i B => B.length ≤ 2 * i ∧ ∀ l : Int, 1 ≤ l → l ≤ (i : Int) → (∃ t, T[(l - 1).toNat]? = some t ∧ dGet B l = some t) ∧ ∃ t b, T[(l - 1).toNat]? = some t ∧ dGet B (-l) = some b ∧ b.length = c ∧ ∀ (i : Nat) (x : Int), t[i]? = some x → b[x.toNat]? = some (i : Int)) ⟨Nat.zero_le _, fun l z1 z2 => by omega⟩ (fun i x B hx hB => ?_) (fun B hB => ⟨B, rfl, fun l z1 z2 => (hB.2 l z1 (by rw [hll]; omega)).1, fun l z1 z2 => (hB.2 l z1 (by rw [hll]; omega)).2⟩)
  obtain ⟨rfl, hi⟩ := rngAt hx
  obtain ⟨q1, q2⟩ := hB
  have hi' : i < T.length := by omega
  have et : T[i]? = some T[i] := List.getElem?_eq_getElem hi'
  have hP := ht _ (List.mem_of_getElem? et)
  generalize T[i] = t at et hP
  have e1 : idx T (1 + (i : Int) - 1) = some t := idx_of (by omega) (by rw [show (1 + (i : Int) - 1).toNat = i by omega]; exact et)
  have e2 : repO ([0] : List Int) (t.length : Int) = some (List.replicate c 0) := by
    rw [hP.len]
    unfold repO
    rw [if_pos ⟨by omega, by omega, by rw [sizeL, List.length_singleton]; omega⟩]
    refine congrArg some ?_
    rw [Int.toNat_natCast]
    exact flat_rep0 c
  obtain ⟨b, e3, b1, b2⟩ := back_lp hP hc
  have e4 : dPutO B (1 + (i : Int)) t = some (dPut B (1 + (i : Int)) t) := putO_ok (by rw [sizeL]; omega)
  have l5 := dput_len B (1 + (i : Int)) t
  have e5 : dPutO (dPut B (1 + (i : Int)) t) (-(1 + (i : Int))) b = some (dPut (dPut B (1 + (i : Int)) t) (-(1 + (i : Int))) b) := putO_ok (by rw [sizeL]; omega)
  have l6 := dput_len (dPut B (1 + (i : Int)) t) (-(1 + (i : Int))) b
  refine ⟨_, bindS e1 (bindS e2 (bindS e3 (bindS e4 (bindS e5 rfl)))), by omega, fun l z1 z2 => ?_⟩
  by_cases z : l = 1 + (i : Int)
  · subst z
    have hi0 : (1 + (i : Int) - 1).toNat = i := by omega
    rw [hi0]
    refine ⟨⟨t, et, ?_⟩, t, b, et, ?_, b1, b2⟩
    · rw [dGet_put, if_neg (by omega), dGet_put, if_pos rfl]
    · rw [dGet_put, if_pos rfl]
  · obtain ⟨⟨t', y1, y2⟩, t'', b', y3, y4, y5, y6⟩ := q2 l z1 (by omega)
    refine ⟨⟨t', y1, ?_⟩, t'', b', y3, ?_, y5, y6⟩
    · rw [dGet_put, if_neg (by omega), dGet_put, if_neg (by omega)]
      exact y2
    · rw [dGet_put, if_neg (by omega), dGet_put, if_neg (by omega)]
      exact y4
/-- every door forward is there -/
def Fl (n : Nat) (L : Int) (E : Dd) : Prop := ∀ x l : Int, 0 ≤ x → x < n → 1 ≤ l → l ≤ L → (go E x l).isSome = true
theorem Fl.bk {n : Nat} {L : Int} {E : Dd} (d : Dr L n E) (f : Fl n L E) {x s : Int} (x0 : 0 ≤ x) (x1 : x < n) (hs : Sok L s) : ∃ y, go E x s = some y := by
  by_cases sp : 0 < s
  · exact Option.isSome_iff_exists.mp (f x s x0 x1 (by omega) (by have := hs.2.2; omega))
  · have l1 : 1 ≤ -s := by have := hs.1; omega
    have l4 : -s ≤ L := by have := hs.2.1; omega
    have hsrc : ∀ b : Int, 0 ≤ b → b < n → ∃ y, go E b (-s) = some y ∧ 0 ≤ y ∧ y < n ∧ go E y s = some b := fun b b0 b1 => by
      obtain ⟨y, hy⟩ := Option.isSome_iff_exists.mp (f b (-s) b0 b1 l1 l4)
      obtain ⟨y0, y1, _, hb⟩ := d.ok b (-s) y b0 hy
      rw [Int.neg_neg] at hb
      exact ⟨y, hy, y0, y1, hb⟩
    refine Classical.byContradiction fun hno => ?_
    have hnd : ((range' 0 (n : Int)).map fun b => (go E b (-s)).getD 0).Nodup := by
      rw [List.nodup_iff_pairwise_ne, List.pairwise_map]
      refine (rng_nd 0 (n : Int)).imp_of_mem fun {a b} ha hb hab e => hab ?_
      obtain ⟨a0, a1⟩ := mem_rng ha
      obtain ⟨b0, b1⟩ := mem_rng hb
      obtain ⟨y, e1, _, _, e2⟩ := hsrc a a0 a1
      obtain ⟨z, e3, _, _, e4⟩ := hsrc b b0 b1
      rw [e1, e3] at e
      have e : y = z := e
      rw [e, e4] at e2
      exact (Option.some.inj e2).symm
    have hm : x ∉ ((range' 0 (n : Int)).map fun b => (go E b (-s)).getD 0) := fun h => by
      obtain ⟨b, hb, e⟩ := List.mem_map.mp h
      obtain ⟨b0, b1⟩ := mem_rng hb
      obtain ⟨y, e1, _, _, e2⟩ := hsrc b b0 b1
      rw [e1] at e
      have e : y = x := e
      rw [e] at e2
      exact hno ⟨b, e2⟩
    have := nodup_le (x :: ((range' 0 (n : Int)).map fun b => (go E b (-s)).getD 0)) (range' 0 (n : Int)) (List.nodup_cons.mpr ⟨hm, hnd⟩) fun y hy => by
      rcases List.mem_cons.mp hy with rfl | hy
      · exact mem_rng'.mpr ⟨x0, x1⟩
      · obtain ⟨b, hb, rfl⟩ := List.mem_map.mp hy
        obtain ⟨b0, b1⟩ := mem_rng hb
        obtain ⟨y, e1, y0, y1, _⟩ := hsrc b b0 b1
        rw [e1]
        exact mem_rng'.mpr ⟨y0, y1⟩
    rw [List.length_cons, List.length_map] at this
    omega
theorem Fl.gone {n : Nat} {L : Int} {E : Dd} (d : Dr L n E) (f : Fl n L E) : ∀ {w : List Int} {x : Int}, (∀ s ∈ w, Sok L s) → 0 ≤ x → x < n → ∃ y, goW E x w = some y ∧ 0 ≤ y ∧ y < n
  | [], x, _, x0, x1 => ⟨x, rfl, x0, x1⟩
  | s :: w, x, h, x0, x1 => by
    obtain ⟨y, hy⟩ := f.bk d x0 x1 (h s List.mem_cons_self)
    obtain ⟨y0, y1, _⟩ := d.ok x s y x0 hy
    obtain ⟨z, hz, z0, z1⟩ := Fl.gone d f (w := w) (fun t ht => h t (List.mem_cons_of_mem _ ht)) y0 y1
    refine ⟨z, ?_, z0, z1⟩
    unfold goW
    rw [hy]
    exact hz
/-- where a walk leads each place -/
def tw (n : Nat) (E : Dd) (w : List Int) : List Int := (range' 0 (n : Int)).map fun x => (goW E x w).getD 0
theorem tw_len (n : Nat) (E : Dd) (w : List Int) : (tw n E w).length = n := by
  unfold tw
  rw [List.length_map, rng_len]
  omega
theorem tw_at {n : Nat} {E : Dd} {w : List Int} {x : Int} (x0 : 0 ≤ x) (x1 : x < n) : (tw n E w)[x.toNat]? = some ((goW E x w).getD 0) := by
  unfold tw range'
  rw [List.getElem?_map, List.getElem?_map, List.getElem?_range (by omega)]
  show some ((goW E (0 + ((x.toNat : Nat) : Int)) w).getD 0) = _
  rw [show (0 : Int) + ((x.toNat : Nat) : Int) = x by omega]
theorem tw_idx {n : Nat} {E : Dd} {w : List Int} {x y : Int} (x0 : 0 ≤ x) (x1 : x < n) (h : goW E x w = some y) : idx (tw n E w) x = some y := idx_of x0 (by rw [tw_at x0 x1, h]; rfl)
theorem tw_nil {n : Nat} {E : Dd} : tw n E [] = range' 0 (n : Int) := by
  unfold tw
  show (range' 0 (n : Int)).map (fun x => x) = _
  exact List.map_id' _
theorem tw_isP {L : Int} {n : Nat} {E : Dd} (d : Dr L n E) (f : Fl n L E) {w : List Int} (hw : ∀ s ∈ w, Sok L s) : IsP n (tw n E w) := by
  refine ⟨tw_len n E w, ?_, fun y hy => ?_⟩
  · unfold tw
    rw [List.nodup_iff_pairwise_ne, List.pairwise_map]
    refine (rng_nd 0 (n : Int)).imp_of_mem fun {a b} ha hb hab e => hab ?_
    obtain ⟨a0, a1⟩ := mem_rng ha
    obtain ⟨b0, b1⟩ := mem_rng hb
    obtain ⟨y, e1, _⟩ := f.gone d hw a0 a1
    obtain ⟨z, e2, _⟩ := f.gone d hw b0 b1
    rw [e1, e2] at e
    have e : y = z := e
    subst e
    exact goW_one d a0 b0 e1 e2
  · obtain ⟨x, hx, rfl⟩ := List.mem_map.mp hy
    obtain ⟨x0, x1⟩ := mem_rng hx
    obtain ⟨y, e1, y0, y1⟩ := f.gone d hw x0 x1
    rw [e1]
    exact ⟨y0, y1⟩
/-- a book that holds the turns of the letters -/
def Tb (n : Nat) (L : Int) (E : Dd) (T : List (List Int)) : Prop := (T.length : Int) = L ∧ ∀ l : Int, 1 ≤ l → l ≤ L → T[(l - 1).toNat]? = some (tw n E [l])
theorem Tb.bk {L : Int} {n : Nat} {E : Dd} {T : List (List Int)} (d : Dr L n E) (f : Fl n L E) (h : Tb n L E T) : Bk n L T := by
  refine ⟨h.1, fun t ht => ?_⟩
  obtain ⟨i, hi⟩ := List.mem_iff_getElem?.mp ht
  have hl := (List.getElem?_eq_some_iff.mp hi).1
  have hh := h.1
  have := h.2 ((i : Int) + 1) (by omega) (by omega)
  rw [show ((i : Int) + 1 - 1).toNat = i by omega, hi] at this
  cases this
  exact tw_isP d f fun s hs => by
    rw [List.mem_singleton.mp hs]
    exact ⟨by omega, by omega, by omega⟩
theorem goW_sing (E : Dd) (x s : Int) : goW E x [s] = go E x s := by
  unfold goW
  cases go E x s <;> rfl
theorem by_step_tw {L : Int} {n : Nat} {E : Dd} {T : List (List Int)} (d : Dr L n E) (f : Fl n L E) (h : Tb n L E T) (h1 : 1 ≤ L) (h4 : L ≤ 4) (hn : n ≤ 1000) : ∃ B, Q_turns_by_step (L, T) = some B ∧ ∀ s, Sok L s → dGet B s = some (tw n E [s]) := by
  obtain ⟨B, e, hB⟩ := by_step_ok (h.bk d f) h1 h4 hn
  refine ⟨B, e, fun s hs => ?_⟩
  by_cases sp : 0 < s
  · obtain ⟨t, a1, a2⟩ := hB.fw s (by omega) (by have := hs.2.2; omega)
    rw [h.2 s (by omega) (by have := hs.2.2; omega)] at a1
    cases a1
    exact a2
  · obtain ⟨l, rfl⟩ : ∃ l, s = -l := ⟨-s, (Int.neg_neg s).symm⟩
    have l1 : 1 ≤ l := by have := hs.1; omega
    have l4 : l ≤ L := by have := hs.2.1; omega
    obtain ⟨t, b, a1, a2, a3, a4⟩ := hB.bw l l1 l4
    rw [h.2 l l1 l4] at a1
    cases a1
    rw [a2]
    refine congrArg some (List.ext_getElem? fun i => ?_)
    by_cases hi : i < n
    · obtain ⟨y, hy⟩ := f.bk d (x := (i : Int)) (by omega) (by omega) hs
      obtain ⟨y0, y1, _, hb⟩ := d.ok (i : Int) (-l) y (by omega) hy
      rw [Int.neg_neg] at hb
      have c1 : (tw n E [l])[y.toNat]? = some (i : Int) := by rw [tw_at y0 y1, goW_sing, hb]; rfl
      have c2 := a4 _ _ c1
      rw [Int.toNat_natCast] at c2
      have c3 := tw_at (E := E) (w := [-l]) (x := (i : Int)) (n := n) (by omega) (by omega)
      rw [Int.toNat_natCast, goW_sing, hy] at c3
      rw [c2, c3]
      show some ((y.toNat : Nat) : Int) = some y
      congr 1
      omega
    · rw [List.getElem?_eq_none (by omega), List.getElem?_eq_none (by rw [tw_len]; omega)]
theorem places_tw {L : Int} {n : Nat} {E : Dd} {T : List (List Int)} (h : Tb n L E T) (h1 : 1 ≤ L) : Q_places_of (L, T) = some (n : Int) := by
  have := h.2 1 (Int.le_refl _) h1
  unfold Q_places_of
  refine bindS (idx_of (by decide) this) ?_
  rw [tw_len]
theorem comp_tw {L : Int} {n : Nat} {E : Dd} (d : Dr L n E) (f : Fl n L E) {u v : List Int} (hu : ∀ s ∈ u, Sok L s) (hv : ∀ s ∈ v, Sok L s) (hn : n ≤ 100000) : lcO (β := Int) (fun (place14 : Int) => ((idx (tw n E v) place14).bind fun t16 => some t16)) (tw n E u) = some (tw n E (u ++ v)) := by
  have e : lcO (β := Int) (fun (place14 : Int) => ((idx (tw n E v) place14).bind fun t16 => some t16)) (tw n E u) = some ((tw n E u).map fun y => (goW E y v).getD 0) := lcO_some _ (by rw [tw_len, sizeL]; omega) fun y hy => by
    obtain ⟨x, hx, rfl⟩ := List.mem_map.mp hy
    obtain ⟨x0, x1⟩ := mem_rng hx
    obtain ⟨y, e1, y0, y1⟩ := f.gone d hu x0 x1
    rw [e1]
    obtain ⟨z, e2, _⟩ := f.gone d hv y0 y1
    refine bindS (tw_idx y0 y1 e2) ?_
    show some z = some ((goW E y v).getD 0)
    rw [e2]
    rfl
  rw [e]
  refine congrArg some ?_
  unfold tw
  rw [List.map_map]
  refine List.map_congr_left fun x hx => ?_
  obtain ⟨x0, x1⟩ := mem_rng hx
  obtain ⟨y, e1, y0, y1⟩ := f.gone d hu x0 x1
  show (goW E ((goW E x u).getD 0) v).getD 0 = _
  rw [goW_app, e1]
  rfl
theorem turned_by_ok {L : Int} {n : Nat} {E : Dd} {T : List (List Int)} (d : Dr L n E) (f : Fl n L E) (h : Tb n L E T) (h1 : 1 ≤ L) (h4 : L ≤ 4) (hn : n ≤ 1000) {w : List Int} (hw : ∀ s ∈ w, Sok L s) : Q_turned_by (L, T) w = some (tw n E w) := by
  obtain ⟨B, e, hB⟩ := by_step_tw d f h h1 h4 hn
  unfold Q_turned_by
  refine bindS e (bindS (places_tw h h1) (bindS (rgO_okN (by omega)) ?_))
  have key : ∀ (w u : List Int), (∀ s ∈ u, Sok L s) → (∀ s ∈ w, Sok L s) → lp (fun (s4 : (List Int)) (step5 : Int) => ((lcO (β := Int) (fun (place9 : Int) => ((dGet B step5).bind fun t11 => (idx t11 place9).bind fun t12 => some t12)) s4).bind fun t13 => some t13)) w (tw n E u) = some (tw n E (u ++ w)) := by
    intro w
    induction w with
    | nil => intro u _ _; rw [List.append_nil]; rfl
    | cons s w ih =>
      intro u hu hw
      unfold lp
      have hs := hw s List.mem_cons_self
      have ec := comp_tw d f (v := [s]) hu (fun t ht => by rw [List.mem_singleton.mp ht]; exact hs) (by omega)
      have e1 : lcO (β := Int) (fun (place9 : Int) => ((dGet B s).bind fun t11 => (idx t11 place9).bind fun t12 => some t12)) (tw n E u) = some (tw n E (u ++ [s])) := by
        rw [hB s hs]
        exact ec
      refine bindS (bindS e1 rfl) ?_
      rw [ih (u ++ [s]) (fun t ht => (List.mem_append.mp ht).elim (hu t) fun z => by rw [List.mem_singleton.mp z]; exact hs) fun t ht => hw t (List.mem_cons_of_mem _ ht), List.append_assoc]
      rfl
  have := key w [] (fun _ z => (nomatch z)) hw
  rw [tw_nil] at this
  exact bindS this rfl
theorem turned_often_ok {L : Int} {n : Nat} {E : Dd} (d : Dr L n E) (f : Fl n L E) (hn : n ≤ 4000) {w : List Int} (hw : ∀ s ∈ w, Sok L s) {times : Int} (t0 : 0 ≤ times) : Q_turned_often (tw n E w) times = some (tw n E (rep w times.toNat)) := by
  have hrep : ∀ j : Nat, ∀ s ∈ rep w j, Sok L s := fun j s hs => hw s (flat_mem hs)
  unfold Q_turned_often
  rw [tw_len]
  have hlc : (range' 0 (n : Int)).length = n := by rw [rng_len]; omega
  refine bindS (rngO_ok (by omega)) ?_
  obtain ⟨s, e, hs1, hs2⟩ := lp_goN (f := (fun (s2 : (List Int)) (first3 : Int) => ((idx (tw n E w) first3).bind fun t8 => ((wh (fun (s9 : (Int × (List Int))) => some (!decide (s9.1 = first3))) (fun (s9 : (Int × (List Int))) => (((appO s9.2 s9.1).bind fun t13 => ((idx (tw n E w) s9.1).bind fun t14 => some (Step.go (t14, t13)))) : Option (Step (List Int) (Int × (List Int))))) 10000 (t8, [first3])).bind fun f10o => Sum.elim (fun r18 => none) (fun f10 => ((modO times (f10.2.length : Int)).bind fun t15 => (idx f10.2 t15).bind fun t16 => (setO s2 first3 t16).bind fun t17 => some t17)) f10o)))) (xs := range' 0 (n : Int))
    (fun i s => s.length = n ∧ ∀ j : Nat, j < i → s[j]? = (tw n E (rep w times.toNat))[j]?) (fun i x s hx hs => by
    obtain ⟨rfl, hi⟩ := rngAt hx
    rw [show (0 : Int) + (i : Int) = i from Int.zero_add _]
    have hi' : i < n := by omega
    obtain ⟨q1, q2⟩ := hs
    have at_ : ∀ j : Nat, ∃ y, goW E (i : Int) (rep w j) = some y ∧ 0 ≤ y ∧ y < n := fun j => f.gone d (hrep j) (by omega) (by omega)
    have nxt : ∀ (j : Nat) (y z : Int), goW E (i : Int) (rep w j) = some y → goW E (i : Int) (rep w (j + 1)) = some z → goW E y w = some z := fun j y z ey ez => by
      rw [rep_succ', goW_app, ey] at ez
      exact ez
    obtain ⟨h0, eh0, h00, h01⟩ := at_ 1
    have e8 : idx (tw n E w) (i : Int) = some h0 := tw_idx (by omega) (by omega) (by rw [rep_oneW] at eh0; exact eh0)
    obtain ⟨r, e9, hr⟩ : ∃ r, ((wh (fun (s9 : (Int × (List Int))) => some (!decide (s9.1 = (i : Int)))) (fun (s9 : (Int × (List Int))) => (((appO s9.2 s9.1).bind fun t13 => ((idx (tw n E w) s9.1).bind fun t14 => some (Step.go (t14, t13)))) : Option (Step (List Int) (Int × (List Int))))) 10000 (h0, [(i : Int)])).bind fun f10o => Sum.elim (fun r18 => none) (fun f10 => ((modO times (f10.2.length : Int)).bind fun t15 => (idx f10.2 t15).bind fun t16 => (setO s (i : Int) t16).bind fun t17 => some t17)) f10o) = some r ∧ (r.length = n ∧ ∀ j : Nat, j < i + 1 → r[j]? = (tw n E (rep w times.toNat))[j]?) := by
      refine whX (fun s9 : Int × List Int => ∃ k : Nat, 1 ≤ k ∧ k ≤ n ∧ s9.2.length = k ∧ goW E (i : Int) (rep w k) = some s9.1 ∧ (∀ j, j < k → ∃ b, s9.2[j]? = some b ∧ goW E (i : Int) (rep w j) = some b) ∧ ∀ j, 1 ≤ j → j < k → goW E (i : Int) (rep w j) ≠ some (i : Int)) (fun s9 => n - s9.2.length) ⟨1, Nat.le_refl _, by omega, rfl, eh0, fun j hj => ?_, fun j j1 j2 => by omega⟩ (by show n - _ < 10000; omega) (fun s9 h9 => ?_) (fun s9 h9 hcf => ?_)
      · have : j = 0 := by omega
        subst this
        exact ⟨(i : Int), rfl, rfl⟩
      · obtain ⟨k, k1, kn, kl, ke, kr, kf⟩ := h9
        obtain ⟨y, c⟩ := s9
        by_cases z : y = (i : Int)
        · exact .inl (congrArg some (by simp [z]))
        · refine .inr ⟨congrArg some (by simp [z]), ?_⟩
          obtain ⟨y', ey', y0', y1'⟩ := at_ k
          have ke : goW E (i : Int) (rep w k) = some y := ke
          rw [ke] at ey'
          cases ey'
          obtain ⟨g, eg, g0, g1⟩ := at_ (k + 1)
          have hg := nxt k y g ke eg
          have kl : c.length = k := kl
          have kr' : ∀ j, j < k + 1 → ∃ b, (c ++ [y])[j]? = some b ∧ goW E (i : Int) (rep w j) = some b := fun j hj => by
            by_cases zj : j < k
            · obtain ⟨b, b1, b2⟩ := kr j zj
              exact ⟨b, by rw [List.getElem?_append_left (by omega)]; exact b1, b2⟩
            · have : j = k := by omega
              subst this
              exact ⟨y, by rw [List.getElem?_append_right (by omega), kl, Nat.sub_self]; rfl, ke⟩
          have kf' : ∀ j, 1 ≤ j → j < k + 1 → goW E (i : Int) (rep w j) ≠ some (i : Int) := fun j j1 j2 => by
            by_cases zj : j < k
            · exact kf j j1 zj
            · have : j = k := by omega
              subst this
              rw [ke]
              exact fun q => z (Option.some.inj q)
          have hfr := rep_fresh d (w := w) (a := (i : Int)) (k := k + 1) (row := c ++ [y]) (by omega) (by omega) (by rw [List.length_append, kl]; rfl) kr' kf'
          refine ⟨(g, c ++ [y]), bindS (Z.app_ok (by rw [kl, sizeL]; omega)) (bindS (tw_idx y0' y1' hg) rfl), ⟨k + 1, by omega, hfr, by rw [List.length_append, kl]; rfl, eg, kr', kf'⟩, ?_⟩
          show n - (c ++ [y]).length < n - c.length
          rw [List.length_append, kl, List.length_singleton]
          omega
      · obtain ⟨k, k1, kn, kl, ke, kr, kf⟩ := h9
        obtain ⟨y, c⟩ := s9
        have kl : c.length = k := kl
        have hy : y = (i : Int) := by
          have hcf : some (!decide (y = (i : Int))) = some false := hcf
          simpa using Option.some.inj hcf
        have ke : goW E (i : Int) (rep w k) = some y := ke
        rw [hy] at ke
        have km : (0 : Int) < (k : Int) := by omega
        have m0 := Int.emod_nonneg times (show (k : Int) ≠ 0 by omega)
        have m1 := Int.emod_lt_of_pos times km
        obtain ⟨b, b1, b2⟩ := kr (times % (k : Int)).toNat (by omega)
        have hround := rep_round ke (times / (k : Int)).toNat (times % (k : Int)).toNat
        have hq : (times / (k : Int)).toNat * k + (times % (k : Int)).toNat = times.toNat := by
          have q0 : 0 ≤ times / (k : Int) := Int.ediv_nonneg t0 (by omega)
          have := Int.mul_ediv_add_emod times (k : Int)
          have e1 : (((times / (k : Int)).toNat * k : Nat) : Int) = times / (k : Int) * (k : Int) := by rw [Int.natCast_mul, Int.toNat_of_nonneg q0]
          rw [Int.mul_comm] at this
          omega
        rw [hq, b2] at hround
        refine ⟨s.set i b, ?_, by rw [List.length_set]; exact q1, fun j hj => ?_⟩
        · show ((modO times (c.length : Int)).bind _) = _
          rw [kl]
          refine bindS (modO_lit km) (bindS (idx_of m0 b1) (bindS (set_okI (by omega) (by omega) b) ?_))
          rw [Int.toNat_natCast]
        · rw [List.getElem?_set]
          by_cases z : i = j
          · subst z
            rw [if_pos rfl, if_pos (by omega)]
            have := tw_at (E := E) (w := rep w times.toNat) (x := (i : Int)) (n := n) (by omega) (by omega)
            rw [Int.toNat_natCast, hround] at this
            exact this.symm
          · rw [if_neg z]
            exact q2 j (by omega)
    exact ⟨r, bindS e8 e9, hr⟩) (s0 := tw n E w) ⟨tw_len n E w, fun j hj => absurd hj (Nat.not_lt_zero _)⟩
  refine bindS e (congrArg some (List.ext_getElem? fun i => ?_))
  by_cases hi : i < n
  · exact hs2 i (by rw [hlc]; exact hi)
  · rw [List.getElem?_eq_none (by omega), List.getElem?_eq_none (by rw [tw_len]; omega)]
theorem timesW_sok {L : Int} {w : List Int} {t : Int} (h : ∀ s ∈ w, Sok L s) : ∀ s ∈ timesW w t, Sok L s := fun s hs => by
  unfold timesW at hs
  have := flat_mem hs
  split at this
  · exact h s this
  · exact iv_sokW h s this
theorem outW_sok {L : Int} : ∀ {sh : List (List Int × Int)}, (∀ p ∈ sh, ∀ x ∈ p.1, Sok L x) → ∀ s ∈ outW sh, Sok L s
  | [], _ => fun _ z => nomatch z
  | p :: sh, h => app_sokW (timesW_sok (h p List.mem_cons_self)) (outW_sok fun q hq => h q (List.mem_cons_of_mem _ hq))
theorem short_turn_ok {L : Int} {n m : Nat} {E : Dd} {T : List (List Int)} (d : Dr L n E) (f : Fl n L E) (h : Tb n L E T) (h1 : 1 ≤ L) (h4 : L ≤ 4) (n1 : 1 ≤ n) (hn : n ≤ 40) (hm : m ≤ 1000) {sh : List (List Int × Int)} (hs : ShO m L sh) (hl : sh.length ≤ 60) : Q_short_turn (L, T) sh = some (tw n E (outW sh)) := by
  unfold Q_short_turn
  refine bindS (need_book_ok (h.bk d f) h1 h4 n1 hn) (bindS (need_shorts_ok (by omega) hs hl) (bindS (places_tw h h1) (bindS (rgO_okN (by omega)) ?_)))
  have key : ∀ (sh : List (List Int × Int)) (u : List Int), (∀ s ∈ u, Sok L s) → ShO m L sh → lp (fun (s5 : (List Int)) (x6 : ((List Int) × Int)) => ((if (decide (0 < x6.2)) = true then some x6.1 else ((Q_turned_back x6.1).bind fun t10 => some t10)).bind fun t11 => ((Q_turned_by (L, T) t11).bind fun t12 => (Q_turned_often t12 (absI x6.2)).bind fun t13 => ((lcO (β := Int) (fun (place14 : Int) => ((idx t13 place14).bind fun t16 => some t16)) s5).bind fun t17 => some t17)))) sh (tw n E u) = some (tw n E (u ++ outW sh)) := by
    intro sh
    induction sh with
    | nil => intro u _ _; show some (tw n E u) = some (tw n E (u ++ [])); rw [List.append_nil]
    | cons p sh ih =>
      intro u hu hp
      unfold lp
      have ho := hp.ok p List.mem_cons_self
      have hle := hp.len p List.mem_cons_self
      have e1 : (if (decide (0 < p.2)) = true then some p.1 else ((Q_turned_back p.1).bind fun t10 => some t10)) = some (if 0 < p.2 then p.1 else iv p.1) := by
        by_cases z : 0 < p.2
        · rw [if_pos (decide_eq_true z), if_pos z]
        · rw [if_neg (by simpa using z), if_neg z]
          exact bindS (tback_okS (by omega)) rfl
      have hsk : ∀ s ∈ (if 0 < p.2 then p.1 else iv p.1), Sok L s := by
        split
        · exact ho
        · exact iv_sokW ho
      have e3 := turned_often_ok d f (by omega) hsk (times := absI p.2) (by unfold absI; split <;> omega)
      have ea : (absI p.2).toNat = p.2.natAbs := by unfold absI; split <;> omega
      rw [ea] at e3
      have e4 := comp_tw d f (v := timesW p.1 p.2) hu (timesW_sok ho) (by omega)
      refine bindS (bindS e1 (bindS (turned_by_ok d f h h1 h4 (by omega) hsk) (bindS e3 (bindS e4 rfl)))) ?_
      rw [ih (u ++ timesW p.1 p.2) (app_sokW hu (timesW_sok ho)) ⟨fun q hq => hp.len q (List.mem_cons_of_mem _ hq), fun q hq => hp.ok q (List.mem_cons_of_mem _ hq), fun q hq => hp.tz q (List.mem_cons_of_mem _ hq)⟩, List.append_assoc]
      rfl
  have := key sh [] (fun _ z => (nomatch z)) hs
  rw [tw_nil] at this
  exact bindS this rfl
end Z
namespace Z
open PySem PySem.Spec L2
end Z
namespace Z
open PySem PySem.Spec L2
theorem cell_app {rows : List (List Int)} {i j : Nat} {x : Int} (hj : j < rows.length) (hr : (rows.getD j []).length = i) {a l : Int} (a0 : 0 ≤ a) (l0 : 0 ≤ l) : cell (rows.set j (rows.getD j [] ++ [x])) a l = if a = j ∧ l = i then x else cell rows a l := by
  unfold cell
  rw [getD_set' rows j a.toNat _ [] hj]
  by_cases ea : a = j
  · have e1 : j = a.toNat := by omega
    rw [if_pos e1, ← e1]
    generalize rows.getD j [] = r at hr ⊢
    by_cases el : l = i
    · rw [if_pos ⟨ea, el⟩, List.getD_eq_getElem?_getD, List.getElem?_append_right (by omega)]
      rw [show l.toNat - r.length = 0 by omega]
      rfl
    · rw [if_neg (fun z => el z.2)]
      by_cases lt : l.toNat < i
      · rw [List.getD_eq_getElem?_getD, List.getD_eq_getElem?_getD, List.getElem?_append_left (by omega)]
      · rw [List.getD_eq_getElem?_getD, List.getD_eq_getElem?_getD, List.getElem?_eq_none (by rw [List.length_append]; show _ + 1 ≤ _; omega), List.getElem?_eq_none (by omega)]
  · rw [if_neg (by omega), if_neg (fun z => ea z.1)]
structure Dw (N i j : Nat) (rows : List (List Int)) (free : List Int) : Prop where
  len : rows.length = N
  rl : ∀ a : Nat, a < N → (rows.getD a []).length = if a < j then i + 1 else i
  cb : ∀ a l : Int, 0 ≤ a → 0 ≤ l → -1 ≤ cell rows a l ∧ cell rows a l < N
  one : ∀ a b l k : Int, 0 ≤ a → 0 ≤ b → 0 ≤ l → 0 ≤ k → cell rows a l = k → cell rows b l = k → a = b
  fd : free.Nodup
  fr : ∀ x ∈ free, 0 ≤ x ∧ x < N
  fo : ∀ a : Int, 0 ≤ a → cell rows a i ∉ free
  fl : N ≤ free.length + j
  fu : free.length ≤ N
theorem Dw.step {N i j : Nat} {rows : List (List Int)} {free : List Int} (D : Dw N i j rows free) (hj : j < N) {x : Int} {free' : List Int} (hx : -1 ≤ x ∧ x < N) (h1 : ∀ a : Int, 0 ≤ a → 0 ≤ x → cell rows a i ≠ x) (h2 : free'.Nodup) (h3 : ∀ y ∈ free', y ∈ free ∧ y ≠ x) (h4 : free.length ≤ free'.length + 1) (h5 : free'.length ≤ free.length) : Dw N i (j + 1) (rows.set j (rows.getD j [] ++ [x])) free' := by
  have hl := D.len
  have hr := D.rl j hj
  rw [if_neg (by omega)] at hr
  have ce := fun {a l : Int} (a0 : 0 ≤ a) (l0 : 0 ≤ l) => cell_app (x := x) (show j < rows.length by omega) hr a0 l0
  refine ⟨by rw [List.length_set]; exact hl, fun a ha => ?_, fun a l a0 l0 => ?_, fun a b l k a0 b0 l0 k0 e1 e2 => ?_, h2, fun y hy => D.fr y (h3 y hy).1, fun a a0 => ?_, by have := D.fl; omega, by have := D.fu; omega⟩
  · rw [getD_set' rows j a _ [] (by omega)]
    by_cases e : j = a
    · rw [if_pos e, List.length_append, hr, if_pos (by omega)]
      rfl
    · rw [if_neg e, D.rl a ha]
      by_cases q : a < j
      · rw [if_pos q, if_pos (by omega)]
      · rw [if_neg q, if_neg (by omega)]
  · rw [ce a0 l0]
    split
    · exact hx
    · exact D.cb a l a0 l0
  · rw [ce a0 l0] at e1
    rw [ce b0 l0] at e2
    by_cases q1 : a = j ∧ l = i
    · rw [if_pos q1] at e1
      by_cases q2 : b = j ∧ l = i
      · exact q1.1.trans q2.1.symm
      · rw [if_neg q2] at e2
        exfalso
        refine h1 b b0 (by omega) ?_
        rw [← q1.2, e2, e1]
    · rw [if_neg q1] at e1
      by_cases q2 : b = j ∧ l = i
      · rw [if_pos q2] at e2
        exfalso
        refine h1 a a0 (by omega) ?_
        rw [← q2.2, e1, e2]
      · rw [if_neg q2] at e2
        exact D.one a b l k a0 b0 l0 k0 e1 e2
  · rw [ce a0 (by omega)]
    split
    · exact fun z => (h3 x z).2 rfl
    · exact fun z => D.fo a a0 (h3 _ z).1
theorem Dw.next {N i : Nat} {rows : List (List Int)} {free : List Int} (D : Dw N i N rows free) : Dw N (i + 1) 0 rows (range' 0 (N : Int)) := by
  have hl := D.len
  refine ⟨hl, fun a ha => ?_, D.cb, D.one, rng_nd _ _, fun x hx => mem_rng hx, fun a a0 z => ?_, by rw [rng_len]; omega, by rw [rng_len]; omega⟩
  · rw [D.rl a ha, if_pos ha, if_neg (Nat.not_lt_zero _)]
  · have : cell rows a ((i + 1 : Nat) : Int) = -1 := by
      refine cell_out ?_
      by_cases h : a.toNat < N
      · refine .inr fun r hr => ?_
        have := D.rl a.toNat h
        rw [if_pos h, List.getD_eq_getElem?_getD, hr] at this
        have this : r.length = i + 1 := this
        omega
      · exact .inl (by omega)
    rw [this] at z
    have := (mem_rng z).1
    omega
end Z
namespace Z
open PySem PySem.Spec L2
end Z
namespace Z
open PySem PySem.Spec L2
end Z
namespace Z
open PySem PySem.Spec L2
def tlK (T : List (List Int)) (l x : Int) : Int := (T.getD (l - 1).toNat []).getD x.toNat 0
def nxK (B : List (Int × List Int)) (s x : Int) : Int := ((dGet B s).getD []).getD x.toNat 0
theorem dGet_tabK {K : List Int} (hK : K.Nodup) (g : Int → Int) (s : Int) : dGet (K.map fun k => (k, g k)) s = if s ∈ K then some (g s) else none := by
  have hnd : ((K.map fun k => (k, g k)).map Prod.fst).Nodup := by
    rw [List.map_map]
    exact (List.map_id' K).symm ▸ hK
  split
  · rename_i h
    exact mem_dGet hnd (List.mem_map.mpr ⟨s, h, rfl⟩)
  · rename_i h
    cases e : dGet (K.map fun k => (k, g k)) s with
    | none => rfl
    | some v =>
      obtain ⟨k, hk, e2⟩ := List.mem_map.mp (dGet_mem e)
      cases e2
      exact absurd hk h
theorem tl_atK {c : Nat} {L : Int} {T : List (List Int)} (h : Bk c L T) {l x : Int} (l1 : 1 ≤ l) (l4 : l ≤ L) (x0 : 0 ≤ x) (x1 : x < c) : ∃ t, T[(l - 1).toNat]? = some t ∧ IsP c t ∧ t[x.toNat]? = some (tlK T l x) := by
  obtain ⟨hl, ht⟩ := h
  have hi : (l - 1).toNat < T.length := by omega
  have et : T[(l - 1).toNat]? = some T[(l - 1).toNat] := List.getElem?_eq_getElem hi
  have hP := ht _ (List.getElem_mem hi)
  refine ⟨_, et, hP, ?_⟩
  have hx : x.toNat < T[(l - 1).toNat].length := by rw [hP.len]; omega
  unfold tlK
  rw [List.getD_eq_getElem?_getD (l := T), et]
  show _ = some ((T[(l - 1).toNat]).getD x.toNat 0)
  rw [List.getD_eq_getElem?_getD, List.getElem?_eq_getElem hx]
  rfl
/-- the doors of a book, from place to place -/
structure KdW (c : Nat) (L : Int) (T : List (List Int)) (D : Dd) : Prop where
  dr : Dr L c D
  fw : ∀ l x : Int, 1 ≤ l → l ≤ L → 0 ≤ x → x < c → go D x l = some (tlK T l x)
theorem kdW_of {c : Nat} {L : Int} {T : List (List Int)} (h : Bk c L T) (h1 : 1 ≤ L) (h4 : L ≤ 4) {B : List (Int × List Int)} (hB : Bks c L T B) : KdW c L T ((range' 0 (c : Int)).map fun here => (stL L).map fun s => (s, nxK B s here)) := by
  have hnd := stL_nd h1 h4
  have hrow : ∀ x s : Int, 0 ≤ x → go ((range' 0 (c : Int)).map fun here => (stL L).map fun s => (s, nxK B s here)) x s = if x < c ∧ s ∈ stL L then some (nxK B s x) else none := fun x s x0 => by
    unfold go row
    rw [List.getD_eq_getElem?_getD, List.getElem?_map]
    by_cases hx : x < c
    · have : (range' 0 (c : Int))[x.toNat]? = some x := by
        unfold range'
        rw [List.getElem?_map, List.getElem?_range (by omega)]
        exact congrArg some (show (0 : Int) + ((x.toNat : Nat) : Int) = x by omega)
      rw [this]
      show dGet ((stL L).map fun s => (s, nxK B s x)) s = _
      rw [dGet_tabK hnd]
      by_cases hs : s ∈ stL L
      · rw [if_pos hs, if_pos ⟨hx, hs⟩]
      · rw [if_neg hs, if_neg (fun z => hs z.2)]
    · have : (range' 0 (c : Int))[x.toNat]? = none := List.getElem?_eq_none (by rw [rng_len]; omega)
      rw [this, if_neg (fun z => hx z.1)]
      rfl
  have hf : ∀ l x : Int, 1 ≤ l → l ≤ L → 0 ≤ x → x < c → nxK B l x = tlK T l x ∧ 0 ≤ tlK T l x ∧ tlK T l x < c ∧ nxK B (-l) (tlK T l x) = x := fun l x l1 l4 x0 x1 => by
    obtain ⟨t, t1, hP, t2⟩ := tl_atK h l1 l4 x0 x1
    obtain ⟨t', a1, a2⟩ := hB.fw l l1 l4
    obtain ⟨t'', b, a3, a4, a5, a6⟩ := hB.bw l l1 l4
    rw [t1] at a1 a3
    cases a1
    cases a3
    obtain ⟨r0, r1⟩ := hP.rg _ (List.mem_of_getElem? t2)
    refine ⟨?_, r0, r1, ?_⟩
    · unfold nxK
      rw [a2]
      show t.getD x.toNat 0 = _
      rw [List.getD_eq_getElem?_getD, t2]
      rfl
    · unfold nxK
      rw [a4]
      show b.getD (tlK T l x).toNat 0 = _
      rw [List.getD_eq_getElem?_getD, a6 _ _ t2]
      show ((x.toNat : Nat) : Int) = x
      omega
  have hfw : ∀ l x : Int, 1 ≤ l → l ≤ L → 0 ≤ x → x < c → go ((range' 0 (c : Int)).map fun here => (stL L).map fun s => (s, nxK B s here)) x l = some (tlK T l x) := fun l x l1 l4 x0 x1 => by
    rw [hrow x l x0, if_pos ⟨x1, mem_stL.mpr ⟨by omega, by omega, by omega⟩⟩, (hf l x l1 l4 x0 x1).1]
  refine ⟨⟨by rw [List.length_map, rng_len]; omega, fun d hd => ?_, fun x s y x0 e => ?_⟩, hfw⟩
  · obtain ⟨x, hx, rfl⟩ := List.mem_map.mp hd
    rw [List.map_map]
    exact (List.map_id' (stL L)).symm ▸ hnd
  · rw [hrow x s x0] at e
    split at e
    · rename_i hz
      obtain ⟨x1, hs⟩ := hz
      cases e
      have hs := mem_stL.mp hs
      by_cases sp : 0 < s
      · obtain ⟨q1, q2, q3, q4⟩ := hf s x (by omega) (by have := hs.2.2; omega) x0 x1
        rw [q1]
        refine ⟨q2, q3, hs, ?_⟩
        rw [hrow _ _ q2, if_pos ⟨q3, mem_stL.mpr hs.neg⟩, q4]
      · obtain ⟨l, rfl⟩ : ∃ l, s = -l := ⟨-s, (Int.neg_neg s).symm⟩
        have l1 : 1 ≤ l := by have := hs.1; omega
        have l4 : l ≤ L := by have := hs.2.1; omega
        -- x is led from somewhere
        obtain ⟨t, t1, hP, _⟩ := tl_atK h l1 l4 x0 x1
        obtain ⟨i, hi⟩ := List.mem_iff_getElem?.mp (hP.all x0 x1)
        have hic := (List.getElem?_eq_some_iff.mp hi).1
        rw [hP.len] at hic
        obtain ⟨t', t1', _, t2'⟩ := tl_atK h l1 l4 (x := (i : Int)) (by omega) (by omega)
        rw [t1] at t1'
        cases t1'
        rw [Int.toNat_natCast, hi] at t2'
        have hx : x = tlK T l (i : Int) := Option.some.inj t2'
        obtain ⟨q1, q2, q3, q4⟩ := hf l (i : Int) l1 l4 (by omega) (by omega)
        rw [hx, q4]
        refine ⟨by omega, by omega, hs, ?_⟩
        rw [Int.neg_neg, hfw l _ l1 l4 (by omega) (by omega)]
    · cases e
end Z
namespace Z
open PySem PySem.Spec L2
def R_turn (w_well_here : (List Int)) (many : Int) : Option ((List Int) × (List Int)) :=
  ((rgO 0 many).bind fun t1 => ((wh (fun (s4 : ((List Int) × (List Int) × (List Int))) => some (decide (0 < (s4.2.1.length : Int)))) (fun (s4 : ((List Int) × (List Int) × (List Int))) => (((pickB s4.2.2 (s4.2.1.length : Int)).bind fun t8 => (popI s4.2.1 t8.1).bind fun t9 => (appO s4.1 t9.1).bind fun t10 => some (Step.go (t10, t9.2, t8.2))) : Option (Step ((List Int) × (List Int)) ((List Int) × (List Int) × (List Int))))) 10000 (([] : (List Int)), t1, w_well_here)).bind fun f5o => Sum.elim (fun r11 => none) (fun f5 => some (f5.1, f5.2.2)) f5o))
def R_book (w_well_here : (List Int)) (letters : Int) (many : Int) : Option ((Int × (List (List Int))) × (List Int)) :=
  ((rngO 0 letters).bind fun t1 => ((lp (fun (s2 : ((List (List Int)) × (List Int))) (letter3 : Int) => ((pickB s2.2 5).bind fun t7 => (pickB t7.2 many).bind fun t8 => ((if (decide (t7.1 < 3)) = true then ((R_turn t8.2 many).bind fun t9 => (appO s2.1 t9.1).bind fun t10 => some (t9.2, t10)) else some (t8.2, s2.1) : Option ((List Int) × (List (List Int)))).bind fun s11 => ((if (decide (t7.1 = 3)) = true then ((rngO 0 many).bind fun t12 => (lcO (β := Int) (fun (place13 : Int) => ((modO (place13 + t8.1) many).bind fun t15 => some t15)) t12).bind fun t16 => (appO s11.2 t16).bind fun t17 => some t17) else some s11.2 : Option (List (List Int))).bind fun s18 => ((if (decide (t7.1 = 4)) = true then ((pickB s11.1 many).bind fun t19 => (rgO 0 many).bind fun t20 => ((setO t20 t8.1 t19.1).bind fun t22 => ((setO t22 t19.1 t8.1).bind fun t23 => ((appO s18 t23).bind fun t24 => some (t19.2, t24))))) else some (s11.1, s18) : Option ((List Int) × (List (List Int)))).bind fun s25 => some (s25.2, s25.1)))))) t1 (([] : (List (List Int))), w_well_here)).bind fun f4 => some ((letters, f4.1), f4.2)))
def R_rows (book_here : (Int × (List (List Int)))) : Option (List (Int × (List Int))) :=
  ((lp (fun (s1 : (List (Int × (List Int)))) (x2 : (Int × (List Int))) => ((lp (fun (s6 : (List Int)) (x7 : (Int × Int)) => ((setO s6 x7.2 x7.1).bind fun t11 => some t11)) (enum x2.2) x2.2).bind fun f8 => ((dPutO s1 (x2.1 + 1) x2.2).bind fun t13 => ((dPutO t13 ((-x2.1) - 1) f8).bind fun t14 => some t14)))) (enum book_here.2) ([] : (List (Int × (List Int))))).bind fun f3 => some f3)
def R_goals (book_here : (Int × (List (List Int)))) (walk_here : (List Int)) : Option (List Int) :=
  ((idx book_here.2 0).bind fun t1 => (rgO 0 (t1.length : Int)).bind fun t2 => (R_rows book_here).bind fun t3 => ((lp (fun (s4 : (List Int)) (step5 : Int) => ((lcO (β := Int) (fun (place9 : Int) => ((dGet t3 step5).bind fun t11 => (idx t11 place9).bind fun t12 => some t12)) s4).bind fun t13 => some t13)) walk_here t2).bind fun f6 => some f6))
def R_circle (goals_here : (List Int)) (place : Int) : Option Int :=
  ((idx goals_here place).bind fun t1 => ((wh (fun (s2 : (Int × Int)) => some (!decide (s2.2 = place))) (fun (s2 : (Int × Int)) => (((idx goals_here s2.2).bind fun t6 => some (Step.go ((s2.1 + 1), t6))) : Option (Step Int (Int × Int)))) 10000 (1, t1)).bind fun f3o => Sum.elim (fun r7 => none) (fun f3 => some f3.1) f3o))
theorem back_lpW {c : Nat} {t : List Int} (h : IsP c t) (hc : c ≤ 1000) : ∃ b, lp (fun (s6 : (List Int)) (x7 : (Int × Int)) => ((setO s6 x7.2 x7.1).bind fun t11 => some t11)) (enum t) t = some b ∧ b.length = c ∧ ∀ (i : Nat) (x : Int), t[i]? = some x → b[x.toNat]? = some (i : Int) := by
  obtain ⟨b, e, b1, b2⟩ := lp_goN (f := fun (s6 : (List Int)) (x7 : (Int × Int)) => ((setO s6 x7.2 x7.1).bind fun t11 => some t11)) (xs := enum t) (fun i s => s.length = c ∧ ∀ (j : Nat) (x : Int), j < i → t[j]? = some x → s[x.toNat]? = some (j : Int)) (fun i y s hy hs => by
    obtain ⟨y1, y2⟩ := enum_get hy
    obtain ⟨q1, q2⟩ := hs
    have hr := h.rg _ (List.mem_of_getElem? y2)
    refine ⟨_, bindS (set_okI hr.1 (by omega) _) rfl, by rw [List.length_set]; exact q1, fun j x hj hx => ?_⟩
    rw [List.getElem?_set]
    by_cases z : j = i
    · subst z
      rw [hx] at y2
      cases y2
      rw [if_pos rfl, if_pos (by omega), y1]
    · have hx' := h.rg _ (List.mem_of_getElem? hx)
      have hne : x ≠ y.2 := fun e => by
        have h1 := (List.getElem?_eq_some_iff.mp hx).1
        have := (List.getElem?_inj h1 h.nd).mp (hx.trans (e ▸ y2.symm))
        exact z this
      rw [if_neg (by omega)]
      exact q2 j x (by omega) hx) (s0 := t) ⟨h.len, fun j x z => by omega⟩
  refine ⟨b, e, b1, fun i x hx => b2 i x ?_ hx⟩
  rw [enum_len]
  exact (List.getElem?_eq_some_iff.mp hx).1
theorem rowsR_ok {L : Int} {n : Nat} {E : Dd} {T : List (List Int)} (d : Dr L n E) (f : Fl n L E) (h : Tb n L E T) (h4 : L ≤ 4) (hn : n ≤ 1000) : ∃ R, R_rows (L, T) = some R ∧ ∀ s, Sok L s → dGet R s = some (tw n E [s]) := by
  have hB := h.bk d f
  have hTl := h.1
  unfold R_rows
  refine lpX (fun i B => B.length ≤ 2 * i ∧ ∀ l : Int, 1 ≤ l → l ≤ (i : Int) → dGet B l = some (tw n E [l]) ∧ dGet B (-l) = some (tw n E [-l])) ⟨Nat.zero_le _, fun l z1 z2 => by omega⟩ (fun i x B hx hs => ?_) (fun B hs => ⟨B, rfl, fun s hs' => ?_⟩)
  · obtain ⟨q1, q2⟩ := hs
    obtain ⟨x1, x2⟩ := enum_get hx
    obtain ⟨y, t⟩ := x
    have x1 : y = (i : Int) := x1
    have x2 : T[i]? = some t := x2
    subst x1
    have hi : i < T.length := (List.getElem?_eq_some_iff.mp x2).1
    have ht : t = tw n E [(i : Int) + 1] := by
      have := h.2 ((i : Int) + 1) (by omega) (by omega)
      rw [show ((i : Int) + 1 - 1).toNat = i by omega, x2] at this
      exact Option.some.inj this
    have hP := hB.2 t (List.mem_of_getElem? x2)
    obtain ⟨b, e3, b1, b2⟩ := back_lpW hP hn
    have hs : Sok L (-((i : Int) + 1)) := ⟨by omega, by omega, by omega⟩
    have hb : b = tw n E [-((i : Int) + 1)] := by
      refine List.ext_getElem? fun j => ?_
      by_cases hj : j < n
      · obtain ⟨y, hy⟩ := f.bk d (x := (j : Int)) (by omega) (by omega) hs
        obtain ⟨y0, y1, _, hb⟩ := d.ok (j : Int) _ y (by omega) hy
        rw [Int.neg_neg] at hb
        have c1 : t[y.toNat]? = some (j : Int) := by rw [ht, tw_at y0 y1, goW_sing, hb]; rfl
        have c2 := b2 _ _ c1
        rw [Int.toNat_natCast] at c2
        have c3 := tw_at (E := E) (w := [-((i : Int) + 1)]) (x := (j : Int)) (n := n) (by omega) (by omega)
        rw [Int.toNat_natCast, goW_sing, hy] at c3
        rw [c2, c3]
        show some ((y.toNat : Nat) : Int) = some y
        congr 1
        omega
      · rw [List.getElem?_eq_none (by omega), List.getElem?_eq_none (by rw [tw_len]; omega)]
    have e4 : dPutO B ((i : Int) + 1) t = some (dPut B ((i : Int) + 1) t) := putO_ok (by rw [sizeL]; omega)
    have l5 := dput_len B ((i : Int) + 1) t
    have e5 : dPutO (dPut B ((i : Int) + 1) t) (-(i : Int) - 1) b = some (dPut (dPut B ((i : Int) + 1) t) (-(i : Int) - 1) b) := putO_ok (by rw [sizeL]; omega)
    have l6 := dput_len (dPut B ((i : Int) + 1) t) (-(i : Int) - 1) b
    refine ⟨_, bindS e3 (bindS e4 (bindS e5 rfl)), by omega, fun l z1 z2 => ?_⟩
    by_cases z : l = (i : Int) + 1
    · subst z
      refine ⟨?_, ?_⟩
      · rw [dGet_put, if_neg (by omega), dGet_put, if_pos rfl, ht]
      · rw [dGet_put, if_pos (by omega), hb]
    · obtain ⟨y1, y2⟩ := q2 l z1 (by omega)
      refine ⟨?_, ?_⟩
      · rw [dGet_put, if_neg (by omega), dGet_put, if_neg (by omega)]
        exact y1
      · rw [dGet_put, if_neg (by omega), dGet_put, if_neg (by omega)]
        exact y2
  · have hel : (enum (L, T).2).length = T.length := enum_len
    rw [hel] at hs
    by_cases sp : 0 < s
    · exact (hs.2 s (by omega) (by have := hs'.2.2; omega)).1
    · have := (hs.2 (-s) (by have := hs'.1; omega) (by have := hs'.2.1; omega)).2
      rw [Int.neg_neg] at this
      exact this
theorem goalsR_ok {L : Int} {n : Nat} {E : Dd} {T : List (List Int)} (d : Dr L n E) (f : Fl n L E) (h : Tb n L E T) (h1 : 1 ≤ L) (h4 : L ≤ 4) (hn : n ≤ 1000) {w : List Int} (hw : ∀ s ∈ w, Sok L s) : R_goals (L, T) w = some (tw n E w) := by
  obtain ⟨B, e, hB⟩ := rowsR_ok d f h h4 hn
  have e0 : idx T 0 = some (tw n E [1]) := idx_of (by decide) (h.2 1 (Int.le_refl _) h1)
  unfold R_goals
  refine bindS e0 (bindS (a := range' 0 (n : Int)) (by rw [tw_len]; exact rgO_okN (by omega)) (bindS e ?_))
  have key : ∀ (w u : List Int), (∀ s ∈ u, Sok L s) → (∀ s ∈ w, Sok L s) → lp (fun (s4 : (List Int)) (step5 : Int) => ((lcO (β := Int) (fun (place9 : Int) => ((dGet B step5).bind fun t11 => (idx t11 place9).bind fun t12 => some t12)) s4).bind fun t13 => some t13)) w (tw n E u) = some (tw n E (u ++ w)) := by
    intro w
    induction w with
    | nil => intro u _ _; rw [List.append_nil]; rfl
    | cons s w ih =>
      intro u hu hw
      unfold lp
      have hs := hw s List.mem_cons_self
      have ec := comp_tw d f (v := [s]) hu (fun t ht => by rw [List.mem_singleton.mp ht]; exact hs) (by omega)
      have e1 : lcO (β := Int) (fun (place9 : Int) => ((dGet B s).bind fun t11 => (idx t11 place9).bind fun t12 => some t12)) (tw n E u) = some (tw n E (u ++ [s])) := by
        rw [hB s hs]
        exact ec
      refine bindS (bindS e1 rfl) ?_
      rw [ih (u ++ [s]) (fun t ht => (List.mem_append.mp ht).elim (hu t) fun z => by rw [List.mem_singleton.mp z]; exact hs) fun t ht => hw t (List.mem_cons_of_mem _ ht), List.append_assoc]
      rfl
  have := key w [] (fun _ z => (nomatch z)) hw
  rw [tw_nil] at this
  exact bindS this rfl
/-- a book's doors -/
theorem bk_fl {c : Nat} {L : Int} {T : List (List Int)} (h : Bk c L T) (h1 : 1 ≤ L) (h4 : L ≤ 4) (hc : c ≤ 1000) : ∃ F, Dr L c F ∧ Fl c L F ∧ Tb c L F T := by
  obtain ⟨B, _, hBs⟩ := by_step_ok h h1 h4 hc
  have K := kdW_of h h1 h4 hBs
  generalize ((range' 0 (c : Int)).map fun here => (stL L).map fun s => (s, nxK B s here)) = F at K
  refine ⟨F, K.dr, fun x l x0 x1 l1 l4 => by rw [K.fw l x l1 l4 x0 x1]; rfl, h.1, fun l l1 l4 => ?_⟩
  have hl := h.1
  have hi : (l - 1).toNat < T.length := by omega
  have et : T[(l - 1).toNat]? = some T[(l - 1).toNat] := List.getElem?_eq_getElem hi
  have hP := h.2 _ (List.getElem_mem hi)
  rw [et]
  refine congrArg some (List.ext_getElem? fun i => ?_)
  by_cases hic : i < c
  · have h2 := tw_at (E := F) (w := [l]) (x := (i : Int)) (n := c) (by omega) (by omega)
    rw [Int.toNat_natCast, goW_sing, K.fw l (i : Int) l1 l4 (by omega) (by omega)] at h2
    rw [h2]
    show _ = some (tlK T l (i : Int))
    unfold tlK
    rw [List.getD_eq_getElem?_getD (l := T), et, Int.toNat_natCast]
    show _ = some ((T[(l - 1).toNat]).getD i 0)
    rw [List.getD_eq_getElem?_getD, List.getElem?_eq_getElem (by rw [hP.len]; exact hic)]
    rfl
  · rw [List.getElem?_eq_none (by rw [hP.len]; omega), List.getElem?_eq_none (by rw [tw_len]; omega)]
def PerOf (F : Dd) (w : List Int) (x : Int) (k : Nat) : Prop := 1 ≤ k ∧ goW F x (rep w k) = some x ∧ ∀ j, 1 ≤ j → j < k → goW F x (rep w j) ≠ some x
theorem PerOf.dvd {F : Dd} {w : List Int} {x : Int} {k : Nat} (h : PerOf F w x k) (t : Nat) : goW F x (rep w t) = some x ↔ t % k = 0 := by
  obtain ⟨k1, hk, hf⟩ := h
  have hr := rep_round hk (t / k) (t % k)
  have e : t / k * k + t % k = t := by rw [Nat.mul_comm]; exact Nat.div_add_mod t k
  rw [e] at hr
  rw [hr]
  have hlt := Nat.mod_lt t (show k > 0 by omega)
  by_cases z : t % k = 0
  · rw [z]
    exact ⟨fun _ => rfl, fun _ => rfl⟩
  · exact ⟨fun y => absurd y (hf _ (by omega) hlt), fun y => absurd y z⟩
theorem iv_repR (w : List Int) : ∀ m, iv (rep w m) = rep (iv w) m
  | 0 => rfl
  | m + 1 => by rw [rep_succ, iv_app, iv_repR w m, ← rep_succ']
theorem PerOf.tim {L : Int} {n : Nat} {F : Dd} (d : Dr L n F) {w : List Int} {x : Int} (x0 : 0 ≤ x) {k : Nat} (h : PerOf F w x k) (t : Int) : goW F x (timesW w t) = some x ↔ t % (k : Int) = 0 := by
  have hk := h.1
  by_cases z : 0 < t
  · have e : timesW w t = rep w t.toNat := by
      unfold timesW
      rw [if_pos z, show t.natAbs = t.toNat by omega]
    rw [e, h.dvd]
    have : ((t.toNat % k : Nat) : Int) = t % (k : Int) := by rw [Int.natCast_emod, Int.toNat_of_nonneg (by omega)]
    omega
  · have e : timesW w t = iv (rep w (-t).toNat) := by
      unfold timesW
      rw [if_neg z, show t.natAbs = (-t).toNat by omega, iv_repR]
    have e2 : goW F x (iv (rep w (-t).toNat)) = some x ↔ goW F x (rep w (-t).toNat) = some x := by
      constructor
      · intro y
        have := goW_iv d _ x x x0 y
        rw [iv_iv] at this
        exact this
      · exact goW_iv d _ x x x0
    rw [e, e2, h.dvd]
    have h1 : (((-t).toNat % k : Nat) : Int) = (-t) % (k : Int) := by rw [Int.natCast_emod, Int.toNat_of_nonneg (by omega)]
    have h2 : (-t) % (k : Int) = 0 ↔ t % (k : Int) = 0 := by
      rw [← Int.dvd_iff_emod_eq_zero, ← Int.dvd_iff_emod_eq_zero]
      exact Int.dvd_neg
    omega
theorem PerOf.one {F : Dd} {w : List Int} {x : Int} {k j : Nat} (h : PerOf F w x k) (g : PerOf F w x j) : k = j := by
  rcases Nat.lt_trichotomy k j with z | z | z
  · exact absurd h.2.1 (g.2.2 k h.1 z)
  · exact z
  · exact absurd g.2.1 (h.2.2 j g.1 z)
theorem per_ex {L : Int} {n : Nat} {F : Dd} (d : Dr L n F) (f : Fl n L F) {w : List Int} (hw : ∀ s ∈ w, Sok L s) {x : Int} (x0 : 0 ≤ x) (x1 : x < n) (hn : n ≤ 4000) : ∃ k, PerOf F w x k ∧ k ≤ n ∧ R_circle (tw n F w) x = some (k : Int) := by
  have hrep : ∀ j : Nat, ∀ s ∈ rep w j, Sok L s := fun j s hs => hw s (flat_mem hs)
  have at_ : ∀ j : Nat, ∃ y, goW F x (rep w j) = some y ∧ 0 ≤ y ∧ y < n := fun j => f.gone d (hrep j) x0 x1
  have nxt : ∀ (j : Nat) (y z : Int), goW F x (rep w j) = some y → goW F x (rep w (j + 1)) = some z → goW F y w = some z := fun j y z ey ez => by
    rw [rep_succ', goW_app, ey] at ez
    exact ez
  have fresh : ∀ k : Nat, (∀ j, 1 ≤ j → j < k → goW F x (rep w j) ≠ some x) → k ≤ n := fun k hf => by
    refine rep_fresh d (w := w) (a := x) (k := k) (row := (List.range k).map fun j => (goW F x (rep w j)).getD 0) x0 x1 (by rw [List.length_map, List.length_range]) (fun j hj => ?_) hf
    obtain ⟨y, e, _⟩ := at_ j
    refine ⟨y, ?_, e⟩
    rw [List.getElem?_map, List.getElem?_range hj]
    show some ((goW F x (rep w j)).getD 0) = some y
    rw [e]
    rfl
  obtain ⟨h0, eh0, h00, h01⟩ := at_ 1
  have e1 : idx (tw n F w) x = some h0 := tw_idx x0 x1 (by rw [rep_oneW] at eh0; exact eh0)
  suffices h : ∃ r, R_circle (tw n F w) x = some r ∧ ∃ k : Nat, r = (k : Int) ∧ PerOf F w x k ∧ k ≤ n by
    obtain ⟨r, e, k, rfl, a, b⟩ := h
    exact ⟨k, a, b, e⟩
  unfold R_circle
  refine bndX e1 (whX (fun s : Int × Int => ∃ k : Nat, s.1 = (k : Int) ∧ 1 ≤ k ∧ k ≤ n ∧ goW F x (rep w k) = some s.2 ∧ ∀ j, 1 ≤ j → j < k → goW F x (rep w j) ≠ some x) (fun s => n - s.1.toNat) ⟨1, rfl, Nat.le_refl _, by omega, eh0, fun j j1 j2 => by omega⟩ (by show n - _ < 10000; omega) (fun s hs => ?_) (fun s hs hcf => ?_))
  · obtain ⟨m, y⟩ := s
    obtain ⟨k, rfl, k1, kn, ke, kf⟩ := hs
    have ke : goW F x (rep w k) = some y := ke
    by_cases z : y = x
    · exact .inl (congrArg some (by simp [z]))
    · refine .inr ⟨congrArg some (by simp [z]), ?_⟩
      obtain ⟨y', ey', y0, y1⟩ := at_ k
      rw [ke] at ey'
      cases ey'
      obtain ⟨g, eg, g0, g1⟩ := at_ (k + 1)
      have kf' : ∀ j, 1 ≤ j → j < k + 1 → goW F x (rep w j) ≠ some x := fun j j1 j2 => by
        by_cases zj : j < k
        · exact kf j j1 zj
        · have : j = k := by omega
          subst this
          rw [ke]
          exact fun q => z (Option.some.inj q)
      have hfr := fresh (k + 1) kf'
      refine ⟨((k : Int) + 1, g), bindS (tw_idx y0 y1 (nxt k y g ke eg)) rfl, ⟨k + 1, by omega, by omega, hfr, eg, kf'⟩, ?_⟩
      show n - ((k : Int) + 1).toNat < n - ((k : Int)).toNat
      omega
  · obtain ⟨m, y⟩ := s
    obtain ⟨k, rfl, k1, kn, ke, kf⟩ := hs
    have hy : y = x := by
      have hcf : some (!decide (y = x)) = some false := hcf
      simpa using Option.some.inj hcf
    have ke : goW F x (rep w k) = some y := ke
    rw [hy] at ke
    exact ⟨_, rfl, k, rfl, ⟨k1, ke, kf⟩, kn⟩
def swR (i j x : Int) : Int := if x = j then i else if x = i then j else x
theorem swap_isP {c : Nat} {i j : Int} (i0 : 0 ≤ i) (i1 : i < c) (j0 : 0 ≤ j) (j1 : j < c) : IsP c (((range' 0 (c : Int)).set i.toNat j).set j.toNat i) := by
  have hlc : (range' 0 (c : Int)).length = c := by rw [rng_len]; omega
  have e : ((range' 0 (c : Int)).set i.toNat j).set j.toNat i = (range' 0 (c : Int)).map (swR i j) := by
    refine List.ext_getElem? fun k => ?_
    rw [List.getElem?_map, List.getElem?_set, List.getElem?_set, List.length_set, hlc]
    by_cases hk : k < c
    · have hx : (range' 0 (c : Int))[k]? = some (k : Int) := by
        unfold range'
        rw [List.getElem?_map, List.getElem?_range (by omega)]
        exact congrArg some (show (0 : Int) + (k : Int) = k by omega)
      rw [hx]
      show _ = some (swR i j (k : Int))
      unfold swR
      by_cases z : j.toNat = k
      · rw [if_pos z, if_pos (show j.toNat < c by omega), if_pos (show (k : Int) = j by omega)]
      · rw [if_neg z, if_neg (show ¬ (k : Int) = j by omega)]
        by_cases z2 : i.toNat = k
        · rw [if_pos z2, if_pos (show i.toNat < c by omega), if_pos (show (k : Int) = i by omega)]
        · rw [if_neg z2, if_neg (show ¬ (k : Int) = i by omega)]
    · have hx : (range' 0 (c : Int))[k]? = none := List.getElem?_eq_none (by omega)
      rw [hx, if_neg (by omega), if_neg (by omega)]
      rfl
  rw [e]
  refine ⟨by rw [List.length_map, hlc], ?_, fun x hx => ?_⟩
  · rw [List.nodup_iff_pairwise_ne, List.pairwise_map]
    refine (rng_nd 0 (c : Int)).imp fun {a b} hab q => hab ?_
    unfold swR at q
    split at q <;> split at q <;> (try split at q) <;> (try split at q) <;> omega
  · obtain ⟨y, hy, rfl⟩ := List.mem_map.mp hx
    obtain ⟨y0, y1⟩ := mem_rng hy
    unfold swR
    split
    · omega
    · split <;> omega
theorem rot_isP {c : Nat} (c1 : 1 ≤ c) {v : Int} (v0 : 0 ≤ v) (v1 : v < c) : IsP c ((range' 0 (c : Int)).map fun x => (x + v) % (c : Int)) := by
  have hlc : (range' 0 (c : Int)).length = c := by rw [rng_len]; omega
  refine ⟨by rw [List.length_map, hlc], ?_, fun x hx => ?_⟩
  · rw [List.nodup_iff_pairwise_ne, List.pairwise_map]
    refine (rng_nd 0 (c : Int)).imp_of_mem fun {a b} ha hb hab e => hab ?_
    obtain ⟨a0, a1⟩ := mem_rng ha
    obtain ⟨b0, b1⟩ := mem_rng hb
    have hd : ∀ x : Int, 0 ≤ x → x < c → (x + v) % (c : Int) = if x + v < (c : Int) then x + v else x + v - c := fun x x0 x1 => by
      split
      · exact Int.emod_eq_of_lt (by omega) (by omega)
      · have : (x + v) % (c : Int) = (x + v - c) % (c : Int) := (Int.sub_emod_right (x + v) (c : Int)).symm
        rw [this]
        exact Int.emod_eq_of_lt (by omega) (by omega)
    rw [hd a a0 a1, hd b b0 b1] at e
    split at e <;> split at e <;> omega
  · obtain ⟨y, hy, rfl⟩ := List.mem_map.mp hx
    exact ⟨Int.emod_nonneg _ (by omega), Int.emod_lt_of_pos _ (by omega)⟩
theorem turnR_ok {N c : Nat} {w : List Int} (h : WeB N w) (hN : N + 10000 < 2 ^ 60) (hc : c ≤ 1000) : ∃ r, R_turn w (c : Int) = some r ∧ (IsP c r.1 ∧ WeB (N + c) r.2) := by
  have hlc : (range' 0 (c : Int)).length = c := by rw [rng_len]; omega
  unfold R_turn
  refine bndX (rgO_okN (by omega)) ?_
  refine whX (fun s : List Int × List Int × List Int => s.1.Nodup ∧ s.2.1.Nodup ∧ (∀ x ∈ s.1, (0 ≤ x ∧ x < (c : Int)) ∧ x ∉ s.2.1) ∧ (∀ x ∈ s.2.1, 0 ≤ x ∧ x < (c : Int)) ∧ s.1.length + s.2.1.length = c ∧ WeB (N + s.1.length) s.2.2) (fun s => s.2.1.length) ⟨List.nodup_nil, rng_nd 0 _, (fun _ z => nomatch z), fun x hx => mem_rng hx, by rw [hlc]; exact Nat.zero_add _, h⟩ (by show (range' 0 (c : Int)).length < 10000; omega) (fun s hs => ?_) (fun s hs hcf => ?_)
  · obtain ⟨ys, left, q⟩ := s
    obtain ⟨q1, q2, q3, q4, q5, q6⟩ := hs
    have q1 : ys.Nodup := q1
    have q2 : left.Nodup := q2
    have q3 : ∀ x ∈ ys, (0 ≤ x ∧ x < (c : Int)) ∧ x ∉ left := q3
    have q4 : ∀ x ∈ left, 0 ≤ x ∧ x < (c : Int) := q4
    have q5 : ys.length + left.length = c := q5
    have q6 : WeB (N + ys.length) q := q6
    by_cases z : 0 < left.length
    · refine .inr ⟨congrArg some (decide_eq_true (by show (0 : Int) < (left.length : Int); omega)), ?_⟩
      obtain ⟨v, q', e2, v0, v1, kq⟩ := pickB_ok (by omega) q6 (many := (left.length : Int)) (by omega) (by omega)
      obtain ⟨g, e3, hg⟩ := popI_ok v0 v1 (by omega)
      obtain ⟨o1, o2, o3, o4⟩ := erase_out q2 hg
      have gm : g ∈ left := List.mem_of_getElem? hg
      generalize left.eraseIdx v.toNat = left2 at e3 o1 o2 o3 o4
      have eap : appO ys g = some (ys ++ [g]) := Z.app_ok (by rw [sizeL]; omega)
      refine ⟨(ys ++ [g], left2, q'), bindS e2 (bindS e3 (bindS eap rfl)), ⟨?_, o2, fun x hx => ?_, fun x hx => q4 x (o3 x hx), ?_, ?_⟩, ?_⟩
      · show (ys ++ [g]).Nodup
        rw [List.nodup_append]
        refine ⟨q1, by simp, fun a ha b hb => ?_⟩
        rw [List.mem_singleton.mp hb]
        intro y
        rw [y] at ha
        exact (q3 g ha).2 gm
      · rcases List.mem_append.mp hx with hx | hx
        · exact ⟨(q3 x hx).1, fun y => (q3 x hx).2 (o3 x y)⟩
        · rw [List.mem_singleton.mp hx]
          exact ⟨q4 g gm, o1⟩
      · show (ys ++ [g]).length + left2.length = c
        rw [List.length_append, List.length_singleton]
        omega
      · show WeB (N + (ys ++ [g]).length) q'
        rw [List.length_append, List.length_singleton]
        exact kq
      · show left2.length < left.length
        omega
    · exact .inl (congrArg some (decide_eq_false (by show ¬ (0 : Int) < (left.length : Int); omega)))
  · obtain ⟨ys, left, q⟩ := s
    obtain ⟨q1, q2, q3, q4, q5, q6⟩ := hs
    have hcf : some (decide ((0 : Int) < (left.length : Int))) = some false := hcf
    have hz := of_decide_eq_false (Option.some.inj hcf)
    have q5 : ys.length + left.length = c := q5
    have q6 : WeB (N + ys.length) q := q6
    exact ⟨_, rfl, ⟨by show ys.length = c; omega, q1, fun x hx => (q3 x hx).1⟩, q6.mono (by omega)⟩
theorem bookR_ok {N c : Nat} {L : Int} {w : List Int} (h : WeB N w) (hN : N + 100000 < 2 ^ 60) (h1 : 1 ≤ L) (h4 : L ≤ 4) (c1 : 1 ≤ c) (hc : c ≤ 1000) : ∃ r, R_book w L (c : Int) = some r ∧ (r.1.1 = L ∧ Bk c L r.1.2 ∧ WeB (N + 10000) r.2) := by
  have hlL : (range' 0 L).length = L.toNat := by rw [rng_len]; omega
  have hlc : (range' 0 (c : Int)).length = c := by rw [rng_len]; omega
  unfold R_book
  refine bndX (rngO_ok (by omega)) ?_
  refine lpX (fun i s => s.1.length = i ∧ (∀ t ∈ s.1, IsP c t) ∧ WeB (N + 2000 * i) s.2) ⟨rfl, (fun _ z => nomatch z), h⟩ (fun i x s hx hs => ?_) (fun s hs => ?_)
  · obtain ⟨T, q⟩ := s
    obtain ⟨q1, q2, q3⟩ := hs
    have q1 : T.length = i := q1
    have q2 : ∀ t ∈ T, IsP c t := q2
    have q3 : WeB (N + 2000 * i) q := q3
    obtain ⟨rfl, hi⟩ := rngAt hx
    obtain ⟨way, w7, e7, a7, b7, k7⟩ := pickB_ok (by omega) q3 (many := 5) (by decide) (by decide)
    obtain ⟨v, w8, e8, a8, b8, k8⟩ := pickB_ok (by omega) k7 (many := (c : Int)) (by omega) (by omega)
    have hap : ∀ t, appO T t = some (T ++ [t]) := fun t => Z.app_ok (by rw [q1, sizeL]; omega)
    have fin : ∀ t q', IsP c t → WeB (N + 2000 * (i + 1)) q' → ((T ++ [t]).length = i + 1 ∧ (∀ u ∈ T ++ [t], IsP c u) ∧ WeB (N + 2000 * (i + 1)) q') := fun t q' ht hq => ⟨by rw [List.length_append, q1]; rfl, fun u hu => (List.mem_append.mp hu).elim (q2 u) fun z => by rw [List.mem_singleton.mp z]; exact ht, hq⟩
    by_cases w3 : way < 3
    · obtain ⟨⟨t, w9⟩, e9, ht, k9⟩ := turnR_ok k8 (by omega) hc
      have ht : IsP c t := ht
      have k9 : WeB (N + 2000 * i + 1 + 1 + c) w9 := k9
      refine ⟨(T ++ [t], w9), bindS e7 (bindS e8 (bindS (a := (w9, T ++ [t])) ((if_pos (decide_eq_true w3)).trans (bindS e9 (bindS (hap t) rfl))) (bindS (a := T ++ [t]) (if_neg (by simp only [decide_eq_true_eq]; omega)) (bindS (a := (w9, T ++ [t])) (if_neg (by simp only [decide_eq_true_eq]; omega)) rfl)))), fin t w9 ht (k9.mono (by omega))⟩
    · by_cases w4 : way = 3
      · have ht := rot_isP c1 a8 b8
        have e16 : lcO (β := Int) (fun (place13 : Int) => ((modO (place13 + v) (c : Int)).bind fun t15 => some t15)) (range' 0 (c : Int)) = some ((range' 0 (c : Int)).map fun x => (x + v) % (c : Int)) := lcO_some _ (by rw [hlc, sizeL]; omega) fun x hx => bindS (modO_lit (by omega)) rfl
        refine ⟨(T ++ [(range' 0 (c : Int)).map fun x => (x + v) % (c : Int)], w8), bindS e7 (bindS e8 (bindS (a := (w8, T)) (if_neg (by simpa using w3)) (bindS (a := T ++ [(range' 0 (c : Int)).map fun x => (x + v) % (c : Int)]) ((if_pos (decide_eq_true w4)).trans (bindS (rngO_ok (by omega)) (bindS e16 (bindS (hap _) rfl)))) (bindS (a := (w8, T ++ [(range' 0 (c : Int)).map fun x => (x + v) % (c : Int)])) (if_neg (by simp only [decide_eq_true_eq]; omega)) rfl)))), fin _ w8 ht (k8.mono (by omega))⟩
      · obtain ⟨o, w9, e9, a9, b9, k9⟩ := pickB_ok (by omega) k8 (many := (c : Int)) (by omega) (by omega)
        have ht := swap_isP a8 b8 a9 b9
        have s1 : setO (range' 0 (c : Int)) v o = some ((range' 0 (c : Int)).set v.toNat o) := set_okI a8 (by rw [hlc]; exact b8) _
        have s2 : setO ((range' 0 (c : Int)).set v.toNat o) o v = some (((range' 0 (c : Int)).set v.toNat o).set o.toNat v) := set_okI a9 (by rw [List.length_set, hlc]; exact b9) _
        refine ⟨(T ++ [((range' 0 (c : Int)).set v.toNat o).set o.toNat v], w9), bindS e7 (bindS e8 (bindS (a := (w8, T)) (if_neg (by simpa using w3)) (bindS (a := T) (if_neg (by simpa using w4)) (bindS (a := (w9, T ++ [((range' 0 (c : Int)).set v.toNat o).set o.toNat v])) ((if_pos (decide_eq_true (by omega))).trans (bindS e9 (bindS (rgO_okN (by omega)) (bindS s1 (bindS s2 (bindS (hap _) rfl)))))) rfl)))), fin _ w9 ht (k9.mono (by omega))⟩
  · obtain ⟨T, q⟩ := s
    obtain ⟨q1, q2, q3⟩ := hs
    rw [hlL] at q1 q3
    have q1 : T.length = L.toNat := q1
    have q3 : WeB (N + 2000 * L.toNat) q := q3
    exact ⟨_, rfl, rfl, ⟨by show (T.length : Int) = L; omega, q2⟩, q3.mono (by omega)⟩
end Z
namespace Z
open PySem PySem.Spec PyProof.Rows L2
/-- no one of x's class is less -/
def leastIn (R : Int → Int → Prop) (x : Int) : Prop := ∀ y, R x y → x ≤ y
/-- the classes whose least members are less than m, each sorted, in the order of their least members -/
inductive Can (R : Int → Int → Prop) : Nat → List (List Int) → Prop
  | nil : Can R 0 []
  | add {m : Nat} {found : List (List Int)} {c : List Int} : Can R m found → leastIn R m → c.Nodup → (∀ y, y ∈ c ↔ R m y) → c.Pairwise (· ≤ ·) → Can R (m + 1) (found ++ [c])
  | skip {m : Nat} {found : List (List Int)} : Can R m found → ¬ leastIn R m → Can R (m + 1) found
theorem same_class {c c' : List Int} {p : Int → Prop} (h : c.Nodup) (h' : c'.Nodup) (k : ∀ y, y ∈ c ↔ p y) (k' : ∀ y, y ∈ c' ↔ p y) (s : c.Pairwise (· ≤ ·)) (s' : c'.Pairwise (· ≤ ·)) : c = c' :=
  srt_one ((List.perm_ext_iff_of_nodup h h').mpr fun y => (k y).trans (k' y).symm) s s'
theorem Can.one {R : Int → Int → Prop} : ∀ {m : Nat} {f g : List (List Int)}, Can R m f → Can R m g → f = g := by
  intro m f g a
  induction a generalizing g with
  | nil => intro b; cases b; rfl
  | add a l nd mem st ih =>
    intro b
    cases b with
    | add b l' nd' mem' st' => rw [ih b, same_class nd nd' mem mem' st st']
    | skip b l' => exact absurd l l'
  | skip a l ih =>
    intro b
    cases b with
    | add b l' nd' mem' st' => exact absurd l' l
    | skip b l' => exact ih b
theorem Can.len {R : Int → Int → Prop} {m : Nat} {f : List (List Int)} (h : Can R m f) : f.length ≤ m := by
  induction h with
  | nil => exact Nat.le_refl 0
  | add _ _ _ _ _ ih => rw [List.length_append]; exact Nat.succ_le_succ ih
  | skip _ _ ih => exact Nat.le_succ_of_le ih
theorem Can.all {R : Int → Int → Prop} {m : Nat} {f : List (List Int)} (h : Can R m f) : ∀ c ∈ f, ∃ x : Nat, x < m ∧ leastIn R x ∧ c.Nodup ∧ ∀ y, y ∈ c ↔ R x y := by
  induction h with
  | nil => exact fun _ h => nomatch h
  | add _ l nd mem _ ih =>
    intro c hc
    rcases List.mem_append.mp hc with hc | hc
    · obtain ⟨x, hx, r⟩ := ih c hc
      exact ⟨x, Nat.lt_succ_of_lt hx, r⟩
    · rw [List.mem_singleton.mp hc]
      exact ⟨_, Nat.lt_succ_self _, l, nd, mem⟩
  | skip _ _ ih =>
    intro c hc
    obtain ⟨x, hx, r⟩ := ih c hc
    exact ⟨x, Nat.lt_succ_of_lt hx, r⟩
end Z
namespace Z
open PySem PySem.Spec PyProof.Rows L2
def Q_need_numberK (number : Int) (low : Int) (high : Int) : Option Unit :=
  (if ((decide (number < low)) || (true && (decide (high < number)))) = true then none else some ())
def Q_need_place (book : (Int × (List (List Int)))) (place : Int) : Option Unit :=
  ((Q_places_of book).bind fun t1 => (Q_need_numberK place 0 (t1 - 1)).bind fun t2 => some ())
def Q_circles_of (turn : (List Int)) : Option (List (List Int)) :=
  ((rngO 0 (turn.length : Int)).bind fun t4 => ((lp (fun (s5 : ((List (Int × Bool)) × (List (List Int)))) (first6 : Int) => ((wh (fun (s12 : (Int × (List Int) × (List (Int × Bool)))) => some (!(dGet s12.2.2 s12.1).isSome)) (fun (s12 : (Int × (List Int) × (List (Int × Bool)))) => (((dPutO s12.2.2 s12.1 true).bind fun t16 => ((appO s12.2.1 s12.1).bind fun t17 => ((idx turn s12.1).bind fun t18 => some (Step.go (t18, t17, t16))))) : Option (Step (List (List Int)) (Int × (List Int) × (List (Int × Bool)))))) 10000 (first6, ([] : (List Int)), s5.1)).bind fun f13o => Sum.elim (fun r21 => none) (fun f13 => ((if (decide (0 < (f13.2.1.length : Int))) = true then ((appO s5.2 (srtI f13.2.1)).bind fun t19 => some t19) else some s5.2 : Option (List (List Int))).bind fun s20 => some (f13.2.2, s20))) f13o)) t4 (([] : (List (Int × Bool))), ([] : (List (List Int))))).bind fun f7 => some f7.2))
def Q_turn_of (book : (Int × (List (List Int)))) (walk : (List Int)) : Option (List Int) :=
  ((Q_need_book book).bind fun t1 => ((Q_need_walk walk book.1).bind fun t2 => ((Q_turned_by book walk).bind fun t3 => some t3)))
def Q_place_after (book : (Int × (List (List Int)))) (place : Int) (walk : (List Int)) : Option Int :=
  ((Q_need_book book).bind fun t1 => ((Q_need_place book place).bind fun t2 => ((Q_need_walk walk book.1).bind fun t3 => ((Q_turned_by book walk).bind fun t4 => (idx t4 place).bind fun t5 => some t5))))
def Q_circles (book : (Int × (List (List Int)))) (walk : (List Int)) : Option (List (List Int)) :=
  ((Q_need_book book).bind fun t1 => ((Q_need_walk walk book.1).bind fun t2 => ((Q_turned_by book walk).bind fun t3 => (Q_circles_of t3).bind fun t4 => some t4)))
def Q_parts (book : (Int × (List (List Int)))) : Option (List (List Int)) :=
  ((Q_need_book book).bind fun t1 => ((Q_places_of book).bind fun t5 => (rngO 0 t5).bind fun t6 => ((lp (fun (s7 : ((List (Int × Bool)) × (List (List Int)))) (first8 : Int) => ((if (!(dGet s7.1 first8).isSome) = true then ((dPutO s7.1 first8 true).bind fun t14 => ((wh (fun (s15 : (Int × (List Int) × (List (Int × Bool)))) => some (decide (s15.1 < (s15.2.1.length : Int)))) (fun (s15 : (Int × (List Int) × (List (Int × Bool)))) => (((lp (fun (s19 : ((List Int) × (List (Int × Bool)))) (turn20 : (List Int)) => ((idx s19.1 s15.1).bind fun t24 => (idx turn20 t24).bind fun t25 => ((if (!(dGet s19.2 t25).isSome) = true then ((dPutO s19.2 t25 true).bind fun t26 => ((appO s19.1 t25).bind fun t27 => some (t27, t26))) else some (s19.1, s19.2) : Option ((List Int) × (List (Int × Bool)))).bind fun s28 => some (s28.1, s28.2)))) book.2 (s15.2.1, s15.2.2)).bind fun f21 => some (Step.go ((s15.1 + 1), f21.1, f21.2))) : Option (Step (List (List Int)) (Int × (List Int) × (List (Int × Bool)))))) 10000 (0, [first8], t14)).bind fun f16o => Sum.elim (fun r32 => none) (fun f16 => ((appO s7.2 (srtI f16.2.1)).bind fun t31 => some (f16.2.2, t31))) f16o)) else some (s7.1, s7.2) : Option ((List (Int × Bool)) × (List (List Int)))).bind fun s35 => some (s35.1, s35.2))) t6 (([] : (List (Int × Bool))), ([] : (List (List Int))))).bind fun f9 => some f9.2)))
def Rc (L : Int) (F : Dd) (x y : Int) : Prop := ∃ u, (∀ s ∈ u, Sok L s) ∧ goW F x u = some y
theorem Rc.refl (L : Int) (F : Dd) (x : Int) : Rc L F x x := ⟨[], (fun _ z => nomatch z), rfl⟩
theorem Rc.symm {L : Int} {n : Nat} {F : Dd} (d : Dr L n F) {x y : Int} (x0 : 0 ≤ x) (h : Rc L F x y) : Rc L F y x := by
  obtain ⟨u, hu, e⟩ := h
  exact ⟨iv u, iv_sokW hu, goW_iv d u x y x0 e⟩
theorem Rc.trans {L : Int} {F : Dd} {x y z : Int} (h : Rc L F x y) (k : Rc L F y z) : Rc L F x z := by
  obtain ⟨u, hu, e⟩ := h
  obtain ⟨v, hv, e2⟩ := k
  exact ⟨u ++ v, app_sokW hu hv, by rw [goW_app, e]; exact e2⟩
theorem Rc.step {L : Int} {F : Dd} {x y s : Int} (hs : Sok L s) (h : go F x s = some y) : Rc L F x y := ⟨[s], fun t ht => by rw [List.mem_singleton.mp ht]; exact hs, by rw [goW_sing]; exact h⟩
theorem Rc.in_ {L : Int} {n : Nat} {F : Dd} (d : Dr L n F) {x y : Int} (x0 : 0 ≤ x) (x1 : x < n) (h : Rc L F x y) : 0 ≤ y ∧ y < n := by
  obtain ⟨u, _, e⟩ := h
  exact goW_in d u x x0 x1 y e
/-- what is closed ahead is closed -/
theorem closed_all {L : Int} {n : Nat} {F : Dd} (d : Dr L n F) (f : Fl n L F) {S : List Int} (hn : S.Nodup) (hS : ∀ x ∈ S, 0 ≤ x ∧ x < n) (hc : ∀ x ∈ S, ∀ l y : Int, 1 ≤ l → l ≤ L → go F x l = some y → y ∈ S) {x y : Int} (hx : x ∈ S) (h : Rc L F x y) : y ∈ S := by
  have one : ∀ x ∈ S, ∀ s y : Int, go F x s = some y → y ∈ S := fun x hx s y e => by
    obtain ⟨x0, x1⟩ := hS x hx
    obtain ⟨y0, y1, hs, hb⟩ := d.ok x s y x0 e
    by_cases sp : 0 < s
    · exact hc x hx s y (by omega) (by have := hs.2.2; omega) e
    · have l1 : 1 ≤ -s := by have := hs.1; omega
      have l4 : -s ≤ L := by have := hs.2.1; omega
      -- S goes onto itself
      refine Classical.byContradiction fun hy => ?_
      have hnd : (y :: S).map (fun z => (go F z (-s)).getD 0) |>.Nodup := by
        rw [List.nodup_iff_pairwise_ne, List.pairwise_map]
        have hnd2 : (y :: S).Nodup := List.nodup_cons.mpr ⟨hy, hn⟩
        refine (List.nodup_iff_pairwise_ne.mp hnd2).imp_of_mem fun {a b} ha hb hab e => hab ?_
        have rg : ∀ z ∈ y :: S, 0 ≤ z ∧ z < n := fun z hz => by
          rcases List.mem_cons.mp hz with rfl | hz
          · exact ⟨y0, y1⟩
          · exact hS z hz
        obtain ⟨a0, a1⟩ := rg a ha
        obtain ⟨b0, b1⟩ := rg b hb
        obtain ⟨p, hp⟩ := Option.isSome_iff_exists.mp (f a (-s) a0 a1 l1 l4)
        obtain ⟨q, hq⟩ := Option.isSome_iff_exists.mp (f b (-s) b0 b1 l1 l4)
        rw [hp, hq] at e
        have e : p = q := e
        subst e
        obtain ⟨_, _, _, h1⟩ := d.ok a (-s) p a0 hp
        obtain ⟨_, _, _, h2⟩ := d.ok b (-s) p b0 hq
        rw [h1] at h2
        exact Option.some.inj h2
      have := nodup_le _ S hnd fun z hz => by
        obtain ⟨a, ha, rfl⟩ := List.mem_map.mp hz
        rcases List.mem_cons.mp ha with rfl | ha
        · rw [hb]
          exact hx
        · obtain ⟨a0, a1⟩ := hS a ha
          obtain ⟨p, hp⟩ := Option.isSome_iff_exists.mp (f a (-s) a0 a1 l1 l4)
          rw [hp]
          exact hc a ha (-s) p l1 l4 hp
      rw [List.length_map, List.length_cons] at this
      omega
  obtain ⟨u, hu, e⟩ := h
  have key : ∀ (u : List Int) (x : Int), x ∈ S → goW F x u = some y → y ∈ S := by
    intro u
    induction u with
    | nil => intro x hx e; cases e; exact hx
    | cons s u ih =>
      intro x hx e
      unfold goW at e
      cases hg : go F x s with
      | none => rw [hg] at e; cases e
      | some b =>
        rw [hg] at e
        exact ih b (one x hx s b hg) e
  exact key u x hx e
abbrev MetK := List (Int × Bool)
structure Mk (n : Nat) (m : MetK) : Prop where
  nd : (m.map Prod.fst).Nodup
  rg : ∀ x, (dGet m x).isSome = true → 0 ≤ x ∧ x < n
theorem Mk.len {n : Nat} {m : MetK} (h : Mk n m) : m.length ≤ n := by
  have := nodup_le (m.map Prod.fst) (range' 0 (n : Int)) h.nd fun k hk => mem_rng'.mpr (h.rg k (dGet_key_mem.mpr hk))
  rw [List.length_map, rng_len] at this
  omega
theorem Mk.put {n : Nat} {m : MetK} (h : Mk n m) {x : Int} (x0 : 0 ≤ x) (x1 : x < n) : Mk n (dPut m x true) := by
  refine ⟨dPut_nd h.nd _ _, fun y hy => ?_⟩
  rw [dGet_put] at hy
  split at hy
  · rename_i z
    rw [← z]
    exact ⟨x0, x1⟩
  · exact h.rg y hy
theorem put_is (m : MetK) (x y : Int) : (dGet (dPut m x true) y).isSome = true ↔ y = x ∨ (dGet m y).isSome = true := by
  rw [dGet_put]
  split
  · rename_i z
    exact ⟨fun _ => .inl z.symm, fun _ => rfl⟩
  · rename_i z
    exact ⟨fun h => .inr h, fun h => h.elim (fun q => absurd q.symm z) fun q => q⟩
theorem mem_srtI {x : Int} {p : List Int} : x ∈ srtI p ↔ x ∈ p := (srtI_perm p).mem_iff
def stp0 (at_ : Int) (s17 : (List Int) × (List (Int × Bool))) (turn18 : List Int) : Option ((List Int) × (List (Int × Bool))) := ((idx s17.1 at_).bind fun t22 => (idx turn18 t22).bind fun t23 => ((if (!(dGet s17.2 t23).isSome) = true then ((dPutO s17.2 t23 true).bind fun t24 => ((appO s17.1 t23).bind fun t25 => some (t25, t24))) else some (s17.1, s17.2) : Option ((List Int) × (List (Int × Bool)))).bind fun s26 => some (s26.1, s26.2)))
structure Pi (L : Int) (n : Nat) (F : Dd) (m0 : MetK) (h : Int) (part : List Int) (m : MetK) : Prop where
  nd : part.Nodup
  hh : h ∈ part
  rc : ∀ x ∈ part, Rc L F h x
  mkk : Mk n m
  iff_ : ∀ x, (dGet m x).isSome = true ↔ (dGet m0 x).isSome = true ∨ x ∈ part
theorem part_run {L : Int} {n : Nat} {F : Dd} {T : List (List Int)} (d : Dr L n F) (f : Fl n L F) (hT : Tb n L F T) (h4 : L ≤ 4) (hn : n ≤ 1000) {m0 : MetK} (k0 : Mk n m0) (cl0 : ∀ x y, (dGet m0 x).isSome = true → Rc L F x y → (dGet m0 y).isSome = true) {h : Int} (h0 : 0 ≤ h) (h1 : h < n) (hm : ¬ (dGet m0 h).isSome = true) {β : Type} {k : Sum (List (List Int)) (Int × List Int × MetK) → Option β} {Q : β → Prop}
    (hk : ∀ i part m, Pi L n F m0 h part m → (∀ y, y ∈ part ↔ Rc L F h y) → ∃ r, k (.inr (i, part, m)) = some r ∧ Q r) :
    ∃ r, ((wh (fun (s13 : (Int × (List Int) × (List (Int × Bool)))) => some (decide (s13.1 < (s13.2.1.length : Int)))) (fun (s13 : (Int × (List Int) × (List (Int × Bool)))) => (((lp (stp0 s13.1) T (s13.2.1, s13.2.2)).bind fun f19 => some (Step.go ((s13.1 + 1), f19.1, f19.2))) : Option (Step (List (List Int)) (Int × (List Int) × (List (Int × Bool)))))) 10000 (0, [h], dPut m0 h true)).bind k) = some r ∧ Q r := by
  have hTl := hT.1
  have init : Pi L n F m0 h [h] (dPut m0 h true) := by
    refine ⟨by simp, List.mem_singleton.mpr rfl, fun x hx => by rw [List.mem_singleton.mp hx]; exact Rc.refl L F h, k0.put h0 h1, fun x => ?_⟩
    rw [put_is, List.mem_singleton]
    exact Or.comm
  have plen : ∀ part m, Pi L n F m0 h part m → part.length ≤ n := fun part m P => by
    have := nodup_le part (range' 0 (n : Int)) P.nd fun x hx => mem_rng'.mpr ((P.rc x hx).in_ d h0 h1)
    rw [rng_len] at this
    omega
  refine whX (fun s : Int × List Int × MetK => 0 ≤ s.1 ∧ s.1 ≤ s.2.1.length ∧ Pi L n F m0 h s.2.1 s.2.2 ∧ ∀ i : Nat, (i : Int) < s.1 → ∀ x, s.2.1[i]? = some x → ∀ l y : Int, 1 ≤ l → l ≤ L → go F x l = some y → y ∈ s.2.1) (fun s => n - s.1.toNat) ⟨Int.le_refl _, by show (0 : Int) ≤ ((1 : Nat) : Int); decide, init, fun i hi => by exfalso; have hi : (i : Int) < 0 := hi; omega⟩ (by show n - _ < 10000; omega) (fun s hs => ?_) (fun s hs hcf => ?_)
  · obtain ⟨i, part, m⟩ := s
    obtain ⟨i0, i1, P, hcl⟩ := hs
    have i0 : 0 ≤ i := i0
    have i1 : i ≤ (part.length : Int) := i1
    have P : Pi L n F m0 h part m := P
    have hpl := plen part m P
    by_cases z : i < part.length
    · refine .inr ⟨congrArg some (decide_eq_true z), ?_⟩
      obtain ⟨k, rfl⟩ : ∃ k : Nat, i = (k : Int) := ⟨i.toNat, by omega⟩
      have hk : k < part.length := by omega
      have ea : part[k]? = some part[k] := List.getElem?_eq_getElem hk
      have hpk := P.rc _ (List.getElem_mem hk)
      obtain ⟨a0, a1⟩ := hpk.in_ d h0 h1
      obtain ⟨⟨part', m'⟩, e, ⟨P', ys, q3⟩, q5⟩ := lp_goN (f := stp0 (k : Int)) (xs := T) (fun j (r : List Int × MetK) => (Pi L n F m0 h r.1 r.2 ∧ ∃ ys, r.1 = part ++ ys) ∧ ∀ l y : Int, 1 ≤ l → l ≤ (j : Int) → go F part[k] l = some y → y ∈ r.1) (fun j t r ht hr => by
        obtain ⟨part', m'⟩ := r
        obtain ⟨⟨P', ys, q3⟩, q5⟩ := hr
        have P' : Pi L n F m0 h part' m' := P'
        have q3 : part' = part ++ ys := q3
        have q5 : ∀ l y : Int, 1 ≤ l → l ≤ (j : Int) → go F part[k] l = some y → y ∈ part' := q5
        have hj := (List.getElem?_eq_some_iff.mp ht).1
        have htw : t = tw n F [(j : Int) + 1] := by
          have := hT.2 ((j : Int) + 1) (by omega) (by omega)
          rw [show ((j : Int) + 1 - 1).toNat = j by omega, ht] at this
          exact Option.some.inj this
        obtain ⟨y, hy⟩ := Option.isSome_iff_exists.mp (f part[k] ((j : Int) + 1) a0 a1 (by omega) (by omega))
        obtain ⟨y0, y1, hsok, _⟩ := d.ok _ _ _ a0 hy
        have ek : idx part' (k : Int) = some part[k] := idx_of (by omega) (by
          rw [Int.toNat_natCast, q3, List.getElem?_append_left hk]
          exact ea)
        have et : idx t part[k] = some y := by
          rw [htw]
          exact tw_idx a0 a1 (by rw [goW_sing]; exact hy)
        have hry : Rc L F h y := hpk.trans (Rc.step hsok hy)
        have hpl' := plen part' m' P'
        have hml := P'.mkk.len
        by_cases w : (dGet m' y).isSome = true
        · have yin : y ∈ part' := by
            rcases (P'.iff_ y).mp w with q | q
            · exact absurd (cl0 y h q (hry.symm d h0)) hm
            · exact q
          refine ⟨(part', m'), bindS ek (bindS et (bindS (a := (part', m')) (if_neg (by rw [w]; decide)) rfl)), ⟨P', ys, q3⟩, fun l v l1 l2 e => ?_⟩
          by_cases zl : l = (j : Int) + 1
          · subst zl
            rw [hy] at e
            cases e
            exact yin
          · exact q5 l v l1 (by omega) e
        · have w' : (dGet m' y).isSome = false := by simpa using w
          have ynp : y ∉ part' := fun q => w ((P'.iff_ y).mpr (.inr q))
          have f1 : dPutO m' y true = some (dPut m' y true) := if_pos (by rw [sizeL]; omega)
          have f2 : appO part' y = some (part' ++ [y]) := Z.app_ok (by rw [sizeL]; omega)
          refine ⟨(part' ++ [y], dPut m' y true), bindS ek (bindS et (bindS (a := (part' ++ [y], dPut m' y true)) ((if_pos (by rw [w']; rfl)).trans (bindS f1 (bindS f2 rfl))) rfl)), ⟨⟨?_, List.mem_append.mpr (.inl P'.hh), fun x hx => ?_, P'.mkk.put y0 y1, fun x => ?_⟩, ys ++ [y], ?_⟩, fun l v l1 l2 e => ?_⟩
          · show (part' ++ [y]).Nodup
            rw [List.nodup_append]
            refine ⟨P'.nd, by simp, fun a ha b hb q => ?_⟩
            rw [List.mem_singleton.mp hb] at q
            rw [q] at ha
            exact ynp ha
          · rcases List.mem_append.mp hx with hx | hx
            · exact P'.rc x hx
            · rw [List.mem_singleton.mp hx]
              exact hry
          · show (dGet (dPut m' y true) x).isSome = true ↔ (dGet m0 x).isSome = true ∨ x ∈ part' ++ [y]
            rw [put_is, P'.iff_ x, List.mem_append, List.mem_singleton]
            constructor
            · rintro (q | q | q)
              · exact .inr (.inr q)
              · exact .inl q
              · exact .inr (.inl q)
            · rintro (q | q | q)
              · exact .inr (.inl q)
              · exact .inr (.inr q)
              · exact .inl q
          · show part' ++ [y] = part ++ (ys ++ [y])
            rw [q3, List.append_assoc]
          · show v ∈ part' ++ [y]
            by_cases zl : l = (j : Int) + 1
            · subst zl
              rw [hy] at e
              cases e
              exact List.mem_append.mpr (.inr (List.mem_singleton.mpr rfl))
            · exact List.mem_append.mpr (.inl (q5 l v l1 (by omega) e))) (s0 := (part, m)) ⟨⟨P, [], (List.append_nil _).symm⟩, fun l y l1 l2 => by exfalso; have l2 : l ≤ 0 := l2; omega⟩
      have q3 : part' = part ++ ys := q3
      have q5 : ∀ l y : Int, 1 ≤ l → l ≤ (T.length : Int) → go F part[k] l = some y → y ∈ part' := q5
      refine ⟨((k : Int) + 1, part', m'), bindS e rfl, ⟨by show (0 : Int) ≤ k + 1; omega, ?_, P', fun i hi x hx l y l1 l2 hg => ?_⟩, ?_⟩
      · show (k : Int) + 1 ≤ (part'.length : Int)
        rw [q3, List.length_append]
        omega
      · show y ∈ part'
        have hi : (i : Int) < k + 1 := hi
        have hx2 : part'[i]? = some x := hx
        rw [q3, List.getElem?_append_left (by omega)] at hx2
        by_cases z : i = k
        · subst z
          rw [ea] at hx2
          cases hx2
          exact q5 l y l1 (by omega) hg
        · rw [q3]
          exact List.mem_append.mpr (.inl (hcl i (show (i : Int) < (k : Int) by omega) x hx2 l y l1 l2 hg))
      · show n - ((k : Int) + 1).toNat < n - ((k : Int)).toNat
        omega
    · exact .inl (congrArg some (decide_eq_false z))
  · obtain ⟨i, part, m⟩ := s
    obtain ⟨i0, i1, P, hcl⟩ := hs
    have i1 : i ≤ (part.length : Int) := i1
    have P : Pi L n F m0 h part m := P
    have hcf : some (decide (i < (part.length : Int))) = some false := hcf
    have hi : i = (part.length : Int) := by
      have := of_decide_eq_false (Option.some.inj hcf)
      omega
    refine hk i part m P fun y => ⟨P.rc y, fun hy => closed_all d f P.nd (fun x hx => (P.rc x hx).in_ d h0 h1) (fun x hx l y l1 l2 hg => ?_) P.hh hy⟩
    obtain ⟨j, hj⟩ := List.mem_iff_getElem?.mp hx
    have := (List.getElem?_eq_some_iff.mp hj).1
    exact hcl j (show (j : Int) < i by omega) x hj l y l1 l2 hg
structure Ci (n : Nat) (F : Dd) (w : List Int) (m0 : MetK) (h : Int) (s : Int × List Int × MetK) : Prop where
  nd : s.2.1.Nodup
  at_ : ∀ i : Nat, i < s.2.1.length → ∃ x, s.2.1[i]? = some x ∧ goW F h (rep w i) = some x
  here : goW F h (rep w s.2.1.length) = some s.1
  mkk : Mk n s.2.2
  iff_ : ∀ x, (dGet s.2.2 x).isSome = true ↔ (dGet m0 x).isSome = true ∨ x ∈ s.2.1
  st : (dGet m0 h).isSome = true → s.2.1 = [] ∧ s.2.2 = m0
theorem circle_run {L : Int} {n : Nat} {F : Dd} (d : Dr L n F) (f : Fl n L F) (hn : n ≤ 4000) {w : List Int} (hw : ∀ s ∈ w, Sok L s) {m0 : MetK} (k0 : Mk n m0) (cl0 : ∀ x y : Int, 0 ≤ x → x < n → goW F x w = some y → ((dGet m0 x).isSome = true ↔ (dGet m0 y).isSome = true)) {h : Int} (h0 : 0 ≤ h) (h1 : h < n) {β : Type} {k : Sum (List (List Int)) (Int × List Int × MetK) → Option β} {Q : β → Prop}
    (hk : ∀ y c m, ((c = [] ∧ m = m0 ∧ (dGet m0 h).isSome = true) ∨ (¬ (dGet m0 h).isSome = true ∧ c.Nodup ∧ PerOf F w h c.length ∧ (∀ x ∈ c, ¬ (dGet m0 x).isSome = true) ∧ (∀ i : Nat, i < c.length → ∃ x, c[i]? = some x ∧ goW F h (rep w i) = some x) ∧ Mk n m ∧ ∀ x, (dGet m x).isSome = true ↔ (dGet m0 x).isSome = true ∨ x ∈ c)) → c.length ≤ n → ∃ r, k (.inr (y, c, m)) = some r ∧ Q r) :
    ∃ r, ((wh (fun (s10 : (Int × (List Int) × (List (Int × Bool)))) => some (!(dGet s10.2.2 s10.1).isSome)) (fun (s10 : (Int × (List Int) × (List (Int × Bool)))) => (((dPutO s10.2.2 s10.1 true).bind fun t14 => ((appO s10.2.1 s10.1).bind fun t15 => ((idx (tw n F w) s10.1).bind fun t16 => some (Step.go (t16, t15, t14))))) : Option (Step (List (List Int)) (Int × (List Int) × (List (Int × Bool)))))) 10000 (h, ([] : (List Int)), m0)).bind k) = some r ∧ Q r := by
  have hrep : ∀ j : Nat, ∀ s ∈ rep w j, Sok L s := fun j s hs => hw s (flat_mem hs)
  have at_ : ∀ j : Nat, ∃ y, goW F h (rep w j) = some y ∧ 0 ≤ y ∧ y < n := fun j => f.gone d (hrep j) h0 h1
  have nxt : ∀ (j : Nat) (y z : Int), goW F h (rep w j) = some y → goW F h (rep w (j + 1)) = some z → goW F y w = some z := fun j y z ey ez => by
    rw [rep_succ', goW_app, ey] at ez
    exact ez
  have notin : ¬ (dGet m0 h).isSome = true → ∀ (j : Nat) (y : Int), goW F h (rep w j) = some y → ¬ (dGet m0 y).isSome = true := fun hh j => by
    induction j with
    | zero => intro y e; cases e; exact hh
    | succ j ih =>
      intro y e
      obtain ⟨z, ez, z0, z1⟩ := at_ j
      exact fun q => ih z ez ((cl0 z y z0 z1 (nxt j z y ez e)).mpr q)
  have clen : ∀ s, Ci n F w m0 h s → s.2.1.length ≤ n := fun s C => by
    have := nodup_le s.2.1 (range' 0 (n : Int)) C.nd fun x hx => by
      obtain ⟨i, hi⟩ := List.mem_iff_getElem?.mp hx
      obtain ⟨x', e1, e2⟩ := C.at_ i (List.getElem?_eq_some_iff.mp hi).1
      rw [hi] at e1
      cases e1
      obtain ⟨y, ey, y0, y1⟩ := at_ i
      rw [e2] at ey
      cases ey
      exact mem_rng'.mpr ⟨y0, y1⟩
    rw [rng_len] at this
    omega
  refine whX (Ci n F w m0 h) (fun s => n - s.2.1.length) ⟨List.nodup_nil, fun i hi => by exfalso; have hi : i < 0 := hi; omega, rfl, k0, fun x => ⟨fun q => .inl q, fun q => q.elim (fun q => q) fun q => by cases q⟩, fun _ => ⟨rfl, rfl⟩⟩ (by show n - 0 < 10000; omega) (fun s C => ?_) (fun s C hcf => ?_)
  · have hl := clen s C
    obtain ⟨y, c, m⟩ := s
    have hl : c.length ≤ n := hl
    have hnd : c.Nodup := C.nd
    have hat : ∀ i : Nat, i < c.length → ∃ x, c[i]? = some x ∧ goW F h (rep w i) = some x := C.at_
    have hhere : goW F h (rep w c.length) = some y := C.here
    have hmk : Mk n m := C.mkk
    have hiff : ∀ x, (dGet m x).isSome = true ↔ (dGet m0 x).isSome = true ∨ x ∈ c := C.iff_
    cases z : (dGet m y).isSome with
    | true => exact .inl rfl
    | false =>
      refine .inr ⟨rfl, ?_⟩
      have z : (dGet m y).isSome = false := z
      obtain ⟨y', ey', y0, y1⟩ := at_ c.length
      rw [hhere] at ey'
      cases ey'
      obtain ⟨g, eg, g0, g1⟩ := at_ (c.length + 1)
      have hg := nxt _ y g hhere eg
      have yn : y ∉ c := fun q => by
        have := (hiff y).mpr (.inr q)
        rw [z] at this
        cases this
      have f1 : dPutO m y true = some (dPut m y true) := if_pos (by have := hmk.len; rw [sizeL]; omega)
      have f2 : appO c y = some (c ++ [y]) := Z.app_ok (by rw [sizeL]; omega)
      have C' : Ci n F w m0 h (g, c ++ [y], dPut m y true) := by
        refine ⟨?_, fun i hi => ?_, ?_, hmk.put y0 y1, fun x => ?_, fun q => ?_⟩
        · show (c ++ [y]).Nodup
          rw [List.nodup_append]
          refine ⟨hnd, by simp, fun a ha b hb q => ?_⟩
          rw [List.mem_singleton.mp hb] at q
          rw [q] at ha
          exact yn ha
        · have hi : i < (c ++ [y]).length := hi
          rw [List.length_append, List.length_singleton] at hi
          show ∃ x, (c ++ [y])[i]? = some x ∧ _
          by_cases w2 : i < c.length
          · obtain ⟨x, e1, e2⟩ := hat i w2
            exact ⟨x, by rw [List.getElem?_append_left w2]; exact e1, e2⟩
          · have : i = c.length := by omega
            subst this
            exact ⟨y, by rw [List.getElem?_append_right (Nat.le_refl _), Nat.sub_self]; rfl, hhere⟩
        · show goW F h (rep w (c ++ [y]).length) = some g
          rw [List.length_append, List.length_singleton]
          exact eg
        · show (dGet (dPut m y true) x).isSome = true ↔ (dGet m0 x).isSome = true ∨ x ∈ c ++ [y]
          rw [put_is, hiff x, List.mem_append, List.mem_singleton]
          constructor
          · rintro (q | q | q)
            · exact .inr (.inr q)
            · exact .inl q
            · exact .inr (.inl q)
          · rintro (q | q | q)
            · exact .inr (.inl q)
            · exact .inr (.inr q)
            · exact .inl q
        · exfalso
          obtain ⟨s1, s2⟩ := C.st q
          have s1 : c = [] := s1
          have s2 : m = m0 := s2
          rw [s1] at hhere
          have hhere : some h = some y := hhere
          have hyh : h = y := Option.some.inj hhere
          have z' : (dGet m y).isSome = false := z
          rw [← hyh, s2, q] at z'
          cases z'
      have hl' := clen _ C'
      have hl' : (c ++ [y]).length ≤ n := hl'
      rw [List.length_append, List.length_singleton] at hl'
      refine ⟨(g, c ++ [y], dPut m y true), bindS f1 (bindS f2 (bindS (tw_idx y0 y1 hg) rfl)), C', ?_⟩
      show n - (c ++ [y]).length < n - c.length
      rw [List.length_append, List.length_singleton]
      omega
  · have hl := clen s C
    obtain ⟨y, c, m⟩ := s
    have hl : c.length ≤ n := hl
    have hnd : c.Nodup := C.nd
    have hat : ∀ i : Nat, i < c.length → ∃ x, c[i]? = some x ∧ goW F h (rep w i) = some x := C.at_
    have hhere : goW F h (rep w c.length) = some y := C.here
    have hiff : ∀ x, (dGet m x).isSome = true ↔ (dGet m0 x).isSome = true ∨ x ∈ c := C.iff_
    have hcf : some (!(dGet m y).isSome) = some false := hcf
    have hy : (dGet m y).isSome = true := by simpa using Option.some.inj hcf
    refine hk y c m ?_ hl
    by_cases z : (dGet m0 h).isSome = true
    · -- nothing new
      left
      obtain ⟨s1, s2⟩ := C.st z
      exact ⟨s1, s2, z⟩
    · right
      have hcm : ∀ x ∈ c, ¬ (dGet m0 x).isSome = true := fun x hx => by
        obtain ⟨i, hi⟩ := List.mem_iff_getElem?.mp hx
        obtain ⟨x', e1, e2⟩ := hat i (List.getElem?_eq_some_iff.mp hi).1
        rw [hi] at e1
        cases e1
        exact notin z i x e2
      have yc : y ∈ c := ((hiff y).mp hy).elim (fun q => absurd q (notin z _ y hhere)) fun q => q
      obtain ⟨i, hi⟩ := List.mem_iff_getElem?.mp yc
      have hic := (List.getElem?_eq_some_iff.mp hi).1
      have getat : ∀ j : Nat, j < c.length → ∀ x, goW F h (rep w j) = some x → c[j]? = some x := fun j hj x e => by
        obtain ⟨x', e1, e2⟩ := hat j hj
        rw [e] at e2
        cases e2
        exact e1
      have i0 : i = 0 := by
        refine Classical.byContradiction fun hne => ?_
        obtain ⟨i', rfl⟩ : ∃ i', i = i' + 1 := ⟨i - 1, by omega⟩
        obtain ⟨j', hj'⟩ : ∃ j', c.length = j' + 1 := ⟨c.length - 1, by omega⟩
        obtain ⟨a, ea, a0, _⟩ := at_ i'
        obtain ⟨b, eb, b0, _⟩ := at_ j'
        obtain ⟨y', e1, e2⟩ := hat (i' + 1) hic
        rw [hi] at e1
        cases e1
        have n1 := nxt i' a y ea e2
        rw [hj'] at hhere
        have n2 := nxt j' b y eb hhere
        have hab := goW_one d a0 b0 n1 n2
        subst hab
        have c1 := getat i' (by omega) a ea
        have c2 := getat j' (by omega) a eb
        have := (List.getElem?_inj (by omega) hnd).mp (c1.trans c2.symm)
        omega
      subst i0
      have hy2 : y = h := by
        have := getat 0 hic h rfl
        rw [hi] at this
        exact Option.some.inj this
      rw [hy2] at hhere
      refine ⟨z, hnd, ⟨by omega, hhere, fun j j1 j2 e => ?_⟩, hcm, hat, C.mkk, hiff⟩
      have c1 := getat j j2 h e
      have c2 := getat 0 hic h rfl
      have := (List.getElem?_inj j2 hnd).mp (c1.trans c2.symm)
      omega
structure Eqv (n : Nat) (R : Int → Int → Prop) : Prop where
  refl : ∀ x, R x x
  symm : ∀ x y : Int, 0 ≤ x → x < n → R x y → R y x
  trans : ∀ x y z, R x y → R y z → R x z
  in_ : ∀ x y : Int, 0 ≤ x → x < n → R x y → 0 ≤ y ∧ y < n
theorem rc_eqv {L : Int} {n : Nat} {F : Dd} (d : Dr L n F) : Eqv n (Rc L F) :=
  ⟨Rc.refl L F, fun _ _ x0 _ h => h.symm d x0, fun _ _ _ h k => h.trans k, fun _ _ x0 x1 h => h.in_ d x0 x1⟩
/-- y stands on x's circle -/
def Cw (F : Dd) (w : List Int) (x y : Int) : Prop := ∃ j : Nat, goW F x (rep w j) = some y
theorem cw_eqv {L : Int} {n : Nat} {F : Dd} (d : Dr L n F) (f : Fl n L F) (hn : n ≤ 4000) {w : List Int} (hw : ∀ s ∈ w, Sok L s) : Eqv n (Cw F w) := by
  have tr : ∀ x y z, Cw F w x y → Cw F w y z → Cw F w x z := fun x y z ⟨i, hi⟩ ⟨j, hj⟩ => ⟨i + j, by rw [rep_addW, goW_app, hi]; exact hj⟩
  refine ⟨fun x => ⟨0, rfl⟩, fun x y x0 x1 h => ?_, tr, fun x y x0 x1 ⟨j, hj⟩ => goW_in d _ x x0 x1 y hj⟩
  obtain ⟨j, hj⟩ := h
  obtain ⟨k, hk, _, _⟩ := per_ex d f hw x0 x1 hn
  have k1 := hk.1
  -- j steps on, then round to k * (j + 1)
  have hx : goW F x (rep w (k * (j + 1))) = some x := (hk.dvd (k * (j + 1))).mpr (Nat.mul_mod_right k (j + 1))
  have hle : j ≤ k * (j + 1) := by
    have : 1 * (j + 1) ≤ k * (j + 1) := Nat.mul_le_mul_right _ k1
    omega
  obtain ⟨t, ht⟩ : ∃ t, k * (j + 1) = j + t := ⟨k * (j + 1) - j, by omega⟩
  rw [ht, rep_addW, goW_app, hj] at hx
  exact ⟨t, hx⟩
theorem Can.flat {n : Nat} {R : Int → Int → Prop} (E : Eqv n R) {m : Nat} {f : List (List Int)} (h : Can R m f) (hm : m ≤ n) : f.flatten.Nodup ∧ ∀ x ∈ f.flatten, (0 ≤ x ∧ x < n) ∧ ∃ y : Nat, y < m ∧ R y x := by
  induction h with
  | nil => exact ⟨List.nodup_nil, fun _ z => nomatch z⟩
  | @add m found c h l nd mem _ ih =>
    obtain ⟨a, b⟩ := ih (by omega)
    rw [List.flatten_append, List.flatten_singleton]
    refine ⟨?_, fun x hx => ?_⟩
    · rw [List.nodup_append]
      refine ⟨a, nd, fun x hx y hy e => ?_⟩
      subst e
      obtain ⟨_, z, hz, hr⟩ := b x hx
      have h1 := (mem x).mp hy
      have h2 : R m (z : Int) := E.trans _ _ _ h1 (E.symm _ _ (by omega) (by omega) hr)
      have := l _ h2
      omega
    · rcases List.mem_append.mp hx with hx | hx
      · obtain ⟨p, z, hz, hr⟩ := b x hx
        exact ⟨p, z, by omega, hr⟩
      · have := (mem x).mp hx
        exact ⟨E.in_ _ _ (by omega) (by omega) this, m, by omega, this⟩
  | skip _ _ ih =>
    obtain ⟨a, b⟩ := ih (by omega)
    refine ⟨a, fun x hx => ?_⟩
    obtain ⟨p, z, hz, hr⟩ := b x hx
    exact ⟨p, z, by omega, hr⟩
theorem Can.sum {n : Nat} {R : Int → Int → Prop} (E : Eqv n R) {f : List (List Int)} (h : Can R n f) : (f.map List.length).sum ≤ n := by
  obtain ⟨a, b⟩ := h.flat E (Nat.le_refl n)
  have := nodup_le f.flatten (range' 0 (n : Int)) a fun x hx => mem_rng'.mpr (b x hx).1
  rw [rng_len, List.length_flatten] at this
  omega
theorem Can.rows {n : Nat} {R : Int → Int → Prop} (E : Eqv n R) {f : List (List Int)} (h : Can R n f) : ∀ c ∈ f, c.length ≤ n ∧ 1 ≤ c.length ∧ ∀ x ∈ c, 0 ≤ x ∧ x < n := fun c hc => by
  obtain ⟨x, hx, _, nd, mem⟩ := h.all c hc
  have hin : ∀ y ∈ c, 0 ≤ y ∧ y < n := fun y hy => E.in_ _ _ (by omega) (by omega) ((mem y).mp hy)
  have := nodup_le c (range' 0 (n : Int)) nd fun y hy => mem_rng'.mpr (hin y hy)
  rw [rng_len] at this
  have h1 := List.length_pos_of_mem ((mem (x : Int)).mpr (E.refl _))
  exact ⟨by omega, by omega, hin⟩
/-- one class more, told as a set -/
theorem Can.next {R : Int → Int → Prop} {m : Nat} {found : List (List Int)} (h : Can R m found) (l : leastIn R m) {c : List Int} (nd : c.Nodup) (mem : ∀ y, y ∈ c ↔ R m y) : Can R (m + 1) (found ++ [srtI c]) :=
  .add h l ((srtI_perm c).nodup_iff.mpr nd) (fun y => mem_srtI.trans (mem y)) (srtI_srt c)
/-- classes told by the ascending list of their least members -/
theorem can_of {R : Int → Int → Prop} {cls : Int → List Int} : ∀ (m : Nat) (M : List Int), M.Nodup → M.Pairwise (· ≤ ·) → (∀ x, x ∈ M ↔ 0 ≤ x ∧ x < m ∧ leastIn R x) → (∀ x ∈ M, (cls x).Nodup ∧ (∀ y, y ∈ cls x ↔ R x y) ∧ (cls x).Pairwise (· ≤ ·)) → Can R m (M.map cls)
  | 0, M, _, _, hM, _ => by
    have : M = [] := List.eq_nil_iff_forall_not_mem.mpr fun x hx => by
      have := (hM x).mp hx
      omega
    subst this
    exact .nil
  | m + 1, M, nd, st, hM, hc => by
    have key : ∀ x, x ∈ M.filter (fun x => decide (x < (m : Int))) ↔ 0 ≤ x ∧ x < m ∧ leastIn R x := fun x => by
      rw [List.mem_filter, hM x]
      constructor
      · rintro ⟨⟨a, _, c⟩, d⟩
        exact ⟨a, of_decide_eq_true d, c⟩
      · rintro ⟨a, b, c⟩
        exact ⟨⟨a, by omega, c⟩, decide_eq_true b⟩
    have fnd : (M.filter (fun x => decide (x < (m : Int)))).Nodup := nd.filter _
    have fst : (M.filter (fun x => decide (x < (m : Int)))).Pairwise (· ≤ ·) := st.filter _
    have ih := can_of (R := R) (cls := cls) m _ fnd fst key fun x hx => hc x (List.mem_filter.mp hx).1
    by_cases l : leastIn R m
    · have hm : (m : Int) ∈ M := (hM _).mpr ⟨by omega, by omega, l⟩
      have e : M = M.filter (fun x => decide (x < (m : Int))) ++ [(m : Int)] := by
        refine srt_one ((List.perm_ext_iff_of_nodup nd ?_).mpr fun x => ?_) st ?_
        · rw [List.nodup_append]
          refine ⟨fnd, by simp, fun a ha b hb q => ?_⟩
          rw [List.mem_singleton.mp hb] at q
          have := ((key a).mp ha).2.1
          omega
        · rw [List.mem_append, key x, List.mem_singleton, hM x]
          constructor
          · rintro ⟨a, b, c⟩
            by_cases z : x = (m : Int)
            · exact .inr z
            · exact .inl ⟨a, by omega, c⟩
          · rintro (⟨a, b, c⟩ | z)
            · exact ⟨a, by omega, c⟩
            · rw [z]
              exact ⟨by omega, by omega, l⟩
        · rw [List.pairwise_append]
          refine ⟨fst, List.pairwise_singleton _ _, fun a ha b hb => ?_⟩
          rw [List.mem_singleton.mp hb]
          have := ((key a).mp ha).2.1
          omega
      obtain ⟨c1, c2, c3⟩ := hc _ hm
      rw [e, List.map_append, List.map_singleton]
      exact .add ih l c1 c2 c3
    · have e : M = M.filter (fun x => decide (x < (m : Int))) := by
        refine srt_one ((List.perm_ext_iff_of_nodup nd fnd).mpr fun x => ?_) st fst
        rw [key x, hM x]
        constructor
        · rintro ⟨a, b, c⟩
          by_cases z : x = (m : Int)
          · rw [z] at c
            exact absurd c l
          · exact ⟨a, by omega, c⟩
        · rintro ⟨a, b, c⟩
          exact ⟨a, by omega, c⟩
      rw [e]
      exact .skip ih l
structure Ck (n : Nat) (R : Int → Int → Prop) (i : Nat) (m : MetK) (found : List (List Int)) : Prop where
  mkk : Mk n m
  can : Can R i found
  iff_ : ∀ x, (dGet m x).isSome = true ↔ ∃ y : Nat, y < i ∧ R y x
theorem Ck.least {n : Nat} {R : Int → Int → Prop} (E : Eqv n R) {i : Nat} {m : MetK} {found : List (List Int)} (h : Ck n R i m found) (hi : i < n) : ¬ (dGet m (i : Int)).isSome = true ↔ leastIn R (i : Int) := by
  rw [h.iff_]
  constructor
  · intro q y hy
    refine Classical.byContradiction fun z => q ?_
    obtain ⟨y0, y1⟩ := E.in_ _ _ (by omega) (by omega) hy
    refine ⟨y.toNat, by omega, ?_⟩
    rw [show ((y.toNat : Nat) : Int) = y by omega]
    exact E.symm _ _ (by omega) (by omega) hy
  · rintro q ⟨y, hy, hr⟩
    have := q _ (E.symm _ _ (by omega) (by omega) hr)
    omega
theorem Ck.skip {n : Nat} {R : Int → Int → Prop} (E : Eqv n R) {i : Nat} {m : MetK} {found : List (List Int)} (h : Ck n R i m found) (hi : i < n) (hz : (dGet m (i : Int)).isSome = true) : Ck n R (i + 1) m found := by
  refine ⟨h.mkk, .skip h.can fun l => (h.least E hi).mpr l hz, fun x => ?_⟩
  rw [h.iff_ x]
  constructor
  · rintro ⟨y, hy, hr⟩
    exact ⟨y, by omega, hr⟩
  · rintro ⟨y, hy, hr⟩
    by_cases z : y = i
    · subst z
      obtain ⟨y', hy', hr'⟩ := (h.iff_ _).mp hz
      exact ⟨y', hy', E.trans _ _ _ hr' hr⟩
    · exact ⟨y, by omega, hr⟩
theorem Ck.add {n : Nat} {R : Int → Int → Prop} (E : Eqv n R) {i : Nat} {m : MetK} {found : List (List Int)} (h : Ck n R i m found) (hi : i < n) (hz : ¬ (dGet m (i : Int)).isSome = true) {c : List Int} {m' : MetK} (k : Mk n m') (nd : c.Nodup) (mem : ∀ y, y ∈ c ↔ R i y) (hm : ∀ x, (dGet m' x).isSome = true ↔ (dGet m x).isSome = true ∨ x ∈ c) : Ck n R (i + 1) m' (found ++ [srtI c]) := by
  refine ⟨k, h.can.next ((h.least E hi).mp hz) nd mem, fun x => ?_⟩
  rw [hm x, h.iff_ x, mem x]
  constructor
  · rintro (⟨y, hy, hr⟩ | hr)
    · exact ⟨y, by omega, hr⟩
    · exact ⟨i, by omega, hr⟩
  · rintro ⟨y, hy, hr⟩
    by_cases z : y = i
    · subst z
      exact .inr hr
    · exact .inl ⟨y, by omega, hr⟩
theorem circles_can {L : Int} {n : Nat} {F : Dd} {T : List (List Int)} (d : Dr L n F) (f : Fl n L F) (hT : Tb n L F T) (h1 : 1 ≤ L) (h4 : L ≤ 4) (n1 : 1 ≤ n) (hn : n ≤ 40) {w : List Int} (hw : ∀ s ∈ w, Sok L s) (wl : w.length ≤ 1000) : ∃ C, Q_circles (L, T) w = some C ∧ Can (Cw F w) n C := by
  have hlc : (range' 0 (n : Int)).length = n := by rw [rng_len]; omega
  have E := cw_eqv d f (by omega) hw
  have e1 : Q_need_book (L, T) = some () := need_book_ok (hT.bk d f) h1 h4 n1 hn
  have e2 : Q_need_walk w L = some () := by
    have : Q_is_a_walk w L = some true := walk_isW hw (by omega)
    unfold Q_need_walk
    exact bindS this (if_neg (by decide))
  have e3 : Q_turned_by (L, T) w = some (tw n F w) := turned_by_ok d f hT h1 h4 (by omega) hw
  have core : ∃ C, Q_circles_of (tw n F w) = some C ∧ Can (Cw F w) n C := by
    unfold Q_circles_of
    rw [tw_len]
    refine bndX (rngO_ok (by omega)) ?_
    refine lpX (fun i s => Ck n (Cw F w) i s.1 s.2) ⟨⟨List.nodup_nil, fun x hx => by cases hx⟩, .nil, fun x => ⟨fun q => (by cases q), fun ⟨y, hy, _⟩ => (by omega)⟩⟩ (fun i x s hx hs => ?_) (fun s hs => ?_)
    · obtain ⟨m0, found⟩ := s
      have Q : Ck n (Cw F w) i m0 found := hs
      obtain ⟨rfl, hi⟩ := rngAt hx
      rw [show (0 : Int) + (i : Int) = i from Int.zero_add _]
      have hi' : i < n := by omega
      have hfl := Q.can.len
      have cl : ∀ x y : Int, 0 ≤ x → x < n → goW F x w = some y → ((dGet m0 x).isSome = true ↔ (dGet m0 y).isSome = true) := fun x y x0 x1 e => by
        have hr : Cw F w x y := ⟨1, by rw [rep_oneW]; exact e⟩
        rw [Q.iff_ x, Q.iff_ y]
        constructor
        · rintro ⟨z, hz, q⟩
          exact ⟨z, hz, E.trans _ _ _ q hr⟩
        · rintro ⟨z, hz, q⟩
          exact ⟨z, hz, E.trans _ _ _ q (E.symm _ _ x0 x1 hr)⟩
      obtain ⟨⟨m, found'⟩, e, R⟩ := circle_run d f (by omega) hw Q.mkk cl (h := (i : Int)) (by omega) (by omega) (k := fun f11o => Sum.elim (fun r19 => none) (fun f11 => ((if (decide (0 < (f11.2.1.length : Int))) = true then ((appO found (srtI f11.2.1)).bind fun t17 => some t17) else some found : Option (List (List Int))).bind fun s18 => some (f11.2.2, s18))) f11o) (Q := fun r : MetK × List (List Int) => Ck n (Cw F w) (i + 1) r.1 r.2) (fun y c m hc hl => by
        rcases hc with ⟨rfl, rfl, hz⟩ | ⟨hz, cnd, cper, cno, cat, cmk, ciff⟩
        · exact ⟨(m, found), rfl, Q.skip E hi' hz⟩
        · have k1 := cper.1
          have mem : ∀ y, y ∈ c ↔ Cw F w (i : Int) y := fun x => by
            constructor
            · intro hx
              obtain ⟨j, hj⟩ := List.mem_iff_getElem?.mp hx
              obtain ⟨x', e1, e2⟩ := cat j (List.getElem?_eq_some_iff.mp hj).1
              rw [hj] at e1
              cases e1
              exact ⟨j, e2⟩
            · rintro ⟨j, e⟩
              have hr := rep_round cper.2.1 (j / c.length) (j % c.length)
              rw [show j / c.length * c.length + j % c.length = j by rw [Nat.mul_comm]; exact Nat.div_add_mod j c.length, e] at hr
              obtain ⟨x', e1, e2⟩ := cat (j % c.length) (Nat.mod_lt j (by omega))
              rw [← hr] at e2
              cases e2
              exact List.mem_of_getElem? e1
          exact ⟨(m, found ++ [srtI c]), bindS (a := found ++ [srtI c]) ((if_pos (decide_eq_true (by show (0 : Int) < (c.length : Int); omega))).trans (bindS (Z.app_ok (by rw [sizeL]; omega)) rfl)) rfl, Q.add E hi' hz cmk cnd mem ciff⟩)
      exact ⟨(m, found'), e, R⟩
    · have Q : Ck n (Cw F w) (range' 0 (n : Int)).length s.1 s.2 := hs
      rw [hlc] at Q
      exact ⟨s.2, rfl, Q.can⟩
  obtain ⟨C, ec, c1⟩ := core
  exact ⟨C, by unfold Q_circles; exact bindS e1 (bindS e2 (bindS e3 (bindS ec rfl))), c1⟩
theorem parts_can {L : Int} {n : Nat} {F : Dd} {T : List (List Int)} (d : Dr L n F) (f : Fl n L F) (hT : Tb n L F T) (h1 : 1 ≤ L) (h4 : L ≤ 4) (n1 : 1 ≤ n) (hn : n ≤ 40) : ∃ P, Q_parts (L, T) = some P ∧ Can (Rc L F) n P := by
  have hlc : (range' 0 (n : Int)).length = n := by rw [rng_len]; omega
  have E := rc_eqv d
  have e1 : Q_need_book (L, T) = some () := need_book_ok (hT.bk d f) h1 h4 n1 hn
  have e2 : Q_places_of (L, T) = some (n : Int) := places_tw hT h1
  unfold Q_parts
  refine bndX e1 (bndX e2 (bndX (rngO_ok (by omega)) ?_))
  refine lpX (fun i s => Ck n (Rc L F) i s.1 s.2) ⟨⟨List.nodup_nil, fun x hx => by cases hx⟩, .nil, fun x => ⟨fun q => (by cases q), fun ⟨y, hy, _⟩ => (by omega)⟩⟩ (fun i x s hx hs => ?_) (fun s hs => ?_)
  · obtain ⟨m0, found⟩ := s
    have Q : Ck n (Rc L F) i m0 found := hs
    obtain ⟨rfl, hi⟩ := rngAt hx
    rw [show (0 : Int) + (i : Int) = i from Int.zero_add _]
    have hi' : i < n := by omega
    have hfl := Q.can.len
    by_cases z : (dGet m0 (i : Int)).isSome = true
    · exact ⟨(m0, found), bindS (a := (m0, found)) (if_neg (by rw [z]; decide)) rfl, Q.skip E hi' z⟩
    · have f1 : dPutO m0 (i : Int) true = some (dPut m0 (i : Int) true) := if_pos (by have := Q.mkk.len; rw [sizeL]; omega)
      have cl : ∀ x y, (dGet m0 x).isSome = true → Rc L F x y → (dGet m0 y).isSome = true := fun x y hx hr => by
        obtain ⟨z, hz, q⟩ := (Q.iff_ x).mp hx
        exact (Q.iff_ y).mpr ⟨z, hz, q.trans hr⟩
      obtain ⟨⟨m, found'⟩, e, R⟩ := part_run d f hT h4 (by omega) Q.mkk cl (h := (i : Int)) (by omega) (by omega) z (k := fun f14o => Sum.elim (fun r30 => none) (fun f14 => ((appO found (srtI f14.2.1)).bind fun t29 => some (f14.2.2, t29))) f14o) (Q := fun r : MetK × List (List Int) => Ck n (Rc L F) (i + 1) r.1 r.2) (fun i' part m P hR => ⟨(m, found ++ [srtI part]), bindS (Z.app_ok (by rw [sizeL]; omega)) rfl, Q.add E hi' z P.mkk P.nd hR P.iff_⟩)
      exact ⟨(m, found'), bindS (a := (m, found')) ((if_pos (by rw [Bool.not_eq_true']; simpa using z)).trans (bindS f1 e)) rfl, R⟩
  · have Q : Ck n (Rc L F) (range' 0 (n : Int)).length s.1 s.2 := hs
    rw [hlc] at Q
    exact ⟨s.2, rfl, Q.can⟩
theorem is_a_book_ok {c : Nat} {L : Int} {T : List (List Int)} (h : Bk c L T) (h1 : 1 ≤ L) (h4 : L ≤ 4) (c0 : 1 ≤ c) (c1 : c ≤ 40) : Q_is_a_book (L, T) = some true := by
  have := need_book_ok h h1 h4 c0 c1
  unfold Q_need_book at this
  cases e : Q_is_a_book (L, T) with
  | none => rw [e] at this; cases this
  | some b =>
    rw [e] at this
    cases b with
    | true => rfl
    | false => cases this
theorem turn_of_ok {L : Int} {n : Nat} {F : Dd} {T : List (List Int)} (d : Dr L n F) (f : Fl n L F) (hT : Tb n L F T) (h1 : 1 ≤ L) (h4 : L ≤ 4) (n1 : 1 ≤ n) (hn : n ≤ 40) {w : List Int} (hw : ∀ s ∈ w, Sok L s) (wl : w.length ≤ 1000) : Q_turn_of (L, T) w = some (tw n F w) := by
  have e2 : Q_need_walk w L = some () := by
    have : Q_is_a_walk w L = some true := walk_isW hw (by omega)
    unfold Q_need_walk
    exact bindS this (if_neg (by decide))
  unfold Q_turn_of
  exact bindS (need_book_ok (hT.bk d f) h1 h4 n1 hn) (bindS e2 (bindS (turned_by_ok d f hT h1 h4 (by omega) hw) rfl))
theorem place_after_ok {L : Int} {n : Nat} {F : Dd} {T : List (List Int)} (d : Dr L n F) (f : Fl n L F) (hT : Tb n L F T) (h1 : 1 ≤ L) (h4 : L ≤ 4) (n1 : 1 ≤ n) (hn : n ≤ 40) {w : List Int} (hw : ∀ s ∈ w, Sok L s) (wl : w.length ≤ 1000) {p y : Int} (p0 : 0 ≤ p) (p1 : p < n) (hy : goW F p w = some y) : Q_place_after (L, T) p w = some y := by
  have e2 : Q_need_walk w L = some () := by
    have : Q_is_a_walk w L = some true := walk_isW hw (by omega)
    unfold Q_need_walk
    exact bindS this (if_neg (by decide))
  have en : Q_need_place (L, T) p = some () := by
    unfold Q_need_place
    refine bindS (places_tw hT h1) (bindS (a := ()) ?_ rfl)
    unfold Q_need_numberK
    exact if_neg (by simp; omega)
  unfold Q_place_after
  exact bindS (need_book_ok (hT.bk d f) h1 h4 n1 hn) (bindS en (bindS e2 (bindS (turned_by_ok d f hT h1 h4 (by omega) hw) (bindS (tw_idx p0 p1 hy) rfl))))
end Z
namespace L31
open PySem PySem.Spec L2 Z
theorem far_wh {L : Int} {n : Nat} {F : Dd} (d : Dr L n F) (f : Fl n L F) (hn : n ≤ 1000) {w : List Int} (hw : ∀ s ∈ w, Sok L s) : ∀ (k fuel : Nat) (q : Int) (m a : Nat), 0 ≤ q → q < 2 ^ k → k < fuel →
    ∃ r, wh (fun (s2 : ((List Int) × Int × (List Int))) => some (decide (0 < s2.2.1))) (fun (s2 : ((List Int) × Int × (List Int))) => (((if (decide ((s2.2.1 % 2) = 1)) = true then ((lcO (β := Int) (fun (here6 : Int) => ((idx s2.2.2 here6).bind fun t8 => some t8)) s2.1).bind fun t9 => some t9) else some s2.1 : Option (List Int)).bind fun s10 => ((lcO (β := Int) (fun (here11 : Int) => ((idx s2.2.2 here11).bind fun t13 => some t13)) s2.2.2).bind fun t14 => some (Step.go (s10, (s2.2.1 / 2), t14)))) : Option (Step (List Int) ((List Int) × Int × (List Int))))) fuel (tw n F (rep w a), q, tw n F (rep w m)) = some (.inr (tw n F (rep w (a + m * q.toNat)), r))
  | k, 0, _, _, _, _, _, hk => absurd hk (Nat.not_lt_zero _)
  | k, fuel + 1, q, m, a, q0, q1, hk => by
    have hrep : ∀ j : Nat, ∀ s ∈ rep w j, Sok L s := fun j s hs => hw s (flat_mem hs)
    by_cases hq : 0 < q
    · obtain ⟨k, rfl⟩ : ∃ k', k = k' + 1 := by
        cases k with
        | zero => rw [Int.pow_zero] at q1; omega
        | succ k => exact ⟨k, rfl⟩
      have e1 : (if (decide ((q % 2) = 1)) = true then ((lcO (β := Int) (fun (here6 : Int) => ((idx (tw n F (rep w m)) here6).bind fun t8 => some t8)) (tw n F (rep w a))).bind fun t9 => some t9) else some (tw n F (rep w a)) : Option (List Int)) = some (tw n F (rep w (a + if q % 2 = 1 then m else 0))) := by
        by_cases ho : q % 2 = 1
        · rw [if_pos ho, rep_addW]
          exact (if_pos (decide_eq_true ho)).trans (bindS (comp_tw d f (hrep a) (hrep m) (by omega)) rfl)
        · rw [if_neg ho]
          exact if_neg (by simpa using ho)
      have e2 := comp_tw d f (hrep m) (hrep m) (show n ≤ 100000 by omega)
      rw [← rep_addW] at e2
      have hp : (2 : Int) ^ (k + 1) = 2 ^ k * 2 := Int.pow_succ 2 k
      obtain ⟨r, e3⟩ := far_wh d f hn hw k fuel (q / 2) (m + m) (a + if q % 2 = 1 then m else 0) (by omega) (by omega) (by omega)
      refine ⟨r, ?_⟩
      unfold wh
      refine bindS (a := true) (congrArg some (decide_eq_true hq)) ((if_pos rfl).trans ?_)
      refine bindS (bindS e1 (bindS e2 rfl)) (e3.trans ?_)
      have hd := Int.emod_add_mul_ediv q 2
      have hm2 := Int.emod_nonneg q (show (2 : Int) ≠ 0 by decide)
      have hq2 : q.toNat = (if q % 2 = 1 then 1 else 0) + 2 * (q / 2).toNat := by
        split <;> omega
      have : a + (if q % 2 = 1 then m else 0) + (m + m) * (q / 2).toNat = a + m * q.toNat := by
        rw [hq2, Nat.mul_add, Nat.add_mul]
        have h1 : m * (if q % 2 = 1 then 1 else 0) = if q % 2 = 1 then m else 0 := by split <;> omega
        have h2 : m * (2 * (q / 2).toNat) = m * (q / 2).toNat + m * (q / 2).toNat := by rw [Nat.two_mul, Nat.mul_add]
        rw [h1, h2]
        omega
      rw [this]
    · have : q = 0 := by omega
      subst this
      refine ⟨(0, tw n F (rep w m)), ?_⟩
      unfold wh
      refine bindS (a := false) rfl ?_
      rw [show (0 : Int).toNat = 0 from rfl, Nat.mul_zero, Nat.add_zero]
      rfl
theorem far_goals_ok {L : Int} {n : Nat} {F : Dd} (d : Dr L n F) (f : Fl n L F) (hn : n ≤ 1000) {w : List Int} (hw : ∀ s ∈ w, Sok L s) {t : Int} (t0 : 0 ≤ t) (t1 : t < 2 ^ 1000) : m_l_far_goals (tw n F w) t = some (tw n F (rep w t.toNat)) := by
  unfold m_l_far_goals
  rw [tw_len]
  refine bindS (rgO_okN (by omega)) ?_
  obtain ⟨r, e⟩ := far_wh d f hn hw 1000 10000 t 1 0 t0 t1 (by decide)
  rw [rep_oneW, rep_zero, tw_nil, Nat.zero_add, Nat.one_mul] at e
  exact bindS e rfl
theorem goals_ok {L : Int} {n : Nat} {F : Dd} {T : List (List Int)} (d : Dr L n F) (f : Fl n L F) (h : Tb n L F T) (h1 : 1 ≤ L) (h4 : L ≤ 4) (hn : n ≤ 1000) {w : List Int} (hw : ∀ s ∈ w, Sok L s) : m_l_goals (L, T) w = some (tw n F w) := goalsR_ok d f h h1 h4 hn hw
theorem first_turn {L : Int} {n : Nat} {F : Dd} {T : List (List Int)} (h : Tb n L F T) (h1 : 1 ≤ L) : idx T 0 = some (tw n F [1]) := idx_of (by decide) (h.2 1 (Int.le_refl _) h1)
theorem short_goals_ok {L : Int} {n m : Nat} {F : Dd} {T : List (List Int)} (d : Dr L n F) (f : Fl n L F) (h : Tb n L F T) (h1 : 1 ≤ L) (h4 : L ≤ 4) (hn : n ≤ 40) (hm : m ≤ 1000) {sh : List (List Int × Int)} (hs : ShO m L sh) : m_l_short_goals (L, T) sh = some (tw n F (outW sh)) := by
  unfold m_l_short_goals
  refine bindS (first_turn h h1) ?_
  rw [tw_len]
  refine bindS (rgO_okN (by omega)) ?_
  have key : ∀ (sh : List (List Int × Int)) (u : List Int), (∀ s ∈ u, Sok L s) → ShO m L sh → lp (fun (s3 : (List Int)) (x4 : ((List Int) × Int)) => ((if (decide (0 < x4.2)) = true then some x4.1 else ((m_l_back x4.1).bind fun t8 => some t8)).bind fun t9 => (m_l_goals (L, T) t9).bind fun t10 => (m_l_far_goals t10 (absI x4.2)).bind fun t11 => ((lcO (β := Int) (fun (here12 : Int) => ((idx t11 here12).bind fun t14 => some t14)) s3).bind fun t15 => some t15))) sh (tw n F u) = some (tw n F (u ++ outW sh)) := by
    intro sh
    induction sh with
    | nil => intro u _ _; show some (tw n F u) = some (tw n F (u ++ [])); rw [List.append_nil]
    | cons p sh ih =>
      intro u hu hp
      unfold lp
      have ho := hp.ok p List.mem_cons_self
      have hle := hp.len p List.mem_cons_self
      have htz := hp.tz p List.mem_cons_self
      have e1 : (if (decide (0 < p.2)) = true then some p.1 else ((m_l_back p.1).bind fun t8 => some t8)) = some (if 0 < p.2 then p.1 else iv p.1) := by
        by_cases z : 0 < p.2
        · rw [if_pos (decide_eq_true z), if_pos z]
        · rw [if_neg (by simpa using z), if_neg z]
          exact bindS (tback_okS (by omega)) rfl
      have hsk : ∀ s ∈ (if 0 < p.2 then p.1 else iv p.1), Sok L s := by
        split
        · exact ho
        · exact iv_sokW ho
      have ea : (absI p.2).toNat = p.2.natAbs := by unfold absI; split <;> omega
      have ea2 : absI p.2 = (p.2.natAbs : Int) := by unfold absI; split <;> omega
      have e3 := far_goals_ok d f (by omega) hsk (t := absI p.2) (by unfold absI; split <;> omega) (by
        rw [ea2]
        have : (p.2.natAbs : Int) ≤ 1000000000000000000000000000000 := by omega
        exact Int.lt_of_le_of_lt this (by decide))
      rw [ea] at e3
      have e4 := comp_tw d f (v := timesW p.1 p.2) hu (timesW_sok ho) (by omega)
      refine bindS (bindS e1 (bindS (goals_ok d f h h1 h4 (by omega) hsk) (bindS e3 (bindS e4 rfl)))) ?_
      rw [ih (u ++ timesW p.1 p.2) (app_sokW hu (timesW_sok ho)) ⟨fun q hq => hp.len q (List.mem_cons_of_mem _ hq), fun q hq => hp.ok q (List.mem_cons_of_mem _ hq), fun q hq => hp.tz q (List.mem_cons_of_mem _ hq)⟩, List.append_assoc]
      rfl
  have := key sh [] (fun _ z => (nomatch z)) hs
  rw [tw_nil] at this
  exact bindS this rfl
theorem ring_run {L : Int} {n : Nat} {F : Dd} (d : Dr L n F) (f : Fl n L F) (hn : n ≤ 4000) {w : List Int} (hw : ∀ s ∈ w, Sok L s) {p : Int} (p0 : 0 ≤ p) (p1 : p < n) {β : Type} {k : Sum (List (List Int)) (Int × List Int) → Option β} {Q : β → Prop}
    (hk : ∀ c : List Int, c.Nodup → (∀ y, y ∈ c ↔ Cw F w p y) → p ∈ c → c.length ≤ n → ∃ r, k (.inr (p, c)) = some r ∧ Q r) :
    ∃ r, ((idx (tw n F w) p).bind fun t8 => ((wh (fun (s9 : (Int × (List Int))) => some (!decide (s9.1 = p))) (fun (s9 : (Int × (List Int))) => (((appO s9.2 s9.1).bind fun t13 => ((idx (tw n F w) s9.1).bind fun t14 => some (Step.go (t14, t13)))) : Option (Step (List (List Int)) (Int × (List Int))))) 10000 (t8, [p])).bind k)) = some r ∧ Q r := by
  have hrep : ∀ j : Nat, ∀ s ∈ rep w j, Sok L s := fun j s hs => hw s (flat_mem hs)
  have at_ : ∀ j : Nat, ∃ y, goW F p (rep w j) = some y ∧ 0 ≤ y ∧ y < n := fun j => f.gone d (hrep j) p0 p1
  have nxt : ∀ (j : Nat) (y z : Int), goW F p (rep w j) = some y → goW F p (rep w (j + 1)) = some z → goW F y w = some z := fun j y z ey ez => by
    rw [rep_succ', goW_app, ey] at ez
    exact ez
  obtain ⟨h0, eh0, h00, h01⟩ := at_ 1
  have e8 : idx (tw n F w) p = some h0 := tw_idx p0 p1 (by rw [rep_oneW] at eh0; exact eh0)
  refine bndX e8 ?_
  refine whX (fun s9 : Int × List Int => ∃ k : Nat, 1 ≤ k ∧ k ≤ n ∧ s9.2.length = k ∧ goW F p (rep w k) = some s9.1 ∧ (∀ j, j < k → ∃ b, s9.2[j]? = some b ∧ goW F p (rep w j) = some b) ∧ ∀ j, 1 ≤ j → j < k → goW F p (rep w j) ≠ some p) (fun s9 => n - s9.2.length) ⟨1, Nat.le_refl _, by omega, rfl, eh0, fun j hj => ?_, fun j j1 j2 => by omega⟩ (by show n - _ < 10000; omega) (fun s9 h9 => ?_) (fun s9 h9 hcf => ?_)
  · have : j = 0 := by omega
    subst this
    exact ⟨p, rfl, rfl⟩
  · obtain ⟨k, k1, kn, kl, ke, kr, kf⟩ := h9
    obtain ⟨y, c⟩ := s9
    by_cases z : y = p
    · exact .inl (congrArg some (by simp [z]))
    · refine .inr ⟨congrArg some (by simp [z]), ?_⟩
      obtain ⟨y', ey', y0', y1'⟩ := at_ k
      have ke : goW F p (rep w k) = some y := ke
      rw [ke] at ey'
      cases ey'
      obtain ⟨g, eg, g0, g1⟩ := at_ (k + 1)
      have hg := nxt k y g ke eg
      have kl : c.length = k := kl
      have kr' : ∀ j, j < k + 1 → ∃ b, (c ++ [y])[j]? = some b ∧ goW F p (rep w j) = some b := fun j hj => by
        by_cases zj : j < k
        · obtain ⟨b, b1, b2⟩ := kr j zj
          exact ⟨b, by rw [List.getElem?_append_left (by omega)]; exact b1, b2⟩
        · have : j = k := by omega
          subst this
          exact ⟨y, by rw [List.getElem?_append_right (by omega), kl, Nat.sub_self]; rfl, ke⟩
      have kf' : ∀ j, 1 ≤ j → j < k + 1 → goW F p (rep w j) ≠ some p := fun j j1 j2 => by
        by_cases zj : j < k
        · exact kf j j1 zj
        · have : j = k := by omega
          subst this
          rw [ke]
          exact fun q => z (Option.some.inj q)
      have hfr := rep_fresh d (w := w) (a := p) (k := k + 1) (row := c ++ [y]) p0 p1 (by rw [List.length_append, kl]; rfl) kr' kf'
      refine ⟨(g, c ++ [y]), bindS (Z.app_ok (by rw [kl, sizeL]; omega)) (bindS (tw_idx y0' y1' hg) rfl), ⟨k + 1, by omega, hfr, by rw [List.length_append, kl]; rfl, eg, kr', kf'⟩, ?_⟩
      show n - (c ++ [y]).length < n - c.length
      rw [List.length_append, kl, List.length_singleton]
      omega
  · obtain ⟨k, k1, kn, kl, ke, kr, kf⟩ := h9
    obtain ⟨y, c⟩ := s9
    have kl : c.length = k := kl
    have hy : y = p := by
      have hcf : some (!decide (y = p)) = some false := hcf
      simpa using Option.some.inj hcf
    subst hy
    have ke : goW F y (rep w k) = some y := ke
    have kr : ∀ j, j < k → ∃ b, c[j]? = some b ∧ goW F y (rep w j) = some b := kr
    refine hk c ?_ (fun x => ?_) ?_ (by omega)
    · -- no place stands twice
      rw [List.nodup_iff_pairwise_ne, List.pairwise_iff_getElem]
      intro i j hi hj hij e
      have e : c[i]? = c[j]? := by rw [List.getElem?_eq_getElem hi, List.getElem?_eq_getElem hj, e]
      obtain ⟨a, a1, a2⟩ := kr i (by omega)
      obtain ⟨b, b1, b2⟩ := kr j (by omega)
      rw [a1, b1] at e
      cases e
      -- then the way from i to j is a round
      obtain ⟨t, ht⟩ : ∃ t, k = j + t := ⟨k - j, by omega⟩
      have e1 : goW F a (rep w t) = some y := by
        have := ke
        rw [ht, rep_addW, goW_app, b2] at this
        exact this
      have e2 : goW F y (rep w (i + t)) = some y := by
        rw [rep_addW, goW_app, a2]
        exact e1
      exact kf (i + t) (by omega) (by omega) e2
    · constructor
      · intro hx
        obtain ⟨j, hj⟩ := List.mem_iff_getElem?.mp hx
        obtain ⟨b, b1, b2⟩ := kr j (by have := (List.getElem?_eq_some_iff.mp hj).1; omega)
        rw [hj] at b1
        cases b1
        exact ⟨j, b2⟩
      · rintro ⟨j, e⟩
        have hr := rep_round ke (j / k) (j % k)
        rw [show j / k * k + j % k = j by rw [Nat.mul_comm]; exact Nat.div_add_mod j k, e] at hr
        obtain ⟨b, b1, b2⟩ := kr (j % k) (Nat.mod_lt j (by omega))
        rw [← hr] at b2
        cases b2
        exact List.mem_of_getElem? b1
    · obtain ⟨b, b1, b2⟩ := kr 0 (by omega)
      have : some y = some b := b2
      cases this
      exact List.mem_of_getElem? b1
theorem min_ex {c : List Int} {p : Int} (h : p ∈ c) : ∃ r, minO c = some r := by
  cases c with
  | nil => cases h
  | cons x t => exact ⟨_, rfl⟩
theorem lcircles_can {L : Int} {n : Nat} {F : Dd} (d : Dr L n F) (f : Fl n L F) (hn : n ≤ 40) {w : List Int} (hw : ∀ s ∈ w, Sok L s) : ∃ C, m_l_circles (tw n F w) = some C ∧ Can (Cw F w) n C := by
  have hlc : (range' 0 (n : Int)).length = n := by rw [rng_len]; omega
  unfold m_l_circles
  rw [tw_len]
  refine bndX (rngO_ok (by omega)) ?_
  refine lpX (fun i s => Can (Cw F w) i s) .nil (fun i x s hx hs => ?_) (fun s hs => ?_)
  · obtain ⟨rfl, hi⟩ := rngAt hx
    rw [show (0 : Int) + (i : Int) = i from Int.zero_add _]
    have hsl := hs.len
    refine ring_run d f (by omega) hw (p := (i : Int)) (by omega) (by omega) (Q := fun r => Can (Cw F w) (i + 1) r) (fun c nd mem hp hl => ?_)
    obtain ⟨r, hr⟩ := min_ex hp
    obtain ⟨r1, r2⟩ := minO_ok hr
    by_cases z : r = (i : Int)
    · refine ⟨s ++ [srtI c], bindS hr (bindS (a := s ++ [srtI c]) ((if_pos (decide_eq_true z)).trans (bindS (Z.app_ok (by rw [sizeL]; omega)) rfl)) rfl), hs.next (fun y hy => ?_) nd mem⟩
      rw [← z]
      exact r2 y ((mem y).mpr hy)
    · refine ⟨s, bindS hr (bindS (a := s) (if_neg (by simpa using z)) rfl), .skip hs fun l => z ?_⟩
      have h1 := l r ((mem r).mp r1)
      have h2 := r2 _ hp
      omega
  · rw [hlc] at hs
    exact ⟨s, rfl, hs⟩
end L31
namespace L31
open PySem PySem.Spec L2 Z
structure Mu (n : Nat) (R : Int → Int → Prop) (μ : Int → Int) : Prop where
  lo : ∀ x : Int, 0 ≤ x → x < n → 0 ≤ μ x ∧ μ x ≤ x
  id_ : ∀ x : Int, 0 ≤ x → x < n → μ (μ x) = μ x
  snd : ∀ x : Int, 0 ≤ x → x < n → R x (μ x)
def jnM (μ : Int → Int) (a b z : Int) : Int := if μ z = a ∨ μ z = b then minI a b else μ z
theorem minI_or (a b : Int) : (minI a b = a ∨ minI a b = b) ∧ minI a b ≤ a ∧ minI a b ≤ b := by
  unfold minI
  split <;> omega
theorem Mu.join {n : Nat} {R : Int → Int → Prop} (E : Eqv n R) {μ : Int → Int} (h : Mu n R μ) {p g : Int} (p0 : 0 ≤ p) (p1 : p < n) (g0 : 0 ≤ g) (g1 : g < n) (hr : R p g) : Mu n R (jnM μ (μ p) (μ g)) := by
  obtain ⟨m1, m2, m3⟩ := minI_or (μ p) (μ g)
  obtain ⟨a0, a1⟩ := h.lo p p0 p1
  obtain ⟨b0, b1⟩ := h.lo g g0 g1
  have ida := h.id_ p p0 p1
  have idb := h.id_ g g0 g1
  have rp := h.snd p p0 p1
  have rg := h.snd g g0 g1
  have rab : R (μ p) (μ g) := E.trans _ _ _ (E.symm _ _ p0 p1 rp) (E.trans _ _ _ hr rg)
  have rba : R (μ g) (μ p) := E.symm _ _ (by omega) (by omega) rab
  have toMin : ∀ z : Int, 0 ≤ z → z < n → (μ z = μ p ∨ μ z = μ g) → R z (minI (μ p) (μ g)) := fun z z0 z1 hz => by
    have rz := h.snd z z0 z1
    rcases hz with q | q <;> rw [q] at rz <;> rcases m1 with m | m <;> rw [m]
    · exact rz
    · exact E.trans _ _ _ rz rab
    · exact E.trans _ _ _ rz rba
    · exact rz
  refine ⟨fun x x0 x1 => ?_, fun x x0 x1 => ?_, fun x x0 x1 => ?_⟩
  · obtain ⟨l0, l1⟩ := h.lo x x0 x1
    unfold jnM
    split
    · rename_i q
      rcases q with q | q <;> rcases m1 with m | m <;> omega
    · exact ⟨l0, l1⟩
  · have hid := h.id_ x x0 x1
    unfold jnM
    by_cases q : μ x = μ p ∨ μ x = μ g
    · rw [if_pos q]
      have : μ (minI (μ p) (μ g)) = μ p ∨ μ (minI (μ p) (μ g)) = μ g := by
        rcases m1 with m | m <;> rw [m]
        · exact .inl ida
        · exact .inr idb
      rw [if_pos this]
    · rw [if_neg q, hid, if_neg q]
  · unfold jnM
    split
    · rename_i q
      exact toMin x x0 x1 q
    · exact h.snd x x0 x1
theorem rng_at {n i : Nat} (h : i < n) : (range' 0 (n : Int))[i]? = some (i : Int) := by
  unfold range'
  rw [List.getElem?_map, List.getElem?_range (by omega)]
  exact congrArg some (Int.zero_add _)
theorem idx_rng {n : Nat} (μ : Int → Int) {p : Int} (p0 : 0 ≤ p) (p1 : p < n) : idx ((range' 0 (n : Int)).map μ) p = some (μ p) := by
  refine idx_of p0 ?_
  rw [List.getElem?_map, rng_at (by omega : p.toNat < n)]
  show some (μ ((p.toNat : Nat) : Int)) = _
  rw [show ((p.toNat : Nat) : Int) = p by omega]
theorem enum_rng (n : Nat) (μ : Int → Int) : enum ((range' 0 (n : Int)).map μ) = (range' 0 (n : Int)).map fun x => (x, μ x) := by
  refine List.ext_getElem? fun i => ?_
  unfold enum
  rw [List.getElem?_map, List.getElem?_map, List.getElem?_zipIdx, List.getElem?_map]
  by_cases h : i < n
  · rw [rng_at h]
    show some (((0 + i : Nat) : Int), μ (i : Int)) = some ((i : Int), μ (i : Int))
    rw [Nat.zero_add]
  · rw [List.getElem?_eq_none (by rw [rng_len]; omega)]
    rfl
theorem join_step {n : Nat} (hn : n ≤ 1000) {μ : Int → Int} {p g : Int} (p0 : 0 ≤ p) (p1 : p < n) (g0 : 0 ≤ g) (g1 : g < n) : ((idx ((range' 0 (n : Int)).map μ) p).bind fun t13 => (idx ((range' 0 (n : Int)).map μ) g).bind fun t14 => ((lcT (fun (mark15 : Int) => (if (([t13, t14]).contains mark15) = true then (minI t13 t14) else mark15)) ((range' 0 (n : Int)).map μ)).bind fun t17 => some t17)) = some ((range' 0 (n : Int)).map (jnM μ (μ p) (μ g))) := by
  refine bindS (idx_rng μ p0 p1) (bindS (idx_rng μ g0 g1) (bindS (lcT_some _ (by rw [List.length_map, rng_len, sizeL]; omega)) ?_))
  rw [List.map_map]
  refine congrArg some (List.map_congr_left fun z _ => ?_)
  show (if ([μ p, μ g].contains (μ z)) = true then minI (μ p) (μ g) else μ z) = jnM μ (μ p) (μ g) z
  unfold jnM
  by_cases q : μ z = μ p ∨ μ z = μ g
  · rw [if_pos q, if_pos (by simpa using q)]
  · rw [if_neg q, if_neg (by simpa using q)]
theorem marks_ok {L : Int} {n : Nat} {F : Dd} {T : List (List Int)} (d : Dr L n F) (f : Fl n L F) (hT : Tb n L F T) (h4 : L ≤ 4) (hn : n ≤ 1000) : ∃ μ, lp (fun (s3 : (List Int)) (turn_here4 : (List Int)) => ((lp (fun (s8 : (List Int)) (x9 : (Int × Int)) => ((idx s8 x9.1).bind fun t13 => (idx s8 x9.2).bind fun t14 => ((lcT (fun (mark15 : Int) => (if (([t13, t14]).contains mark15) = true then (minI t13 t14) else mark15)) s8).bind fun t17 => some t17))) (enum turn_here4) s3).bind fun f10 => some f10)) T (range' 0 (n : Int)) = some ((range' 0 (n : Int)).map μ) ∧ Mu n (Rc L F) μ ∧ ∀ l x y : Int, 1 ≤ l → l ≤ L → 0 ≤ x → x < n → go F x l = some y → μ x = μ y := by
  have E := rc_eqv d
  have hTl := hT.1
  obtain ⟨s, e, μ, rfl, hμ, hd⟩ := lp_goN (f := (fun (s3 : (List Int)) (turn_here4 : (List Int)) => ((lp (fun (s8 : (List Int)) (x9 : (Int × Int)) => ((idx s8 x9.1).bind fun t13 => (idx s8 x9.2).bind fun t14 => ((lcT (fun (mark15 : Int) => (if (([t13, t14]).contains mark15) = true then (minI t13 t14) else mark15)) s8).bind fun t17 => some t17))) (enum turn_here4) s3).bind fun f10 => some f10))) (xs := T) (fun k s => ∃ μ, s = (range' 0 (n : Int)).map μ ∧ Mu n (Rc L F) μ ∧ ∀ l x y : Int, 1 ≤ l → l ≤ (k : Int) → 0 ≤ x → x < n → go F x l = some y → μ x = μ y) (fun k t s ht hs => by
    obtain ⟨μ, rfl, hμ, hd⟩ := hs
    have hk := (List.getElem?_eq_some_iff.mp ht).1
    have htw : t = tw n F [(k : Int) + 1] := by
      have := hT.2 ((k : Int) + 1) (by omega) (by omega)
      rw [show ((k : Int) + 1 - 1).toNat = k by omega, ht] at this
      exact Option.some.inj this
    obtain ⟨s', e, μ', rfl, hμ', hd', hq⟩ := lp_goN (f := (fun (s8 : (List Int)) (x9 : (Int × Int)) => ((idx s8 x9.1).bind fun t13 => (idx s8 x9.2).bind fun t14 => ((lcT (fun (mark15 : Int) => (if (([t13, t14]).contains mark15) = true then (minI t13 t14) else mark15)) s8).bind fun t17 => some t17)))) (xs := enum t) (fun i s => ∃ μ', s = (range' 0 (n : Int)).map μ' ∧ Mu n (Rc L F) μ' ∧ (∀ x y : Int, μ x = μ y → μ' x = μ' y) ∧ ∀ x y : Int, 0 ≤ x → x < (i : Int) → go F x ((k : Int) + 1) = some y → μ' x = μ' y) (fun i x s hx hs => by
      obtain ⟨μ', rfl, hμ', hd', hq⟩ := hs
      obtain ⟨x1, x2⟩ := x
      obtain ⟨ex, eg⟩ := enum_get hx
      have ex : x1 = (i : Int) := ex
      have eg : t[i]? = some x2 := eg
      subst ex
      have hil := (List.getElem?_eq_some_iff.mp eg).1
      rw [htw, tw_len] at hil
      obtain ⟨y, hy⟩ := Option.isSome_iff_exists.mp (f (i : Int) ((k : Int) + 1) (by omega) (by omega) (by omega) (by omega))
      obtain ⟨y0, y1, hsok, _⟩ := d.ok _ _ _ (by omega) hy
      have hx2 : x2 = y := by
        have := tw_at (E := F) (w := [(k : Int) + 1]) (x := (i : Int)) (n := n) (by omega) (by omega)
        rw [Int.toNat_natCast, goW_sing, hy, ← htw, eg] at this
        exact Option.some.inj this
      subst hx2
      refine ⟨_, join_step hn (p := (i : Int)) (g := x2) (by omega) (by omega) y0 y1, jnM μ' (μ' (i : Int)) (μ' x2), rfl, hμ'.join E (by omega) (by omega) y0 y1 (Rc.step hsok hy), fun x y hxy => ?_, fun x y x0 x1 hxy => ?_⟩
      · unfold jnM
        rw [hd' x y hxy]
      · by_cases z : x = (i : Int)
        · subst z
          rw [hy] at hxy
          cases hxy
          unfold jnM
          rw [if_pos (.inl rfl), if_pos (.inr rfl)]
        · have := hq x y x0 (by omega) hxy
          unfold jnM
          rw [this]) (s0 := (range' 0 (n : Int)).map μ) ⟨μ, rfl, hμ, fun _ _ h => h, fun x y x0 x1 => by exfalso; have x1 : x < 0 := x1; omega⟩
    refine ⟨_, bindS e rfl, μ', rfl, hμ', fun l x y l1 l2 x0 x1 hg => ?_⟩
    by_cases z : l = (k : Int) + 1
    · subst z
      refine hq x y x0 ?_ hg
      have : (enum t).length = n := by rw [enum_len, htw, tw_len]
      omega
    · exact hd' x y (hd l x y l1 (by omega) x0 x1 hg)) (s0 := range' 0 (n : Int)) ⟨fun x => x, (List.map_id' _).symm, ⟨fun x x0 x1 => ⟨x0, Int.le_refl _⟩, fun _ _ _ => rfl, fun x _ _ => Rc.refl L F x⟩, fun l x y l1 l2 => by exfalso; have l2 : l ≤ 0 := l2; omega⟩
  exact ⟨μ, e, hμ, fun l x y l1 l2 => hd l x y l1 (by omega)⟩
theorem lparts_can {L : Int} {n : Nat} {F : Dd} {T : List (List Int)} (d : Dr L n F) (f : Fl n L F) (hT : Tb n L F T) (h1 : 1 ≤ L) (h4 : L ≤ 4) (hn : n ≤ 40) : ∃ P, m_l_parts (L, T) = some P ∧ Can (Rc L F) n P := by
  have E := rc_eqv d
  have hlc : (range' 0 (n : Int)).length = n := by rw [rng_len]; omega
  obtain ⟨μ, e, hμ, hd⟩ := marks_ok d f hT h4 (by omega)
  have same : ∀ (u : List Int) (x y : Int), (∀ s ∈ u, Sok L s) → 0 ≤ x → x < n → goW F x u = some y → μ x = μ y := by
    intro u
    induction u with
    | nil => intro x y _ _ _ h; cases h; rfl
    | cons s u ih =>
      intro x y hu x0 x1 h
      have hs := hu s List.mem_cons_self
      obtain ⟨z, hz⟩ := f.bk d x0 x1 hs
      obtain ⟨z0, z1, _, hb⟩ := d.ok x s z x0 hz
      have h2 : goW F z u = some y := by
        unfold goW at h
        rw [hz] at h
        exact h
      rw [← ih z y (fun t ht => hu t (List.mem_cons_of_mem _ ht)) z0 z1 h2]
      unfold Sok at hs
      by_cases q : 0 < s
      · exact hd s x z (by omega) (by omega) x0 x1 hz
      · exact (hd (-s) z x (by omega) (by omega) z0 z1 hb).symm
  have iff_ : ∀ x y : Int, 0 ≤ x → x < n → 0 ≤ y → y < n → (μ x = μ y ↔ Rc L F x y) := fun x y x0 x1 y0 y1 => by
    constructor
    · intro h
      have a := hμ.snd x x0 x1
      have b := hμ.snd y y0 y1
      rw [h] at a
      exact E.trans _ _ _ a (E.symm _ _ y0 y1 b)
    · rintro ⟨u, hu, h⟩
      exact same u x y hu x0 x1 h
  have least : ∀ x : Int, 0 ≤ x → x < n → (μ x = x ↔ leastIn (Rc L F) x) := fun x x0 x1 => by
    constructor
    · intro h y hy
      obtain ⟨y0, y1⟩ := hy.in_ d x0 x1
      have := (iff_ x y x0 x1 y0 y1).mpr hy
      have := (hμ.lo y y0 y1).2
      omega
    · intro h
      have := h _ (hμ.snd x x0 x1)
      have := (hμ.lo x x0 x1).2
      omega
  have memM : ∀ x, x ∈ srtS ((range' 0 (n : Int)).map μ) ↔ 0 ≤ x ∧ x < n ∧ leastIn (Rc L F) x := fun x => by
    rw [mem_srtS, List.mem_map]
    constructor
    · rintro ⟨y, hy, rfl⟩
      obtain ⟨y0, y1⟩ := mem_rng hy
      obtain ⟨a, b⟩ := hμ.lo y y0 y1
      exact ⟨a, by omega, (least _ a (by omega)).mp (hμ.id_ y y0 y1)⟩
    · rintro ⟨x0, x1, l⟩
      exact ⟨x, mem_rng'.mpr ⟨x0, x1⟩, (least x x0 x1).mpr l⟩
  have ecls : ∀ mark : Int, lcF (fun (x24 : (Int × Int)) => (decide (x24.2 = mark))) (fun (x24 : (Int × Int)) => x24.1) (enum ((range' 0 (n : Int)).map μ)) = some ((range' 0 (n : Int)).filter fun x => decide (μ x = mark)) := fun mark => by
    unfold lcF
    rw [if_pos (by rw [enum_len, List.length_map, hlc, sizeL]; omega), enum_rng, List.filter_map, List.map_map]
    exact congrArg some (List.map_id' _)
  have esrt : srtSO ((range' 0 (n : Int)).map μ) = some (srtS ((range' 0 (n : Int)).map μ)) := by
    unfold srtSO
    rw [if_pos (by rw [List.length_map, hlc]; omega)]
  have hfew : (srtS ((range' 0 (n : Int)).map μ)).length ≤ n := by
    have := nodup_le _ (range' 0 (n : Int)) (srtS_nd ((range' 0 (n : Int)).map μ)) fun x hx => mem_rng'.mpr (by
      obtain ⟨a, b, _⟩ := (memM x).mp hx
      exact ⟨a, b⟩)
    rw [hlc] at this
    exact this
  have elast : lcO (β := (List Int)) (fun (mark22 : Int) => ((lcF (fun (x24 : (Int × Int)) => (decide (x24.2 = mark22))) (fun (x24 : (Int × Int)) => x24.1) (enum ((range' 0 (n : Int)).map μ))).bind fun t26 => some t26)) (srtS ((range' 0 (n : Int)).map μ)) = some ((srtS ((range' 0 (n : Int)).map μ)).map fun mark => (range' 0 (n : Int)).filter fun x => decide (μ x = mark)) := lcO_some _ (by rw [sizeL]; omega) fun mark _ => bindS (ecls mark) rfl
  refine ⟨_, ?_, can_of n _ (srtS_nd _) (srtS_srt _) memM (cls := fun mark => (range' 0 (n : Int)).filter fun x => decide (μ x = mark)) fun x hx => ?_⟩
  · unfold m_l_parts
    refine bindS (first_turn hT h1) ?_
    rw [tw_len]
    exact bindS (rgO_okN (by omega)) (bindS e (bindS esrt (bindS elast rfl)))
  · obtain ⟨x0, x1, l⟩ := (memM x).mp hx
    have hx := (least x x0 x1).mpr l
    refine ⟨(rng_nd 0 _).filter _, fun y => ?_, (rng_srt _).filter _⟩
    rw [List.mem_filter, mem_rng', decide_eq_true_eq]
    constructor
    · rintro ⟨⟨y0, y1⟩, q⟩
      exact (iff_ x y x0 x1 y0 y1).mp (by rw [hx, q])
    · intro q
      obtain ⟨y0, y1⟩ := q.in_ d x0 x1
      refine ⟨⟨y0, y1⟩, ?_⟩
      rw [← (iff_ x y x0 x1 y0 y1).mpr q]
      exact hx
def lcmF (a : Nat) (ks : List Nat) : Nat := ks.foldl Nat.lcm a
theorem lcm_two {a k s : Nat} (h : a * 2 ^ (k + s) ≤ 2 ^ 60) : a * k ≤ 2 ^ 60 ∧ Nat.lcm a k * 2 ^ s ≤ 2 ^ 60 := by
  have h1 : k ≤ 2 ^ k := Nat.le_of_lt Nat.lt_two_pow_self
  have h2 : a * k ≤ a * 2 ^ k := Nat.mul_le_mul_left a h1
  have h3 : 1 ≤ 2 ^ s := Nat.one_le_two_pow
  have h4 : a * 2 ^ (k + s) = a * 2 ^ k * 2 ^ s := by rw [Nat.pow_add, Nat.mul_assoc]
  have h5 : a * 2 ^ k * 1 ≤ a * 2 ^ k * 2 ^ s := Nat.mul_le_mul_left _ h3
  have h6 : Nat.lcm a k ≤ a * k := Nat.div_le_self _ _
  have h7 : Nat.lcm a k * 2 ^ s ≤ a * 2 ^ k * 2 ^ s := Nat.mul_le_mul_right _ (Nat.le_trans h6 h2)
  constructor <;> omega
theorem lcm_lp : ∀ (C : List (List Int)) (a : Nat), 1 ≤ a → (∀ c ∈ C, 1 ≤ c.length) → a * 2 ^ ((C.map List.length).sum) ≤ 2 ^ 60 → lp (fun (s2 : Int) (circle3 : (List Int)) => ((lcmO s2 (circle3.length : Int)).bind fun t7 => some t7)) C (a : Int) = some ((lcmF a (C.map List.length) : Nat) : Int)
  | [], a, _, _, _ => rfl
  | c :: C, a, a1, hc, ha => by
    rw [List.map_cons, List.sum_cons] at ha
    obtain ⟨l1, l2⟩ := lcm_two ha
    have c1 := hc c List.mem_cons_self
    have hp : 1 ≤ 2 ^ (c.length + (C.map List.length).sum) := Nat.one_le_two_pow
    have ha1 : a ≤ 2 ^ 60 := by
      have : a * 1 ≤ a * 2 ^ (c.length + (C.map List.length).sum) := Nat.mul_le_mul_left a hp
      omega
    have hk : c.length ≤ 2 ^ 60 := by
      have : 1 * c.length ≤ a * c.length := Nat.mul_le_mul_right _ a1
      omega
    have e : lcmO (a : Int) (c.length : Int) = some ((Nat.lcm a c.length : Nat) : Int) := by
      unfold lcmO
      rw [if_pos ⟨by rw [Int.natAbs_natCast]; exact Nat.lt_of_le_of_lt ha1 (by decide), by rw [Int.natAbs_natCast]; exact Nat.lt_of_le_of_lt hk (by decide)⟩, Int.natAbs_natCast, Int.natAbs_natCast]
    unfold lp
    exact bindS (bindS e rfl) (lcm_lp C (Nat.lcm a c.length) (Nat.lcm_pos (by omega) (by omega)) (fun q hq => hc q (List.mem_cons_of_mem _ hq)) l2)
theorem gcd_run {a b : Nat} (hb : b < 9000) {β : Type} {k : Sum Int (Int × Int) → Option β} {Q : β → Prop} (hk : ∃ r, k (.inr (((Nat.gcd a b : Nat) : Int), 0)) = some r ∧ Q r) : ∃ r, ((wh (fun (s6 : (Int × Int)) => some (decide (0 < s6.2))) (fun (s6 : (Int × Int)) => (((modO s6.1 s6.2).bind fun t10 => some (Step.go (s6.2, t10))) : Option (Step Int (Int × Int)))) 10000 ((a : Int), (b : Int))).bind k) = some r ∧ Q r := by
  refine whX (fun s : Int × Int => ∃ p q : Nat, s = ((p : Int), (q : Int)) ∧ Nat.gcd p q = Nat.gcd a b) (fun s => s.2.toNat) ⟨a, b, rfl, rfl⟩ (by show (b : Int).toNat < 10000; omega) (fun s hs => ?_) (fun s hs hcf => ?_)
  · obtain ⟨p, q, rfl, hg⟩ := hs
    by_cases z : 0 < q
    · refine .inr ⟨congrArg some (decide_eq_true (by show (0 : Int) < (q : Int); omega)), ((q : Int), ((p % q : Nat) : Int)), bindS (a := ((p % q : Nat) : Int)) ((modO_lit (by show (0 : Int) < (q : Int); omega)).trans (by rw [Int.natCast_emod])) rfl, ⟨q, p % q, rfl, ?_⟩, ?_⟩
      · rw [← hg, Nat.gcd_comm p q, Nat.gcd_rec q p, Nat.gcd_comm]
      · show ((p % q : Nat) : Int).toNat < (q : Int).toNat
        have := Nat.mod_lt p z
        omega
    · exact .inl (congrArg some (decide_eq_false (by show ¬ (0 : Int) < (q : Int); omega)))
  · obtain ⟨p, q, rfl, hg⟩ := hs
    have hcf : some (decide ((0 : Int) < (q : Int))) = some false := hcf
    have hz := of_decide_eq_false (Option.some.inj hcf)
    have : q = 0 := by omega
    subst this
    rw [Nat.gcd_zero_right] at hg
    rw [hg]
    exact hk
theorem common_lp : ∀ (C : List (List Int)) (a : Nat), 1 ≤ a → (∀ c ∈ C, 1 ≤ c.length ∧ c.length ≤ 1000) → a * 2 ^ ((C.map List.length).sum) ≤ 2 ^ 60 → lp (fun (s1 : Int) (circle2 : (List Int)) => ((wh (fun (s6 : (Int × Int)) => some (decide (0 < s6.2))) (fun (s6 : (Int × Int)) => (((modO s6.1 s6.2).bind fun t10 => some (Step.go (s6.2, t10))) : Option (Step Int (Int × Int)))) 10000 (s1, (circle2.length : Int))).bind fun f7o => Sum.elim (fun r13 => none) (fun f7 => ((mulO s1 (circle2.length : Int)).bind fun t11 => (fdivO t11 f7.1).bind fun t12 => some t12)) f7o)) C (a : Int) = some ((lcmF a (C.map List.length) : Nat) : Int)
  | [], a, _, _, _ => rfl
  | c :: C, a, a1, h, ha => by
    obtain ⟨k1, k4⟩ := h c List.mem_cons_self
    rw [List.map_cons, List.sum_cons] at ha
    obtain ⟨l1, l2⟩ := lcm_two ha
    have ha1 : a ≤ 2 ^ 60 := by
      have : a * 1 ≤ a * c.length := Nat.mul_le_mul_left a k1
      omega
    have g1 : 0 < Nat.gcd a c.length := Nat.gcd_pos_of_pos_left _ (by omega)
    have g2 : Nat.gcd a c.length ≤ c.length := Nat.le_of_dvd (by omega) (Nat.gcd_dvd_right a c.length)
    have em : mulO (a : Int) (c.length : Int) = some ((a * c.length : Nat) : Int) := by
      unfold mulO
      have l1 : (a : Int).natAbs.log2 < 64 := Nat.log2_lt (by rw [Int.natAbs_natCast]; omega) |>.mpr (by rw [Int.natAbs_natCast]; exact Nat.lt_of_le_of_lt ha1 (by decide))
      have l2 : (c.length : Int).natAbs.log2 < 64 := Nat.log2_lt (by rw [Int.natAbs_natCast]; omega) |>.mpr (by rw [Int.natAbs_natCast]; exact Nat.lt_of_le_of_lt k4 (by decide))
      rw [if_pos (by omega), Int.natCast_mul]
    have ed : fdivO ((a * c.length : Nat) : Int) ((Nat.gcd a c.length : Nat) : Int) = some ((Nat.lcm a c.length : Nat) : Int) := by
      have l3 : ((Nat.gcd a c.length : Nat) : Int).natAbs.log2 < 9000 := Nat.lt_trans (Nat.log2_lt (by rw [Int.natAbs_natCast]; omega) |>.mpr (show ((Nat.gcd a c.length : Nat) : Int).natAbs < 2 ^ 64 by rw [Int.natAbs_natCast]; exact Nat.lt_of_le_of_lt (Nat.le_trans g2 k4) (by decide))) (by decide)
      rw [fdivO_lit (by omega) l3, ← Int.natCast_ediv]
      rfl
    obtain ⟨r, er, rfl⟩ := gcd_run (a := a) (b := c.length) (by omega) (k := fun f7o => Sum.elim (fun r13 => none) (fun f7 => ((mulO (a : Int) (c.length : Int)).bind fun t11 => (fdivO t11 f7.1).bind fun t12 => some t12)) f7o) (Q := fun r => r = ((Nat.lcm a c.length : Nat) : Int)) ⟨_, bindS em (bindS ed rfl), rfl⟩
    unfold lp
    exact bindS er (common_lp C (Nat.lcm a c.length) (Nat.lcm_pos (by omega) (by omega)) (fun q hq => h q (List.mem_cons_of_mem _ hq)) l2)
theorem lens_ok {w : List (List Int)} (hl : w.length ≤ 1000) : lcO (β := Int) (fun (one2 : Int) => ((idx w one2).bind fun t4 => some (t4.length : Int))) (range' 0 (w.length : Int)) = some (w.map fun c => (c.length : Int)) := by
  have hlc : (range' 0 (w.length : Int)).length = w.length := by rw [rng_len]; omega
  have e : lcO (β := Int) (fun (one2 : Int) => ((idx w one2).bind fun t4 => some (t4.length : Int))) (range' 0 (w.length : Int)) = some ((range' 0 (w.length : Int)).map fun i => (((w[i.toNat]?).getD []).length : Int)) := lcO_some _ (by rw [hlc, sizeL]; omega) fun i hi => by
    obtain ⟨i0, i1⟩ := mem_rng hi
    have e1 : w[i.toNat]? = some w[i.toNat] := List.getElem?_eq_getElem (by omega)
    refine bindS (idx_of i0 e1) ?_
    rw [e1]
    rfl
  rw [e]
  refine congrArg some (List.ext_getElem? fun i => ?_)
  rw [List.getElem?_map, List.getElem?_map]
  by_cases h : i < w.length
  · rw [rng_at h, List.getElem?_eq_getElem h]
    show some (((w[((i : Int)).toNat]?).getD []).length : Int) = _
    rw [Int.toNat_natCast, List.getElem?_eq_getElem h]
    rfl
  · rw [List.getElem?_eq_none (by omega), List.getElem?_eq_none (by omega)]
    rfl
theorem spoilt_ok {w : List (List Int)} (hl : w.length ≤ 1000) (hr : ∀ c ∈ w, c.length ≤ 1000) : ∃ w', m_l_spoilt w = some (true, w') := by
  have hlc : (range' 0 (w.length : Int)).length = w.length := by rw [rng_len]; omega
  obtain ⟨f8, e2, hf⟩ := lp_goN (f := (fun (s6 : (List (List Int))) (one7 : Int) => ((idx s6 one7).bind fun t11 => (appO t11 (-1)).bind fun t12 => some (setI s6 one7 t12)))) (xs := range' 0 (w.length : Int)) (fun i s => s = (w.take i).map (fun c => c ++ [-1]) ++ w.drop i) (fun i x s hx hs => by
    obtain ⟨rfl, hi⟩ := rngAt hx
    have hi' : i < w.length := by omega
    rw [show (0 : Int) + (i : Int) = i from Int.zero_add _]
    subst hs
    have hA : ((w.take i).map (fun c => c ++ [(-1 : Int)])).length = i := by rw [List.length_map, List.length_take]; omega
    have hd : w.drop i = w[i] :: w.drop (i + 1) := List.drop_eq_getElem_cons hi'
    have e1 : idx ((w.take i).map (fun c => c ++ [(-1 : Int)]) ++ w.drop i) (i : Int) = some w[i] := idx_of (by omega) (by
      rw [Int.toNat_natCast, List.getElem?_append_right (by omega), hA, Nat.sub_self, hd]
      rfl)
    have e3 : appO w[i] (-1) = some (w[i] ++ [-1]) := Z.app_ok (by have := hr _ (List.getElem_mem hi'); rw [sizeL]; omega)
    refine ⟨_, bindS e1 (bindS e3 rfl), ?_⟩
    rw [setI_nn (by omega) (by rw [List.length_append, hA, List.length_drop]; omega), Int.toNat_natCast, List.set_append_right _ _ (by omega), hA, Nat.sub_self, hd, List.set_cons_zero, List.take_succ, List.getElem?_eq_getElem hi', List.map_append, List.append_assoc]
    rfl) (s0 := w) (by rw [List.take_zero, List.drop_zero]; rfl)
  rw [hlc, List.take_length, List.drop_length, List.append_nil] at hf
  subst hf
  have hl8 : (w.map (fun c => c ++ [(-1 : Int)])).length = w.length := List.length_map _
  have e3 := lens_ok (w := w.map (fun c => c ++ [(-1 : Int)])) (by omega)
  have e4 : lcT (fun (size18 : Int) => (size18 + 1)) (w.map fun c => (c.length : Int)) = some ((w.map fun c => (c.length : Int)).map fun size18 => size18 + 1) := lcT_some _ (by rw [List.length_map, sizeL]; omega)
  have e5 : appO (w.map (fun c => c ++ [(-1 : Int)])) ([] : List Int) = some (w.map (fun c => c ++ [(-1 : Int)]) ++ [[]]) := Z.app_ok (by rw [hl8, sizeL]; omega)
  refine ⟨w.map (fun c => c ++ [(-1 : Int)]) ++ [[]], ?_⟩
  unfold m_l_spoilt
  refine bindS (lens_ok hl) (bindS e2 (bindS e3 (bindS e4 (bindS e5 ?_))))
  refine congrArg some (Prod.ext (decide_eq_true ?_) rfl)
  rw [List.map_map, List.map_map]
  refine List.map_congr_left fun c _ => ?_
  show ((c ++ [(-1 : Int)]).length : Int) = (c.length : Int) + 1
  rw [List.length_append]
  rfl
theorem lists_repr {n : Nat} (hn : n ≤ 1000) {w : List (List Int)} (hl : w.length ≤ n) (hr : ∀ c ∈ w, c.length ≤ n ∧ ∀ x ∈ c, 0 ≤ x ∧ x < n) : reprO (PyData.list (List.map (eL PyData.int) w)) = some (PyData.list (List.map (eL PyData.int) w)).shown := by
  have row : ∀ d ∈ List.map (eL PyData.int) w, Txt 1 (n * 14 + 2) d := fun d hd => by
    obtain ⟨c, hc, rfl⟩ := List.mem_map.mp hd
    obtain ⟨c1, c2⟩ := hr c hc
    have t := txt_list (k := 0) (n := 12) (ds := c.map PyData.int) fun d hd => by
      obtain ⟨x, hx, rfl⟩ := List.mem_map.mp hd
      obtain ⟨x0, x1⟩ := c2 x hx
      exact txt_int (k := 11) (by decide) (by decide) (by show x.natAbs < 2048; omega)
    refine t.mono (Nat.le_refl 1) ?_
    rw [List.length_map]
    have := Nat.mul_le_mul_right 14 c1
    omega
  have t2 := txt_list (k := 1) (n := n * 14 + 2) (ds := List.map (eL PyData.int) w) row
  refine t2.repr (by decide) ?_
  rw [List.length_map, sizeL]
  have h1 : w.length * (n * 14 + 2 + 2) ≤ 1000 * (1000 * 14 + 2 + 2) := Nat.mul_le_mul (by omega) (by omega)
  omega
theorem two_told {C : List (List Int)} {t : Str} (hr : reprO (PyData.list (List.map (eL PyData.int) C)) = some t) (hs : ∃ w', m_l_spoilt C = some (true, w')) : ∃ S, lpR (fun (s8 : (List (List (List Int)))) (told9 : Int) => (((idx s8 told9).bind fun t13 => (reprO (PyData.list (List.map (eL PyData.int) t13))).bind fun t14 => (if (!decide (t14 = t)) = true then some (true, s8) else ((idx s8 told9).bind fun t15 => (m_l_spoilt t15).bind fun t18 => some ((!t18.1), (setI s8 told9 t18.2)))).bind fun t19 => (if t19.1 = true then some (Step.ret false) else some (Step.go t19.2))) : Option (Step Bool (List (List (List Int)))))) (range' 0 (([C, C]).length : Int)) [C, C] = some (.inr S) := by
  obtain ⟨w', hw⟩ := hs
  obtain ⟨S, e, _⟩ := lpR_goN (R := Bool) (f := (fun (s8 : (List (List (List Int)))) (told9 : Int) => (((idx s8 told9).bind fun t13 => (reprO (PyData.list (List.map (eL PyData.int) t13))).bind fun t14 => (if (!decide (t14 = t)) = true then some (true, s8) else ((idx s8 told9).bind fun t15 => (m_l_spoilt t15).bind fun t18 => some ((!t18.1), (setI s8 told9 t18.2)))).bind fun t19 => (if t19.1 = true then some (Step.ret false) else some (Step.go t19.2))) : Option (Step Bool (List (List (List Int))))))) (xs := range' 0 (([C, C]).length : Int)) (fun i s => s.length = 2 ∧ ∀ j : Nat, i ≤ j → j < 2 → s[j]? = some C) (fun i x s hx hs => by
    obtain ⟨rfl, hi⟩ := rngAt hx
    have hi : i < 2 := by
      have hi : i < (((2 : Nat) : Int) - 0).toNat := hi
      omega
    rw [show (0 : Int) + (i : Int) = i from Int.zero_add _]
    obtain ⟨s1, s2⟩ := hs
    have e1 : idx s (i : Int) = some C := idx_of (by omega) (s2 i (Nat.le_refl _) hi)
    refine ⟨setI s (i : Int) w', bindS e1 (bindS hr (bindS (a := (false, setI s (i : Int) w')) ((if_neg (by simp)).trans (bindS e1 (bindS hw rfl))) (if_neg (by show ¬ (false = true); decide)))), by rw [setI_len]; exact s1, fun j h1 h2 => ?_⟩
    rw [setI_nn (by omega) (by omega), Int.toNat_natCast, List.getElem?_set_ne (by omega)]
    exact s2 j (by omega) h2) (s0 := [C, C]) ⟨rfl, fun j _ hj => by
    have h3 : j = 0 ∨ j = 1 := by omega
    rcases h3 with rfl | rfl <;> rfl⟩
  exact ⟨S, e⟩
end L31
namespace L31
open PySem PySem.Spec L2 Z
theorem short_ok {N : Nat} {L most : Int} (hN : N + 100000 < 2 ^ 60) {w : List Int} (hw : WeB N w) (h1 : 1 ≤ L) (h4 : L ≤ 4) (m0 : 0 ≤ most) (m8 : most ≤ 8) : ∃ r, m_l_short w L most = some r ∧ (ShO 60 L r.1 ∧ (r.1.length : Int) ≤ most ∧ WeB (N + 30000) r.2) := by
  unfold m_l_short
  obtain ⟨v1, w1, e1, a1, b1, k1⟩ := pickB_ok (by omega) hw (many := most + 1) (by omega) (by omega)
  have e1 : m_l_pick w (most + 1) = some (v1, w1) := e1
  have hlc : (range' 0 v1).length = v1.toNat := by rw [rng_len]; omega
  refine bndX e1 (bndX (rngO_ok (by omega)) ?_)
  refine lpX (fun i s => WeB (N + 1 + 3000 * i) s.1 ∧ ShO 60 L s.2 ∧ s.2.length = i) ⟨k1.mono (by omega), ⟨(fun _ z => nomatch z), (fun _ z => nomatch z), (fun _ z => nomatch z)⟩, rfl⟩ (fun i x s hx hs => ?_) (fun s hs => ?_)
  · have hi : i < v1.toNat := by
      have h : i < (range' 0 v1).length := (List.getElem?_eq_some_iff.mp hx).1
      omega
    obtain ⟨g1, g2, g3⟩ := hs
    obtain ⟨u1, x1, f1, c1, d1, q1⟩ := pickB_ok (by omega) g1 (many := 3) (by decide) (by decide)
    obtain ⟨u2, x2, f2, c2, d2, q2⟩ := pickB_ok (by omega) q1 (many := 9) (by decide) (by decide)
    have f1 : m_l_pick s.1 3 = some (u1, x1) := f1
    have f2 : m_l_pick x1 9 = some (u2, x2) := f2
    obtain ⟨⟨t, x3⟩, f3, t1, t2, q3⟩ : ∃ r : Int × List Int, (if (decide (0 < u1)) = true then ((m_l_pick x2 3).bind fun t10 => (m_l_pick t10.2 1000000000000000000000000000000).bind fun t11 => (idx ([(1000000000000000000000000000000 - t10.1), (1 + t11.1)]) (u1 - 1)).bind fun t12 => some (t12, t11.2)) else some ((1 + u2), x2) : Option (Int × (List Int))) = some r ∧ 1 ≤ r.1 ∧ r.1 ≤ 1000000000000000000000000000000 ∧ WeB (N + 1 + 3000 * i + 4) r.2 := by
      by_cases z : 0 < u1
      · obtain ⟨u3, x3, f3, c3, d3, q3⟩ := pickB_ok (by omega) q2 (many := 3) (by decide) (by decide)
        obtain ⟨u4, x4, f4, c4, d4, q4⟩ := pickB_big (by omega) q3 (many := 1000000000000000000000000000000) (by decide) (Nat.lt_trans (log2_int (k := 200) (by omega) (by omega) (by decide)) (by decide))
        obtain ⟨t, e5, hm⟩ := idx_mem (xs := [1000000000000000000000000000000 - u3, 1 + u4]) (i := u1 - 1) (by omega) (by show u1 - 1 < ((2 : Nat) : Int); omega)
        have ht : 1 ≤ t ∧ t ≤ 1000000000000000000000000000000 := by
          simp only [List.mem_cons, List.not_mem_nil, or_false] at hm
          omega
        have f3 : m_l_pick x2 3 = some (u3, x3) := f3
        have f4 : m_l_pick x3 1000000000000000000000000000000 = some (u4, x4) := f4
        exact ⟨(t, x4), (if_pos (decide_eq_true z)).trans (bindS f3 (bindS f4 (bindS e5 rfl))), ht.1, ht.2, q4.mono (by omega)⟩
      · exact ⟨(1 + u2, x2), if_neg (by simpa using z), by show 1 ≤ 1 + u2; omega, by show 1 + u2 ≤ _; omega, q2.mono (by omega)⟩
    have t1 : 1 ≤ t := t1
    have t2 : t ≤ 1000000000000000000000000000000 := t2
    have q3 : WeB (N + 1 + 3000 * i + 4) x3 := q3
    obtain ⟨u5, x5, f5, c5, d5, q5⟩ := pickB_ok (by omega) q3 (many := 3) (by decide) (by decide)
    obtain ⟨m, e6, hm⟩ := idx_mem (xs := [6, 6, (60 : Int)]) (i := u5) c5 (by show u5 < ((3 : Nat) : Int); omega)
    have hm2 : 0 ≤ m ∧ m ≤ 60 := by
      simp only [List.mem_cons, List.not_mem_nil, or_false] at hm
      omega
    obtain ⟨u, x6, f6, s1, s2, q6⟩ := walkB_ok (by omega) q5 h1 h4 (most := m) hm2.1 (by omega)
    obtain ⟨u7, x7, f7, c7, d7, q7⟩ := pickB_ok (by omega) q6 (many := 2) (by decide) (by decide)
    have f5 : m_l_pick x3 3 = some (u5, x5) := f5
    have f6 : m_l_walk x5 L m = some (u, x6) := f6
    have f7 : m_l_pick x6 2 = some (u7, x7) := f7
    refine ⟨(x7, s.2 ++ [(u, (if (decide (u7 = 0)) = true then t else (-t)))]), bindS f1 (bindS f2 (bindS f3 (bindS f5 (bindS e6 (bindS f6 (bindS f7 (bindS (Z.app_ok (by rw [g3, sizeL]; omega)) rfl))))))), q7.mono (by omega), ?_, by show (s.2 ++ _).length = i + 1; rw [List.length_append, g3]; rfl⟩
    have each : ∀ p ∈ s.2 ++ [(u, (if (decide (u7 = 0)) = true then t else (-t)))], p.1.length ≤ 60 ∧ (∀ x ∈ p.1, Sok L x) ∧ p.2 ≠ 0 ∧ p.2.natAbs ≤ 1000000000000000000000000000000 := fun p hp => by
      rcases List.mem_append.mp hp with hp | hp
      · exact ⟨g2.len p hp, g2.ok p hp, g2.tz p hp⟩
      · rw [List.mem_singleton.mp hp]
        refine ⟨by show u.length ≤ 60; omega, s1, ?_⟩
        show (if (decide (u7 = 0)) = true then t else (-t)) ≠ 0 ∧ (if (decide (u7 = 0)) = true then t else (-t)).natAbs ≤ _
        split <;> omega
    exact ⟨fun p hp => (each p hp).1, fun p hp => (each p hp).2.1, fun p hp => (each p hp).2.2⟩
  · obtain ⟨g1, g2, g3⟩ := hs
    have g1 : WeB (N + 1 + 3000 * (range' 0 v1).length) s.1 := g1
    have g3 : s.2.length = (range' 0 v1).length := g3
    rw [hlc] at g1 g3
    exact ⟨_, rfl, g2, by show (s.2.length : Int) ≤ most; omega, g1.mono (by omega)⟩
theorem straight_lw {w : List Int} (h : w.length ≤ 100000) : m_l_straight w = some (red w) := straight_ok (by rw [sizeL]; omega)
theorem power_ok {L : Int} (h4 : L ≤ 4) {w : List Int} (hw : ∀ s ∈ w, Sok L s) (hg : Gd w) (hl : w.length ≤ 20) : m_p_power w 20 = some (red (rep w 20)) := by
  have e1 : m_p_need_walk w 4 = some () := by
    have : m_p_is_a_walk w 4 = some true := walk_isW (fun s hs => (hw s hs).mono h4) (by omega)
    unfold m_p_need_walk
    exact bindS this (if_neg (by decide))
  have e2 : m_p_need_number 20 (-20) 20 = some () := by
    unfold m_p_need_number
    exact if_neg (by decide)
  have e3 : m_p_straightened w = some w := by
    have : m_p_straightened w = some (red w) := straight_ok (by rw [sizeL]; omega)
    rw [this, red_of hg]
  have e4 : repT w (absI 20) = some (rep w 20) := rep_ok (m := 20) (by decide) (by decide) (by omega)
  have e5 : m_p_straightened (rep w 20) = some (red (rep w 20)) := straight_ok (by rw [rep_len, sizeL]; omega)
  unfold m_p_power
  exact bindS e1 (bindS e2 (bindS e3 (bindS (a := w) (if_neg (by decide)) (bindS e4 (bindS e5 rfl)))))
theorem tw_repr {n : Nat} {F : Dd} {L : Int} (d : Dr L n F) (f : Fl n L F) (hn : n ≤ 40) {w : List Int} (hw : ∀ s ∈ w, Sok L s) : reprO (PyData.tuple (List.map PyData.int (tw n F w))) = some (PyData.tuple (List.map PyData.int (tw n F w))).shown := by
  have t := txt_tup (k := 0) (n := 12) (ds := (tw n F w).map PyData.int) fun d' hd => by
    obtain ⟨x, hx, rfl⟩ := List.mem_map.mp hd
    obtain ⟨x0, x1⟩ := (tw_isP d f hw).rg x hx
    exact txt_int (k := 11) (by decide) (by decide) (by show x.natAbs < 2048; omega)
  refine t.repr (by decide) ?_
  rw [List.length_map, tw_len, sizeL]
  omega
theorem small_repr {x : Int} (h : x.natAbs < 2 ^ 200) : reprO (PyData.int x) = some (PyData.int x).shown := int_reprW h
theorem lists_right_ok {L : Int} {n : Nat} {F : Dd} {T : List (List Int)} (d : Dr L n F) (f : Fl n L F) (hT : Tb n L F T) (h1 : 1 ≤ L) (h4 : L ≤ 4) (n1 : 1 ≤ n) (hn : n ≤ 40) {w : List Int} (hw : ∀ s ∈ w, Sok L s) (wl : w.length ≤ 1000) {G : List (List Int)} (hG : Can (Cw F w) n G) : m_l_lists_right (L, T) w G = some true := by
  obtain ⟨C, eC, hC⟩ := circles_can d f hT h1 h4 n1 hn hw wl
  obtain ⟨P, eP, hP⟩ := parts_can d f hT h1 h4 n1 hn
  obtain ⟨P', eP', hP'⟩ := lparts_can d f hT h1 h4 hn
  have e := hC.one hG
  subst e
  have e := hP.one hP'
  subst e
  have eC : m_p_circles (L, T) w = some C := eC
  have eP : m_p_parts (L, T) = some P := eP
  have E := cw_eqv d f (by omega) hw
  have E2 := rc_eqv d
  have rC := lists_repr (n := n) (by omega) hC.len fun c hc => ⟨(hC.rows E c hc).1, (hC.rows E c hc).2.2⟩
  have rP := lists_repr (n := n) (by omega) hP.len fun c hc => ⟨(hP.rows E2 c hc).1, (hP.rows E2 c hc).2.2⟩
  have lC := hC.len
  have lP := hP.len
  have sC := spoilt_ok (w := C) (by omega) fun c hc => by have := (hC.rows E c hc).1; omega
  have sP := spoilt_ok (w := P) (by omega) fun c hc => by have := (hP.rows E2 c hc).1; omega
  obtain ⟨S1, q1⟩ := two_told rC sC
  obtain ⟨S2, q2⟩ := two_told rP sP
  unfold m_l_lists_right
  refine bindS rC (bindS eP' (bindS rP (bindS eC (bindS eC (bindS q1 ?_)))))
  rw [Sum.elim_inr]
  refine bindS eP (bindS eP (bindS q2 ?_))
  rw [Sum.elim_inr]
  exact bindS eC (bindS rC (congrArg some (decide_eq_true rfl)))
theorem lcmF_small : ∀ (ks : List Nat) (a : Nat), (∀ k ∈ ks, 1 ≤ k) → a * 2 ^ ks.sum ≤ 2 ^ 60 → lcmF a ks ≤ 2 ^ 60
  | [], a, _, h => by
    show a ≤ 2 ^ 60
    rw [List.sum_nil, Nat.pow_zero, Nat.mul_one] at h
    exact h
  | k :: ks, a, hk, h => by
    rw [List.sum_cons] at h
    exact lcmF_small ks (Nat.lcm a k) (fun q hq => hk q (List.mem_cons_of_mem _ hq)) (lcm_two h).2
theorem walk_right_ok {N : Nat} {L : Int} {n : Nat} {F : Dd} {T : List (List Int)} (d : Dr L n F) (f : Fl n L F) (hT : Tb n L F T) (h1 : 1 ≤ L) (h4 : L ≤ 4) (n1 : 1 ≤ n) (hn : n ≤ 40) {u : List Int} (hu : WeB N u) (hN : N + 10 < 2 ^ 60) {w : List Int} (hw : ∀ s ∈ w, Sok L s) (wl : w.length ≤ 1000) : ∃ r, m_l_walk_right u (L, T) w = some r ∧ (r.1 = true ∧ WeB (N + 1) r.2) := by
  have eg := goals_ok d f hT h1 h4 (by omega) hw
  have et : m_p_turn_of (L, T) w = some (tw n F w) := turn_of_ok d f hT h1 h4 n1 hn hw wl
  have er := tw_repr d f hn hw
  obtain ⟨G, eG, hG⟩ := lcircles_can d f hn hw
  obtain ⟨C, eC, hC⟩ := circles_can d f hT h1 h4 n1 hn hw wl
  have e := hC.one hG
  subst e
  have E := cw_eqv d f (by omega) hw
  have hsum := hC.sum E
  have hpow : 1 * 2 ^ ((C.map List.length).sum) ≤ 2 ^ 60 := by
    rw [Nat.one_mul]
    exact Nat.pow_le_pow_right (by decide) (by omega)
  have hc1 : ∀ c ∈ C, 1 ≤ c.length ∧ c.length ≤ 1000 := fun c hc => by
    have := hC.rows E c hc
    omega
  have ecr : m_l_common_round C = some ((lcmF 1 (C.map List.length) : Nat) : Int) := by
    unfold m_l_common_round
    exact bindS (common_lp C 1 (Nat.le_refl _) hc1 hpow) rfl
  have etr : m_p_times_round (L, T) w = some ((lcmF 1 (C.map List.length) : Nat) : Int) := by
    have eC : m_p_circles (L, T) w = some C := eC
    unfold m_p_times_round
    exact bindS eC (bindS (lcm_lp C 1 (Nat.le_refl _) (fun c hc => (hc1 c hc).1) hpow) rfl)
  have hsm := lcmF_small (C.map List.length) 1 (fun k hk => by
    obtain ⟨c, hc, rfl⟩ := List.mem_map.mp hk
    exact (hc1 c hc).1) hpow
  have ern := small_repr (x := ((lcmF 1 (C.map List.length) : Nat) : Int)) (by rw [Int.natAbs_natCast]; exact Nat.lt_of_le_of_lt hsm (by decide))
  obtain ⟨v, u1, ep, a1, b1, k1⟩ := pickB_ok (by omega) hu (many := (n : Int)) (by omega) (by omega)
  have ep : m_l_pick u (n : Int) = some (v, u1) := ep
  have hlr := lists_right_ok d f hT h1 h4 n1 hn hw wl hG
  unfold m_l_walk_right
  refine bndX eg (bndX (first_turn hT h1) (bndX et (bndX er (bndX er (bndX (a := false) ((if_neg (by simp)).trans (bindS et (bindS er (bindS er (by simp))))) (ifFE (by decide) ?_))))))
  rw [tw_len]
  refine bndX ep ?_
  refine lpRX (fun _ _ => True) trivial (fun i x s hx _ => ?_) (fun s _ => ?_)
  · have hp : 0 ≤ x ∧ x < n := by
      have := List.mem_of_getElem? hx
      simp only [List.mem_cons, List.not_mem_nil, or_false] at this
      omega
    obtain ⟨y, hy, y0, y1⟩ := f.gone d hw hp.1 hp.2
    have ea : m_p_place_after (L, T) x w = some y := place_after_ok d f hT h1 h4 n1 hn hw wl hp.1 hp.2 hy
    have ei := tw_idx hp.1 hp.2 hy
    have ery := small_repr (x := y) (Nat.lt_trans (show y.natAbs < 64 by omega) (by decide))
    exact ⟨(), bindS ea (bindS ery (bindS ei (bindS ery ((if_neg (by simp)).trans (bindS ea (bindS ery (bindS ei (bindS ery (if_neg (by simp)))))))))), trivial⟩
  · rw [Sum.elim_inr]
    exact bndX eG (bndX ecr (bndX ern (bndX etr (bndX ern (bndX (a := false) ((if_neg (by simp)).trans (bindS etr (bindS ern (by simp)))) (ifFE (by decide) (bndX hlr ⟨_, rfl, rfl, k1⟩)))))))
theorem law_true : ∀ ns : List Int, ns.length ≤ 63 → m_l_law ns = some true := fun ns hl => by
  unfold m_l_law
  have hb : 1 ≤ maxI 1 (minI 3 (ns.length : Int)) ∧ maxI 1 (minI 3 (ns.length : Int)) ≤ 3 := by
    unfold maxI minI
    constructor <;> (repeat' split) <;> omega
  generalize maxI 1 (minI 3 (ns.length : Int)) = M at hb
  refine bindS (rngO_ok (by omega)) ?_
  generalize hf : (fun (s2 : Unit) (k_3 : Int) => _) = f
  obtain ⟨s', hloop, _⟩ : ∃ s' : Unit, lpR f (range' 0 M) () = some (.inr s') ∧ True := lpR_go (f := f) (fun _ => True) (fun k hk s _ => by
    refine ⟨(), ?_, trivial⟩
    rw [← hf]
    suffices h : ∃ r, (fun (s2 : Unit) (k_3 : Int) => _) s k = some r ∧ r = Step.go () by
      obtain ⟨r, e, rfl⟩ := h
      exact e
    obtain ⟨w0, e0, k0⟩ := wellB_ok (ns := ns) (by rw [sizeL]; omega) (mem_rng hk).1
    obtain ⟨v1, w1, e1, a1, b1, k1⟩ := pickB_ok (by decide) k0 (many := 4) (by decide) (by decide)
    obtain ⟨v2, w2, e2, a2, b2, k2⟩ := pickB_ok (by decide) k1 (many := 4) (by decide) (by decide)
    obtain ⟨m, e3, hm⟩ := idx_mem (xs := [4, 9, 9, (40 : Int)]) (i := v2) a2 (by show v2 < ((4 : Nat) : Int); omega)
    have hm2 : 4 ≤ m ∧ m ≤ 40 := by
      simp only [List.mem_cons, List.not_mem_nil, or_false] at hm
      omega
    obtain ⟨v3, w3, e4, a3, b3, k3⟩ := pickB_ok (by decide) k2 (many := m) (by omega) (by omega)
    obtain ⟨⟨c, w4⟩, e5, k4⟩ : ∃ r : Bool × List Int, (if (decide (m = 40)) = true then ((m_l_pick w3 2).bind fun t12 => some ((decide (t12.1 = 0)), t12.2)) else some (false, w3)) = some r ∧ WeB 4 r.2 := by
      by_cases z : m = 40
      · obtain ⟨v4, w4, f4, _, _, q4⟩ := pickB_ok (by decide) k3 (many := 2) (by decide) (by decide)
        have f4 : m_l_pick w3 2 = some (v4, w4) := f4
        exact ⟨_, (if_pos (decide_eq_true z)).trans (bindS f4 rfl), q4⟩
      · exact ⟨_, if_neg (by simpa using z), k3.mono (by decide)⟩
    have k4 : WeB 4 w4 := k4
    have h1 : 1 ≤ 1 + v1 := by omega
    have h4 : 1 + v1 ≤ 4 := by omega
    obtain ⟨n, hn⟩ : ∃ n : Nat, (if c = true then 40 else (1 + v3)) = (n : Int) := ⟨(if c = true then 40 else (1 + v3)).toNat, by split <;> omega⟩
    have hn2 : 1 ≤ n ∧ n ≤ 40 := by
      split at hn <;> omega
    obtain ⟨⟨⟨L, T⟩, w5⟩, e6, q6, hT, k5⟩ := bookR_ok k4 (by decide) h1 h4 (c := n) hn2.1 (by omega)
    have q6 : L = 1 + v1 := q6
    subst q6
    have hT : Bk n (1 + v1) T := hT
    have k5 : WeB (4 + 10000) w5 := k5
    have e6 : m_l_book w4 (1 + v1) (n : Int) = some ((1 + v1, T), w5) := e6
    obtain ⟨F, d, fl_, tb⟩ := bk_fl hT h1 h4 (by omega)
    have eb : m_p_is_book (1 + v1, T) = some true := bindS (is_a_book_ok hT h1 h4 hn2.1 hn2.2) rfl
    refine bndX e0 (bndX e1 (bndX e2 (bndX e3 (bndX e4 (bndX e5 ?_)))))
    simp only []
    rw [hn]
    refine bndX e6 (bndX eb (bndX (a := false) ((if_neg (by decide)).trans (bindS eb rfl)) (ifFE (by decide) (bndX (rngO_ok (by omega)) ?_))))
    refine lpRX (fun i s => WeB (10004 + 100000 * i) s) k5 (fun i x s hx hs => ?_) (fun s hs => ?_)
    · have hi : i < 3 := by
        have := (List.getElem?_eq_some_iff.mp hx).1
        rw [rng_len] at this
        omega
      obtain ⟨p1, x1, f1, c1, d1, g1⟩ := pickB_ok (by omega) hs (many := 4) (by decide) (by decide)
      obtain ⟨m2, f2, hm⟩ := idx_mem (xs := [0, 3, 8, (60 : Int)]) (i := p1) c1 (by show p1 < ((4 : Nat) : Int); omega)
      have hm3 : 0 ≤ m2 ∧ m2 ≤ 60 := by
        simp only [List.mem_cons, List.not_mem_nil, or_false] at hm
        omega
      obtain ⟨wk, x3, f3, s1, s2, g3⟩ := walkB_ok (by omega) g1 h1 h4 (most := m2) hm3.1 (by omega)
      obtain ⟨⟨b, x4⟩, f4, r1, g4⟩ := walk_right_ok d fl_ tb h1 h4 hn2.1 hn2.2 g3 (by omega) s1 (by omega)
      have r1 : b = true := r1
      subst r1
      have g4 : WeB (10004 + 100000 * i + 1 + 2100 + 1) x4 := g4
      obtain ⟨⟨sh, x5⟩, f5, r2, r3, g5⟩ := short_ok (most := if (decide ((n : Int) < 10)) = true then 8 else 3) (by omega) g4 h1 h4 (by split <;> decide) (by split <;> decide)
      have r2 : ShO 60 (1 + v1) sh := r2
      have r3 : (sh.length : Int) ≤ (if (decide ((n : Int) < 10)) = true then 8 else 3) := r3
      have r4 : sh.length ≤ 60 := by
        split at r3 <;> omega
      have g5 : WeB (10004 + 100000 * i + 1 + 2100 + 1 + 30000) x5 := g5
      have f6 := short_goals_ok d fl_ tb h1 h4 hn2.2 (m := 60) (by decide) r2
      have f7 : m_p_short_turn (1 + v1, T) sh = some (tw n F (outW sh)) := short_turn_ok d fl_ tb h1 h4 hn2.1 hn2.2 (m := 60) (by decide) r2 r4
      have f8 := tw_repr d fl_ hn2.2 (outW_sok r2.ok)
      have f1 : m_l_pick s 4 = some (p1, x1) := f1
      have f3 : m_l_walk x1 (1 + v1) m2 = some (wk, x3) := f3
      exact ⟨x5, bindS f1 (bindS f2 (bindS f3 (bindS f4 ((if_neg (by show ¬ ((!true) = true); decide)).trans (bindS f5 (bindS f6 (bindS f8 (bindS f7 (bindS f8 (bindS (a := false) ((if_neg (by simp)).trans (bindS f7 (bindS f8 (by simp)))) (if_neg (by decide)))))))))))), g5.mono (by omega)⟩
    · rw [Sum.elim_inr]
      have hs : WeB (10004 + 100000 * (range' 0 3).length) s := hs
      rw [rng_len] at hs
      obtain ⟨u, x1, f1, s1, s2, g1⟩ := walkB_ok (by decide) hs h1 h4 (most := 20) (by decide) (by decide)
      have f1 : m_l_walk s (1 + v1) 20 = some (u, x1) := f1
      have rl := red_len u
      have ru : ∀ x ∈ red u, Sok (1 + v1) x := red_mem s1
      have f2 := straight_lw (w := u) (by omega)
      have f3 := power_ok h4 ru (red_gd u) (by omega)
      have f4 : repT (red u) 20 = some (rep (red u) 20) := rep_ok (m := 20) (by decide) (by decide) (by omega)
      have f5 := straight_lw (w := rep (red u) 20) (by rw [rep_len]; omega)
      have rr := red_len (rep (red u) 20)
      rw [rep_len] at rr
      have rs : ∀ x ∈ red (rep (red u) 20), Sok (1 + v1) x := red_mem fun x hx => ru x (flat_mem hx)
      generalize red (rep (red u) 20) = z at f3 f5 rr rs
      have t1 : m_p_turn_of (1 + v1, T) z = some (tw n F z) := turn_of_ok d fl_ tb h1 h4 hn2.1 hn2.2 rs (by omega)
      have t2 := goals_ok d fl_ tb h1 h4 (by omega) rs
      have t3 := tw_repr d fl_ hn2.2 rs
      obtain ⟨y, hy, y0, y1⟩ := fl_.gone d rs (x := (n : Int) - 1) (by omega) (by omega)
      have t4 : m_p_place_after (1 + v1, T) ((n : Int) - 1) z = some y := place_after_ok d fl_ tb h1 h4 hn2.1 hn2.2 rs (by omega) (by omega) (by omega) hy
      have t5 := tw_idx (n := n) (by omega) (by omega) hy
      have t6 := small_repr (x := y) (Nat.lt_trans (show y.natAbs < 64 by omega) (by decide))
      have t7 : m_p_turn_of (1 + v1, T) [] = some (tw n F []) := turn_of_ok d fl_ tb h1 h4 hn2.1 hn2.2 (fun _ z => nomatch z) (by decide)
      have t8 := tw_repr d fl_ hn2.2 (w := []) (fun _ z => nomatch z)
      have t9 : rgO 0 (n : Int) = some (tw n F []) := by rw [tw_nil]; exact rgO_okN (by omega)
      exact bndX f1 (bndX f2 (bndX f3 (bndX f4 (bndX f5 (bndX (a := false) ((if_neg (by simp)).trans (bindS t1 (bindS t3 (bindS t2 (bindS t3 (by simp)))))) (ifFE (by decide) (bndX t4 (bndX t6 (bndX t2 (bndX t5 (bndX t6 (ifFE (by simp) (bndX t7 (bndX t8 (bndX t9 (bndX t8 (ifFE (by simp) ⟨_, rfl, rfl⟩)))))))))))))))))) (s0 := ()) trivial
  exact bindS hloop rfl
end L31
namespace L31
open PySem PySem.Spec PyProof.Rows L2 Z
theorem tops {l : PySem.W.OpenLaw} {w : World} {K : PySem.W.Frag} {h : Heap} {mg : Str → Option Value} {fa f0 f1 f2 f3 f4 f5 f6 f7 f8 f9 f10 f11 f12 f13 f14 f15 f16 f17 f18 f19 f20 f21 f22 f23 f24 f25 f26 f27 f28 f29 f30 f31 f32 f33 f34 f35 f36 f37 f38 f39 f40 f41 f42 f43 f44 f45 f46 : Addr} (IK : K.In h) (IG : h.Ns mainGlobals mg) (hfa : mg "law" = some (.ref fa))
    {od0 od1 od2 od3 od4 od5 od6 od7 od8 od9 od10 od11 od12 od13 od14 od15 od16 od17 od18 od19 od20 od21 od22 od23 od24 od25 od26 od27 od28 od29 od30 od31 od32 od33 od34 od35 od36 od37 od38 od39 od40 od41 od42 od43 od44 od45 od46 an0 an1 an2 an3 an4 an5 an6 an7 an8 an9 an10 an11 an12 an13 an14 an15 an16 an17 an18 an19 an20 an21 an22 an23 an24 an25 an26 an27 an28 an29 an30 an31 an32 an33 an34 an35 an36 an37 an38 an39 an40 an41 an42 an43 an44 an45 an46 : Option Addr} {sl0 sl1 sl2 sl3 sl4 sl5 sl6 sl7 sl8 sl9 sl10 sl11 sl12 sl13 sl14 sl15 sl16 sl17 sl18 sl19 sl20 sl21 sl22 sl23 sl24 sl25 sl26 sl27 sl28 sl29 sl30 sl31 sl32 sl33 sl34 sl35 sl36 sl37 sl38 sl39 sl40 sl41 sl42 sl43 sl44 sl45 sl46 : Array (Option Value)} {oc0 oc1 oc2 oc3 oc4 oc5 oc6 oc7 oc8 oc9 oc10 oc11 oc12 oc13 oc14 oc15 oc16 oc17 oc18 oc19 oc20 oc21 oc22 oc23 oc24 oc25 oc26 oc27 oc28 oc29 oc30 oc31 oc32 oc33 oc34 oc35 oc36 oc37 oc38 oc39 oc40 oc41 oc42 oc43 oc44 oc45 oc46 kV0 kV1 kV2 kV3 kV4 kV5 kV6 kV7 kV8 kV9 kV10 kV11 kV12 kV13 kV14 kV15 kV16 kV17 kV18 kV19 kV20 kV21 kV22 kV23 kV24 kV25 kV26 kV27 kV28 kV29 kV30 kV31 kV32 kV33 kV34 kV35 kV36 kV37 kV38 kV39 kV40 kV41 kV42 kV43 kV44 kV45 kV46 dc0 dc1 dc2 dc3 dc4 dc5 dc6 dc7 dc8 dc9 dc10 dc11 dc12 dc13 dc14 dc15 dc16 dc17 dc18 dc19 dc20 dc21 dc22 dc23 dc24 dc25 dc26 dc27 dc28 dc29 dc30 dc31 dc32 dc33 dc34 dc35 dc36 dc37 dc38 dc39 dc40 dc41 dc42 dc43 dc44 dc45 dc46 pm0 pm1 pm2 pm3 pm4 pm5 pm6 pm7 pm8 pm9 pm10 pm11 pm12 pm13 pm14 pm15 pm16 pm17 pm18 pm19 pm20 pm21 pm22 pm23 pm24 pm25 pm26 pm27 pm28 pm29 pm30 pm31 pm32 pm33 pm34 pm35 pm36 pm37 pm38 pm39 pm40 pm41 pm42 pm43 pm44 pm45 pm46 cd0 cd1 cd2 cd3 cd4 cd5 cd6 cd7 cd8 cd9 cd10 cd11 cd12 cd13 cd14 cd15 cd16 cd17 cd18 cd19 cd20 cd21 cd22 cd23 cd24 cd25 cd26 cd27 cd28 cd29 cd30 cd31 cd32 cd33 cd34 cd35 cd36 cd37 cd38 cd39 cd40 cd41 cd42 cd43 cd44 cd45 cd46 ct0 ct1 ct2 ct3 ct4 ct5 ct6 ct7 ct8 ct9 ct10 ct11 ct12 ct13 ct14 ct15 ct16 ct17 ct18 ct19 ct20 ct21 ct22 ct23 ct24 ct25 ct26 ct27 ct28 ct29 ct30 ct31 ct32 ct33 ct34 ct35 ct36 ct37 ct38 ct39 ct40 ct41 ct42 ct43 ct44 ct45 ct46 : Value}
    (a0 : PySem.W.nsIn K mainGlobals "straightened" = some (some (.ref f0)))
    (b0 : K.lookup f0 = some ⟨oc0, od0, .func (PySem.W.fnOf "straightened" "straightened" (defArgs s_p_straightened) (defBody s_p_straightened) (defScope s_p_straightened) .none kV0 dc0 pm0 an0 cd0 ct0), sl0⟩)
    (c0 : PySem.W.codeIn K cd0 "straightened" = true) (d0 : PySem.W.keepIn K (.ref f0) = true)
    (a1 : PySem.W.nsIn K mainGlobals "turned_back" = some (some (.ref f1)))
    (b1 : K.lookup f1 = some ⟨oc1, od1, .func (PySem.W.fnOf "turned_back" "turned_back" (defArgs s_p_turned_back) (defBody s_p_turned_back) (defScope s_p_turned_back) .none kV1 dc1 pm1 an1 cd1 ct1), sl1⟩)
    (c1 : PySem.W.codeIn K cd1 "turned_back" = true) (d1 : PySem.W.keepIn K (.ref f1) = true)
    (a2 : PySem.W.nsIn K mainGlobals "is_integer" = some (some (.ref f2)))
    (b2 : K.lookup f2 = some ⟨oc2, od2, .func (PySem.W.fnOf "is_integer" "is_integer" (defArgs s_p_is_integer) (defBody s_p_is_integer) (defScope s_p_is_integer) .none kV2 dc2 pm2 an2 cd2 ct2), sl2⟩)
    (c2 : PySem.W.codeIn K cd2 "is_integer" = true) (d2 : PySem.W.keepIn K (.ref f2) = true)
    (a3 : PySem.W.nsIn K mainGlobals "is_letters" = some (some (.ref f3)))
    (b3 : K.lookup f3 = some ⟨oc3, od3, .func (PySem.W.fnOf "is_letters" "is_letters" (defArgs s_p_is_letters) (defBody s_p_is_letters) (defScope s_p_is_letters) .none kV3 dc3 pm3 an3 cd3 ct3), sl3⟩)
    (c3 : PySem.W.codeIn K cd3 "is_letters" = true) (d3 : PySem.W.keepIn K (.ref f3) = true)
    (a4 : PySem.W.nsIn K mainGlobals "is_step" = some (some (.ref f4)))
    (b4 : K.lookup f4 = some ⟨oc4, od4, .func (PySem.W.fnOf "is_step" "is_step" (defArgs s_p_is_step) (defBody s_p_is_step) (defScope s_p_is_step) .none kV4 dc4 pm4 an4 cd4 ct4), sl4⟩)
    (c4 : PySem.W.codeIn K cd4 "is_step" = true) (d4 : PySem.W.keepIn K (.ref f4) = true)
    (a5 : PySem.W.nsIn K mainGlobals "is_a_walk" = some (some (.ref f5)))
    (b5 : K.lookup f5 = some ⟨oc5, od5, .func (PySem.W.fnOf "is_a_walk" "is_a_walk" (defArgs s_p_is_a_walk) (defBody s_p_is_a_walk) (defScope s_p_is_a_walk) .none kV5 dc5 pm5 an5 cd5 ct5), sl5⟩)
    (c5 : PySem.W.codeIn K cd5 "is_a_walk" = true) (d5 : PySem.W.keepIn K (.ref f5) = true)
    (a6 : PySem.W.nsIn K mainGlobals "need_walk" = some (some (.ref f6)))
    (b6 : K.lookup f6 = some ⟨oc6, od6, .func (PySem.W.fnOf "need_walk" "need_walk" (defArgs s_p_need_walk) (defBody s_p_need_walk) (defScope s_p_need_walk) .none kV6 dc6 pm6 an6 cd6 ct6), sl6⟩)
    (c6 : PySem.W.codeIn K cd6 "need_walk" = true) (d6 : PySem.W.keepIn K (.ref f6) = true)
    (a7 : PySem.W.nsIn K mainGlobals "need_number" = some (some (.ref f7)))
    (b7 : K.lookup f7 = some ⟨oc7, od7, .func (PySem.W.fnOf "need_number" "need_number" (defArgs s_p_need_number) (defBody s_p_need_number) (defScope s_p_need_number) .none kV7 dc7 pm7 an7 cd7 ct7), sl7⟩)
    (c7 : PySem.W.codeIn K cd7 "need_number" = true) (d7 : PySem.W.keepIn K (.ref f7) = true)
    (a8 : PySem.W.nsIn K mainGlobals "is_a_part" = some (some (.ref f8)))
    (b8 : K.lookup f8 = some ⟨oc8, od8, .func (PySem.W.fnOf "is_a_part" "is_a_part" (defArgs s_p_is_a_part) (defBody s_p_is_a_part) (defScope s_p_is_a_part) .none kV8 dc8 pm8 an8 cd8 ct8), sl8⟩)
    (c8 : PySem.W.codeIn K cd8 "is_a_part" = true) (d8 : PySem.W.keepIn K (.ref f8) = true)
    (a9 : PySem.W.nsIn K mainGlobals "is_a_short" = some (some (.ref f9)))
    (b9 : K.lookup f9 = some ⟨oc9, od9, .func (PySem.W.fnOf "is_a_short" "is_a_short" (defArgs s_p_is_a_short) (defBody s_p_is_a_short) (defScope s_p_is_a_short) .none kV9 dc9 pm9 an9 cd9 ct9), sl9⟩)
    (c9 : PySem.W.codeIn K cd9 "is_a_short" = true) (d9 : PySem.W.keepIn K (.ref f9) = true)
    (a10 : PySem.W.nsIn K mainGlobals "need_short" = some (some (.ref f10)))
    (b10 : K.lookup f10 = some ⟨oc10, od10, .func (PySem.W.fnOf "need_short" "need_short" (defArgs s_p_need_short) (defBody s_p_need_short) (defScope s_p_need_short) .none kV10 dc10 pm10 an10 cd10 ct10), sl10⟩)
    (c10 : PySem.W.codeIn K cd10 "need_short" = true) (d10 : PySem.W.keepIn K (.ref f10) = true)
    (a11 : PySem.W.nsIn K mainGlobals "is_a_turn" = some (some (.ref f11)))
    (b11 : K.lookup f11 = some ⟨oc11, od11, .func (PySem.W.fnOf "is_a_turn" "is_a_turn" (defArgs s_p_is_a_turn) (defBody s_p_is_a_turn) (defScope s_p_is_a_turn) .none kV11 dc11 pm11 an11 cd11 ct11), sl11⟩)
    (c11 : PySem.W.codeIn K cd11 "is_a_turn" = true) (d11 : PySem.W.keepIn K (.ref f11) = true)
    (a12 : PySem.W.nsIn K mainGlobals "is_a_book" = some (some (.ref f12)))
    (b12 : K.lookup f12 = some ⟨oc12, od12, .func (PySem.W.fnOf "is_a_book" "is_a_book" (defArgs s_p_is_a_book) (defBody s_p_is_a_book) (defScope s_p_is_a_book) .none kV12 dc12 pm12 an12 cd12 ct12), sl12⟩)
    (c12 : PySem.W.codeIn K cd12 "is_a_book" = true) (d12 : PySem.W.keepIn K (.ref f12) = true)
    (a13 : PySem.W.nsIn K mainGlobals "is_book" = some (some (.ref f13)))
    (b13 : K.lookup f13 = some ⟨oc13, od13, .func (PySem.W.fnOf "is_book" "is_book" (defArgs s_p_is_book) (defBody s_p_is_book) (defScope s_p_is_book) .none kV13 dc13 pm13 an13 cd13 ct13), sl13⟩)
    (c13 : PySem.W.codeIn K cd13 "is_book" = true) (d13 : PySem.W.keepIn K (.ref f13) = true)
    (a14 : PySem.W.nsIn K mainGlobals "need_book" = some (some (.ref f14)))
    (b14 : K.lookup f14 = some ⟨oc14, od14, .func (PySem.W.fnOf "need_book" "need_book" (defArgs s_p_need_book) (defBody s_p_need_book) (defScope s_p_need_book) .none kV14 dc14 pm14 an14 cd14 ct14), sl14⟩)
    (c14 : PySem.W.codeIn K cd14 "need_book" = true) (d14 : PySem.W.keepIn K (.ref f14) = true)
    (a15 : PySem.W.nsIn K mainGlobals "places_of" = some (some (.ref f15)))
    (b15 : K.lookup f15 = some ⟨oc15, od15, .func (PySem.W.fnOf "places_of" "places_of" (defArgs s_p_places_of) (defBody s_p_places_of) (defScope s_p_places_of) .none kV15 dc15 pm15 an15 cd15 ct15), sl15⟩)
    (c15 : PySem.W.codeIn K cd15 "places_of" = true) (d15 : PySem.W.keepIn K (.ref f15) = true)
    (a16 : PySem.W.nsIn K mainGlobals "need_place" = some (some (.ref f16)))
    (b16 : K.lookup f16 = some ⟨oc16, od16, .func (PySem.W.fnOf "need_place" "need_place" (defArgs s_p_need_place) (defBody s_p_need_place) (defScope s_p_need_place) .none kV16 dc16 pm16 an16 cd16 ct16), sl16⟩)
    (c16 : PySem.W.codeIn K cd16 "need_place" = true) (d16 : PySem.W.keepIn K (.ref f16) = true)
    (a17 : PySem.W.nsIn K mainGlobals "turns_by_step" = some (some (.ref f17)))
    (b17 : K.lookup f17 = some ⟨oc17, od17, .func (PySem.W.fnOf "turns_by_step" "turns_by_step" (defArgs s_p_turns_by_step) (defBody s_p_turns_by_step) (defScope s_p_turns_by_step) .none kV17 dc17 pm17 an17 cd17 ct17), sl17⟩)
    (c17 : PySem.W.codeIn K cd17 "turns_by_step" = true) (d17 : PySem.W.keepIn K (.ref f17) = true)
    (a18 : PySem.W.nsIn K mainGlobals "turned_by" = some (some (.ref f18)))
    (b18 : K.lookup f18 = some ⟨oc18, od18, .func (PySem.W.fnOf "turned_by" "turned_by" (defArgs s_p_turned_by) (defBody s_p_turned_by) (defScope s_p_turned_by) .none kV18 dc18 pm18 an18 cd18 ct18), sl18⟩)
    (c18 : PySem.W.codeIn K cd18 "turned_by" = true) (d18 : PySem.W.keepIn K (.ref f18) = true)
    (a19 : PySem.W.nsIn K mainGlobals "circles_of" = some (some (.ref f19)))
    (b19 : K.lookup f19 = some ⟨oc19, od19, .func (PySem.W.fnOf "circles_of" "circles_of" (defArgs s_p_circles_of) (defBody s_p_circles_of) (defScope s_p_circles_of) .none kV19 dc19 pm19 an19 cd19 ct19), sl19⟩)
    (c19 : PySem.W.codeIn K cd19 "circles_of" = true) (d19 : PySem.W.keepIn K (.ref f19) = true)
    (a20 : PySem.W.nsIn K mainGlobals "turned_often" = some (some (.ref f20)))
    (b20 : K.lookup f20 = some ⟨oc20, od20, .func (PySem.W.fnOf "turned_often" "turned_often" (defArgs s_p_turned_often) (defBody s_p_turned_often) (defScope s_p_turned_often) .none kV20 dc20 pm20 an20 cd20 ct20), sl20⟩)
    (c20 : PySem.W.codeIn K cd20 "turned_often" = true) (d20 : PySem.W.keepIn K (.ref f20) = true)
    (a21 : PySem.W.nsIn K mainGlobals "short_turn" = some (some (.ref f21)))
    (b21 : K.lookup f21 = some ⟨oc21, od21, .func (PySem.W.fnOf "short_turn" "short_turn" (defArgs s_p_short_turn) (defBody s_p_short_turn) (defScope s_p_short_turn) .none kV21 dc21 pm21 an21 cd21 ct21), sl21⟩)
    (c21 : PySem.W.codeIn K cd21 "short_turn" = true) (d21 : PySem.W.keepIn K (.ref f21) = true)
    (a22 : PySem.W.nsIn K mainGlobals "turn_of" = some (some (.ref f22)))
    (b22 : K.lookup f22 = some ⟨oc22, od22, .func (PySem.W.fnOf "turn_of" "turn_of" (defArgs s_p_turn_of) (defBody s_p_turn_of) (defScope s_p_turn_of) .none kV22 dc22 pm22 an22 cd22 ct22), sl22⟩)
    (c22 : PySem.W.codeIn K cd22 "turn_of" = true) (d22 : PySem.W.keepIn K (.ref f22) = true)
    (a23 : PySem.W.nsIn K mainGlobals "place_after" = some (some (.ref f23)))
    (b23 : K.lookup f23 = some ⟨oc23, od23, .func (PySem.W.fnOf "place_after" "place_after" (defArgs s_p_place_after) (defBody s_p_place_after) (defScope s_p_place_after) .none kV23 dc23 pm23 an23 cd23 ct23), sl23⟩)
    (c23 : PySem.W.codeIn K cd23 "place_after" = true) (d23 : PySem.W.keepIn K (.ref f23) = true)
    (a24 : PySem.W.nsIn K mainGlobals "circles" = some (some (.ref f24)))
    (b24 : K.lookup f24 = some ⟨oc24, od24, .func (PySem.W.fnOf "circles" "circles" (defArgs s_p_circles) (defBody s_p_circles) (defScope s_p_circles) .none kV24 dc24 pm24 an24 cd24 ct24), sl24⟩)
    (c24 : PySem.W.codeIn K cd24 "circles" = true) (d24 : PySem.W.keepIn K (.ref f24) = true)
    (a25 : PySem.W.nsIn K mainGlobals "times_round" = some (some (.ref f25)))
    (b25 : K.lookup f25 = some ⟨oc25, od25, .func (PySem.W.fnOf "times_round" "times_round" (defArgs s_p_times_round) (defBody s_p_times_round) (defScope s_p_times_round) .none kV25 dc25 pm25 an25 cd25 ct25), sl25⟩)
    (c25 : PySem.W.codeIn K cd25 "times_round" = true) (d25 : PySem.W.keepIn K (.ref f25) = true)
    (a26 : PySem.W.nsIn K mainGlobals "parts" = some (some (.ref f26)))
    (b26 : K.lookup f26 = some ⟨oc26, od26, .func (PySem.W.fnOf "parts" "parts" (defArgs s_p_parts) (defBody s_p_parts) (defScope s_p_parts) .none kV26 dc26 pm26 an26 cd26 ct26), sl26⟩)
    (c26 : PySem.W.codeIn K cd26 "parts" = true) (d26 : PySem.W.keepIn K (.ref f26) = true)
    (a27 : PySem.W.nsIn K mainGlobals "power" = some (some (.ref f27)))
    (b27 : K.lookup f27 = some ⟨oc27, od27, .func (PySem.W.fnOf "power" "power" (defArgs s_p_power) (defBody s_p_power) (defScope s_p_power) .none kV27 dc27 pm27 an27 cd27 ct27), sl27⟩)
    (c27 : PySem.W.codeIn K cd27 "power" = true) (d27 : PySem.W.keepIn K (.ref f27) = true)
    (a28 : PySem.W.nsIn K mainGlobals "_law_well" = some (some (.ref f28)))
    (b28 : K.lookup f28 = some ⟨oc28, od28, .func (PySem.W.fnOf "_law_well" "_law_well" (defArgs s_l_well) (defBody s_l_well) (defScope s_l_well) .none kV28 dc28 pm28 an28 cd28 ct28), sl28⟩)
    (c28 : PySem.W.codeIn K cd28 "_law_well" = true) (d28 : PySem.W.keepIn K (.ref f28) = true)
    (a29 : PySem.W.nsIn K mainGlobals "_law_pick" = some (some (.ref f29)))
    (b29 : K.lookup f29 = some ⟨oc29, od29, .func (PySem.W.fnOf "_law_pick" "_law_pick" (defArgs s_l_pick) (defBody s_l_pick) (defScope s_l_pick) .none kV29 dc29 pm29 an29 cd29 ct29), sl29⟩)
    (c29 : PySem.W.codeIn K cd29 "_law_pick" = true) (d29 : PySem.W.keepIn K (.ref f29) = true)
    (a30 : PySem.W.nsIn K mainGlobals "_law_back" = some (some (.ref f30)))
    (b30 : K.lookup f30 = some ⟨oc30, od30, .func (PySem.W.fnOf "_law_back" "_law_back" (defArgs s_l_back) (defBody s_l_back) (defScope s_l_back) .none kV30 dc30 pm30 an30 cd30 ct30), sl30⟩)
    (c30 : PySem.W.codeIn K cd30 "_law_back" = true) (d30 : PySem.W.keepIn K (.ref f30) = true)
    (a31 : PySem.W.nsIn K mainGlobals "_law_straight" = some (some (.ref f31)))
    (b31 : K.lookup f31 = some ⟨oc31, od31, .func (PySem.W.fnOf "_law_straight" "_law_straight" (defArgs s_l_straight) (defBody s_l_straight) (defScope s_l_straight) .none kV31 dc31 pm31 an31 cd31 ct31), sl31⟩)
    (c31 : PySem.W.codeIn K cd31 "_law_straight" = true) (d31 : PySem.W.keepIn K (.ref f31) = true)
    (a32 : PySem.W.nsIn K mainGlobals "_law_walk" = some (some (.ref f32)))
    (b32 : K.lookup f32 = some ⟨oc32, od32, .func (PySem.W.fnOf "_law_walk" "_law_walk" (defArgs s_l_walk) (defBody s_l_walk) (defScope s_l_walk) .none kV32 dc32 pm32 an32 cd32 ct32), sl32⟩)
    (c32 : PySem.W.codeIn K cd32 "_law_walk" = true) (d32 : PySem.W.keepIn K (.ref f32) = true)
    (a33 : PySem.W.nsIn K mainGlobals "_law_turn" = some (some (.ref f33)))
    (b33 : K.lookup f33 = some ⟨oc33, od33, .func (PySem.W.fnOf "_law_turn" "_law_turn" (defArgs s_l_turn) (defBody s_l_turn) (defScope s_l_turn) .none kV33 dc33 pm33 an33 cd33 ct33), sl33⟩)
    (c33 : PySem.W.codeIn K cd33 "_law_turn" = true) (d33 : PySem.W.keepIn K (.ref f33) = true)
    (a34 : PySem.W.nsIn K mainGlobals "_law_book" = some (some (.ref f34)))
    (b34 : K.lookup f34 = some ⟨oc34, od34, .func (PySem.W.fnOf "_law_book" "_law_book" (defArgs s_l_book) (defBody s_l_book) (defScope s_l_book) .none kV34 dc34 pm34 an34 cd34 ct34), sl34⟩)
    (c34 : PySem.W.codeIn K cd34 "_law_book" = true) (d34 : PySem.W.keepIn K (.ref f34) = true)
    (a35 : PySem.W.nsIn K mainGlobals "_law_short" = some (some (.ref f35)))
    (b35 : K.lookup f35 = some ⟨oc35, od35, .func (PySem.W.fnOf "_law_short" "_law_short" (defArgs s_l_short) (defBody s_l_short) (defScope s_l_short) .none kV35 dc35 pm35 an35 cd35 ct35), sl35⟩)
    (c35 : PySem.W.codeIn K cd35 "_law_short" = true) (d35 : PySem.W.keepIn K (.ref f35) = true)
    (a36 : PySem.W.nsIn K mainGlobals "_law_rows" = some (some (.ref f36)))
    (b36 : K.lookup f36 = some ⟨oc36, od36, .func (PySem.W.fnOf "_law_rows" "_law_rows" (defArgs s_l_rows) (defBody s_l_rows) (defScope s_l_rows) .none kV36 dc36 pm36 an36 cd36 ct36), sl36⟩)
    (c36 : PySem.W.codeIn K cd36 "_law_rows" = true) (d36 : PySem.W.keepIn K (.ref f36) = true)
    (a37 : PySem.W.nsIn K mainGlobals "_law_goals" = some (some (.ref f37)))
    (b37 : K.lookup f37 = some ⟨oc37, od37, .func (PySem.W.fnOf "_law_goals" "_law_goals" (defArgs s_l_goals) (defBody s_l_goals) (defScope s_l_goals) .none kV37 dc37 pm37 an37 cd37 ct37), sl37⟩)
    (c37 : PySem.W.codeIn K cd37 "_law_goals" = true) (d37 : PySem.W.keepIn K (.ref f37) = true)
    (a38 : PySem.W.nsIn K mainGlobals "_law_far_goals" = some (some (.ref f38)))
    (b38 : K.lookup f38 = some ⟨oc38, od38, .func (PySem.W.fnOf "_law_far_goals" "_law_far_goals" (defArgs s_l_far_goals) (defBody s_l_far_goals) (defScope s_l_far_goals) .none kV38 dc38 pm38 an38 cd38 ct38), sl38⟩)
    (c38 : PySem.W.codeIn K cd38 "_law_far_goals" = true) (d38 : PySem.W.keepIn K (.ref f38) = true)
    (a39 : PySem.W.nsIn K mainGlobals "_law_short_goals" = some (some (.ref f39)))
    (b39 : K.lookup f39 = some ⟨oc39, od39, .func (PySem.W.fnOf "_law_short_goals" "_law_short_goals" (defArgs s_l_short_goals) (defBody s_l_short_goals) (defScope s_l_short_goals) .none kV39 dc39 pm39 an39 cd39 ct39), sl39⟩)
    (c39 : PySem.W.codeIn K cd39 "_law_short_goals" = true) (d39 : PySem.W.keepIn K (.ref f39) = true)
    (a40 : PySem.W.nsIn K mainGlobals "_law_circles" = some (some (.ref f40)))
    (b40 : K.lookup f40 = some ⟨oc40, od40, .func (PySem.W.fnOf "_law_circles" "_law_circles" (defArgs s_l_circles) (defBody s_l_circles) (defScope s_l_circles) .none kV40 dc40 pm40 an40 cd40 ct40), sl40⟩)
    (c40 : PySem.W.codeIn K cd40 "_law_circles" = true) (d40 : PySem.W.keepIn K (.ref f40) = true)
    (a41 : PySem.W.nsIn K mainGlobals "_law_common_round" = some (some (.ref f41)))
    (b41 : K.lookup f41 = some ⟨oc41, od41, .func (PySem.W.fnOf "_law_common_round" "_law_common_round" (defArgs s_l_common_round) (defBody s_l_common_round) (defScope s_l_common_round) .none kV41 dc41 pm41 an41 cd41 ct41), sl41⟩)
    (c41 : PySem.W.codeIn K cd41 "_law_common_round" = true) (d41 : PySem.W.keepIn K (.ref f41) = true)
    (a42 : PySem.W.nsIn K mainGlobals "_law_parts" = some (some (.ref f42)))
    (b42 : K.lookup f42 = some ⟨oc42, od42, .func (PySem.W.fnOf "_law_parts" "_law_parts" (defArgs s_l_parts) (defBody s_l_parts) (defScope s_l_parts) .none kV42 dc42 pm42 an42 cd42 ct42), sl42⟩)
    (c42 : PySem.W.codeIn K cd42 "_law_parts" = true) (d42 : PySem.W.keepIn K (.ref f42) = true)
    (a43 : PySem.W.nsIn K mainGlobals "_law_spoilt" = some (some (.ref f43)))
    (b43 : K.lookup f43 = some ⟨oc43, od43, .func (PySem.W.fnOf "_law_spoilt" "_law_spoilt" (defArgs s_l_spoilt) (defBody s_l_spoilt) (defScope s_l_spoilt) .none kV43 dc43 pm43 an43 cd43 ct43), sl43⟩)
    (c43 : PySem.W.codeIn K cd43 "_law_spoilt" = true) (d43 : PySem.W.keepIn K (.ref f43) = true)
    (a44 : PySem.W.nsIn K mainGlobals "_law_lists_right" = some (some (.ref f44)))
    (b44 : K.lookup f44 = some ⟨oc44, od44, .func (PySem.W.fnOf "_law_lists_right" "_law_lists_right" (defArgs s_l_lists_right) (defBody s_l_lists_right) (defScope s_l_lists_right) .none kV44 dc44 pm44 an44 cd44 ct44), sl44⟩)
    (c44 : PySem.W.codeIn K cd44 "_law_lists_right" = true) (d44 : PySem.W.keepIn K (.ref f44) = true)
    (a45 : PySem.W.nsIn K mainGlobals "_law_walk_right" = some (some (.ref f45)))
    (b45 : K.lookup f45 = some ⟨oc45, od45, .func (PySem.W.fnOf "_law_walk_right" "_law_walk_right" (defArgs s_l_walk_right) (defBody s_l_walk_right) (defScope s_l_walk_right) .none kV45 dc45 pm45 an45 cd45 ct45), sl45⟩)
    (c45 : PySem.W.codeIn K cd45 "_law_walk_right" = true) (d45 : PySem.W.keepIn K (.ref f45) = true)
    (a46 : PySem.W.nsIn K mainGlobals "law" = some (some (.ref f46)))
    (b46 : K.lookup f46 = some ⟨oc46, od46, .func (PySem.W.fnOf "law" "law" (defArgs s_l_law) (defBody s_l_law) (defScope s_l_law) .none kV46 dc46 pm46 an46 cd46 ct46), sl46⟩)
    (c46 : PySem.W.codeIn K cd46 "law" = true) (d46 : PySem.W.keepIn K (.ref f46) = true)
    (g_len : PySem.W.nsIn K mainGlobals "len" = some none)
    (g_tuple : PySem.W.nsIn K mainGlobals "tuple" = some none)
    (g_isinstance : PySem.W.nsIn K mainGlobals "isinstance" = some none)
    (g_int : PySem.W.nsIn K mainGlobals "int" = some none)
    (g_bool : PySem.W.nsIn K mainGlobals "bool" = some none)
    {tk_MOST_LETTERS : Tok}
    (g_MOST_LETTERS : PySem.W.nsIn K mainGlobals "MOST_LETTERS" = some (some (.int 4 tk_MOST_LETTERS)))
    (g_abs : PySem.W.nsIn K mainGlobals "abs" = some none)
    (g_all : PySem.W.nsIn K mainGlobals "all" = some none)
    {tk_MOST_TIMES_shorts : Tok}
    (g_MOST_TIMES_shorts : PySem.W.nsIn K mainGlobals "MOST_TIMES_shorts" = some (some (.int 1000000000000000000000000000000 tk_MOST_TIMES_shorts)))
    {tk_MOST_PARTS : Tok}
    (g_MOST_PARTS : PySem.W.nsIn K mainGlobals "MOST_PARTS" = some (some (.int 60 tk_MOST_PARTS)))
    (g_sorted : PySem.W.nsIn K mainGlobals "sorted" = some none)
    (g_list : PySem.W.nsIn K mainGlobals "list" = some none)
    (g_range : PySem.W.nsIn K mainGlobals "range" = some none)
    {tk_MOST_PLACES : Tok}
    (g_MOST_PLACES : PySem.W.nsIn K mainGlobals "MOST_PLACES" = some (some (.int 40 tk_MOST_PLACES)))
    (g_enumerate : PySem.W.nsIn K mainGlobals "enumerate" = some none)
    (g_lcm : PySem.W.nsIn K mainGlobals "lcm" = some (some (.builtin "math.lcm")))
    {tk_MOST_TIMES_walks : Tok}
    (g_MOST_TIMES_walks : PySem.W.nsIn K mainGlobals "MOST_TIMES_walks" = some (some (.int 20 tk_MOST_TIMES_walks)))
    (g_sum : PySem.W.nsIn K mainGlobals "sum" = some none)
    (g_max : PySem.W.nsIn K mainGlobals "max" = some none)
    (g_min : PySem.W.nsIn K mainGlobals "min" = some none)
    (g_set : PySem.W.nsIn K mainGlobals "set" = some none)
    (g_repr : PySem.W.nsIn K mainGlobals "repr" = some none)
    : ∃ fd : FuncData, (∀ (s : Shared) (v : Value), BindsTo s fd ⟨[v], []⟩ [("_law_script", v)]) ∧ ∀ base : Heap, K.In base → base.Ns mainGlobals mg → FnG l.prog w K mg base CX0 8 fa fd ["_law_script"] (LawSp K m_l_law) := by
  have e := hfa.symm.trans (PySem.W.mg_of IK IG a46)
  cases e
  have h_g_len := PySem.W.mg_none_of IK IG g_len
  have h_g_tuple := PySem.W.mg_none_of IK IG g_tuple
  have h_g_isinstance := PySem.W.mg_none_of IK IG g_isinstance
  have h_g_int := PySem.W.mg_none_of IK IG g_int
  have h_g_bool := PySem.W.mg_none_of IK IG g_bool
  have h_g_MOST_LETTERS := PySem.W.mg_of IK IG g_MOST_LETTERS
  have h_g_abs := PySem.W.mg_none_of IK IG g_abs
  have h_g_all := PySem.W.mg_none_of IK IG g_all
  have h_g_MOST_TIMES_shorts := PySem.W.mg_of IK IG g_MOST_TIMES_shorts
  have h_g_MOST_PARTS := PySem.W.mg_of IK IG g_MOST_PARTS
  have h_g_sorted := PySem.W.mg_none_of IK IG g_sorted
  have h_g_list := PySem.W.mg_none_of IK IG g_list
  have h_g_range := PySem.W.mg_none_of IK IG g_range
  have h_g_MOST_PLACES := PySem.W.mg_of IK IG g_MOST_PLACES
  have h_g_enumerate := PySem.W.mg_none_of IK IG g_enumerate
  have h_g_lcm := PySem.W.mg_of IK IG g_lcm
  have h_g_MOST_TIMES_walks := PySem.W.mg_of IK IG g_MOST_TIMES_walks
  have h_g_sum := PySem.W.mg_none_of IK IG g_sum
  have h_g_max := PySem.W.mg_none_of IK IG g_max
  have h_g_min := PySem.W.mg_none_of IK IG g_min
  have h_g_set := PySem.W.mg_none_of IK IG g_set
  have h_g_repr := PySem.W.mg_none_of IK IG g_repr
  have F0 := fun_mk (st := s_p_straightened) b0 c0 d0
  have B0 := F0.binds (ps := ["walk"]) fun _ _ _ _ _ _ us hl => match us, hl with | [_], _ => rfl
  have F1 := fun_mk (st := s_p_turned_back) b1 c1 d1
  have B1 := F1.binds (ps := ["walk"]) fun _ _ _ _ _ _ us hl => match us, hl with | [_], _ => rfl
  have F2 := fun_mk (st := s_p_is_integer) b2 c2 d2
  have B2 := F2.binds (ps := ["value"]) fun _ _ _ _ _ _ us hl => match us, hl with | [_], _ => rfl
  have F3 := fun_mk (st := s_p_is_letters) b3 c3 d3
  have B3 := F3.binds (ps := ["value"]) fun _ _ _ _ _ _ us hl => match us, hl with | [_], _ => rfl
  have F4 := fun_mk (st := s_p_is_step) b4 c4 d4
  have B4 := F4.binds (ps := ["value", "letters"]) fun _ _ _ _ _ _ us hl => match us, hl with | [_, _], _ => rfl
  have F5 := fun_mk (st := s_p_is_a_walk) b5 c5 d5
  have B5 := F5.binds (ps := ["value", "letters"]) fun _ _ _ _ _ _ us hl => match us, hl with | [_, _], _ => rfl
  have F6 := fun_mk (st := s_p_need_walk) b6 c6 d6
  have B6 := F6.binds (ps := ["walk", "letters"]) fun _ _ _ _ _ _ us hl => match us, hl with | [_, _], _ => rfl
  have F7 := fun_mk (st := s_p_need_number) b7 c7 d7
  have B7 := F7.binds (ps := ["number", "low", "high"]) fun _ _ _ _ _ _ us hl => match us, hl with | [_, _, _], _ => rfl
  have F8 := fun_mk (st := s_p_is_a_part) b8 c8 d8
  have B8 := F8.binds (ps := ["value", "letters"]) fun _ _ _ _ _ _ us hl => match us, hl with | [_, _], _ => rfl
  have F9 := fun_mk (st := s_p_is_a_short) b9 c9 d9
  have B9 := F9.binds (ps := ["value", "letters"]) fun _ _ _ _ _ _ us hl => match us, hl with | [_, _], _ => rfl
  have F10 := fun_mk (st := s_p_need_short) b10 c10 d10
  have B10 := F10.binds (ps := ["short", "letters"]) fun _ _ _ _ _ _ us hl => match us, hl with | [_, _], _ => rfl
  have F11 := fun_mk (st := s_p_is_a_turn) b11 c11 d11
  have B11 := F11.binds (ps := ["value", "many"]) fun _ _ _ _ _ _ us hl => match us, hl with | [_, _], _ => rfl
  have F12 := fun_mk (st := s_p_is_a_book) b12 c12 d12
  have B12 := F12.binds (ps := ["value"]) fun _ _ _ _ _ _ us hl => match us, hl with | [_], _ => rfl
  have F13 := fun_mk (st := s_p_is_book) b13 c13 d13
  have B13 := F13.binds (ps := ["value"]) fun _ _ _ _ _ _ us hl => match us, hl with | [_], _ => rfl
  have F14 := fun_mk (st := s_p_need_book) b14 c14 d14
  have B14 := F14.binds (ps := ["book"]) fun _ _ _ _ _ _ us hl => match us, hl with | [_], _ => rfl
  have F15 := fun_mk (st := s_p_places_of) b15 c15 d15
  have B15 := F15.binds (ps := ["book"]) fun _ _ _ _ _ _ us hl => match us, hl with | [_], _ => rfl
  have F16 := fun_mk (st := s_p_need_place) b16 c16 d16
  have B16 := F16.binds (ps := ["book", "place"]) fun _ _ _ _ _ _ us hl => match us, hl with | [_, _], _ => rfl
  have F17 := fun_mk (st := s_p_turns_by_step) b17 c17 d17
  have B17 := F17.binds (ps := ["book"]) fun _ _ _ _ _ _ us hl => match us, hl with | [_], _ => rfl
  have F18 := fun_mk (st := s_p_turned_by) b18 c18 d18
  have B18 := F18.binds (ps := ["book", "walk"]) fun _ _ _ _ _ _ us hl => match us, hl with | [_, _], _ => rfl
  have F19 := fun_mk (st := s_p_circles_of) b19 c19 d19
  have B19 := F19.binds (ps := ["turn"]) fun _ _ _ _ _ _ us hl => match us, hl with | [_], _ => rfl
  have F20 := fun_mk (st := s_p_turned_often) b20 c20 d20
  have B20 := F20.binds (ps := ["turn", "times"]) fun _ _ _ _ _ _ us hl => match us, hl with | [_, _], _ => rfl
  have F21 := fun_mk (st := s_p_short_turn) b21 c21 d21
  have B21 := F21.binds (ps := ["book", "short"]) fun _ _ _ _ _ _ us hl => match us, hl with | [_, _], _ => rfl
  have F22 := fun_mk (st := s_p_turn_of) b22 c22 d22
  have B22 := F22.binds (ps := ["book", "walk"]) fun _ _ _ _ _ _ us hl => match us, hl with | [_, _], _ => rfl
  have F23 := fun_mk (st := s_p_place_after) b23 c23 d23
  have B23 := F23.binds (ps := ["book", "place", "walk"]) fun _ _ _ _ _ _ us hl => match us, hl with | [_, _, _], _ => rfl
  have F24 := fun_mk (st := s_p_circles) b24 c24 d24
  have B24 := F24.binds (ps := ["book", "walk"]) fun _ _ _ _ _ _ us hl => match us, hl with | [_, _], _ => rfl
  have F25 := fun_mk (st := s_p_times_round) b25 c25 d25
  have B25 := F25.binds (ps := ["book", "walk"]) fun _ _ _ _ _ _ us hl => match us, hl with | [_, _], _ => rfl
  have F26 := fun_mk (st := s_p_parts) b26 c26 d26
  have B26 := F26.binds (ps := ["book"]) fun _ _ _ _ _ _ us hl => match us, hl with | [_], _ => rfl
  have F27 := fun_mk (st := s_p_power) b27 c27 d27
  have B27 := F27.binds (ps := ["walk", "times"]) fun _ _ _ _ _ _ us hl => match us, hl with | [_, _], _ => rfl
  have F28 := fun_mk (st := s_l_well) b28 c28 d28
  have B28 := F28.binds (ps := ["_law_script", "_law_k"]) fun _ _ _ _ _ _ us hl => match us, hl with | [_, _], _ => rfl
  have F29 := fun_mk (st := s_l_pick) b29 c29 d29
  have B29 := F29.binds (ps := ["_law_well_here", "_law_many"]) fun _ _ _ _ _ _ us hl => match us, hl with | [_, _], _ => rfl
  have F30 := fun_mk (st := s_l_back) b30 c30 d30
  have B30 := F30.binds (ps := ["_law_walk_here"]) fun _ _ _ _ _ _ us hl => match us, hl with | [_], _ => rfl
  have F31 := fun_mk (st := s_l_straight) b31 c31 d31
  have B31 := F31.binds (ps := ["_law_walk_here"]) fun _ _ _ _ _ _ us hl => match us, hl with | [_], _ => rfl
  have F32 := fun_mk (st := s_l_walk) b32 c32 d32
  have B32 := F32.binds (ps := ["_law_well_here", "_law_letters", "_law_most"]) fun _ _ _ _ _ _ us hl => match us, hl with | [_, _, _], _ => rfl
  have F33 := fun_mk (st := s_l_turn) b33 c33 d33
  have B33 := F33.binds (ps := ["_law_well_here", "_law_many"]) fun _ _ _ _ _ _ us hl => match us, hl with | [_, _], _ => rfl
  have F34 := fun_mk (st := s_l_book) b34 c34 d34
  have B34 := F34.binds (ps := ["_law_well_here", "_law_letters", "_law_many"]) fun _ _ _ _ _ _ us hl => match us, hl with | [_, _, _], _ => rfl
  have F35 := fun_mk (st := s_l_short) b35 c35 d35
  have B35 := F35.binds (ps := ["_law_well_here", "_law_letters", "_law_most"]) fun _ _ _ _ _ _ us hl => match us, hl with | [_, _, _], _ => rfl
  have F36 := fun_mk (st := s_l_rows) b36 c36 d36
  have B36 := F36.binds (ps := ["_law_book_here"]) fun _ _ _ _ _ _ us hl => match us, hl with | [_], _ => rfl
  have F37 := fun_mk (st := s_l_goals) b37 c37 d37
  have B37 := F37.binds (ps := ["_law_book_here", "_law_walk_here"]) fun _ _ _ _ _ _ us hl => match us, hl with | [_, _], _ => rfl
  have F38 := fun_mk (st := s_l_far_goals) b38 c38 d38
  have B38 := F38.binds (ps := ["_law_turn_here", "_law_times"]) fun _ _ _ _ _ _ us hl => match us, hl with | [_, _], _ => rfl
  have F39 := fun_mk (st := s_l_short_goals) b39 c39 d39
  have B39 := F39.binds (ps := ["_law_book_here", "_law_short_here"]) fun _ _ _ _ _ _ us hl => match us, hl with | [_, _], _ => rfl
  have F40 := fun_mk (st := s_l_circles) b40 c40 d40
  have B40 := F40.binds (ps := ["_law_turn_here"]) fun _ _ _ _ _ _ us hl => match us, hl with | [_], _ => rfl
  have F41 := fun_mk (st := s_l_common_round) b41 c41 d41
  have B41 := F41.binds (ps := ["_law_circles_told"]) fun _ _ _ _ _ _ us hl => match us, hl with | [_], _ => rfl
  have F42 := fun_mk (st := s_l_parts) b42 c42 d42
  have B42 := F42.binds (ps := ["_law_book_here"]) fun _ _ _ _ _ _ us hl => match us, hl with | [_], _ => rfl
  have F43 := fun_mk (st := s_l_spoilt) b43 c43 d43
  have B43 := F43.binds (ps := ["_law_told"]) fun _ _ _ _ _ _ us hl => match us, hl with | [_], _ => rfl
  have F44 := fun_mk (st := s_l_lists_right) b44 c44 d44
  have B44 := F44.binds (ps := ["_law_book_here", "_law_walk_here", "_law_groups"]) fun _ _ _ _ _ _ us hl => match us, hl with | [_, _, _], _ => rfl
  have F45 := fun_mk (st := s_l_walk_right) b45 c45 d45
  have B45 := F45.binds (ps := ["_law_well_here", "_law_book_here", "_law_walk_here"]) fun _ _ _ _ _ _ us hl => match us, hl with | [_, _, _], _ => rfl
  have F46 := fun_mk (st := s_l_law) b46 c46 d46
  have B46 := F46.binds (ps := ["_law_script"]) fun _ _ _ _ _ _ us hl => match us, hl with | [_], _ => rfl
  refine ⟨PySem.W.fnOf "law" "law" (defArgs s_l_law) (defBody s_l_law) (defScope s_l_law) .none kV46 dc46 pm46 an46 cd46 ct46, fun s v => .of_eq rfl, fun base _ _ => ?_⟩
  have C_p_straightened := cal_p_straightened (P := l.prog) (w := w) (base := base) F0 (PySem.W.mg_of IK IG a0) B0 h_g_len h_g_tuple
  have C_p_turned_back := cal_p_turned_back (P := l.prog) (w := w) (base := base) F1 (PySem.W.mg_of IK IG a1) B1 h_g_tuple
  have C_p_is_integer := cal_p_is_integer (P := l.prog) (w := w) (base := base) F2 (PySem.W.mg_of IK IG a2) B2 h_g_isinstance h_g_int h_g_bool
  have C_p_is_letters := cal_p_is_letters (P := l.prog) (w := w) (base := base) F3 (PySem.W.mg_of IK IG a3) B3 C_p_is_integer h_g_MOST_LETTERS
  have C_p_is_step := cal_p_is_step (P := l.prog) (w := w) (base := base) F4 (PySem.W.mg_of IK IG a4) B4 C_p_is_integer h_g_abs
  have C_p_is_a_walk := cal_p_is_a_walk (P := l.prog) (w := w) (base := base) F5 (PySem.W.mg_of IK IG a5) B5 h_g_isinstance h_g_tuple h_g_all C_p_is_step
  have C_p_need_walk := cal_p_need_walk (P := l.prog) (w := w) (base := base) F6 (PySem.W.mg_of IK IG a6) B6 C_p_is_a_walk
  have C_p_need_number := cal_p_need_number (P := l.prog) (w := w) (base := base) F7 (PySem.W.mg_of IK IG a7) B7 
  have C_p_is_a_part := cal_p_is_a_part (P := l.prog) (w := w) (base := base) F8 (PySem.W.mg_of IK IG a8) B8 h_g_isinstance h_g_tuple h_g_len C_p_is_a_walk C_p_is_integer h_g_abs h_g_MOST_TIMES_shorts
  have C_p_is_a_short := cal_p_is_a_short (P := l.prog) (w := w) (base := base) F9 (PySem.W.mg_of IK IG a9) B9 h_g_isinstance h_g_tuple h_g_len h_g_MOST_PARTS h_g_all C_p_is_a_part
  have C_p_need_short := cal_p_need_short (P := l.prog) (w := w) (base := base) F10 (PySem.W.mg_of IK IG a10) B10 C_p_is_a_short
  have C_p_is_a_turn := cal_p_is_a_turn (P := l.prog) (w := w) (base := base) F11 (PySem.W.mg_of IK IG a11) B11 h_g_isinstance h_g_tuple h_g_len h_g_all C_p_is_integer h_g_sorted h_g_list h_g_range
  have C_p_is_a_book := cal_p_is_a_book (P := l.prog) (w := w) (base := base) F12 (PySem.W.mg_of IK IG a12) B12 h_g_isinstance h_g_tuple h_g_len C_p_is_letters h_g_MOST_PLACES h_g_all C_p_is_a_turn
  have C_p_is_book := cal_p_is_book (P := l.prog) (w := w) (base := base) F13 (PySem.W.mg_of IK IG a13) B13 C_p_is_a_book
  have C_p_need_book := cal_p_need_book (P := l.prog) (w := w) (base := base) F14 (PySem.W.mg_of IK IG a14) B14 C_p_is_a_book
  have C_p_places_of := cal_p_places_of (P := l.prog) (w := w) (base := base) F15 (PySem.W.mg_of IK IG a15) B15 h_g_len
  have C_p_need_place := cal_p_need_place (P := l.prog) (w := w) (base := base) F16 (PySem.W.mg_of IK IG a16) B16 C_p_need_number C_p_places_of
  have C_p_turns_by_step := cal_p_turns_by_step (P := l.prog) (w := w) (base := base) F17 (PySem.W.mg_of IK IG a17) B17 h_g_range h_g_len h_g_enumerate h_g_list
  have C_p_turned_by := cal_p_turned_by (P := l.prog) (w := w) (base := base) F18 (PySem.W.mg_of IK IG a18) B18 C_p_turns_by_step h_g_list h_g_range C_p_places_of
  have C_p_circles_of := cal_p_circles_of (P := l.prog) (w := w) (base := base) F19 (PySem.W.mg_of IK IG a19) B19 h_g_range h_g_len h_g_sorted
  have C_p_turned_often := cal_p_turned_often (P := l.prog) (w := w) (base := base) F20 (PySem.W.mg_of IK IG a20) B20 h_g_list h_g_range h_g_len
  have C_p_short_turn := cal_p_short_turn (P := l.prog) (w := w) (base := base) F21 (PySem.W.mg_of IK IG a21) B21 C_p_need_book C_p_need_short h_g_list h_g_range C_p_places_of C_p_turned_back C_p_turned_often C_p_turned_by h_g_abs h_g_tuple
  have C_p_turn_of := cal_p_turn_of (P := l.prog) (w := w) (base := base) F22 (PySem.W.mg_of IK IG a22) B22 C_p_need_book C_p_need_walk h_g_tuple C_p_turned_by
  have C_p_place_after := cal_p_place_after (P := l.prog) (w := w) (base := base) F23 (PySem.W.mg_of IK IG a23) B23 C_p_need_book C_p_need_place C_p_need_walk C_p_turned_by
  have C_p_circles := cal_p_circles (P := l.prog) (w := w) (base := base) F24 (PySem.W.mg_of IK IG a24) B24 C_p_need_book C_p_need_walk C_p_circles_of C_p_turned_by
  have C_p_times_round := cal_p_times_round (P := l.prog) (w := w) (base := base) F25 (PySem.W.mg_of IK IG a25) B25 C_p_circles h_g_len h_g_lcm
  have C_p_parts := cal_p_parts (P := l.prog) (w := w) (base := base) F26 (PySem.W.mg_of IK IG a26) B26 C_p_need_book h_g_range C_p_places_of h_g_len h_g_sorted
  have C_p_power := cal_p_power (P := l.prog) (w := w) (base := base) F27 (PySem.W.mg_of IK IG a27) B27 C_p_need_walk h_g_MOST_LETTERS C_p_need_number h_g_MOST_TIMES_walks C_p_straightened C_p_turned_back h_g_abs
  have C_l_well := cal_l_well (P := l.prog) (w := w) (base := base) F28 (PySem.W.mg_of IK IG a28) B28 h_g_len h_g_sum h_g_int h_g_abs h_g_max
  have C_l_pick := cal_l_pick (P := l.prog) (w := w) (base := base) F29 (PySem.W.mg_of IK IG a29) B29 h_g_int
  have C_l_back := cal_l_back (P := l.prog) (w := w) (base := base) F30 (PySem.W.mg_of IK IG a30) B30 h_g_tuple
  have C_l_straight := cal_l_straight (P := l.prog) (w := w) (base := base) F31 (PySem.W.mg_of IK IG a31) B31 h_g_len h_g_tuple
  have C_l_walk := cal_l_walk (P := l.prog) (w := w) (base := base) F32 (PySem.W.mg_of IK IG a32) B32 h_g_range C_l_pick h_g_tuple
  have C_l_turn := cal_l_turn (P := l.prog) (w := w) (base := base) F33 (PySem.W.mg_of IK IG a33) B33 h_g_list h_g_range h_g_len C_l_pick h_g_tuple
  have C_l_book := cal_l_book (P := l.prog) (w := w) (base := base) F34 (PySem.W.mg_of IK IG a34) B34 h_g_range C_l_pick C_l_turn h_g_tuple h_g_int h_g_list
  have C_l_short := cal_l_short (P := l.prog) (w := w) (base := base) F35 (PySem.W.mg_of IK IG a35) B35 h_g_range C_l_pick C_l_walk h_g_tuple
  have C_l_rows := cal_l_rows (P := l.prog) (w := w) (base := base) F36 (PySem.W.mg_of IK IG a36) B36 h_g_enumerate h_g_list
  have C_l_goals := cal_l_goals (P := l.prog) (w := w) (base := base) F37 (PySem.W.mg_of IK IG a37) B37 h_g_list h_g_range h_g_len C_l_rows h_g_tuple
  have C_l_far_goals := cal_l_far_goals (P := l.prog) (w := w) (base := base) F38 (PySem.W.mg_of IK IG a38) B38 h_g_list h_g_range h_g_len h_g_int
  have C_l_short_goals := cal_l_short_goals (P := l.prog) (w := w) (base := base) F39 (PySem.W.mg_of IK IG a39) B39 h_g_list h_g_range h_g_len C_l_far_goals C_l_goals C_l_back h_g_abs h_g_tuple
  have C_l_circles := cal_l_circles (P := l.prog) (w := w) (base := base) F40 (PySem.W.mg_of IK IG a40) B40 h_g_range h_g_len h_g_min h_g_sorted
  have C_l_common_round := cal_l_common_round (P := l.prog) (w := w) (base := base) F41 (PySem.W.mg_of IK IG a41) B41 h_g_len h_g_int
  have C_l_parts := cal_l_parts (P := l.prog) (w := w) (base := base) F42 (PySem.W.mg_of IK IG a42) B42 h_g_list h_g_range h_g_len h_g_enumerate h_g_min h_g_sorted h_g_set
  have C_l_spoilt := cal_l_spoilt (P := l.prog) (w := w) (base := base) F43 (PySem.W.mg_of IK IG a43) B43 h_g_len
  have C_l_lists_right := cal_l_lists_right (P := l.prog) (w := w) (base := base) F44 (PySem.W.mg_of IK IG a44) B44 h_g_repr C_l_parts C_p_circles C_l_spoilt C_p_parts
  have C_l_walk_right := cal_l_walk_right (P := l.prog) (w := w) (base := base) F45 (PySem.W.mg_of IK IG a45) B45 C_l_goals h_g_len h_g_repr C_p_turn_of C_l_pick C_p_place_after C_l_circles C_l_common_round C_p_times_round C_l_lists_right
  have C_l_law := cal_l_law (P := l.prog) (w := w) (base := base) F46 (PySem.W.mg_of IK IG a46) B46 h_g_range h_g_max h_g_min h_g_len C_l_well C_l_pick C_l_book C_p_is_book C_l_walk C_l_walk_right C_l_short h_g_repr C_l_short_goals C_p_short_turn C_l_straight C_p_power C_p_turn_of C_l_goals C_p_place_after h_g_tuple
  obtain ⟨f_, fd_, Fn_, G_, hm_, _⟩ := C_l_law.ex
  have e := hm_.symm.trans (PySem.W.mg_of IK IG a46)
  cases e
  obtain ⟨_, _, _, _, _, _, _, _, _, rfl, lk_, _⟩ := Fn_.ex
  rw [b46] at lk_
  cases lk_
  exact G_
end L31
open PySem PySem.W PyProof.Rows
set_option maxRecDepth 100000 in
set_option maxHeartbeats 0 in
theorem PySem.Challenge.cw_walkclubs_k31_books_walked_holds : PySem.Challenge.rw_walkclubs_k31_books_walked.Holds := by
  w_on; o_law; k_head; (case hw => w_witness2)
  k_fill
  refine Z.walk_ofG (l := PySem.Challenge.rw_walkclubs_k31_books_walked) (n := 63) (k := 8) (x := "_law_script") (m := L31.m_l_law) rfl (by decide) rfl ⟨rfl, by decide, by decide⟩ (fun w h Y => PySem.W.kIn_of Y) ?F L31.law_true
  case F =>
    intro w mg fa h KI KG hmg
    refine' L31.tops KI KG hmg ?a0 ?b0 ?c0 ?d0 ?a1 ?b1 ?c1 ?d1 ?a2 ?b2 ?c2 ?d2 ?a3 ?b3 ?c3 ?d3 ?a4 ?b4 ?c4 ?d4 ?a5 ?b5 ?c5 ?d5 ?a6 ?b6 ?c6 ?d6 ?a7 ?b7 ?c7 ?d7 ?a8 ?b8 ?c8 ?d8 ?a9 ?b9 ?c9 ?d9 ?a10 ?b10 ?c10 ?d10 ?a11 ?b11 ?c11 ?d11 ?a12 ?b12 ?c12 ?d12 ?a13 ?b13 ?c13 ?d13 ?a14 ?b14 ?c14 ?d14 ?a15 ?b15 ?c15 ?d15 ?a16 ?b16 ?c16 ?d16 ?a17 ?b17 ?c17 ?d17 ?a18 ?b18 ?c18 ?d18 ?a19 ?b19 ?c19 ?d19 ?a20 ?b20 ?c20 ?d20 ?a21 ?b21 ?c21 ?d21 ?a22 ?b22 ?c22 ?d22 ?a23 ?b23 ?c23 ?d23 ?a24 ?b24 ?c24 ?d24 ?a25 ?b25 ?c25 ?d25 ?a26 ?b26 ?c26 ?d26 ?a27 ?b27 ?c27 ?d27 ?a28 ?b28 ?c28 ?d28 ?a29 ?b29 ?c29 ?d29 ?a30 ?b30 ?c30 ?d30 ?a31 ?b31 ?c31 ?d31 ?a32 ?b32 ?c32 ?d32 ?a33 ?b33 ?c33 ?d33 ?a34 ?b34 ?c34 ?d34 ?a35 ?b35 ?c35 ?d35 ?a36 ?b36 ?c36 ?d36 ?a37 ?b37 ?c37 ?d37 ?a38 ?b38 ?c38 ?d38 ?a39 ?b39 ?c39 ?d39 ?a40 ?b40 ?c40 ?d40 ?a41 ?b41 ?c41 ?d41 ?a42 ?b42 ?c42 ?d42 ?a43 ?b43 ?c43 ?d43 ?a44 ?b44 ?c44 ?d44 ?a45 ?b45 ?c45 ?d45 ?a46 ?b46 ?c46 ?d46 ?g_len ?g_tuple ?g_isinstance ?g_int ?g_bool ?g_MOST_LETTERS ?g_abs ?g_all ?g_MOST_TIMES_shorts ?g_MOST_PARTS ?g_sorted ?g_list ?g_range ?g_MOST_PLACES ?g_enumerate ?g_lcm ?g_MOST_TIMES_walks ?g_sum ?g_max ?g_min ?g_set ?g_repr
    (case a0 => k_is)
    (case b0 => k_is)
    (case c0 => k_is)
    (case d0 => k_is)
    (case a1 => k_is)
    (case b1 => k_is)
    (case c1 => k_is)
    (case d1 => k_is)
    (case a2 => k_is)
    (case b2 => k_is)
    (case c2 => k_is)
    (case d2 => k_is)
    (case a3 => k_is)
    (case b3 => k_is)
    (case c3 => k_is)
    (case d3 => k_is)
    (case a4 => k_is)
    (case b4 => k_is)
    (case c4 => k_is)
    (case d4 => k_is)
    (case a5 => k_is)
    (case b5 => k_is)
    (case c5 => k_is)
    (case d5 => k_is)
    (case a6 => k_is)
    (case b6 => k_is)
    (case c6 => k_is)
    (case d6 => k_is)
    (case a7 => k_is)
    (case b7 => k_is)
    (case c7 => k_is)
    (case d7 => k_is)
    (case a8 => k_is)
    (case b8 => k_is)
    (case c8 => k_is)
    (case d8 => k_is)
    (case a9 => k_is)
    (case b9 => k_is)
    (case c9 => k_is)
    (case d9 => k_is)
    (case a10 => k_is)
    (case b10 => k_is)
    (case c10 => k_is)
    (case d10 => k_is)
    (case a11 => k_is)
    (case b11 => k_is)
    (case c11 => k_is)
    (case d11 => k_is)
    (case a12 => k_is)
    (case b12 => k_is)
    (case c12 => k_is)
    (case d12 => k_is)
    (case a13 => k_is)
    (case b13 => k_is)
    (case c13 => k_is)
    (case d13 => k_is)
    (case a14 => k_is)
    (case b14 => k_is)
    (case c14 => k_is)
    (case d14 => k_is)
    (case a15 => k_is)
    (case b15 => k_is)
    (case c15 => k_is)
    (case d15 => k_is)
    (case a16 => k_is)
    (case b16 => k_is)
    (case c16 => k_is)
    (case d16 => k_is)
    (case a17 => k_is)
    (case b17 => k_is)
    (case c17 => k_is)
    (case d17 => k_is)
    (case a18 => k_is)
    (case b18 => k_is)
    (case c18 => k_is)
    (case d18 => k_is)
    (case a19 => k_is)
    (case b19 => k_is)
    (case c19 => k_is)
    (case d19 => k_is)
    (case a20 => k_is)
    (case b20 => k_is)
    (case c20 => k_is)
    (case d20 => k_is)
    (case a21 => k_is)
    (case b21 => k_is)
    (case c21 => k_is)
    (case d21 => k_is)
    (case a22 => k_is)
    (case b22 => k_is)
    (case c22 => k_is)
    (case d22 => k_is)
    (case a23 => k_is)
    (case b23 => k_is)
    (case c23 => k_is)
    (case d23 => k_is)
    (case a24 => k_is)
    (case b24 => k_is)
    (case c24 => k_is)
    (case d24 => k_is)
    (case a25 => k_is)
    (case b25 => k_is)
    (case c25 => k_is)
    (case d25 => k_is)
    (case a26 => k_is)
    (case b26 => k_is)
    (case c26 => k_is)
    (case d26 => k_is)
    (case a27 => k_is)
    (case b27 => k_is)
    (case c27 => k_is)
    (case d27 => k_is)
    (case a28 => k_is)
    (case b28 => k_is)
    (case c28 => k_is)
    (case d28 => k_is)
    (case a29 => k_is)
    (case b29 => k_is)
    (case c29 => k_is)
    (case d29 => k_is)
    (case a30 => k_is)
    (case b30 => k_is)
    (case c30 => k_is)
    (case d30 => k_is)
    (case a31 => k_is)
    (case b31 => k_is)
    (case c31 => k_is)
    (case d31 => k_is)
    (case a32 => k_is)
    (case b32 => k_is)
    (case c32 => k_is)
    (case d32 => k_is)
    (case a33 => k_is)
    (case b33 => k_is)
    (case c33 => k_is)
    (case d33 => k_is)
    (case a34 => k_is)
    (case b34 => k_is)
    (case c34 => k_is)
    (case d34 => k_is)
    (case a35 => k_is)
    (case b35 => k_is)
    (case c35 => k_is)
    (case d35 => k_is)
    (case a36 => k_is)
    (case b36 => k_is)
    (case c36 => k_is)
    (case d36 => k_is)
    (case a37 => k_is)
    (case b37 => k_is)
    (case c37 => k_is)
    (case d37 => k_is)
    (case a38 => k_is)
    (case b38 => k_is)
    (case c38 => k_is)
    (case d38 => k_is)
    (case a39 => k_is)
    (case b39 => k_is)
    (case c39 => k_is)
    (case d39 => k_is)
    (case a40 => k_is)
    (case b40 => k_is)
    (case c40 => k_is)
    (case d40 => k_is)
    (case a41 => k_is)
    (case b41 => k_is)
    (case c41 => k_is)
    (case d41 => k_is)
    (case a42 => k_is)
    (case b42 => k_is)
    (case c42 => k_is)
    (case d42 => k_is)
    (case a43 => k_is)
    (case b43 => k_is)
    (case c43 => k_is)
    (case d43 => k_is)
    (case a44 => k_is)
    (case b44 => k_is)
    (case c44 => k_is)
    (case d44 => k_is)
    (case a45 => k_is)
    (case b45 => k_is)
    (case c45 => k_is)
    (case d45 => k_is)
    (case a46 => k_is)
    (case b46 => k_is)
    (case c46 => k_is)
    (case d46 => k_is)
    (case g_len => k_is)
    (case g_tuple => k_is)
    (case g_isinstance => k_is)
    (case g_int => k_is)
    (case g_bool => k_is)
    (case g_MOST_LETTERS => k_is)
    (case g_abs => k_is)
    (case g_all => k_is)
    (case g_MOST_TIMES_shorts => k_is)
    (case g_MOST_PARTS => k_is)
    (case g_sorted => k_is)
    (case g_list => k_is)
    (case g_range => k_is)
    (case g_MOST_PLACES => k_is)
    (case g_enumerate => k_is)
    (case g_lcm => k_is)
    (case g_MOST_TIMES_walks => k_is)
    (case g_sum => k_is)
    (case g_max => k_is)
    (case g_min => k_is)
    (case g_set => k_is)
    (case g_repr => k_is)
