import PyProof.Rows.All
import Wide.All
import OpenK.AllK
import Wide.FinOn
import HandS.ForMost
import HandS.Wide
import HandS.TupAny
import HandS.RaiseMore
import PyProof.ReprRoads
import HandS.Style
import HandS.IsInst
import HandS.Gcd
import KE.KMathGC
import HandS.Conv
import HandS.TupMul
import HandS.RevTup
import PyProof.ListMulRoad
import PyProof.FactsAll.tuple_2
import HandS.Iter
import KE.GoesEnum
import KE.GoesMore
import HandS.Dict
import HandS.SetKeys
import HandS.DictComp
import KE.KDictSum
import HandS.Small
import HandS.NoneIn
import KE.KDictDisplayH
import HandS.Zip
import HandS.WideBits
import PySem.Challenge.RW_walkclubs_k18_members_of_each_length
set_option Elab.async false
set_option linter.all false
set_option maxRecDepth 100000
set_option maxHeartbeats 1000000
/-! Z, part A: owned and frozen objects, slots, the judgements EX, TX, AX, SX over HandS. -/
namespace Z
open PySem PySem.Spec PyProof.Rows L2

/-! ### data: what a value stands for, all of it tracked -/
def kPD : Key → PyData
  | .inl i => .int i
  | .inr x => .str x
mutual
inductive Dq (H : Hp) : V → PyData → Prop
  | non : Dq H .non .none
  | bl (b : Bool) : Dq H (.bl b) (.bool b)
  | int (i : Int) : Dq H (.int i) (.int i)
  | str (x : Str) : Dq H (.str x) (.str x)
  | lst {a : Addr} {xs : List V} {ds : List PyData} : H a = some (.lst xs) → DqAll H xs ds → Dq H (.ref a) (.list ds)
  | tup {a : Addr} {xs : List V} {ds : List PyData} : H a = some (.tup xs) → DqAll H xs ds → Dq H (.ref a) (.tuple ds)
  | dctK {a : Addr} {o : Obj} {kvs : List (Key × V)} {ps : List (PyData × PyData)} : H a = some (.frz o (.dK kvs)) → kvs.map (fun p => kPD p.1) = ps.map (·.1) → DqAll H (kvs.map (·.2)) (ps.map (·.2)) → Dq H (.ref a) (.dict ps)
  | dctT {a : Addr} {o : Obj} {kvs : List (List Key × V)} {ps : List (PyData × PyData)} : H a = some (.frz o (.dT kvs)) → kvs.map (fun p => PyData.tuple (p.1.map kPD)) = ps.map (·.1) → DqAll H (kvs.map (·.2)) (ps.map (·.2)) → Dq H (.ref a) (.dict ((.none, .none) :: ps))
inductive DqAll (H : Hp) : List V → List PyData → Prop
  | nil : DqAll H [] []
  | cons {v : V} {vs : List V} {d : PyData} {ds : List PyData} : Dq H v d → DqAll H vs ds → DqAll H (v :: vs) (d :: ds)
end
mutual
theorem dq_monoH {H H' : Hp} (e : Same H H') : ∀ {v : V} {d : PyData}, Dq H v d → Dq H' v d
  | _, _, .non => .non
  | _, _, .bl _ => .bl _
  | _, _, .int _ => .int _
  | _, _, .str _ => .str _
  | _, _, .lst hs ha => .lst (e _ _ hs) (dqall_monoH e ha)
  | _, _, .tup hs ha => .tup (e _ _ hs) (dqall_monoH e ha)
  | _, _, .dctK hs hk ha => .dctK (e _ _ hs) hk (dqall_monoH e ha)
  | _, _, .dctT hs hk ha => .dctT (e _ _ hs) hk (dqall_monoH e ha)
theorem dqall_monoH {H H' : Hp} (e : Same H H') : ∀ {vs : List V} {ds : List PyData}, DqAll H vs ds → DqAll H' vs ds
  | _, _, .nil => .nil
  | _, _, .cons h1 h2 => .cons (dq_monoH e h1) (dqall_monoH e h2)
end
theorem dq_mono {H H' : Hp} (e : Same H H') (d : PyData) (v : V) (h : Dq H v d) : Dq H' v d := dq_monoH e h
theorem dqall_mono {H H' : Hp} (e : Same H H') (ds : List PyData) (vs : List V) (h : DqAll H vs ds) : DqAll H' vs ds := dqall_monoH e h
mutual
theorem nod_lay : ∀ d : PyData, d.canLay0 = true → d.hasDict = false
  | .none, _ => by simp [PyData.hasDict]
  | .bool _, _ => by simp [PyData.hasDict]
  | .int _, _ => by simp [PyData.hasDict]
  | .str _, _ => by simp [PyData.hasDict]
  | .list ds, c => by
    simp only [PyData.hasDict]
    exact nodall_lay ds (by simpa [PyData.canLay0] using c)
  | .tuple ds, c => by
    simp only [PyData.hasDict]
    exact nodall_lay ds (by simpa [PyData.canLay0] using c)
  | .dict _, c => by simp [PyData.canLay0] at c
theorem nodall_lay : ∀ ds : List PyData, PyData.canLayAll0 ds = true → PyData.hasDictAll ds = false
  | [], _ => by simp [PyData.hasDictAll]
  | d :: ds, c => by
    have c2 : d.canLay0 = true ∧ PyData.canLayAll0 ds = true := by simpa [PyData.canLayAll0] using c
    simp [PyData.hasDictAll, nod_lay d c2.1, nodall_lay ds c2.2]
end
mutual
theorem dq_dp (K : PySem.W.Frag) {H : Hp} : ∀ (d : PyData) (v : V), d.hasDict = false → Dq H v d → Dp K H v d
  | .none, _, _, h => by cases h; exact .non
  | .bool _, _, _, h => by cases h; exact .bl _
  | .int _, _, _, h => by cases h; exact .int _
  | .str _, _, _, h => by cases h; exact .str _
  | .list ds, _, c, h => by
    cases h with
    | lst hs ha => exact .lst (.of hs) (dqall_dp K ds _ (by simpa [PyData.hasDict] using c) ha)
  | .tuple ds, _, c, h => by
    cases h with
    | tup hs ha => exact .tup (.of hs) (dqall_dp K ds _ (by simpa [PyData.hasDict] using c) ha)
  | .dict _, _, c, h => by simp [PyData.hasDict] at c
theorem dqall_dp (K : PySem.W.Frag) {H : Hp} : ∀ (ds : List PyData) (vs : List V), PyData.hasDictAll ds = false → DqAll H vs ds → DpAll K H vs ds
  | [], _, _, h => by cases h; exact .nil
  | d :: ds, _, c, h => by
    have c2 : d.hasDict = false ∧ PyData.hasDictAll ds = false := by simpa [PyData.hasDictAll] using c
    cases h with
    | cons h1 h2 => exact .cons (dq_dp K d _ c2.1 h1) (dqall_dp K ds _ c2.2 h2)
end
theorem same_upd {H : Hp} {p : Addr} {o : HO} (h : H p = none) : Same H (upd H p o) := fun b x e => by
  rw [upd_ne (ne_of_none e h)]
  exact e
theorem dqall_len {H : Hp} : ∀ {ds : List PyData} {vs : List V}, DqAll H vs ds → vs.length = ds.length
  | [], _, h => by cases h; rfl
  | d :: ds, _, h => by
    cases h with
    | cons h1 h2 => rw [List.length_cons, List.length_cons, dqall_len h2]
theorem dqall_get {H : Hp} : ∀ {ds : List PyData} {vs : List V} {i : Nat} {v : V}, DqAll H vs ds → vs[i]? = some v → ∃ d, ds[i]? = some d ∧ Dq H v d
  | [], _, i, v, h, e => by cases h; simp at e
  | d :: ds, _, i, v, h, e => by
    cases h with
    | cons h1 h2 =>
      cases i with
      | zero =>
        simp at e
        subst e
        exact ⟨d, rfl, h1⟩
      | succ i => exact dqall_get (i := i) h2 (by simpa using e)
theorem dqall_get' {H : Hp} : ∀ {ds : List PyData} {vs : List V} {i : Nat} {d : PyData}, DqAll H vs ds → ds[i]? = some d → ∃ v, vs[i]? = some v ∧ Dq H v d
  | [], _, i, v, h, e => by simp at e
  | d :: ds, _, i, v, h, e => by
    cases h with
    | cons h1 h2 =>
      cases i with
      | zero =>
        simp at e
        subst e
        exact ⟨_, rfl, h1⟩
      | succ i => exact dqall_get' (i := i) h2 (by simpa using e)
theorem dqall_app {H : Hp} : ∀ {ds es : List PyData} {vs us : List V}, DqAll H vs ds → DqAll H us es → DqAll H (vs ++ us) (ds ++ es)
  | [], _, _, _, h, g => by cases h; exact g
  | d :: ds, _, _, _, h, g => by
    cases h with
    | cons h1 h2 => exact .cons h1 (dqall_app h2 g)
theorem dqall_take {H : Hp} : ∀ {ds : List PyData} {vs : List V} (n : Nat), DqAll H vs ds → DqAll H (vs.take n) (ds.take n)
  | _, _, 0, _ => .nil
  | [], _, n + 1, h => by cases h; exact .nil
  | d :: ds, _, n + 1, h => by
    cases h with
    | cons h1 h2 => exact .cons h1 (dqall_take n h2)
theorem dqall_drop {H : Hp} : ∀ {ds : List PyData} {vs : List V} (n : Nat), DqAll H vs ds → DqAll H (vs.drop n) (ds.drop n)
  | _, _, 0, h => h
  | [], _, n + 1, h => by cases h; exact .nil
  | d :: ds, _, n + 1, h => by
    cases h with
    | cons h1 h2 => exact dqall_drop n h2
theorem dqall_set {H : Hp} {v : V} {d : PyData} (hd : Dq H v d) : ∀ {ds : List PyData} {vs : List V} (i : Nat), DqAll H vs ds → DqAll H (vs.set i v) (ds.set i d)
  | [], _, _, h => by cases h; exact .nil
  | d :: ds, _, 0, h => by
    cases h with
    | cons h1 h2 => exact .cons hd h2
  | d :: ds, _, i + 1, h => by
    cases h with
    | cons h1 h2 => exact .cons h1 (dqall_set hd i h2)
theorem dqall_ints {H : Hp} : ∀ (ns : List Int), DqAll H (ns.map V.int) (ns.map PyData.int)
  | [] => .nil
  | n :: ns => .cons (.int n) (dqall_ints ns)
theorem dqall_of_ints {H : Hp} : ∀ (ns : List Int) {vs : List V}, DqAll H vs (ns.map PyData.int) → vs = ns.map V.int
  | [], _, h => by cases h; rfl
  | n :: ns, _, h => by
    cases h with
    | cons h1 h2 =>
      cases h1
      rw [dqall_of_ints ns h2, List.map_cons]
theorem dqall_of_bools {H : Hp} : ∀ (ns : List Bool) {vs : List V}, DqAll H vs (ns.map PyData.bool) → vs = ns.map V.bl
  | [], _, h => by cases h; rfl
  | n :: ns, _, h => by
    cases h with
    | cons h1 h2 =>
      cases h1
      rw [dqall_of_bools ns h2, List.map_cons]

/-! ### what is owned, what is frozen -/
/-- an entry: its address, what is frozen, its own piece of the heap -/
abbrev Ent := Addr → Hp → Hp → Prop
abbrev Os := List (Addr × Ent)
abbrev VP := Hp → V → Prop
abbrev Slot := Hp → Option V → Prop
def Cl (φ : VP) (F : Hp) (v : V) : Prop := ∀ F', Same F F' → φ F' v
theorem Cl.mono {φ : VP} {F F' : Hp} {v : V} (h : Cl φ F v) (e : Same F F') : Cl φ F' v := fun G g => h G (e.trans g)
theorem Cl.now {φ : VP} {F : Hp} {v : V} (h : Cl φ F v) : φ F v := h F (Same.refl F)
def dat (d : PyData) : VP := fun F v => Dq F v d
def own (p : Addr) : VP := fun _ v => v = .ref p
theorem cl_dat {d : PyData} {F : Hp} {v : V} (h : Dq F v d) : Cl (dat d) F v := fun _ e => dq_mono e d v h
theorem cl_own {p : Addr} {F : Hp} : Cl (own p) F (.ref p) := fun _ _ => rfl
/-- the heap with one thing alone -/
def one (p : Addr) (o : HO) : Hp := upd (fun _ => none) p o
theorem one_at {p : Addr} {o : HO} : one p o p = some o := upd_same
theorem one_ne {p q : Addr} {o : HO} (h : q ≠ p) : one p o q = none := by unfold one; rw [upd_ne h]
theorem one_of {p q : Addr} {o : HO} (h : one p o q ≠ none) : q = p := Classical.byContradiction fun k => h (one_ne k)
/-- a list of one's own, its items data -/
def ol (ds : List PyData) : Ent := fun p F h => ∃ vs, h = one p (.lst vs) ∧ DqAll F vs ds
def sl (φ : VP) : Slot := fun F o => ∃ v, o = some v ∧ φ F v
def un : Slot := fun _ _ => True
/-- h over H -/
def ov (h H : Hp) : Hp := fun a => match h a with
  | some o => some o
  | none => H a
theorem ov_some {h H : Hp} {a : Addr} {o : HO} (e : h a = some o) : ov h H a = some o := by unfold ov; rw [e]
theorem ov_none {h H : Hp} {a : Addr} (e : h a = none) : ov h H a = H a := by unfold ov; rw [e]
theorem ov_one {p : Addr} {o : HO} {H : Hp} : ov (one p o) H = upd H p o := by
  funext a
  by_cases h : a = p
  · subst h; rw [ov_some one_at, upd_same]
  · rw [ov_none (one_ne h), upd_ne h]
theorem ov_same {h H : Hp} (e : Same h H) : ov h H = H := by
  funext a
  cases q : h a with
  | none => exact ov_none q
  | some o => rw [ov_some q, e a o q]
/-- apart -/
def Ap (h k : Hp) : Prop := ∀ a, h a ≠ none → k a = none
theorem Ap.symm {h k : Hp} (x : Ap h k) : Ap k h := fun a e => Classical.byContradiction fun q => e (x a q)
inductive Pcs (F : Hp) : Os → List Hp → Prop
  | nil : Pcs F [] []
  | cons {q : Addr × Ent} {os : Os} {h : Hp} {hs : List Hp} : (∀ F', Same F F' → q.2 q.1 F' h) → Pcs F os hs → Pcs F (q :: os) (h :: hs)
theorem Pcs.mono {F F' : Hp} (e : Same F F') : ∀ {os : Os} {hs : List Hp}, Pcs F os hs → Pcs F' os hs
  | _, _, .nil => .nil
  | _, _, .cons h1 h2 => .cons (fun G g => h1 G (e.trans g)) (h2.mono e)
theorem Pcs.perm {F : Hp} {os os' : Os} (p : os.Perm os') : ∀ {hs : List Hp}, Pcs F os hs → ∃ hs', Pcs F os' hs' ∧ hs.Perm hs' := by
  induction p with
  | nil => intro hs h; exact ⟨hs, h, List.Perm.refl _⟩
  | cons x p ih =>
    intro hs h
    cases h with
    | cons h1 h2 =>
      obtain ⟨hs', a, b⟩ := ih h2
      exact ⟨_, .cons h1 a, b.cons _⟩
  | swap x y l =>
    intro hs h
    cases h with
    | cons h1 h2 =>
      cases h2 with
      | cons h2 h3 => exact ⟨_, .cons h2 (.cons h1 h3), List.Perm.swap _ _ _⟩
  | trans p q ih1 ih2 =>
    intro hs h
    obtain ⟨hs1, a, b⟩ := ih1 h
    obtain ⟨hs2, c, d⟩ := ih2 a
    exact ⟨hs2, c, b.trans d⟩

/-- no tuples -/
def NT (h : Hp) : Prop := ∀ a xs, h a ≠ some (.tup xs)
theorem nt_one {p : Addr} {o : HO} (h : ∀ xs, o ≠ .tup xs) : NT (one p o) := fun a xs e => by
  by_cases q : a = p
  · rw [q, one_at] at e
    exact h xs (Option.some.inj e)
  · rw [one_ne q] at e
    cases e
structure Ow (F : Hp) (os : Os) (H : Hp) : Prop where
  ex : Same F H
  ps : ∃ hs, Pcs F os hs ∧ (∀ h ∈ hs, Same h H ∧ Ap F h ∧ NT h) ∧ hs.Pairwise Ap

section
variable {F F' H H' : Hp} {os os' : Os} {p : Addr} {e e' : Ent} {o : HO}
theorem Ow.perm (h : Ow F os H) (hp : os.Perm os') : Ow F os' H := by
  obtain ⟨hs, a, b, c⟩ := h.ps
  obtain ⟨hs', a', q⟩ := a.perm hp
  exact ⟨h.ex, hs', a', fun k hk => b k (q.mem_iff.mpr hk), q.pairwise c fun x => x.symm⟩
/-- what is new is frozen -/
theorem Ow.frozen (h : Ow F os H) (hp : H p = none) : Ow (upd F p o) os (upd H p o) := by
  have fp : F p = none := h.ex.free hp
  obtain ⟨hs, a, b, c⟩ := h.ps
  refine ⟨fun q x eb => ?_, hs, a.mono (same_upd fp), fun k hk => ?_, c⟩
  · by_cases hb : q = p
    · subst hb
      rw [upd_same] at eb ⊢
      exact eb
    · rw [upd_ne hb] at eb ⊢
      exact h.ex q x eb
  · obtain ⟨s, x, nt⟩ := b k hk
    have kp : k p = none := s.free hp
    refine ⟨s.trans (same_upd hp), fun q eq => ?_, nt⟩
    by_cases hb : q = p
    · rw [hb]; exact kp
    · rw [upd_ne hb] at eq
      exact x q eq
/-- a piece of new things -/
theorem Ow.newP {k : Hp} (h : Ow F os H) (hk : ∀ a, k a ≠ none → H a = none) (nt : NT k) (he : ∀ F', Same F F' → e p F' k) : Ow F ((p, e) :: os) (ov k H) := by
  obtain ⟨hs, a, b, c⟩ := h.ps
  have s : Same H (ov k H) := fun q x eq => by
    cases z : k q with
    | none => rw [ov_none z]; exact eq
    | some u => rw [hk q (by rw [z]; simp)] at eq; cases eq
  refine ⟨h.ex.trans s, k :: hs, .cons he a, fun g hg => ?_, List.pairwise_cons.mpr ⟨fun g hg => ?_, c⟩⟩
  · rcases List.mem_cons.mp hg with rfl | hg
    · exact ⟨fun q x eq => ov_some eq, Ap.symm fun q eq => h.ex.free (hk q eq), nt⟩
    · exact ⟨(b g hg).1.trans s, (b g hg).2⟩
  · exact fun q eq => (b g hg).1.free (hk q eq)
theorem Ow.new (h : Ow F os H) (hp : H p = none) (he : ∀ F', Same F F' → e p F' (one p o)) (nt : ∀ xs, o ≠ .tup xs := by intro _ z; cases z) : Ow F ((p, e) :: os) (upd H p o) := by
  rw [← ov_one]
  exact h.newP (fun a ha => by rw [one_of ha]; exact hp) (nt_one nt) he
/-- the first piece, and what may stand in its place -/
theorem Ow.wr (h : Ow F ((p, e) :: os) H) : ∃ k, (∀ F', Same F F' → e p F' k) ∧ Same k H ∧ Ap F k ∧ NT k ∧
    ∀ q e' k', (∀ a, k' a ≠ none → k a ≠ none ∨ H a = none) → NT k' → (∀ F', Same F F' → e' q F' k') → Ow F ((q, e') :: os) (ov k' H) := by
  obtain ⟨hs, a, b, c⟩ := h.ps
  cases a with
  | @cons _ _ k hs h1 h2 =>
    obtain ⟨c1, c2⟩ := List.pairwise_cons.mp c
    obtain ⟨s, x, nt⟩ := b k List.mem_cons_self
    refine ⟨k, h1, s, x, nt, fun q e' k' hk nt' he => ?_⟩
    have out : ∀ g : Hp, Same g H → Ap k g → Same g (ov k' H) ∧ Ap k' g := fun g sg ag => by
      have z : ∀ a, k' a ≠ none → g a = none := fun a ha => by
        rcases hk a ha with r | r
        · exact ag a r
        · exact sg.free r
      refine ⟨fun a u eu => ?_, z⟩
      cases y : k' a with
      | none => rw [ov_none y]; exact sg a u eu
      | some w =>
        rw [z a (by rw [y]; simp)] at eu
        cases eu
    obtain ⟨f1, f2⟩ := out F h.ex x.symm
    refine ⟨f1, k' :: hs, .cons he h2, fun g hg => ?_, List.pairwise_cons.mpr ⟨fun g hg => ?_, c2⟩⟩
    · rcases List.mem_cons.mp hg with rfl | hg
      · exact ⟨fun a u eu => ov_some eu, f2.symm, nt'⟩
      · exact ⟨(out g (b g (List.mem_cons_of_mem _ hg)).1 (c1 g hg)).1, (b g (List.mem_cons_of_mem _ hg)).2⟩
    · exact (out g (b g (List.mem_cons_of_mem _ hg)).1 (c1 g hg)).2
theorem Ow.drop (h : Ow F ((p, e) :: os) H) : Ow F os H := by
  obtain ⟨hs, a, b, c⟩ := h.ps
  cases a with
  | cons h1 h2 => exact ⟨h.ex, _, h2, fun g hg => b g (List.mem_cons_of_mem _ hg), (List.pairwise_cons.mp c).2⟩
theorem Ow.freeze (h : Ow F ((p, e) :: os) H) : ∃ k, (∀ F', Same F F' → e p F' k) ∧ Same k H ∧ Ap F k ∧ Same F (ov k F) ∧ Ow (ov k F) os H := by
  obtain ⟨hs, a, b, c⟩ := h.ps
  cases a with
  | @cons _ _ k hs h1 h2 =>
    obtain ⟨c1, c2⟩ := List.pairwise_cons.mp c
    obtain ⟨s, x, _⟩ := b k List.mem_cons_self
    have sf : Same F (ov k F) := fun a u eu => by
      rw [ov_none (x a (by rw [eu]; simp))]
      exact eu
    refine ⟨k, h1, s, x, sf, fun a u eu => ?_, hs, h2.mono sf, fun g hg => ⟨(b g (List.mem_cons_of_mem _ hg)).1, fun a ha => ?_, (b g (List.mem_cons_of_mem _ hg)).2.2⟩, c2⟩
    · cases y : k a with
      | none => rw [ov_none y] at eu; exact h.ex a u eu
      | some w => rw [ov_some y] at eu; cases eu; exact s a _ y
    · cases y : k a with
      | none => rw [ov_none y] at ha; exact (b g (List.mem_cons_of_mem _ hg)).2.1 a ha
      | some w => exact c1 g hg a (by rw [y]; simp)
theorem Ow.grow (h : Ow F os H) (k : Same H H') : Ow F os H' := by
  obtain ⟨hs, a, b, c⟩ := h.ps
  exact ⟨h.ex.trans k, hs, a, fun g hg => ⟨(b g hg).1.trans k, (b g hg).2⟩, c⟩
/-- a tuple that stands is frozen -/
theorem Ow.tup {xs : List V} (h : Ow F os H) (hp : H p = some (.tup xs)) : Same F (upd F p (.tup xs)) ∧ Ow (upd F p (.tup xs)) os H := by
  obtain ⟨hs, a, b, c⟩ := h.ps
  have sf : Same F (upd F p (.tup xs)) := fun q u eu => by
    by_cases z : q = p
    · subst z
      rw [upd_same, ← h.ex q u eu, hp]
    · rw [upd_ne z]
      exact eu
  refine ⟨sf, fun q u eu => ?_, hs, a.mono sf, fun g hg => ⟨(b g hg).1, fun q eq => ?_, (b g hg).2.2⟩, c⟩
  · by_cases z : q = p
    · subst z
      rw [upd_same] at eu
      rw [hp, eu]
    · rw [upd_ne z] at eu
      exact h.ex q u eu
  · by_cases z : q = p
    · subst z
      cases y : g q with
      | none => rfl
      | some w =>
        have e1 := (b g hg).1 q w y
        rw [hp] at e1
        cases e1
        exact ((b g hg).2.2 q xs y).elim
    · rw [upd_ne z] at eq
      exact (b g hg).2.1 q eq
/-- an entry known by less -/
theorem Ow.weak (h : Ow F ((p, e) :: os) H) (k : ∀ F' g, e p F' g → e' p F' g) : Ow F ((p, e') :: os) H := by
  obtain ⟨hs, a, b, c⟩ := h.ps
  cases a with
  | cons h1 h2 => exact ⟨h.ex, _, .cons (fun G g => k G _ (h1 G g)) h2, b, c⟩
/-- entries of one thing -/
def Uni (e : Ent) (r : Hp → HO → Prop) : Prop := ∀ p F h, e p F h → ∃ o, h = one p o ∧ r F o
theorem Ow.atU {r : Hp → HO → Prop} (u : Uni e r) (h : Ow F ((p, e) :: os) H) : F p = none ∧ ∃ o, H p = some o ∧ e p F (one p o) ∧ r F o := by
  obtain ⟨k, h1, s, x, _, _⟩ := h.wr
  obtain ⟨o, rfl, hr⟩ := u p F k (h1 F (Same.refl F))
  exact ⟨Classical.byContradiction fun q => (by have := x p q; rw [one_at] at this; cases this), o, s p o one_at, h1 F (Same.refl F), hr⟩
theorem Ow.putU {r : Hp → HO → Prop} (u : Uni e r) (h : Ow F ((p, e) :: os) H) (he : ∀ F', Same F F' → e' p F' (one p o)) (nt : ∀ xs, o ≠ .tup xs := by intro _ z; cases z) : Ow F ((p, e') :: os) (upd H p o) := by
  obtain ⟨k, h1, s, x, _, w⟩ := h.wr
  obtain ⟨o', rfl, hr⟩ := u p F k (h1 F (Same.refl F))
  rw [← ov_one]
  exact w p e' _ (fun a ha => .inl (by rw [one_of ha, one_at]; simp)) (nt_one nt) he
theorem Ow.freezeU {r : Hp → HO → Prop} (u : Uni e r) (h : Ow F ((p, e) :: os) H) : ∃ o, H p = some o ∧ r F o ∧ Same F (upd F p o) ∧ Ow (upd F p o) os H := by
  obtain ⟨k, h1, s, x, sf, w⟩ := h.freeze
  obtain ⟨o, rfl, hr⟩ := u p F k (h1 F (Same.refl F))
  rw [ov_one] at sf w
  exact ⟨o, s p o one_at, hr, sf, w⟩
theorem uni_ol {ds : List PyData} : Uni (ol ds) (fun F o => ∃ vs, o = .lst vs ∧ DqAll F vs ds) := fun p F h ⟨vs, e, d⟩ => ⟨_, e, vs, rfl, d⟩
theorem Ow.atL {ds : List PyData} (h : Ow F ((p, ol ds) :: os) H) : F p = none ∧ ∃ vs, H p = some (.lst vs) ∧ DqAll F vs ds := by
  obtain ⟨a, o, b, _, vs, rfl, d⟩ := h.atU uni_ol
  exact ⟨a, vs, b, d⟩
theorem Ow.putL {ds ds' : List PyData} {vs : List V} (h : Ow F ((p, ol ds) :: os) H) (hd : DqAll F vs ds') : Ow F ((p, ol ds') :: os) (upd H p (.lst vs)) :=
  h.putU uni_ol fun G g => ⟨vs, rfl, dqall_mono g _ _ hd⟩
end
theorem perm_at {α : Type} : ∀ {l : List α} {k : Nat} {q : α}, l[k]? = some q → l.Perm (q :: l.eraseIdx k)
  | [], k, q, h => by simp at h
  | x :: l, 0, q, h => by
    simp at h
    subst h
    exact List.Perm.refl _
  | x :: l, k + 1, q, h => by
    have h1 : l[k]? = some q := by simpa using h
    exact ((perm_at h1).cons x).trans (List.Perm.swap q x _)
theorem perm_set {α : Type} : ∀ {l : List α} {k : Nat} {q q' : α}, l[k]? = some q → (q' :: l.eraseIdx k).Perm (l.set k q')
  | [], k, q, q', h => by simp at h
  | x :: l, 0, q, q', h => List.Perm.refl _
  | x :: l, k + 1, q, q', h => by
    have h1 : l[k]? = some q := by simpa using h
    exact (List.Perm.swap x q' _).trans ((perm_set (q' := q') h1).cons x)

/-! ### slots -/
structure Sl (F : Hp) (es : List Slot) (σ : L2.St) : Prop where
  len : σ.length = es.length
  get : ∀ (i : Nat) (s : Slot), es[i]? = some s → ∃ v : Option V, σ[i]? = some v ∧ ∀ F', Same F F' → s F' v
section
variable {F F' H : Hp} {es : List Slot} {σ : L2.St} {i : Nat} {φ : VP} {v : V}
theorem Sl.mono (h : Sl F es σ) (e : Same F F') : Sl F' es σ := ⟨h.len, fun i s q => let ⟨v, a, b⟩ := h.get i s q; ⟨v, a, fun G g => b G (e.trans g)⟩⟩
theorem Sl.val (h : Sl F es σ) (q : es[i]? = some (sl φ)) : ∃ v, σ[i]? = some (some v) ∧ Cl φ F v := by
  obtain ⟨o, a, b⟩ := h.get i _ q
  obtain ⟨v, rfl, _⟩ := b F (Same.refl F)
  refine ⟨v, a, fun G g => ?_⟩
  obtain ⟨u, e, z⟩ := b G g
  cases e
  exact z
theorem Sl.set (h : Sl F es σ) {s : Slot} {o : Option V} (k : ∀ F', Same F F' → s F' o) : Sl F (es.set i s) (σ.set i o) := by
  refine ⟨by rw [List.length_set, List.length_set, h.len], fun j t q => ?_⟩
  by_cases hj : i = j
  · subst hj
    have hi : i < es.length := by
      have := (List.getElem?_eq_some_iff.mp q).1
      rw [List.length_set] at this
      exact this
    rw [List.getElem?_set_self hi] at q
    cases q
    exact ⟨o, List.getElem?_set_self (by rw [h.len]; exact hi), k⟩
  · rw [List.getElem?_set_ne hj] at q ⊢
    exact h.get j t q
theorem Sl.put (h : Sl F es σ) (k : Cl φ F v) : Sl F (es.set i (sl φ)) (σ.set i (some v)) := h.set fun G g => ⟨v, rfl, k G g⟩
theorem Sl.forget (h : Sl F es σ) : Sl F (es.set i un) σ := by
  refine ⟨by rw [List.length_set, h.len], fun j t q => ?_⟩
  by_cases hj : i = j
  · subst hj
    have hi : i < es.length := by
      have := (List.getElem?_eq_some_iff.mp q).1
      rw [List.length_set] at this
      exact this
    rw [List.getElem?_set_self hi] at q
    cases q
    have h2 : i < σ.length := by rw [h.len]; exact hi
    exact ⟨σ[i], List.getElem?_eq_getElem h2, fun _ _ => trivial⟩
  · rw [List.getElem?_set_ne hj] at q
    exact h.get j t q
/-- slots may be forgotten: each new one is the old one or un -/
def Wk : List Slot → List Slot → Prop
  | [], [] => True
  | s :: ss, t :: ts => (t = s ∨ t = un) ∧ Wk ss ts
  | _, _ => False
theorem wk_refl : ∀ es : List Slot, Wk es es
  | [] => trivial
  | _ :: ss => ⟨.inl rfl, wk_refl ss⟩
theorem wk_get : ∀ {es es' : List Slot} {i : Nat} {t : Slot}, Wk es es' → es'[i]? = some t → ∃ s, es[i]? = some s ∧ (t = s ∨ t = un)
  | [], [], i, t, _, h => by simp at h
  | [], _ :: _, _, _, h, _ => h.elim
  | _ :: _, [], _, _, h, _ => h.elim
  | s :: ss, t :: ts, 0, u, h, e => by
    simp at e
    subst e
    exact ⟨s, rfl, h.1⟩
  | s :: ss, t :: ts, i + 1, u, h, e => wk_get (i := i) h.2 (by simpa using e)
theorem wk_len : ∀ {es es' : List Slot}, Wk es es' → es.length = es'.length
  | [], [], _ => rfl
  | [], _ :: _, h => h.elim
  | _ :: _, [], h => h.elim
  | s :: ss, t :: ts, h => by rw [List.length_cons, List.length_cons, wk_len h.2]
theorem Sl.weak {es' : List Slot} (h : Sl F es σ) (w : Wk es es') : Sl F es' σ := by
  refine ⟨h.len.trans (wk_len w), fun i t q => ?_⟩
  obtain ⟨s, a, b⟩ := wk_get w q
  obtain ⟨v, c, d⟩ := h.get i s a
  refine ⟨v, c, fun G g => ?_⟩
  rcases b with rfl | rfl
  · exact d G g
  · trivial
end

/-! ### the judgements -/
section
variable (X : Cx)
def WE (e : Expr) (σ : L2.St) (H : Hp) (Q : VK) : Prop := ∀ pins s, Inv X pins σ H s → wpAny (model X.prog X.w) X.A (eval e X.env) (EP X pins σ Q) X.xe s
def WT (e : Expr) (σ : L2.St) (H : Hp) (Q : Bool → Hp → Prop) : Prop := ∀ pins s, Inv X pins σ H s → wpAny (model X.prog X.w) X.A (isTrue e X.env (eval e X.env)) (TP X pins σ Q) X.xe s
def WW (e : Expr) (σ : L2.St) (H : Hp) (Q : Bool → Hp → Prop) : Prop := ∀ (whole : Sem Value) pins s, Inv X pins σ H s → wpAny (model X.prog X.w) X.A (isTrue e X.env whole) (TP X pins σ Q) X.xe s
def WA (es : List Expr) (σ : L2.St) (H : Hp) (Q : List V → Hp → Prop) : Prop := ∀ pos pins s, Inv X pins σ H s → wpAny (model X.prog X.w) X.A (spliced (backTo pos (starEach es X.env))) (AP X pins σ Q) X.xe s
def WS (st : Stmt) (D : Ends) (σ : L2.St) (H : Hp) : Prop := ∀ pins s, Inv X pins σ H s → wpAny (model X.prog X.w) X.A (exec st X.env) (SP X pins D) X.xe s
def WPs (sts : List Stmt) (D : Ends) (σ : L2.St) (H : Hp) : Prop := ∀ pins s, Inv X pins σ H s → wpAny (model X.prog X.w) X.A (execs sts X.env) (SP X pins D) X.xe s
end
section
variable {X : Cx} {e : Expr} {es : List Expr} {st : Stmt} {sts : List Stmt} {σ : L2.St} {H : Hp} {Q : VK} {te : TE} {tt : TT} {ta : TA} {ts : TS}
theorem pe_u : PE X e (WE X e) := ⟨fun pins s _ _ _ I h => h pins s I⟩
theorem pt_u : PT X e (WT X e) := ⟨fun pins s _ _ _ I h => h pins s I⟩
theorem pw_u : PW X e (WW X e) := ⟨fun w pins s _ _ _ I h => h w pins s I⟩
theorem pa_u : PA X es (WA X es) := ⟨fun pos pins s _ _ _ I h => h pos pins s I⟩
theorem ps_u : PS X st (WS X st) := ⟨fun pins s _ _ _ I h => h pins s I⟩
theorem pss_u : PSs X sts (WPs X sts) := ⟨fun pins s _ _ _ I h => h pins s I⟩
theorem we_of (h : PE X e te) (q : te σ H Q) : WE X e σ H Q := fun pins s I => h.run pins s σ H Q I q
theorem wt_of {Q : Bool → Hp → Prop} (h : PT X e tt) (q : tt σ H Q) : WT X e σ H Q := fun pins s I => h.run pins s σ H Q I q
theorem ww_of {Q : Bool → Hp → Prop} (h : PW X e tt) (q : tt σ H Q) : WW X e σ H Q := fun w pins s I => h.run w pins s σ H Q I q
theorem wa_of {Q : List V → Hp → Prop} (h : PA X es ta) (q : ta σ H Q) : WA X es σ H Q := fun pos pins s I => h.run pos pins s σ H Q I q
theorem ws_of {D : Ends} (h : PS X st ts) (q : ts D σ H) : WS X st D σ H := fun pins s I => h.run pins s σ H D I q
theorem wps_of {D : Ends} (h : PSs X sts ts) (q : ts D σ H) : WPs X sts D σ H := fun pins s I => h.run pins s σ H D I q
theorem wps_cons {D : Ends} (h : WS X st { D with nx := WPs X sts D } σ H) : WPs X (st :: sts) D σ H := wps_of (pss_cons ps_u pss_u) h
theorem wps_nil {D : Ends} (h : D.nx σ H) : WPs X [] D σ H := wps_of pss_nil h
end

def ClA : List VP → Hp → List V → Prop
  | [], _, vs => vs = []
  | φ :: φs, F, vs => ∃ v r, vs = v :: r ∧ Cl φ F v ∧ ClA φs F r
theorem cla_mono {F F' : Hp} (e : Same F F') : ∀ {φs : List VP} {vs : List V}, ClA φs F vs → ClA φs F' vs
  | [], _, h => h
  | φ :: φs, _, ⟨v, r, e1, h1, h2⟩ => ⟨v, r, e1, h1.mono e, cla_mono e h2⟩
theorem cla_len {F : Hp} : ∀ {φs : List VP} {vs : List V}, ClA φs F vs → vs.length = φs.length
  | [], _, h => by rw [h]; rfl
  | φ :: φs, _, ⟨v, r, e1, h1, h2⟩ => by rw [e1, List.length_cons, List.length_cons, cla_len h2]
section
variable (X : Cx) (es : List Slot) (os : Os)
/-- e gives a value of which φ holds; what is owned goes from os to os' -/
def EX (e : Expr) (φ : VP) (os' : Os) : Prop := ∀ F σ H Q, Ow F os H → Sl F es σ → (∀ F' H' v, Same F F' → Ow F' os' H' → Cl φ F' v → Q v H') → WE X e σ H Q
/-- e gives a new list, owned from now on -/
def EN (e : Expr) (n : Ent) (os' : Os) : Prop := ∀ F σ H Q, Ow F os H → Sl F es σ → (∀ F' H' p, Same F F' → Ow F' ((p, n) :: os') H' → Q (.ref p) H') → WE X e σ H Q
def TX (e : Expr) (b : Bool) (os' : Os) : Prop := ∀ F σ H Q, Ow F os H → Sl F es σ → (∀ F' H', Same F F' → Ow F' os' H' → Q b H') → WT X e σ H Q
def WX (e : Expr) (b : Bool) (os' : Os) : Prop := ∀ F σ H Q, Ow F os H → Sl F es σ → (∀ F' H', Same F F' → Ow F' os' H' → Q b H') → WW X e σ H Q
def AX (as : List Expr) (φs : List VP) (os' : Os) : Prop := ∀ F σ H Q, Ow F os H → Sl F es σ → (∀ F' H' vs, Same F F' → Ow F' os' H' → ClA φs F' vs → Q vs H') → WA X as σ H Q
def SX (F0 : Hp) (sts : List Stmt) (D : Ends) : Prop := ∀ F σ H, Same F0 F → Ow F os H → Sl F es σ → WPs X sts D σ H
end
end Z
/-! Z, part B: rules for expressions. -/
namespace Z
open PySem PySem.Spec PyProof.Rows L2

section
variable {X : Cx} {es : List Slot} {os os1 os2 os3 : Os} {a b c : Expr} {pos : Pos}

theorem EX.is {φ ψ : VP} {e : Expr} (h : EX X es os e φ os1) (k : φ = ψ) : EX X es os e ψ os1 := k ▸ h
theorem EX.perm {φ : VP} {e : Expr} (h : EX X es os e φ os1) (k : os1.Perm os2) : EX X es os e φ os2 := fun F σ H Q ow sl q =>
  h F σ H Q ow sl fun F' H' v e o c => q F' H' v e (o.perm k) c
theorem EX.pre {φ : VP} {e : Expr} (h : EX X es os e φ os1) (k : os2.Perm os) : EX X es os2 e φ os1 := fun F σ H Q ow sl q => h F σ H Q (ow.perm k) sl q
/-- a new list, given away: it is data from now on -/
theorem EN.ex {e : Expr} {ds : List PyData} (h : EN X es os e (ol ds) os1) : EX X es os e (dat (.list ds)) os1 := fun F σ H Q ow sl q =>
  h F σ H Q ow sl fun F' H' p e o => by
    obtain ⟨u, hu, ⟨vs, rfl, hv⟩, s, o2⟩ := o.freezeU uni_ol
    exact q _ H' (.ref p) (e.trans s) o2 (cl_dat (.lst upd_same (dqall_mono s _ _ hv)))

/-! ### names, constants -/
theorem ex_name {i : Nat} {x : Str} {φ : VP} (hN : X.N[i]? = some x) (hv : Vis X.env.scope x) (hd : (x == ("__debug__" : Str)) = false) (hcd : (x == ("__classdict__" : Str)) = false) (h : es[i]? = some (sl φ)) : EX X es os (.Name x pos) φ os := fun F σ H Q ow sl q => by
  obtain ⟨v, e, k⟩ := sl.val h
  exact we_of (pe_var hN hv hd hcd) ⟨v, e, q F H v (Same.refl F) ow k⟩
theorem ex_int {i : Int} {j} : EX X es os (.Constant (.int i) j pos) (dat (.int i)) os := fun F σ H Q ow sl q => we_of pe_int (q F H _ (Same.refl F) ow (cl_dat (.int i)))
theorem ex_bool {i : Bool} {j} : EX X es os (.Constant (.bool i) j pos) (dat (.bool i)) os := fun F σ H Q ow sl q => we_of pe_bl (q F H _ (Same.refl F) ow (cl_dat (.bl i)))
theorem ex_none {j} : EX X es os (.Constant .none j pos) (dat .none) os := fun F σ H Q ow sl q => we_of pe_non (q F H _ (Same.refl F) ow (cl_dat .non))
theorem ex_str {x : Str} {j} : EX X es os (.Constant (.str x) j pos) (dat (.str x)) os := fun F σ H Q ow sl q => we_of pe_str (q F H _ (Same.refl F) ow (cl_dat (.str x)))
/-- a module's constant that holds an int -/
theorem ex_gint {x : Str} {i : Int} {t : Tok} (hg : Gl X x) (hm : X.mg x = some (.int i t)) (hd : (x == ("__debug__" : Str)) = false) : EX X es os (.Name x pos) (dat (.int i)) os := fun F σ H Q ow sl q =>
  we_of (pe_glob (v := .int i) hg hm ⟨t, rfl⟩ hd) (q F H _ (Same.refl F) ow (cl_dat (.int i)))

/-! ### what a datum's value is -/
theorem clv_int {F : Hp} {v : V} {i : Int} (h : Cl (dat (.int i)) F v) : v = .int i := by
  have := h.now
  cases this
  rfl
theorem clv_bool {F : Hp} {v : V} {i : Bool} (h : Cl (dat (.bool i)) F v) : v = .bl i := by
  have := h.now
  cases this
  rfl
theorem clv_str {F : Hp} {v : V} {i : Str} (h : Cl (dat (.str i)) F v) : v = .str i := by
  have := h.now
  cases this
  rfl
theorem clv_none {F : Hp} {v : V} (h : Cl (dat .none) F v) : v = .non := by
  have := h.now
  cases this
  rfl

/-! ### two operands -/
/-- by values: r gives a datum where the operands are φ and ψ -/
def R2X (X : Cx) (r : R2) (φ ψ : VP) (os : Os) (d : VP) : Prop := ∀ F H x y Q, Ow F os H → Cl φ F x → Cl ψ F y → (∀ F' H' v, Same F F' → Ow F' os H' → Cl d F' v → Q v H') → r x y H Q
theorem ex_bin {op : Operator} {r : R2} {φ ψ d : VP} (ho : OpR X (binaryOp op) r) (hr : R2X X r φ ψ os2 d) (ha : EX X es os a φ os1) (hb : EX X es os1 b ψ os2) : EX X es os (.BinOp a op b pos) d os2 := fun F σ H Q ow sl q =>
  we_of (pe_op ho pe_u pe_u) (ha F σ H _ ow sl fun F1 H1 x e1 o1 c1 => hb F1 σ H1 _ o1 (sl.mono e1) fun F2 H2 y e2 o2 c2 =>
    hr F2 H2 x y Q o2 (c1.mono e2) c2 fun F3 H3 v e3 o3 c3 => q F3 H3 v ((e1.trans e2).trans e3) o3 c3)
theorem r2_I {C : Int → Int → Prop} {g : Int → Int → Int} {i j : Int} (h : C i j) : R2X X (rI C fun i j => .int (g i j)) (dat (.int i)) (dat (.int j)) os (dat (.int (g i j))) := fun F H x y Q ow cx cy q =>
  ⟨i, j, clv_int cx, clv_int cy, h, q F H _ (Same.refl F) ow (cl_dat (.int _))⟩
theorem r2_I0 {g : Int → Int → Int} {i j : Int} : R2X X (rI0 fun i j => .int (g i j)) (dat (.int i)) (dat (.int j)) os (dat (.int (g i j))) := fun F H x y Q ow cx cy q =>
  ⟨i, j, clv_int cx, clv_int cy, q F H _ (Same.refl F) ow (cl_dat (.int _))⟩
theorem r2_B0 {g : Int → Int → Bool} {i j : Int} : R2X X (rI0 fun i j => .bl (g i j)) (dat (.int i)) (dat (.int j)) os (dat (.bool (g i j))) := fun F H x y Q ow cx cy q =>
  ⟨i, j, clv_int cx, clv_int cy, q F H _ (Same.refl F) ow (cl_dat (.bl _))⟩
theorem ex_add {i j : Int} (ha : EX X es os a (dat (.int i)) os1) (hb : EX X es os1 b (dat (.int j)) os2) : EX X es os (.BinOp a .Add b pos) (dat (.int (i + j))) os2 := ex_bin op_add r2_I0 ha hb
theorem ex_sub {i j : Int} (ha : EX X es os a (dat (.int i)) os1) (hb : EX X es os1 b (dat (.int j)) os2) : EX X es os (.BinOp a .Sub b pos) (dat (.int (i - j))) os2 := ex_bin op_sub r2_I0 ha hb
/-- a product: told by mulO, which is none where both factors are very great -/
def mulO (i j : Int) : Option Int := if i.natAbs.log2 + j.natAbs.log2 < 1000000 then some (i * j) else none
theorem ex_mul {i j m : Int} (hm : mulO i j = some m) (ha : EX X es os a (dat (.int i)) os1) (hb : EX X es os1 b (dat (.int j)) os2) : EX X es os (.BinOp a .Mult b pos) (dat (.int m)) os2 := by
  unfold mulO at hm
  split at hm
  · rename_i h
    cases hm
    exact ex_bin op_mulW (r2_I h) ha hb
  · cases hm
/-- a product with a written factor -/
theorem ex_mulL {i j : Int} (h : -(2 ^ 64) < i ∧ i < 2 ^ 64) (ha : EX X es os a (dat (.int i)) os1) (hb : EX X es os1 b (dat (.int j)) os2) : EX X es os (.BinOp a .Mult b pos) (dat (.int (i * j))) os2 := ex_bin op_mul (r2_I (.inl h)) ha hb
theorem ex_mulR {i j : Int} (h : -(2 ^ 64) < j ∧ j < 2 ^ 64) (ha : EX X es os a (dat (.int i)) os1) (hb : EX X es os1 b (dat (.int j)) os2) : EX X es os (.BinOp a .Mult b pos) (dat (.int (i * j))) os2 := ex_bin op_mul (r2_I (.inr h)) ha hb
/-- i // j, i % j: for a positive j below 2 ^ 9000 -/
def fdivO (i j : Int) : Option Int := if 0 < j ∧ j.natAbs.log2 < 9000 then some (i / j) else none
def modO (i j : Int) : Option Int := if 0 < j then some (i % j) else none
theorem ex_fdiv {i j m : Int} (hm : fdivO i j = some m) (ha : EX X es os a (dat (.int i)) os1) (hb : EX X es os1 b (dat (.int j)) os2) : EX X es os (.BinOp a .FloorDiv b pos) (dat (.int m)) os2 := by
  unfold fdivO at hm
  split at hm
  · rename_i h
    cases hm
    exact ex_bin op_fdivW (r2_I h) ha hb
  · cases hm
theorem ex_mod {i j m : Int} (hm : modO i j = some m) (ha : EX X es os a (dat (.int i)) os1) (hb : EX X es os1 b (dat (.int j)) os2) : EX X es os (.BinOp a .Mod b pos) (dat (.int m)) os2 := by
  unfold modO at hm
  split at hm
  · rename_i h
    cases hm
    exact ex_bin op_mod (r2_I (C := fun _ j => 0 < j) h) ha hb
  · cases hm
/-- i ** j -/
def powO (i j : Int) : Option Int := if 0 ≤ j ∧ (Builtin.Int.intBits i : Int) * j ≤ 2 ^ 27 then some (i ^ j.toNat) else none
theorem op_powW : OpR X (binaryOp .Pow) (rI (fun i j => 0 ≤ j ∧ (Builtin.Int.intBits i : Int) * j ≤ 2 ^ 27) fun i j => .int (i ^ j.toNat)) := opI fun _ _ _ _ _ _ _ hc q => pow_int hc.1 hc.2 q
theorem ex_pow {i j m : Int} (hm : powO i j = some m) (ha : EX X es os a (dat (.int i)) os1) (hb : EX X es os1 b (dat (.int j)) os2) : EX X es os (.BinOp a .Pow b pos) (dat (.int m)) os2 := by
  unfold powO at hm
  split at hm
  · rename_i h
    cases hm
    exact ex_bin op_powW (r2_I h) ha hb
  · cases hm
theorem ex_neg {i : Int} (ha : EX X es os a (dat (.int i)) os1) : EX X es os (.UnaryOp .USub a pos) (dat (.int (-i))) os1 := fun F σ H Q ow sl q =>
  we_of (pe_un un_neg pe_u) (ha F σ H _ ow sl fun F1 H1 x e1 o1 c1 => ⟨i, clv_int c1, q F1 H1 _ e1 o1 (cl_dat (.int _))⟩)

/-! ### comparisons -/
theorem ex_cmp {op : CmpOp} {r : R2} {φ ψ d : VP} (ho : OpR X (compareOp op) r) (hr : R2X X r φ ψ os2 d) (hm : behindInMarks op b = false) (ha : EX X es os a φ os1) (hb : EX X es os1 b ψ os2) : EX X es os (.Compare a [op] [b] pos) d os2 := fun F σ H Q ow sl q =>
  we_of (pe_cmpR ho pe_u pe_u hm) (ha F σ H _ ow sl fun F1 H1 x e1 o1 c1 => hb F1 σ H1 _ o1 (sl.mono e1) fun F2 H2 y e2 o2 c2 =>
    hr F2 H2 x y Q o2 (c1.mono e2) c2 fun F3 H3 v e3 o3 c3 => q F3 H3 v ((e1.trans e2).trans e3) o3 c3)
theorem tx_cmp {op : CmpOp} {r : R2} {φ ψ : VP} {k : Bool} (ho : OpR X (compareOp op) r) (hr : R2X X r φ ψ os2 (dat (.bool k))) (hm : behindInMarks op b = false) (ha : EX X es os a φ os1) (hb : EX X es os1 b ψ os2) : TX X es os (.Compare a [op] [b] pos) k os2 := fun F σ H Q ow sl q =>
  wt_of (pt_cmpR ho pe_u pe_u hm) (ha F σ H _ ow sl fun F1 H1 x e1 o1 c1 => hb F1 σ H1 _ o1 (sl.mono e1) fun F2 H2 y e2 o2 c2 =>
    hr F2 H2 x y _ o2 (c1.mono e2) c2 fun F3 H3 v e3 o3 c3 => ⟨k, clv_bool c3, q F3 H3 ((e1.trans e2).trans e3) o3⟩)
theorem r2_lt {i j : Int} : R2X X (rI0 fun i j => .bl (decide (i < j))) (dat (.int i)) (dat (.int j)) os (dat (.bool (decide (i < j)))) := r2_B0
theorem r2_le {i j : Int} : R2X X (rI0 fun i j => .bl (decide (i ≤ j))) (dat (.int i)) (dat (.int j)) os (dat (.bool (decide (i ≤ j)))) := r2_B0
theorem r2_gt {i j : Int} : R2X X (rI0 fun i j => .bl (decide (j < i))) (dat (.int i)) (dat (.int j)) os (dat (.bool (decide (j < i)))) := r2_B0
theorem r2_ge {i j : Int} : R2X X (rI0 fun i j => .bl (decide (j ≤ i))) (dat (.int i)) (dat (.int j)) os (dat (.bool (decide (j ≤ i)))) := r2_B0
theorem shaped_lay {d : PyData} (h : SeqAt.shaped d = true) : d.hasDict = false := by
  unfold SeqAt.shaped at h
  rw [Bool.and_eq_true] at h
  exact nod_lay d h.1
/-- == of data -/
theorem r2_eq {d e : PyData} {k : Bool} (h1 : SeqAt.shaped d = true) (h2 : SeqAt.shaped e = true) (hk : PyData.eqv d e = k) : R2X X (rEqD X.K) (dat d) (dat e) os (dat (.bool k)) := fun F H x y Q ow cx cy q =>
  ⟨d, e, dq_dp _ _ _ (shaped_lay h1) (dq_mono ow.ex _ _ cx.now), dq_dp _ _ _ (shaped_lay h2) (dq_mono ow.ex _ _ cy.now), h1, h2, by rw [hk]; exact q F H _ (Same.refl F) ow (cl_dat (.bl _))⟩
theorem r2_ne {d e : PyData} {k : Bool} (h1 : SeqAt.shaped d = true) (h2 : SeqAt.shaped e = true) (hk : (!PyData.eqv d e) = k) : R2X X (rNeD X.K) (dat d) (dat e) os (dat (.bool k)) := fun F H x y Q ow cx cy q =>
  ⟨d, e, dq_dp _ _ _ (shaped_lay h1) (dq_mono ow.ex _ _ cx.now), dq_dp _ _ _ (shaped_lay h2) (dq_mono ow.ex _ _ cy.now), h1, h2, by rw [hk]; exact q F H _ (Same.refl F) ow (cl_dat (.bl _))⟩
theorem r2_eqI {i j : Int} : R2X X rEq (dat (.int i)) (dat (.int j)) os (dat (.bool (decide (i = j)))) := fun F H x y Q ow cx cy q => by
  rw [clv_int cx, clv_int cy]
  refine ⟨rfl, ?_⟩
  rw [dec_int, Bool.beq_eq_decide_eq]
  exact q F H _ (Same.refl F) ow (cl_dat (.bl _))
theorem r2_neI {i j : Int} : R2X X rNe (dat (.int i)) (dat (.int j)) os (dat (.bool (!decide (i = j)))) := fun F H x y Q ow cx cy q => by
  rw [clv_int cx, clv_int cy]
  refine ⟨rfl, ?_⟩
  rw [dec_int, Bool.beq_eq_decide_eq]
  exact q F H _ (Same.refl F) ow (cl_dat (.bl _))
theorem r2_eqS {i j : Str} : R2X X rEq (dat (.str i)) (dat (.str j)) os (dat (.bool (decide (i = j)))) := fun F H x y Q ow cx cy q => by
  rw [clv_str cx, clv_str cy]
  refine ⟨rfl, ?_⟩
  have e : decide (V.str i = V.str j) = decide (i = j) := by simp only [V.str.injEq]
  rw [e]
  exact q F H _ (Same.refl F) ow (cl_dat (.bl _))
theorem r2_neS {i j : Str} : R2X X rNe (dat (.str i)) (dat (.str j)) os (dat (.bool (!decide (i = j)))) := fun F H x y Q ow cx cy q => by
  rw [clv_str cx, clv_str cy]
  refine ⟨rfl, ?_⟩
  have e : decide (V.str i = V.str j) = decide (i = j) := by simp only [V.str.injEq]
  rw [e]
  exact q F H _ (Same.refl F) ow (cl_dat (.bl _))
/-- a < b < c -/
theorem ex_chain {op op' : CmpOp} {r r' : R2} {φ ψ χ : VP} {k k' : Bool} (ho : OpR X (compareOp op) r) (ho' : OpR X (compareOp op') r') (hr : R2X X r φ ψ os2 (dat (.bool k))) (hr' : R2X X r' ψ χ os3 (dat (.bool k'))) (h23 : k = false → os2 = os3)
    (ha : EX X es os a φ os1) (hb : EX X es os1 b ψ os2) (hc : k = true → EX X es os2 c χ os3) (hlm : lastMarks [op, op'] [b, c] = false := by rfl) : EX X es os (.Compare a [op, op'] [b, c] pos) (dat (.bool (k && k'))) os3 := fun F σ H Q ow sl q =>
  we_of (pe_chain ho ho' pe_u pe_u pe_u hlm) (ha F σ H _ ow sl fun F1 H1 x e1 o1 c1 => hb F1 σ H1 _ o1 (sl.mono e1) fun F2 H2 y e2 o2 c2 =>
    hr F2 H2 x y _ o2 (c1.mono e2) c2 fun F3 H3 v e3 o3 c3 => ⟨k, clv_bool c3, by
      have e := (e1.trans e2).trans e3
      cases k with
      | true =>
        rw [if_pos rfl]
        refine hc rfl F3 σ H3 _ o3 (sl.mono e) fun F4 H4 z e4 o4 c4 => ?_
        exact hr' F4 H4 y z Q o4 ((c2.mono e3).mono e4) c4 fun F5 H5 v e5 o5 c5 => q F5 H5 v ((e.trans e4).trans e5) o5 (by simpa using c5)
      | false =>
        rw [if_neg Bool.false_ne_true]
        exact q F3 H3 _ e (h23 rfl ▸ o3) (cl_dat (.bl _))⟩)

/-! ### tests -/
theorem tx_val {e : Expr} {k : Bool} (h : EX X es os e (dat (.bool k)) os1) (he : ∀ whole, isTrue e X.env whole = (do let v ← whole; standAt e.pos; holding [v] (truthy v)) := by intro _; rfl) : TX X es os e k os1 := fun F σ H Q ow sl q =>
  wt_of (pt_val pe_u he) (h F σ H _ ow sl fun F1 H1 x e1 o1 c1 => ⟨k, clv_bool c1, q F1 H1 e1 o1⟩)
theorem tx_not {k : Bool} (h : TX X es os a k os1) : TX X es os (.UnaryOp .Not a pos) (!k) os1 := fun F σ H Q ow sl q =>
  wt_of (pt_not pt_u) (h F σ H _ ow sl fun F1 H1 e1 o1 => q F1 H1 e1 o1)
theorem WX.tx {e : Expr} {k : Bool} (h : WX X es os e k os1) : TX X es os e k os1 := fun F σ H Q ow sl q => wt_of (PW.pt pw_u) (h F σ H Q ow sl q)
theorem wx_and1 {k : Bool} (h : TX X es os a k os1) : WX X es os (.BoolOp .And [a] pos) k os1 := fun F σ H Q ow sl q => ww_of (pw_and1 pt_u) (h F σ H Q ow sl q)
theorem wx_or1 {k : Bool} (h : TX X es os a k os1) : WX X es os (.BoolOp .Or [a] pos) k os1 := fun F σ H Q ow sl q => ww_of (pw_or1 pt_u) (h F σ H Q ow sl q)
theorem wx_and {rest : List Expr} {k l m : Bool} (h1 : TX X es os a k os1) (h2 : k = true → WX X es os1 (.BoolOp .And (b :: rest) pos) l os2) (hf : k = false → os1 = os2) (hm : (k && l) = m) : WX X es os (.BoolOp .And (a :: b :: rest) pos) m os2 := fun F σ H Q ow sl q =>
  ww_of (pw_and pt_u pw_u) (h1 F σ H _ ow sl fun F1 H1 e1 o1 => by
    cases k with
    | true =>
      rw [if_pos rfl]
      exact h2 rfl F1 σ H1 Q o1 (sl.mono e1) fun F2 H2 e2 o2 => by rw [← hm] at q; exact q F2 H2 (e1.trans e2) o2
    | false =>
      rw [if_neg Bool.false_ne_true]
      rw [← hm] at q
      exact q F1 H1 e1 (hf rfl ▸ o1))
theorem wx_or {rest : List Expr} {k l m : Bool} (h1 : TX X es os a k os1) (h2 : k = false → WX X es os1 (.BoolOp .Or (b :: rest) pos) l os2) (hf : k = true → os1 = os2) (hm : (k || l) = m) : WX X es os (.BoolOp .Or (a :: b :: rest) pos) m os2 := fun F σ H Q ow sl q =>
  ww_of (pw_or pt_u pw_u) (h1 F σ H _ ow sl fun F1 H1 e1 o1 => by
    cases k with
    | false =>
      rw [if_neg Bool.false_ne_true]
      exact h2 rfl F1 σ H1 Q o1 (sl.mono e1) fun F2 H2 e2 o2 => by rw [← hm] at q; exact q F2 H2 (e1.trans e2) o2
    | true =>
      rw [if_pos rfl]
      rw [← hm] at q
      exact q F1 H1 e1 (hf rfl ▸ o1))
/-- as values -/
theorem ex_one {op} {φ : VP} (h : EX X es os a φ os1) : EX X es os (.BoolOp op [a] pos) φ os1 := fun F σ H Q ow sl q => we_of (pe_one pe_u) (h F σ H Q ow sl q)
theorem ex_and {rest : List Expr} {k l m : Bool} (h1 : EX X es os a (dat (.bool k)) os1) (h2 : k = true → EX X es os1 (.BoolOp .And (b :: rest) pos) (dat (.bool l)) os2) (hf : k = false → os1 = os2) (hm : (k && l) = m) :
    EX X es os (.BoolOp .And (a :: b :: rest) pos) (dat (.bool m)) os2 := fun F σ H Q ow sl q =>
  we_of (pe_and pe_u pe_u) (h1 F σ H _ ow sl fun F1 H1 x e1 o1 c1 => ⟨k, clv_bool c1, by
    subst hm
    cases k with
    | true =>
      rw [if_pos rfl]
      exact h2 rfl F1 σ H1 Q o1 (sl.mono e1) fun F2 H2 v e2 o2 c2 => q F2 H2 v (e1.trans e2) o2 (by simpa using c2)
    | false =>
      rw [if_neg Bool.false_ne_true]
      exact q F1 H1 _ e1 (hf rfl ▸ o1) (cl_dat (.bl _))⟩)
theorem ex_or {rest : List Expr} {k l m : Bool} (h1 : EX X es os a (dat (.bool k)) os1) (h2 : k = false → EX X es os1 (.BoolOp .Or (b :: rest) pos) (dat (.bool l)) os2) (hf : k = true → os1 = os2) (hm : (k || l) = m) :
    EX X es os (.BoolOp .Or (a :: b :: rest) pos) (dat (.bool m)) os2 := fun F σ H Q ow sl q =>
  we_of (pe_or pe_u pe_u) (h1 F σ H _ ow sl fun F1 H1 x e1 o1 c1 => ⟨k, clv_bool c1, by
    subst hm
    cases k with
    | false =>
      rw [if_neg Bool.false_ne_true]
      exact h2 rfl F1 σ H1 Q o1 (sl.mono e1) fun F2 H2 v e2 o2 c2 => q F2 H2 v (e1.trans e2) o2 (by simpa using c2)
    | true =>
      rw [if_pos rfl]
      exact q F1 H1 _ e1 (hf rfl ▸ o1) (cl_dat (.bl _))⟩)
theorem ex_not {k : Bool} (h : EX X es os a (dat (.bool k)) os1) : EX X es os (.UnaryOp .Not a pos) (dat (.bool (!k))) os1 := fun F σ H Q ow sl q =>
  we_of (pe_not pe_u) (h F σ H _ ow sl fun F1 H1 x e1 o1 c1 => ⟨k, clv_bool c1, q F1 H1 _ e1 o1 (cl_dat (.bl _))⟩)
theorem ex_if {k : Bool} {φ : VP} (hc : TX X es os c k os1) (ha : k = true → EX X es os1 a φ os2) (hb : k = false → EX X es os1 b φ os2) : EX X es os (.IfExp c a b pos) φ os2 := fun F σ H Q ow sl q =>
  we_of (pe_ifExp pt_u pe_u pe_u) (hc F σ H _ ow sl fun F1 H1 e1 o1 => by
    cases k with
    | true =>
      rw [if_pos rfl]
      exact ha rfl F1 σ H1 Q o1 (sl.mono e1) fun F2 H2 v e2 => q F2 H2 v (e1.trans e2)
    | false =>
      rw [if_neg Bool.false_ne_true]
      exact hb rfl F1 σ H1 Q o1 (sl.mono e1) fun F2 H2 v e2 => q F2 H2 v (e1.trans e2))
theorem en_if {k : Bool} {n : Ent} (hc : TX X es os c k os1) (ha : k = true → EN X es os1 a n os2) (hb : k = false → EN X es os1 b n os2) : EN X es os (.IfExp c a b pos) n os2 := fun F σ H Q ow sl q =>
  we_of (pe_ifExp pt_u pe_u pe_u) (hc F σ H _ ow sl fun F1 H1 e1 o1 => by
    cases k with
    | true =>
      rw [if_pos rfl]
      exact ha rfl F1 σ H1 Q o1 (sl.mono e1) fun F2 H2 p e2 => q F2 H2 p (e1.trans e2)
    | false =>
      rw [if_neg Bool.false_ne_true]
      exact hb rfl F1 σ H1 Q o1 (sl.mono e1) fun F2 H2 p e2 => q F2 H2 p (e1.trans e2))

/-! ### argument lists, displays -/
theorem ax_nil : AX X es os [] [] os := fun F σ H Q ow sl q => wa_of pa_nil (q F H [] (Same.refl F) ow rfl)
theorem ax_cons {as : List Expr} {φ : VP} {φs : List VP} (ha : EX X es os a φ os1) (hr : AX X es os1 as φs os2) (hs : starEach (a :: as) X.env = (false, eval a X.env) :: starEach as X.env := by rfl) : AX X es os (a :: as) (φ :: φs) os2 := fun F σ H Q ow sl q =>
  wa_of (pa_cons pe_u pa_u hs) (ha F σ H _ ow sl fun F1 H1 x e1 o1 c1 => hr F1 σ H1 _ o1 (sl.mono e1) fun F2 H2 vs e2 o2 c2 => q F2 H2 _ (e1.trans e2) o2 ⟨x, vs, rfl, c1.mono e2, c2⟩)
theorem cla_dq {F : Hp} : ∀ {ds : List PyData} {vs : List V}, ClA (ds.map dat) F vs → DqAll F vs ds
  | [], _, h => by
    have e : _ = [] := h
    rw [e]
    exact .nil
  | d :: ds, _, ⟨v, r, e, h1, h2⟩ => by
    rw [e]
    exact .cons h1.now (cla_dq h2)
theorem ex_tup {as : List Expr} {x1} {ds : List PyData} (h : AX X es os as (ds.map dat) os1) (hl : ds.length ≤ sizeLine := by decide) : EX X es os (.Tuple as x1 pos) (dat (.tuple ds)) os1 := fun F σ H Q ow sl q =>
  we_of (pe_tup pa_u) (h F σ H _ ow sl fun F1 H1 vs e1 o1 c1 => by
    have hd := cla_dq c1
    refine ⟨by rw [dqall_len hd]; exact hl, fun p hp => ?_⟩
    have fp := o1.ex.free hp
    exact q _ _ _ (e1.trans (same_upd fp)) (o1.frozen hp) (cl_dat (.tup upd_same (dqall_mono (same_upd fp) _ _ hd))))
theorem en_lst {as : List Expr} {ds : List PyData} (h : AX X es os as (ds.map dat) os1) (hl : ds.length ≤ sizeLine := by decide) : EN X es os (.List as pos) (ol ds) os1 := fun F σ H Q ow sl q =>
  we_of (pe_lst pa_u) (h F σ H _ ow sl fun F1 H1 vs e1 o1 c1 => by
    have hd := cla_dq c1
    refine ⟨by rw [dqall_len hd]; exact hl, fun p hp => ?_⟩
    exact q _ _ _ e1 (o1.new hp fun G g => ⟨vs, rfl, dqall_mono g _ _ hd⟩))

/-! ### what may be read as a list, a tuple -/
/-- of every value of φ (its object owned or not): it is read as a list of ds -/
def RdL (X : Cx) (φ : VP) (os : Os) (ds : List PyData) : Prop := ∀ F H v, Ow F os H → Cl φ F v → ∃ a vs, v = .ref a ∧ SqL X.K H a vs ∧ DqAll F vs ds
def RdT (φ : VP) (ds : List PyData) : Prop := ∀ F v, Cl φ F v → ∃ a vs, v = .ref a ∧ F a = some (.tup vs) ∧ DqAll F vs ds
theorem rdl_dat {ds : List PyData} : RdL X (dat (.list ds)) os ds := fun F H v ow c => by
  have h := c.now
  cases h with
  | lst h1 h2 => exact ⟨_, _, rfl, .of (ow.ex _ _ h1), h2⟩
theorem rdl_own {p : Addr} {ds : List PyData} (k : Nat) (h : os[k]? = some (p, ol ds)) : RdL X (own p) os ds := fun F H v ow c => by
  obtain ⟨_, vs, ho, hv⟩ := (ow.perm (perm_at h)).atL
  exact ⟨p, vs, c.now, .of ho, hv⟩
/-- the script -/
def scr (K : PySem.W.Frag) (ns : List Int) : VP := fun F v => ∃ a, v = .ref a ∧ SqL K F a (ns.map V.int)
theorem rdl_scr {ns : List Int} : RdL X (scr X.K ns) os (ns.map PyData.int) := fun F H v ow c => by
  obtain ⟨a, rfl, h⟩ := c.now
  exact ⟨a, _, rfl, ow.ex.seq h, dqall_ints ns⟩
theorem rdt_dat {ds : List PyData} : RdT (dat (.tuple ds)) ds := fun F v c => by
  have h := c.now
  cases h with
  | tup h1 h2 => exact ⟨_, _, rfl, h1, h2⟩

/-! ### subscripts -/
/-- xs[i], i of any sign -/
def idx {α : Type} (xs : List α) (i : Int) : Option α := atI xs i
theorem atI_map {α β : Type} (f : α → β) {xs : List α} {i : Int} {v : α} (h : atI xs i = some v) : atI (xs.map f) i = some (f v) := by
  unfold atI at h ⊢
  rw [List.length_map]
  cases e : ixN xs.length i with
  | none => rw [e] at h; cases h
  | some j =>
    rw [e] at h
    have h' : xs[j]? = some v := h
    show (xs.map f)[j]? = some (f v)
    rw [List.getElem?_map, h']
    rfl
theorem atI_dq {F : Hp} {vs : List V} {ds : List PyData} {i : Int} {d : PyData} (h : DqAll F vs ds) (k : atI ds i = some d) : ∃ v, atI vs i = some v ∧ Dq F v d := by
  unfold atI at k ⊢
  rw [dqall_len h]
  cases e : ixN ds.length i with
  | none => rw [e] at k; cases k
  | some j =>
    rw [e] at k
    exact dqall_get' h k
theorem ex_ixL {φ : VP} {ds : List PyData} {i : Int} {d : PyData} (hr : RdL X φ os2 ds) (hk : atI ds i = some d) (ha : EX X es os a φ os1) (hb : EX X es os1 b (dat (.int i)) os2) (hp : PlainIx b := by exact fun _ _ => rfl) : EX X es os (.Subscript a b pos) (dat d) os2 := fun F σ H Q ow sl q =>
  we_of (pe_ix ix_list pe_u pe_u hp) (ha F σ H _ ow sl fun F1 H1 x e1 o1 c1 => hb F1 σ H1 _ o1 (sl.mono e1) fun F2 H2 y e2 o2 c2 => by
    obtain ⟨p, vs, rfl, hs, hv⟩ := hr F2 H2 x o2 (c1.mono e2)
    obtain ⟨v, hi, hd⟩ := atI_dq hv hk
    exact ⟨p, vs, i, v, rfl, clv_int c2, hs, hi, q F2 H2 v (e1.trans e2) o2 (cl_dat hd)⟩)
theorem ex_ixT {φ : VP} {ds : List PyData} {i : Int} {d : PyData} (hr : RdT φ ds) (hk : atI ds i = some d) (ha : EX X es os a φ os1) (hb : EX X es os1 b (dat (.int i)) os2) (hp : PlainIx b := by exact fun _ _ => rfl) : EX X es os (.Subscript a b pos) (dat d) os2 := fun F σ H Q ow sl q =>
  we_of (pe_ix ix_tup pe_u pe_u hp) (ha F σ H _ ow sl fun F1 H1 x e1 o1 c1 => hb F1 σ H1 _ o1 (sl.mono e1) fun F2 H2 y e2 o2 c2 => by
    obtain ⟨p, vs, rfl, hs, hv⟩ := hr F2 x (c1.mono e2)
    obtain ⟨v, hi, hd⟩ := atI_dq hv hk
    exact ⟨p, vs, i, v, rfl, clv_int c2, .of (o2.ex _ _ hs), hi, q F2 H2 v (e1.trans e2) o2 (cl_dat hd)⟩)
end
end Z
/-! Z, part C: defs and their calls (with the list of running reprs known to be empty), builtin calls. -/
namespace Z
open PySem PySem.Spec PyProof.Rows L2

/-! ### a def's promise -/
structure FnG (P : Program) (w : World) (K : PySem.W.Frag) (mg : Str → Option Value) (base : Heap) (C : CXT) (k : Nat) (f : Addr) (fd : FuncData) (ps : List Str) (sp : Sp) : Prop where
  len : ∀ vs H Q E, sp vs H Q E → vs.length = ps.length
  run : ∀ (A : Around) (outer : List Env) (s : Shared) (H : Hp) (args : Args) (us : List Value) (vs : List V) (Q : VK) (E : XK), A.guards = some [] → Room k A →
    Env0 P w K mg base A outer s H → BindsTo s fd args (ps.zip us) → Vals vs us → sp vs H Q E → codeAny (model P w) A (.call (.ref f) args) (CR C outer P w H s Q E) s
section
variable {P : Program} {w : World} {K : PySem.W.Frag} {mg : Str → Option Value} {base : Heap} {C : CXT}
theorem FnG.mono {j k : Nat} {f : Addr} {fd : FuncData} {ps : List Str} {sp : Sp} (F : FnG P w K mg base C j f fd ps sp) (h : j ≤ k) : FnG P w K mg base C k f fd ps sp :=
  ⟨F.len, fun A outer s H args us vs Q E hg hr => F.run A outer s H args us vs Q E hg (hr.mono h)⟩
/-- the body of a def is looked at once -/
theorem fun_ok {x qual : Str} {st : Stmt} {f : Addr} {fd : FuncData} {N ps : List Str} {k : Nat} {sp : Sp} (G : Fun K x qual st f fd) (S : FnScope N ps (defScope st)) (len : ∀ vs H Q E, sp vs H Q E → vs.length = ps.length)
    (body : ∀ (cdv : Value) (A : Around) (outer : List Env) (s : Shared) (H : Hp) (vs : List V) (Q : VK) (E : XK), A.guards = some [] → Room k (A.deeper (envOfC qual (defScope st) s.heap.objs.size f cdv)) → sp vs H Q E →
      WPs (cxOf C P w K mg base N qual (defScope st) f cdv A outer s H E) (defBody st) { nx := fun _ H' => Q .non H', rt := Q } (start N vs) H) : FnG P w K mg base C (k + 1) f fd ps sp := by
  obtain ⟨oc, od, kV, doc, pm, an, cdv, ct, osl, rfl, lk, hcd⟩ := G.ex
  refine ⟨len, ?_⟩
  intro A outer s H args us vs Q E hg hr e0 hb r hsp
  have inh : K.In s.heap := e0.mod.kin.keeps fun b o q => (e0.bs b o q).1
  have nol : s.heap.NoLimit := e0.mod.nolimit.keeps fun b o q => (e0.bs b o q).1
  refine codeAny_call_function hr.depth (inh _ _ lk) rfl S.co S.gen rfl (PySem.W.codeRec_of inh hcd) (hb _ _ _ _ ?_)
  refine wpAny_newFunctionEnv_cells S.kind ?_ ?_
  · rintro ⟨n, v⟩ hy
    rcases S.par n (List.of_mem_zip hy).1 with q | q
    · exact .inl q
    · exact .inr ⟨q, PySem.W.cellsFrom_some _ _ _ (.inl q)⟩
  · intro env he s1 x
    subst he
    refine ⟨nol.keeps x.toInCall.keep, codeAny_func ?_⟩
    have I := inv_start (CX := C) (P := P) (w := w) (E := E) S hr.hd e0 (len _ _ _ _ hsp) r x
    refine wpAny_mono (body cdv A outer s H vs Q E hg (hr.deeper _) hsp [] s1 I) ?_ fun _ _ z => z
    intro fl s' z
    cases fl with
    | ret u =>
      obtain ⟨v, σ', H', J, rv, q⟩ := z
      exact ⟨v, H', J.os, J.bare, J.base, J.hok, rv, q⟩
    | next =>
      obtain ⟨σ', H', J, q⟩ := z
      exact ⟨.non, H', J.os, J.bare, J.base, J.hok, rfl, q⟩
    | brk =>
      obtain ⟨_, _, _, q⟩ := z
      exact q.elim
    | cont =>
      obtain ⟨_, _, _, q⟩ := z
      exact q.elim
end

/-! ### what a body knows -/
def visB (sc : Scope) (x : Str) : Bool := match sc.names.lookup x with
  | some .local => true
  | some .cell => true
  | some .free => true
  | _ => false
def locB (sc : Scope) (x : Str) : Bool := match sc.names.lookup x with
  | some .local => true
  | some .cell => true
  | _ => false
def glB (sc : Scope) (x : Str) : Bool := match sc.names.lookup x with
  | some .globalImplicit => true
  | _ => false
def dunB (x : Str) : Bool := !(x == ("__debug__" : Str)) && !(x == ("__classdict__" : Str)) && !(x == ("__name__" : Str))
theorem vis_of {sc : Scope} {x : Str} (h : visB sc x = true) : Vis sc x := by
  unfold visB at h
  split at h
  · exact .inl (by assumption)
  · exact .inr (.inl (by assumption))
  · exact .inr (.inr (by assumption))
  · cases h
theorem loc_of {sc : Scope} {x : Str} (h : locB sc x = true) : Loc sc x := by
  unfold locB at h
  split at h
  · exact .inl (by assumption)
  · exact .inr (by assumption)
  · cases h
/-- in X: the i-th name stands at its slot and is seen; the j-th global one is one -/
structure Bd (X : Cx) (N : List Str) (V G : List Str) (k : Nat) : Prop where
  hN : X.N = N
  nd : N.Nodup
  calm : X.calm = true
  gd : X.A.guards = some []
  room : Room k X.A
  vis : ∀ x ∈ V, Vis X.env.scope x ∧ dunB x = true
  gl : ∀ x ∈ G, Gl X x ∧ dunB x = true
theorem dun_d {x : Str} (h : dunB x = true) : (x == ("__debug__" : Str)) = false := by
  unfold dunB at h
  simp only [Bool.and_eq_true, Bool.not_eq_true'] at h
  exact h.1.1
theorem dun_c {x : Str} (h : dunB x = true) : (x == ("__classdict__" : Str)) = false := by
  unfold dunB at h
  simp only [Bool.and_eq_true, Bool.not_eq_true'] at h
  exact h.1.2
theorem dun_n {x : Str} (h : dunB x = true) : x ≠ "__name__" := by
  unfold dunB at h
  simp only [Bool.and_eq_true, Bool.not_eq_true', beq_eq_false_iff_ne, ne_eq] at h
  exact h.2
/-- the names of a body, all at once -/
def namB (sc : Scope) (V G : List Str) : Bool := (V.all fun x => visB sc x && dunB x) && (G.all fun x => glB sc x && dunB x)
theorem nam_vis {sc : Scope} {V G : List Str} (h : namB sc V G = true) : ∀ x ∈ V, Vis sc x ∧ dunB x = true := fun x hx => by
  unfold namB at h
  rw [Bool.and_eq_true, List.all_eq_true] at h
  have := h.1 x hx
  rw [Bool.and_eq_true] at this
  exact ⟨vis_of this.1, this.2⟩
theorem nam_gl {sc : Scope} {V G : List Str} (h : namB sc V G = true) : ∀ x ∈ G, sc.names.lookup x = some .globalImplicit ∧ dunB x = true := fun x hx => by
  unfold namB at h
  rw [Bool.and_eq_true, List.all_eq_true, List.all_eq_true] at h
  have := h.2 x hx
  rw [Bool.and_eq_true] at this
  refine ⟨?_, this.2⟩
  have q := this.1
  unfold glB at q
  split at q
  · assumption
  · cases q
/-- what a def's body may store into -/
structure Bs (X : Cx) (V : List Str) : Prop where
  fn : ∀ x, X.fn x = true
  loc : ∀ x ∈ V, Loc X.env.scope x
section
variable {X : Cx} {es : List Slot} {os os1 os2 os3 : Os} {N V G : List Str} {k : Nat} {x : Str} {p pos : Pos} {e : Expr} {as : List Expr}
theorem ex_v {i j : Nat} {φ : VP} (B : Bd X N V G k) (hi : N[i]? = some x) (hj : V[j]? = some x) (h : es[i]? = some (sl φ)) : EX X es os (.Name x pos) φ os :=
  let ⟨a, b⟩ := B.vis x (List.mem_of_getElem? hj)
  ex_name (B.hN ▸ hi) a (dun_d b) (dun_c b) h
theorem ex_g {j : Nat} {i : Int} {t : Tok} (B : Bd X N V G k) (hj : G[j]? = some x) (hm : X.mg x = some (.int i t)) : EX X es os (.Name x pos) (dat (.int i)) os :=
  let ⟨a, b⟩ := B.gl x (List.mem_of_getElem? hj)
  ex_gint a hm (dun_d b)

/-! ### builtins by name -/
def RCX (r : List L2.V → Hp → VK → Prop) (φs : List VP) (os : Os) (d : VP) (os' : Os) : Prop := ∀ F H vs Q, Ow F os H → ClA φs F vs → (∀ F' H' v, Same F F' → Ow F' os' H' → Cl d F' v → Q v H') → r vs H Q
def RCN (r : List L2.V → Hp → VK → Prop) (φs : List VP) (os : Os) (n : Ent) (os' : Os) : Prop := ∀ F H vs Q, Ow F os H → ClA φs F vs → (∀ F' H' p, Same F F' → Ow F' ((p, n) :: os') H' → Q (.ref p) H') → r vs H Q
theorem ex_fn {id : String} {r : List L2.V → Hp → VK → Prop} {φs : List VP} {d : VP} {j : Nat} (B : Bd X N V G k) (hj : G[j]? = some x) (hm : X.mg x = none) (hv : bootBuiltins x = some (.builtin id)) (hc : CallR X (.builtin id) r) (hr : RCX r φs os1 d os2)
    (ha : AX X es os (e :: as) φs os1) (he : starEach (e :: as) X.env = (false, eval e X.env) :: starEach as X.env := by rfl) (hpl : (backTo pos (starEach as X.env)).any (·.1) = false := by rfl) : EX X es os (.Call (.Name x p) (e :: as) [] pos) d os2 := fun F σ H Q ow sl q =>
  let ⟨a, b⟩ := B.gl x (List.mem_of_getElem? hj)
  we_of (pe_callB hc a hm hv pa_u (dun_n b) (dun_d b) he hpl) (ha F σ H _ ow sl fun F1 H1 vs e1 o1 c1 => hr F1 H1 vs Q o1 c1 fun F2 H2 v e2 => q F2 H2 v (e1.trans e2))
theorem en_fn {id : String} {r : List L2.V → Hp → VK → Prop} {φs : List VP} {n : Ent} {j : Nat} (B : Bd X N V G k) (hj : G[j]? = some x) (hm : X.mg x = none) (hv : bootBuiltins x = some (.builtin id)) (hc : CallR X (.builtin id) r) (hr : RCN r φs os1 n os2)
    (ha : AX X es os (e :: as) φs os1) (he : starEach (e :: as) X.env = (false, eval e X.env) :: starEach as X.env := by rfl) (hpl : (backTo pos (starEach as X.env)).any (·.1) = false := by rfl) : EN X es os (.Call (.Name x p) (e :: as) [] pos) n os2 := fun F σ H Q ow sl q =>
  let ⟨a, b⟩ := B.gl x (List.mem_of_getElem? hj)
  we_of (pe_callB hc a hm hv pa_u (dun_n b) (dun_d b) he hpl) (ha F σ H _ ow sl fun F1 H1 vs e1 o1 c1 => hr F1 H1 vs Q o1 c1 fun F2 H2 v e2 => q F2 H2 v (e1.trans e2))
theorem ex_ty {T : String} {r : List L2.V → Hp → VK → Prop} {φs : List VP} {d : VP} {j : Nat} (B : Bd X N V G k) (hj : G[j]? = some x) (hm : X.mg x = none) (hv : bootBuiltins x = some (.type T)) (hc : CallR X (.type T) r) (hr : RCX r φs os1 d os2)
    (ha : AX X es os (e :: as) φs os1) (he : starEach (e :: as) X.env = (false, eval e X.env) :: starEach as X.env := by rfl) (hpl : (backTo pos (starEach as X.env)).any (·.1) = false := by rfl) : EX X es os (.Call (.Name x p) (e :: as) [] pos) d os2 := fun F σ H Q ow sl q =>
  let ⟨a, b⟩ := B.gl x (List.mem_of_getElem? hj)
  we_of (pe_callTy hc a hm hv pa_u (dun_n b) (dun_d b) he hpl) (ha F σ H _ ow sl fun F1 H1 vs e1 o1 c1 => hr F1 H1 vs Q o1 c1 fun F2 H2 v e2 => q F2 H2 v (e1.trans e2))
theorem en_ty {T : String} {r : List L2.V → Hp → VK → Prop} {φs : List VP} {n : Ent} {j : Nat} (B : Bd X N V G k) (hj : G[j]? = some x) (hm : X.mg x = none) (hv : bootBuiltins x = some (.type T)) (hc : CallR X (.type T) r) (hr : RCN r φs os1 n os2)
    (ha : AX X es os (e :: as) φs os1) (he : starEach (e :: as) X.env = (false, eval e X.env) :: starEach as X.env := by rfl) (hpl : (backTo pos (starEach as X.env)).any (·.1) = false := by rfl) : EN X es os (.Call (.Name x p) (e :: as) [] pos) n os2 := fun F σ H Q ow sl q =>
  let ⟨a, b⟩ := B.gl x (List.mem_of_getElem? hj)
  we_of (pe_callTy hc a hm hv pa_u (dun_n b) (dun_d b) he hpl) (ha F σ H _ ow sl fun F1 H1 vs e1 o1 c1 => hr F1 H1 vs Q o1 c1 fun F2 H2 v e2 => q F2 H2 v (e1.trans e2))

/-! ### their readings -/
theorem cla1 {φ : VP} {F : Hp} {vs : List L2.V} (h : ClA [φ] F vs) : ∃ v, vs = [v] ∧ Cl φ F v := by
  obtain ⟨v, r, e, h1, h2⟩ := h
  have e2 : r = [] := h2
  subst e2
  exact ⟨v, e, h1⟩
theorem cla2 {φ ψ : VP} {F : Hp} {vs : List L2.V} (h : ClA [φ, ψ] F vs) : ∃ v u, vs = [v, u] ∧ Cl φ F v ∧ Cl ψ F u := by
  obtain ⟨v, r, e, h1, h2⟩ := h
  obtain ⟨u, e2, h3⟩ := cla1 h2
  subst e2
  exact ⟨v, u, e, h1, h3⟩
theorem rc_abs {i : Int} : RCX (fun xs H Q => ∃ i, xs = [L2.V.int i] ∧ Q (.int (if i < 0 then -i else i)) H) [dat (.int i)] os (dat (.int (if i < 0 then -i else i))) os := fun F H vs Q ow c q => by
  obtain ⟨v, rfl, h⟩ := cla1 c
  exact ⟨i, by rw [clv_int h], q F H _ (Same.refl F) ow (cl_dat (.int _))⟩
theorem rc_max {i j : Int} : RCX (fun xs H Q => ∃ i j, xs = [L2.V.int i, .int j] ∧ Q (.int (if j > i then j else i)) H) [dat (.int i), dat (.int j)] os (dat (.int (if j > i then j else i))) os := fun F H vs Q ow c q => by
  obtain ⟨v, u, rfl, h, h2⟩ := cla2 c
  exact ⟨i, j, by rw [clv_int h, clv_int h2], q F H _ (Same.refl F) ow (cl_dat (.int _))⟩
theorem rc_min {i j : Int} : RCX (fun xs H Q => ∃ i j, xs = [L2.V.int i, .int j] ∧ Q (.int (if j < i then j else i)) H) [dat (.int i), dat (.int j)] os (dat (.int (if j < i then j else i))) os := fun F H vs Q ow c q => by
  obtain ⟨v, u, rfl, h, h2⟩ := cla2 c
  exact ⟨i, j, by rw [clv_int h, clv_int h2], q F H _ (Same.refl F) ow (cl_dat (.int _))⟩
theorem rc_intI {i : Int} : RCX (fun xs H Q => (∃ i, xs = [L2.V.int i] ∧ Q (.int i) H) ∨ ∃ k, xs = [.bl k] ∧ Q (.int (if k then 1 else 0)) H) [dat (.int i)] os (dat (.int i)) os := fun F H vs Q ow c q => by
  obtain ⟨v, rfl, h⟩ := cla1 c
  exact .inl ⟨i, by rw [clv_int h], q F H _ (Same.refl F) ow (cl_dat (.int _))⟩
theorem rc_intB {i : Bool} : RCX (fun xs H Q => (∃ i, xs = [L2.V.int i] ∧ Q (.int i) H) ∨ ∃ k, xs = [.bl k] ∧ Q (.int (if k then 1 else 0)) H) [dat (.bool i)] os (dat (.int (if i then 1 else 0))) os := fun F H vs Q ow c q => by
  obtain ⟨v, rfl, h⟩ := cla1 c
  exact .inr ⟨i, by rw [clv_bool h], q F H _ (Same.refl F) ow (cl_dat (.int _))⟩
/-- str(i), repr(d): none where it would be too long -/
def strO (i : Int) : Option Str := if i.natAbs.log2 < 1920 then some (toString i) else none
theorem rc_str {i : Int} {t : Str} (h : strO i = some t) : RCX (fun xs H Q => ∃ i, xs = [L2.V.int i] ∧ i.natAbs.log2 < 1920 ∧ Q (.str (toString i)) H) [dat (.int i)] os (dat (.str t)) os := fun F H vs Q ow c q => by
  unfold strO at h
  split at h
  · rename_i hl
    cases h
    obtain ⟨v, rfl, h⟩ := cla1 c
    exact ⟨i, by rw [clv_int h], hl, q F H _ (Same.refl F) ow (cl_dat (.str _))⟩
  · cases h
theorem rc_lenL {φ : VP} {ds : List PyData} (hr : RdL X φ os ds) : RCX (fun xs H Q => ∃ p ys, xs = [L2.V.ref p] ∧ (SqL X.K H p ys ∨ SqT X.K H p ys) ∧ Q (.int ys.length) H) [φ] os (dat (.int (ds.length : Int))) os := fun F H vs Q ow c q => by
  obtain ⟨v, rfl, h⟩ := cla1 c
  obtain ⟨a, us, rfl, h1, h2⟩ := hr F H v ow h
  exact ⟨a, us, rfl, .inl h1, by rw [dqall_len h2]; exact q F H _ (Same.refl F) ow (cl_dat (.int _))⟩
theorem rc_lenT {φ : VP} {ds : List PyData} (hr : RdT φ ds) : RCX (fun xs H Q => ∃ p ys, xs = [L2.V.ref p] ∧ (SqL X.K H p ys ∨ SqT X.K H p ys) ∧ Q (.int ys.length) H) [φ] os (dat (.int (ds.length : Int))) os := fun F H vs Q ow c q => by
  obtain ⟨v, rfl, h⟩ := cla1 c
  obtain ⟨a, us, rfl, h1, h2⟩ := hr F v h
  exact ⟨a, us, rfl, .inr (.of (ow.ex _ _ h1)), by rw [dqall_len h2]; exact q F H _ (Same.refl F) ow (cl_dat (.int _))⟩
theorem rc_sum {φ : VP} {ns : List Int} (hr : RdL X φ os (ns.map PyData.int)) : RCX (rSum X.K) [φ] os (dat (.int ns.sum)) os := fun F H vs Q ow c q => by
  obtain ⟨v, rfl, h⟩ := cla1 c
  obtain ⟨a, us, rfl, h1, h2⟩ := hr F H v ow h
  have e := dqall_of_ints ns h2
  subst e
  exact ⟨a, ns, rfl, h1, q F H _ (Same.refl F) ow (cl_dat (.int _))⟩
theorem rc_all {φ : VP} {bs : List Bool} (hr : RdL X φ os (bs.map PyData.bool)) : RCX (rAll X.K) [φ] os (dat (.bool (bs.all id))) os := fun F H vs Q ow c q => by
  obtain ⟨v, rfl, h⟩ := cla1 c
  obtain ⟨a, us, rfl, h1, h2⟩ := hr F H v ow h
  have e := dqall_of_bools bs h2
  subst e
  exact ⟨a, bs, rfl, h1, q F H _ (Same.refl F) ow (cl_dat (.bl _))⟩
theorem rc_any {φ : VP} {bs : List Bool} (hr : RdL X φ os (bs.map PyData.bool)) : RCX (rAny X.K) [φ] os (dat (.bool (bs.any id))) os := fun F H vs Q ow c q => by
  obtain ⟨v, rfl, h⟩ := cla1 c
  obtain ⟨a, us, rfl, h1, h2⟩ := hr F H v ow h
  have e := dqall_of_bools bs h2
  subst e
  exact ⟨a, bs, rfl, h1, q F H _ (Same.refl F) ow (cl_dat (.bl _))⟩
theorem rc_tupL {φ : VP} {ds : List PyData} (hr : RdL X φ os ds) : RCX (fun xs H Q => ∃ p ys, xs = [L2.V.ref p] ∧ ((SqL X.K H p ys ∧ ∀ l, H l = none → Q (.ref l) (upd H l (.tup ys))) ∨ (SqT X.K H p ys ∧ Q (.ref p) H))) [φ] os (dat (.tuple ds)) os := fun F H vs Q ow c q => by
  obtain ⟨v, rfl, h⟩ := cla1 c
  obtain ⟨a, us, rfl, h1, h2⟩ := hr F H v ow h
  refine ⟨a, us, rfl, .inl ⟨h1, fun l hl => ?_⟩⟩
  have fp := ow.ex.free hl
  exact q _ _ _ (same_upd fp) (ow.frozen hl) (cl_dat (.tup upd_same (dqall_mono (same_upd fp) _ _ h2)))
theorem rc_tupT {φ : VP} {ds : List PyData} (hr : RdT φ ds) : RCX (fun xs H Q => ∃ p ys, xs = [L2.V.ref p] ∧ ((SqL X.K H p ys ∧ ∀ l, H l = none → Q (.ref l) (upd H l (.tup ys))) ∨ (SqT X.K H p ys ∧ Q (.ref p) H))) [φ] os (dat (.tuple ds)) os := fun F H vs Q ow c q => by
  obtain ⟨v, rfl, h⟩ := cla1 c
  obtain ⟨a, us, rfl, h1, h2⟩ := hr F v h
  exact ⟨a, us, rfl, .inr ⟨.of (ow.ex _ _ h1), q F H _ (Same.refl F) ow (cl_dat (.tup h1 h2))⟩⟩
theorem rc_lstL {φ : VP} {ds : List PyData} (hr : RdL X φ os ds) : RCN (fun xs H Q => ∃ p ys, xs = [L2.V.ref p] ∧ (SqL X.K H p ys ∨ SqT X.K H p ys) ∧ ∀ l, H l = none → Q (.ref l) (upd H l (.lst ys))) [φ] os (ol ds) os := fun F H vs Q ow c q => by
  obtain ⟨v, rfl, h⟩ := cla1 c
  obtain ⟨a, us, rfl, h1, h2⟩ := hr F H v ow h
  exact ⟨a, us, rfl, .inl h1, fun l hl => q F _ l (Same.refl F) (ow.new hl fun G g => ⟨us, rfl, dqall_mono g _ _ h2⟩)⟩
theorem rc_lstT {φ : VP} {ds : List PyData} (hr : RdT φ ds) : RCN (fun xs H Q => ∃ p ys, xs = [L2.V.ref p] ∧ (SqL X.K H p ys ∨ SqT X.K H p ys) ∧ ∀ l, H l = none → Q (.ref l) (upd H l (.lst ys))) [φ] os (ol ds) os := fun F H vs Q ow c q => by
  obtain ⟨v, rfl, h⟩ := cla1 c
  obtain ⟨a, us, rfl, h1, h2⟩ := hr F v h
  exact ⟨a, us, rfl, .inr (.of (ow.ex _ _ h1)), fun l hl => q F _ l (Same.refl F) (ow.new hl fun G g => ⟨us, rfl, dqall_mono g _ _ h2⟩)⟩
def isI : PyData → Bool
  | .int _ => true
  | _ => false
def shortO (d : PyData) : Bool := isI d || decide (d.shown.length ≤ sizeLine)
/-- repr of data -/
def rRepr (K : PySem.W.Frag) : List L2.V → Hp → VK → Prop := fun xs H Q => ∃ v d, xs = [v] ∧ Dp K H v d ∧ d.showable = true ∧ d.hasDict = false ∧ d.depth ≤ 60 ∧ shortO d = true ∧ Q (.str d.shown) H
theorem call_repr (gd : X.A.guards = some []) (room : Room k X.A) : CallR X (.builtin "repr") (rRepr X.K) := by
  intro pins s σ H vs us Q I r h
  obtain ⟨v, d, rfl, hd, h1, h2, h3, h4, q⟩ := h
  obtain ⟨u, rfl, ru⟩ := vals1 r
  have un := room.un
  have h5 : isI d = false → d.shown.length ≤ sizeLine := fun z => by
    unfold shortO at h4
    rw [z, Bool.false_or] at h4
    exact of_decide_eq_true h4
  cases hd with
  | non =>
    obtain rfl : u = Value.none := ru
    have e : (PyData.none).shown = ("None" : Str) := by simp only [PyData.shown]
    rw [e] at q
    exact PySem.P.repr_of_none ⟨.str _, H, I.tok _, ⟨_, rfl⟩, q⟩
  | bl b =>
    obtain rfl : u = Value.bool b := ru
    have e : (PyData.bool b).shown = (if b then "True" else "False" : Str) := by simp only [PyData.shown]
    rw [e] at q
    exact PySem.P.repr_of_bool ⟨.str _, H, I.tok _, ⟨_, rfl⟩, q⟩
  | int i =>
    obtain ⟨t, rfl⟩ := ru
    have e : (PyData.int i).shown = toString i := by simp only [PyData.shown]
    have h1' : i.natAbs.log2 < 1920 := by simpa only [PyData.showable, decide_eq_true_eq] using h1
    rw [e] at q
    exact PySem.P.repr_of_int h1' ⟨.str _, H, I.tok _, ⟨_, rfl⟩, q⟩
  | str x =>
    obtain ⟨t, rfl⟩ := ru
    have e : (PyData.str x).shown = reprText x := by simp only [PyData.shown]
    have h6 := h5 rfl
    rw [e] at q h6
    exact PySem.P.repr_of_str ⟨.str _, H, I.tok _, ⟨_, rfl⟩, q⟩ h6
  | lst hs ha =>
    obtain rfl : u = Value.ref _ := ru
    obtain ⟨as, hr⟩ := Dp.reads I _ _ (.ref _) (Dp.lst hs ha) rfl
    exact repr_of_reads' hr h1 (PyData.noDict_hsm h2) gd (by omega) (fun _ _ e => e) (fun h' tk t' hk => ⟨.str _, H, I.kept hk, ⟨_, rfl⟩, q⟩) (h5 rfl)
  | tup hs ha =>
    obtain rfl : u = Value.ref _ := ru
    obtain ⟨as, hr⟩ := Dp.reads I _ _ (.ref _) (Dp.tup hs ha) rfl
    exact repr_of_reads' hr h1 (PyData.noDict_hsm h2) gd (by omega) (fun _ _ e => e) (fun h' tk t' hk => ⟨.str _, H, I.kept hk, ⟨_, rfl⟩, q⟩) (h5 rfl)
def reprO (d : PyData) : Option Str := if d.showable = true ∧ d.hasDict = false ∧ d.depth ≤ 60 ∧ shortO d = true then some d.shown else none
theorem rc_repr {d : PyData} {t : Str} (h : reprO d = some t) : RCX (rRepr X.K) [dat d] os (dat (.str t)) os := fun F H vs Q ow c q => by
  unfold reprO at h
  split at h
  · rename_i hl
    cases h
    obtain ⟨v, rfl, h⟩ := cla1 c
    exact ⟨v, d, rfl, dq_dp _ _ _ hl.2.1 (dq_mono ow.ex _ _ h.now), hl.1, hl.2.1, hl.2.2.1, hl.2.2.2, q F H _ (Same.refl F) ow (cl_dat (.str _))⟩
  · cases h
end
end Z
/-! Z, part D: calls of defs, by place and by name. -/
namespace Z
open PySem PySem.Spec PyProof.Rows L2

/-- a def of the text that keeps a promise, as callers see it -/
structure Cal (P : Program) (w : World) (K : PySem.W.Frag) (mg : Str → Option Value) (base : Heap) (k : Nat) (x : Str) (st : Stmt) (ps : List Str) (sp : Sp) : Prop where
  ex : ∃ (f : Addr) (fd : FuncData), Fun K x x st f fd ∧ FnG P w K mg base CX0 k f fd ps sp ∧ mg x = some (.ref f) ∧ Binds K fd ps []
theorem Cal.mono {P : Program} {w : World} {K : PySem.W.Frag} {mg : Str → Option Value} {base : Heap} {j k : Nat} {x : Str} {st : Stmt} {ps : List Str} {sp : Sp} (c : Cal P w K mg base j x st ps sp) (h : j ≤ k) : Cal P w K mg base k x st ps sp :=
  let ⟨f, fd, a, b, d⟩ := c.ex
  ⟨f, fd, a, b.mono h, d⟩
section
variable {X : Cx} {k : Nat} {f : Addr} {fd : FuncData} {ps : List Str} {sp : Sp} {x : Str} {p pos : Pos} {e : Expr} {as : List Expr} {t tk : TA} {kws : List Keyword}
theorem run_g {pins : List (Addr × Obj)} {σ : L2.St} {H : Hp} {s : Shared} {Q : VK} {us zs : List Value} {kv : List (Str × Value)} {vs : List L2.V} (c : FnG X.prog X.w X.K X.mg X.base CX0 k f fd ps sp) (gd : X.A.guards = some []) (hr : Room k X.A)
    (I : Inv X pins σ H s) (b : BindsTo s fd ⟨us, kv⟩ (ps.zip zs)) (r : Vals vs zs) (h : sp vs H Q E0) : wpAny (model X.prog X.w) X.A (call (.ref f) us kv) (EP X pins σ Q) X.xe s := by
  refine wpAny_call (codeAny_mono (c.run X.A X.stack s H ⟨us, kv⟩ zs vs Q E0 gd hr I.env0 b r h) ?_)
  intro res s' hq
  cases res with
  | error e => exact hq.elim
  | ok fl =>
    cases fl with
    | ret u => exact I.after hq
    | next => exact hq.elim
    | brk => exact hq.elim
    | cont => exact hq.elim
theorem pe_g {st : Stmt} (c : Cal X.prog X.w X.K X.mg X.base k x st ps sp) (gd : X.A.guards = some []) (hr : Room k X.A) (hg : Gl X x) (ha : PA X (e :: as) t) (hdb : (x == ("__debug__" : Str)) = false)
    (he : starEach (e :: as) X.env = (false, eval e X.env) :: starEach as X.env := by rfl) (hpl : (backTo pos (starEach as X.env)).any (·.1) = false := by rfl) : PE X (.Call (.Name x p) (e :: as) [] pos) (fun σ H Q => t σ H fun vs H1 => sp vs H1 Q E0) := by
  obtain ⟨f, fd, Fn, G, hm, hb⟩ := c.ex
  refine ⟨fun pins s σ H Q I h => wpAny_Call_Name_kw (ld_glob I hg hm ?_ hdb)⟩
  refine PySem.W.callWith_K (h₀ := X.base) I.ok.mod.kin Fn.kp (thn (ha.run pos pins s σ H _ I h) ?_) he hpl
  rintro us s1 ⟨vs, H1, I1, r, q⟩
  refine ⟨I1.kIn, run_g G gd hr I1 ?_ r q⟩
  have := hb s1 us I1.kIn (by rw [List.append_nil, ← r.length]; exact G.len _ _ _ _ q)
  rw [List.append_nil] at this
  exact this
theorem pe_g0 {st : Stmt} (c : Cal X.prog X.w X.K X.mg X.base k x st ps sp) (gd : X.A.guards = some []) (hr : Room k X.A) (hg : Gl X x) (hdb : (x == ("__debug__" : Str)) = false) : PE X (.Call (.Name x p) [] [] pos) (fun _ H Q => sp [] H Q E0) := by
  obtain ⟨f, fd, Fn, G, hm, hb⟩ := c.ex
  refine ⟨fun pins s σ H Q I h => wpAny_Call_Name_kw (ld_glob I hg hm ?_ hdb)⟩
  refine PySem.W.callWith_K0 I.kIn Fn.kp (run_g (us := []) G gd hr I ?_ .nil h)
  have := hb s [] I.kIn (by rw [List.append_nil]; exact G.len _ _ _ _ h)
  exact this

/-! ### keywords: the pi-th of all values stands for the parameters, one by one -/
def kperm {α : Type} (n m : Nat) (pi : List Nat) (us ws : List α) : List α := if us.length = n ∧ ws.length = m then pi.filterMap fun i => (us ++ ws)[i]? else []
theorem vals_fm {vs : List L2.V} {us : List Value} (h : Vals vs us) : ∀ pi : List Nat, Vals (pi.filterMap fun i => vs[i]?) (pi.filterMap fun i => us[i]?)
  | [] => .nil
  | i :: pi => by
    rw [List.filterMap_cons, List.filterMap_cons]
    cases e : vs[i]? with
    | none =>
      rw [h.none_of e]
      exact vals_fm h pi
    | some v =>
      obtain ⟨u, e2, r⟩ := h.get e
      rw [e2]
      exact .cons r (vals_fm h pi)
theorem vals_kperm {n m : Nat} {pi : List Nat} {vs zs : List L2.V} {us ws : List Value} (h : Vals vs us) (h' : Vals zs ws) : Vals (kperm n m pi vs zs) (kperm n m pi us ws) := by
  unfold kperm
  rw [h.length, h'.length]
  split
  · exact vals_fm (h.append h') pi
  · exact .nil
/-- how the def st binds positional values and keywords ks -/
def KwOk (x : Str) (st : Stmt) (ps ks : List Str) (n : Nat) (pi : List Nat) : Prop := ∀ (kV doc pm : Value) (an : Option Addr) (cdv ct : Value) (us ws : List Value), us.length = n → ws.length = ks.length →
  bindArgs (PySem.W.fnOf x x (defArgs st) (defBody st) (defScope st) .none kV doc pm an cdv ct) ⟨us, ks.zip ws⟩ = pure (ps.zip (pi.filterMap fun i => (us ++ ws)[i]?))
theorem pe_gk {st : Stmt} {ks : List Str} {n : Nat} {pi : List Nat} (c : Cal X.prog X.w X.K X.mg X.base k x st ps sp) (kw : KwOk x st ps ks n pi) (hps : 0 < ps.length) (gd : X.A.guards = some []) (hr : Room k X.A) (hg : Gl X x) (ha : PA X (e :: as) t) (hk : PK X kws tk) (hdb : (x == ("__debug__" : Str)) = false)
    (hall : (backToKw pos (keywordEach kws X.env)).all (·.1.isSome) = true := by rfl) (hks : (backToKw pos (keywordEach kws X.env)).filterMap (·.1) = ks := by rfl)
    (he : starEach (e :: as) X.env = (false, eval e X.env) :: starEach as X.env := by rfl)
    (hpl : ((backTo pos (starEach (e :: as) X.env)).any (·.1) || (backToKw pos (keywordEach kws X.env)).any (·.1.isNone)) = false := by rfl) :
    PE X (.Call (.Name x p) (e :: as) kws pos) (fun σ H Q => t σ H fun vs H1 => tk σ H1 fun zs H2 => sp (kperm n ks.length pi vs zs) H2 Q E0) := by
  obtain ⟨f, fd, Fn, G, hm, hb⟩ := c.ex
  refine ⟨fun pins s σ H Q I h => wpAny_Call_Name_kw (ld_glob I hg hm ?_ hdb)⟩
  refine PySem.W.callWith_KW (h₀ := X.base) I.ok.mod.kin Fn.kp hall (thn (ha.run pos pins s σ H _ I h) ?_) hpl he
  rintro us s1 ⟨vs, H1, I1, r, q⟩
  refine thn (hk.run pos pins s1 σ H1 _ I1 q) ?_
  rintro ws s2 ⟨zs, H2, I2, rz, q2⟩
  refine ⟨I2.kIn, ?_⟩
  rw [hks]
  have rk := vals_kperm (n := n) (m := ks.length) (pi := pi) r rz
  refine run_g G gd hr I2 (.of_eq ?_) rk q2
  have hl := G.len _ _ _ _ q2
  obtain ⟨oc, od, kV, doc, pm, an, cdv, ct, osl, rfl, _, _⟩ := Fn.ex
  unfold kperm at hl ⊢
  split at hl
  · rename_i hh
    rw [if_pos (by rw [← r.length, ← rz.length]; exact hh)]
    exact kw kV doc pm an cdv ct us ws (by rw [← r.length]; exact hh.1) (by rw [← rz.length]; exact hh.2)
  · have : ps.length = 0 := hl.symm
    omega
theorem pe_gk0 {st : Stmt} {ks : List Str} {pi : List Nat} (c : Cal X.prog X.w X.K X.mg X.base k x st ps sp) (kw : KwOk x st ps ks 0 pi) (hps : 0 < ps.length) (gd : X.A.guards = some []) (hr : Room k X.A) (hg : Gl X x) (hk : PK X kws tk) (hdb : (x == ("__debug__" : Str)) = false)
    (hall : (backToKw pos (keywordEach kws X.env)).all (·.1.isSome) = true := by rfl) (hks : (backToKw pos (keywordEach kws X.env)).filterMap (·.1) = ks := by rfl)
    (hpl : ((backTo pos (starEach [] X.env)).any (·.1) || (backToKw pos (keywordEach kws X.env)).any (·.1.isNone)) = false := by rfl) :
    PE X (.Call (.Name x p) [] kws pos) (fun σ H Q => tk σ H fun zs H2 => sp (kperm 0 ks.length pi [] zs) H2 Q E0) := by
  obtain ⟨f, fd, Fn, G, hm, hb⟩ := c.ex
  refine ⟨fun pins s σ H Q I h => wpAny_Call_Name_kw (ld_glob I hg hm ?_ hdb)⟩
  refine PySem.W.callWith_KW0 (h₀ := X.base) I.ok.mod.kin Fn.kp hall ?_ hpl
  refine thn (hk.run pos pins s σ H _ I h) ?_
  rintro ws s2 ⟨zs, H2, I2, rz, q2⟩
  refine ⟨I2.kIn, ?_⟩
  rw [hks]
  have rk := vals_kperm (n := 0) (m := ks.length) (pi := pi) (show Vals [] [] from .nil) rz
  refine run_g (us := []) G gd hr I2 (.of_eq ?_) rk q2
  have hl := G.len _ _ _ _ q2
  obtain ⟨oc, od, kV, doc, pm, an, cdv, ct, osl, rfl, _, _⟩ := Fn.ex
  unfold kperm at hl ⊢
  split at hl
  · rename_i hh
    rw [if_pos (by rw [← rz.length]; exact hh)]
    exact kw kV doc pm an cdv ct [] ws rfl (by rw [← rz.length]; exact hh.2)
  · have : ps.length = 0 := hl.symm
    omega
end

/-! ### the promises that are made here -/
/-- it hands back the value of which res tells -/
def spZ {α β : Type} (ps : α → List VP) (pre : α → Os) (m : α → Option β) (res : α → β → VP) (post : α → β → Os) : Sp := fun vs H Q _ =>
  ∃ (a : α) (b : β) (F : Hp) (os : Os), ClA (ps a) F vs ∧ Ow F (pre a ++ os) H ∧ m a = some b ∧ ∀ F' H' v, Same F F' → Ow F' (post a b ++ os) H' → Cl (res a b) F' v → Q v H'
/-- it hands back a new list -/
def spN {α β : Type} (ps : α → List VP) (pre : α → Os) (m : α → Option β) (n : α → β → Ent) (post : α → β → Os) : Sp := fun vs H Q _ =>
  ∃ (a : α) (b : β) (F : Hp) (os : Os), ClA (ps a) F vs ∧ Ow F (pre a ++ os) H ∧ m a = some b ∧ ∀ F' H' p, Same F F' → Ow F' ((p, n a b) :: (post a b ++ os)) H' → Q (.ref p) H'
theorem spZ_len {α β : Type} {ps : α → List VP} {pre : α → Os} {m : α → Option β} {res : α → β → VP} {post : α → β → Os} {n : Nat} (h : ∀ a, (ps a).length = n) : ∀ vs H Q E, spZ ps pre m res post vs H Q E → vs.length = n :=
  fun vs H Q E ⟨a, b, F, os, c, _⟩ => (cla_len c).trans (h a)
theorem spN_len {α β : Type} {ps : α → List VP} {pre : α → Os} {m : α → Option β} {n : α → β → Ent} {post : α → β → Os} {k : Nat} (h : ∀ a, (ps a).length = k) : ∀ vs H Q E, spN ps pre m n post vs H Q E → vs.length = k :=
  fun vs H Q E ⟨a, b, F, os, c, _⟩ => (cla_len c).trans (h a)

section
variable {X : Cx} {es : List Slot} {os os1 os2 rest : Os} {N V G : List Str} {k j : Nat} {x : Str} {p pos : Pos} {e : Expr} {as : List Expr} {kws : List Keyword} {ks : List Str} {st : Stmt} {pn : List Str} {α β : Type} {ps : α → List VP} {pre : α → Os} {m : α → Option β} {res : α → β → VP} {post : α → β → Os} {n : α → β → Ent} {gi : Nat}
theorem ex_call (B : Bd X N V G k) (hj : G[gi]? = some x) (c : Cal X.prog X.w X.K X.mg X.base j x st pn (spZ ps pre m res post)) (hl : j ≤ k) {a : α} {b : β} (hm : m a = some b) (ha : AX X es os (e :: as) (ps a) (pre a ++ rest))
    (he : starEach (e :: as) X.env = (false, eval e X.env) :: starEach as X.env := by rfl) (hpl : (backTo pos (starEach as X.env)).any (·.1) = false := by rfl) : EX X es os (.Call (.Name x p) (e :: as) [] pos) (res a b) (post a b ++ rest) := fun F σ H Q ow sl q =>
  let ⟨u, v⟩ := B.gl x (List.mem_of_getElem? hj)
  we_of (pe_g (c.mono hl) B.gd B.room u pa_u (dun_d v) he hpl) (ha F σ H _ ow sl fun F1 H1 vs e1 o1 c1 => ⟨a, b, F1, rest, c1, o1, hm, fun F2 H2 v e2 o2 c2 => q F2 H2 v (e1.trans e2) o2 c2⟩)
theorem ex_call0 (B : Bd X N V G k) (hj : G[gi]? = some x) (c : Cal X.prog X.w X.K X.mg X.base j x st pn (spZ ps pre m res post)) (hl : j ≤ k) {a : α} {b : β} (hm : m a = some b) (hp : ps a = []) (ho : os = pre a ++ rest) : EX X es os (.Call (.Name x p) [] [] pos) (res a b) (post a b ++ rest) := fun F σ H Q ow sl q =>
  let ⟨u, v⟩ := B.gl x (List.mem_of_getElem? hj)
  we_of (pe_g0 (c.mono hl) B.gd B.room u (dun_d v)) ⟨a, b, F, rest, by rw [hp]; rfl, ho ▸ ow, hm, q⟩
theorem en_call (B : Bd X N V G k) (hj : G[gi]? = some x) (c : Cal X.prog X.w X.K X.mg X.base j x st pn (spN ps pre m n post)) (hl : j ≤ k) {a : α} {b : β} (hm : m a = some b) (ha : AX X es os (e :: as) (ps a) (pre a ++ rest))
    (he : starEach (e :: as) X.env = (false, eval e X.env) :: starEach as X.env := by rfl) (hpl : (backTo pos (starEach as X.env)).any (·.1) = false := by rfl) : EN X es os (.Call (.Name x p) (e :: as) [] pos) (n a b) (post a b ++ rest) := fun F σ H Q ow sl q =>
  let ⟨u, v⟩ := B.gl x (List.mem_of_getElem? hj)
  we_of (pe_g (c.mono hl) B.gd B.room u pa_u (dun_d v) he hpl) (ha F σ H _ ow sl fun F1 H1 vs e1 o1 c1 => ⟨a, b, F1, rest, c1, o1, hm, fun F2 H2 v e2 o2 => q F2 H2 v (e1.trans e2) o2⟩)
/-- the values of keywords -/
def KX (X : Cx) (es : List Slot) (os : Os) (kws : List Keyword) (φs : List VP) (os' : Os) : Prop := ∀ F σ H, Ow F os H → Sl F es σ → ∀ Q : List L2.V → Hp → Prop, (∀ F' H' vs, Same F F' → Ow F' os' H' → ClA φs F' vs → Q vs H') →
  ∀ pos pins s, Inv X pins σ H s → wpAny (model X.prog X.w) X.A (evalAll ((backToKw pos (keywordEach kws X.env)).map (·.2))) (AP X pins σ Q) X.xe s
def WK (X : Cx) (kws : List Keyword) (σ : L2.St) (H : Hp) (Q : List L2.V → Hp → Prop) : Prop := ∀ pos pins s, Inv X pins σ H s → wpAny (model X.prog X.w) X.A (evalAll ((backToKw pos (keywordEach kws X.env)).map (·.2))) (AP X pins σ Q) X.xe s
theorem pk_u : PK X kws (WK X kws) := ⟨fun pos pins s _ _ _ I h => h pos pins s I⟩
theorem kx_nil : KX X es os [] [] os := fun F σ H ow sl Q q pos pins s I => pk_nil.run pos pins s σ H Q I (q F H [] (Same.refl F) ow rfl)
theorem kx_cons {nm : Option Str} {kpos : Pos} {φ : VP} {φs : List VP} (ha : EX X es os e φ os1) (hr : KX X es os1 kws φs os2) : KX X es os (⟨nm, e, kpos⟩ :: kws) (φ :: φs) os2 := fun F σ H ow sl Q q pos pins s I =>
  (pk_cons pe_u pk_u).run pos pins s σ H Q I (ha F σ H _ ow sl fun F1 H1 x e1 o1 c1 => hr F1 σ H1 o1 (sl.mono e1) _ fun F2 H2 vs e2 o2 c2 => q F2 H2 _ (e1.trans e2) o2 ⟨x, vs, rfl, c1.mono e2, c2⟩)
theorem cla_get {F : Hp} : ∀ {φs : List VP} {vs : List L2.V} {i : Nat}, ClA φs F vs → (φs[i]? = none ∧ vs[i]? = none) ∨ ∃ φ v, φs[i]? = some φ ∧ vs[i]? = some v ∧ Cl φ F v
  | [], _, i, h => by
    have e : _ = [] := h
    subst e
    exact .inl ⟨rfl, rfl⟩
  | φ :: φs, _, 0, ⟨v, r, e, h1, h2⟩ => by
    subst e
    exact .inr ⟨φ, v, rfl, rfl, h1⟩
  | φ :: φs, _, i + 1, ⟨v, r, e, h1, h2⟩ => by
    subst e
    rw [List.getElem?_cons_succ, List.getElem?_cons_succ]
    exact cla_get h2
theorem cla_fm {F : Hp} {φs : List VP} {vs : List L2.V} (h : ClA φs F vs) : ∀ pi : List Nat, ClA (pi.filterMap fun i => φs[i]?) F (pi.filterMap fun i => vs[i]?)
  | [] => rfl
  | i :: pi => by
    rw [List.filterMap_cons, List.filterMap_cons]
    rcases cla_get (i := i) h with ⟨e1, e2⟩ | ⟨φ, v, e1, e2, c⟩
    · rw [e1, e2]
      exact cla_fm h pi
    · rw [e1, e2]
      exact ⟨v, _, rfl, c, cla_fm h pi⟩
theorem cla_app {F : Hp} : ∀ {φs ψs : List VP} {vs us : List L2.V}, ClA φs F vs → ClA ψs F us → ClA (φs ++ ψs) F (vs ++ us)
  | [], _, _, _, h, g => by
    have e : _ = [] := h
    subst e
    exact g
  | φ :: φs, _, _, _, ⟨v, r, e, h1, h2⟩, g => by
    subst e
    exact ⟨v, _, rfl, h1, cla_app h2 g⟩
theorem cla_kperm {F : Hp} {φs ψs : List VP} {vs us : List L2.V} {n m : Nat} {pi : List Nat} (h : ClA φs F vs) (g : ClA ψs F us) : ClA (kperm n m pi φs ψs) F (kperm n m pi vs us) := by
  unfold kperm
  rw [cla_len h, cla_len g]
  split
  · exact cla_fm (cla_app h g) pi
  · rfl
theorem ex_callk {φs ψs : List VP} {nn : Nat} {pi : List Nat} (B : Bd X N V G k) (hj : G[gi]? = some x) (c : Cal X.prog X.w X.K X.mg X.base j x st pn (spZ ps pre m res post)) (hl : j ≤ k) (kw : KwOk x st pn ks nn pi) (hpn : 0 < pn.length) {a : α} {b : β} (hm : m a = some b) (ha : AX X es os (e :: as) φs os1) (hk : KX X es os1 kws ψs (pre a ++ rest))
    (hp : ps a = kperm nn ks.length pi φs ψs)
    (hall : (backToKw pos (keywordEach kws X.env)).all (·.1.isSome) = true := by rfl) (hks : (backToKw pos (keywordEach kws X.env)).filterMap (·.1) = ks := by rfl)
    (he : starEach (e :: as) X.env = (false, eval e X.env) :: starEach as X.env := by rfl)
    (hpl : ((backTo pos (starEach (e :: as) X.env)).any (·.1) || (backToKw pos (keywordEach kws X.env)).any (·.1.isNone)) = false := by rfl) : EX X es os (.Call (.Name x p) (e :: as) kws pos) (res a b) (post a b ++ rest) := fun F σ H Q ow sl q =>
  let ⟨u, v⟩ := B.gl x (List.mem_of_getElem? hj)
  we_of (pe_gk (c.mono hl) kw hpn B.gd B.room u pa_u pk_u (dun_d v) hall hks he hpl) (ha F σ H _ ow sl fun F1 H1 vs e1 o1 c1 => hk F1 σ H1 o1 (sl.mono e1) _ fun F2 H2 zs e2 o2 c2 =>
    ⟨a, b, F2, rest, by rw [hp]; exact cla_kperm (cla_mono e2 c1) c2, o2, hm, fun F3 H3 v e3 o3 c3 => q F3 H3 v ((e1.trans e2).trans e3) o3 c3⟩)
theorem ex_callk0 {ψs : List VP} {pi : List Nat} (B : Bd X N V G k) (hj : G[gi]? = some x) (c : Cal X.prog X.w X.K X.mg X.base j x st pn (spZ ps pre m res post)) (hl : j ≤ k) (kw : KwOk x st pn ks 0 pi) (hpn : 0 < pn.length) {a : α} {b : β} (hm : m a = some b) (hk : KX X es os kws ψs (pre a ++ rest))
    (hp : ps a = kperm 0 ks.length pi [] ψs)
    (hall : (backToKw pos (keywordEach kws X.env)).all (·.1.isSome) = true := by rfl) (hks : (backToKw pos (keywordEach kws X.env)).filterMap (·.1) = ks := by rfl)
    (hpl : ((backTo pos (starEach [] X.env)).any (·.1) || (backToKw pos (keywordEach kws X.env)).any (·.1.isNone)) = false := by rfl) : EX X es os (.Call (.Name x p) [] kws pos) (res a b) (post a b ++ rest) := fun F σ H Q ow sl q =>
  let ⟨u, v⟩ := B.gl x (List.mem_of_getElem? hj)
  we_of (pe_gk0 (c.mono hl) kw hpn B.gd B.room u pk_u (dun_d v) hall hks hpl) (hk F σ H ow sl _ fun F2 H2 zs e2 o2 c2 =>
    ⟨a, b, F2, rest, by rw [hp]; exact cla_kperm (φs := []) (vs := []) rfl c2, o2, hm, fun F3 H3 v e3 o3 c3 => q F3 H3 v (e2.trans e3) o3 c3⟩)
theorem en_callk {φs ψs : List VP} {nn : Nat} {pi : List Nat} (B : Bd X N V G k) (hj : G[gi]? = some x) (c : Cal X.prog X.w X.K X.mg X.base j x st pn (spN ps pre m n post)) (hl : j ≤ k) (kw : KwOk x st pn ks nn pi) (hpn : 0 < pn.length) {a : α} {b : β} (hm : m a = some b) (ha : AX X es os (e :: as) φs os1) (hk : KX X es os1 kws ψs (pre a ++ rest))
    (hp : ps a = kperm nn ks.length pi φs ψs)
    (hall : (backToKw pos (keywordEach kws X.env)).all (·.1.isSome) = true := by rfl) (hks : (backToKw pos (keywordEach kws X.env)).filterMap (·.1) = ks := by rfl)
    (he : starEach (e :: as) X.env = (false, eval e X.env) :: starEach as X.env := by rfl)
    (hpl : ((backTo pos (starEach (e :: as) X.env)).any (·.1) || (backToKw pos (keywordEach kws X.env)).any (·.1.isNone)) = false := by rfl) : EN X es os (.Call (.Name x p) (e :: as) kws pos) (n a b) (post a b ++ rest) := fun F σ H Q ow sl q =>
  let ⟨u, v⟩ := B.gl x (List.mem_of_getElem? hj)
  we_of (pe_gk (c.mono hl) kw hpn B.gd B.room u pa_u pk_u (dun_d v) hall hks he hpl) (ha F σ H _ ow sl fun F1 H1 vs e1 o1 c1 => hk F1 σ H1 o1 (sl.mono e1) _ fun F2 H2 zs e2 o2 c2 =>
    ⟨a, b, F2, rest, by rw [hp]; exact cla_kperm (cla_mono e2 c1) c2, o2, hm, fun F3 H3 v e3 o3 => q F3 H3 v ((e1.trans e2).trans e3) o3⟩)
theorem en_callk0 {ψs : List VP} {pi : List Nat} (B : Bd X N V G k) (hj : G[gi]? = some x) (c : Cal X.prog X.w X.K X.mg X.base j x st pn (spN ps pre m n post)) (hl : j ≤ k) (kw : KwOk x st pn ks 0 pi) (hpn : 0 < pn.length) {a : α} {b : β} (hm : m a = some b) (hk : KX X es os kws ψs (pre a ++ rest))
    (hp : ps a = kperm 0 ks.length pi [] ψs)
    (hall : (backToKw pos (keywordEach kws X.env)).all (·.1.isSome) = true := by rfl) (hks : (backToKw pos (keywordEach kws X.env)).filterMap (·.1) = ks := by rfl)
    (hpl : ((backTo pos (starEach [] X.env)).any (·.1) || (backToKw pos (keywordEach kws X.env)).any (·.1.isNone)) = false := by rfl) : EN X es os (.Call (.Name x p) [] kws pos) (n a b) (post a b ++ rest) := fun F σ H Q ow sl q =>
  let ⟨u, v⟩ := B.gl x (List.mem_of_getElem? hj)
  we_of (pe_gk0 (c.mono hl) kw hpn B.gd B.room u pk_u (dun_d v) hall hks hpl) (hk F σ H ow sl _ fun F2 H2 zs e2 o2 c2 =>
    ⟨a, b, F2, rest, by rw [hp]; exact cla_kperm (φs := []) (vs := []) rfl c2, o2, hm, fun F3 H3 v e3 o3 => q F3 H3 v (e2.trans e3) o3⟩)
end
end Z
/-! Z, part E: statements. -/
namespace Z
open PySem PySem.Spec PyProof.Rows L2

/-- what a body's statements need beside Bd -/
structure Bt (X : Cx) (V : List Str) : Prop where
  fn : ∀ x, X.fn x = true
  loc : ∀ x ∈ V, Loc X.env.scope x
  po : PassesOwn (model X.prog X.w) X.A X.env X.xe
/-- the state fits -/
def At (F0 : Hp) (es : List Slot) (os : Os) (σ : L2.St) (H : Hp) : Prop := ∃ F, Same F0 F ∧ Ow F os H ∧ Sl F es σ
section
variable {X : Cx} {es es' : List Slot} {os os1 os2 : Os} {F0 : Hp} {rest : List Stmt} {D : Ends} {N V G W : List Str} {k i vi : Nat} {x : Str} {pos pos' : Pos} {e : Expr} {φ : VP} {n : Ent}
theorem sx_at (h : ∀ σ H, At F0 es os σ H → WPs X rest D σ H) : SX X es os F0 rest D := fun F σ H s ow sl => h σ H ⟨F, s, ow, sl⟩
theorem SX.at (h : SX X es os F0 rest D) {σ : L2.St} {H : Hp} (a : At F0 es os σ H) : WPs X rest D σ H := let ⟨F, s, ow, sl⟩ := a; h F σ H s ow sl
theorem SX.perm (h : SX X es os F0 rest D) (p : os1.Perm os) : SX X es os1 F0 rest D := fun F σ H s ow sl => h F σ H s (ow.perm p) sl
theorem SX.weak (h : SX X es' os F0 rest D) (w : Wk es es') : SX X es os F0 rest D := fun F σ H s ow sl => h F σ H s ow (sl.weak w)
theorem SX.drop {q : Addr × Ent} (h : SX X es os F0 rest D) : SX X es (q :: os) F0 rest D := fun F σ H s ow sl => h F σ H s ow.drop sl
theorem sx_nil (h : ∀ σ H, At F0 es os σ H → D.nx σ H) : SX X es os F0 [] D := fun F σ H s ow sl => wps_nil (h σ H ⟨F, s, ow, sl⟩)
/-- behind a branch the rest goes on -/
theorem sx_fall {D' : Ends} (h : SX X es os F0 rest D') (e : D.nx = WPs X rest D') : SX X es os F0 [] D := sx_nil fun σ H a => by
  rw [e]
  exact h.at a
theorem sx_asg (B : Bd X N W G k) (T : Bt X V) (hi : N[i]? = some x) (hv : V[vi]? = some x) (he : EX X es os e φ os1) (h : SX X (es.set i (sl φ)) os1 F0 rest D) (hs : swapsWith e (some (.Name x pos')) pos.line X.env = pure false := by rfl) :
    SX X es os F0 (.Assign [.Name x pos'] e pos :: rest) D := fun F σ H s ow sl =>
  wps_cons (ws_of (ps_set (B.hN ▸ B.nd) (B.hN ▸ hi) (T.loc x (List.mem_of_getElem? hv)) pe_u hs (.inl (T.fn x))) (he F σ H _ ow sl fun F1 H1 v e1 o1 c1 => h F1 _ H1 (s.trans e1) o1 ((sl.mono e1).put c1)))
theorem sx_asgN (B : Bd X N W G k) (T : Bt X V) (hi : N[i]? = some x) (hv : V[vi]? = some x) (he : EN X es os e n os1) (h : ∀ p, SX X (es.set i (sl (own p))) ((p, n) :: os1) F0 rest D) (hs : swapsWith e (some (.Name x pos')) pos.line X.env = pure false := by rfl) :
    SX X es os F0 (.Assign [.Name x pos'] e pos :: rest) D := fun F σ H s ow sl =>
  wps_cons (ws_of (ps_set (B.hN ▸ B.nd) (B.hN ▸ hi) (T.loc x (List.mem_of_getElem? hv)) pe_u hs (.inl (T.fn x))) (he F σ H _ ow sl fun F1 H1 p e1 o1 => h p F1 _ H1 (s.trans e1) o1 ((sl.mono e1).put cl_own)))
theorem sx_expr (he : EX X es os e φ os1) (h : SX X es os1 F0 rest D) (hs : swapsWith e none pos.line X.env = pure false := by rfl) : SX X es os F0 (.Expr e pos :: rest) D := fun F σ H s ow sl =>
  wps_cons (ws_of (ps_expr pe_u hs) (he F σ H _ ow sl fun F1 H1 v e1 o1 c1 => h F1 σ H1 (s.trans e1) o1 (sl.mono e1)))
theorem sx_ret (he : EX X es os e φ os1) (h : ∀ F H v, Same F0 F → Ow F os1 H → Cl φ F v → D.rt v H) : SX X es os F0 (.Return (some e) pos :: rest) D := fun F σ H s ow sl =>
  wps_cons (ws_of (ps_ret pe_u) (he F σ H _ ow sl fun F1 H1 v e1 o1 c1 => h F1 H1 v (s.trans e1) o1 c1))
theorem sx_retN (he : EN X es os e n os1) (h : ∀ F H p, Same F0 F → Ow F ((p, n) :: os1) H → D.rt (.ref p) H) : SX X es os F0 (.Return (some e) pos :: rest) D := fun F σ H s ow sl =>
  wps_cons (ws_of (ps_ret pe_u) (he F σ H _ ow sl fun F1 H1 v e1 o1 => h F1 H1 v (s.trans e1) o1))
theorem sx_if {c : Expr} {a b : List Stmt} {t : Bool} (hc : TX X es os c t os1) (ha : t = true → SX X es os1 F0 a { D with nx := WPs X rest D }) (hb : t = false → SX X es os1 F0 b { D with nx := WPs X rest D }) : SX X es os F0 (.If c a b pos :: rest) D := fun F σ H s ow sl =>
  wps_cons (ws_of (ps_if pt_u pss_u pss_u) (hc F σ H _ ow sl fun F1 H1 e1 o1 => by
    cases t with
    | true =>
      rw [if_pos rfl]
      exact ha rfl F1 σ H1 (s.trans e1) o1 (sl.mono e1)
    | false =>
      rw [if_neg Bool.false_ne_true]
      exact hb rfl F1 σ H1 (s.trans e1) o1 (sl.mono e1)))
theorem sx_never (h : False) : SX X es os F0 rest D := h.elim
theorem sx_brk (h : ∀ σ H, At F0 es os σ H → D.bk σ H) : SX X es os F0 (.Break pos :: rest) D := fun F σ H s ow sl => wps_cons (ws_of ps_break (h σ H ⟨F, s, ow, sl⟩))
theorem sx_cont (h : ∀ σ H, At F0 es os σ H → D.ct σ H) : SX X es os F0 (.Continue pos :: rest) D := fun F σ H s ow sl => wps_cons (ws_of ps_continue (h σ H ⟨F, s, ow, sl⟩))
theorem sx_pass (h : SX X es os F0 rest D) : SX X es os F0 (.Pass pos :: rest) D := fun F σ H s ow sl => wps_cons (ws_of ps_pass (h F σ H s ow sl))
/-- x += e (ints) -/
theorem sx_addI {a b : Int} (B : Bd X N W G k) (T : Bt X V) (hi : N[i]? = some x) (hv : V[vi]? = some x) (hx : es[i]? = some (sl (dat (.int a)))) (he : EX X es os e (dat (.int b)) os1) (h : SX X (es.set i (sl (dat (.int (a + b))))) os1 F0 rest D) :
    SX X es os F0 (.AugAssign (.Name x pos') .Add e pos :: rest) D := fun F σ H s ow sl => by
  obtain ⟨v, ev, cv⟩ := sl.val hx
  refine wps_cons (ws_of (ps_aug (B.hN ▸ B.nd) (B.hN ▸ hi) (T.loc x (List.mem_of_getElem? hv)) pe_u ip_add (.inl (T.fn x))) ⟨v, ev, he F σ H _ ow sl fun F1 H1 y e1 o1 c1 => ?_⟩)
  exact ⟨a, b, clv_int cv, clv_int c1, h F1 _ H1 (s.trans e1) o1 ((sl.mono e1).put (cl_dat (.int _)))⟩
/-- a, b = e1, e2 of plain local names -/
theorem sx_par {j : Nat} {y : Str} {a b : Expr} {px py pt p2 : Pos} {kt k2 : Nat} {φ ψ : VP} (B : Bd X N W G k) (hi : N[i]? = some x) (hj : N[j]? = some y) (hij : i ≠ j) (hx : X.env.scope.names.lookup x = some .local) (hy : X.env.scope.names.lookup y = some .local)
    (ha : AX X es os [a, b] [φ, ψ] os1) (hw : swappedStores [.Tuple [.Name x px, .Name y py] kt pt] (.Tuple [a, b] k2 p2) X.env = pure (some [x, y])) (h : SX X ((es.set i (sl φ)).set j (sl ψ)) os1 F0 rest D)
    (hs : swapsWithSole [.Tuple [.Name x px, .Name y py] kt pt] (.Tuple [a, b] k2 p2) pos.line X.env = pure false := by rfl) : SX X es os F0 (.Assign [.Tuple [.Name x px, .Name y py] kt pt] (.Tuple [a, b] k2 p2) pos :: rest) D := fun F σ H s ow sl =>
  wps_cons (ws_of (ps_par B.calm (B.hN ▸ B.nd) (B.hN ▸ hi) (B.hN ▸ hj) hij hx hy pa_u hw hs) (ha F σ H _ ow sl fun F1 H1 vs e1 o1 c1 => by
    obtain ⟨v, u, rfl, h1, h2⟩ := cla2 c1
    exact ⟨v, u, rfl, h F1 _ H1 (s.trans e1) o1 (((sl.mono e1).put h1).put h2)⟩))

/-! ### targets -/
def WG (X : Cx) (tg : Expr) : TG := fun v σ H Q => ∀ pins s u, Inv X pins σ H s → RelV v u → wpAny (model X.prog X.w) X.A (assign tg X.env u) (fun _ s' => ∃ σ' H', Inv X pins σ' H' s' ∧ Q σ' H') X.xe s
theorem pg_u {tg : Expr} : PG X tg (WG X tg) := ⟨fun pins s _ _ _ u _ I r h => h pins s u I r⟩
theorem wg_of {tg : Expr} {g : TG} {v : L2.V} {σ : L2.St} {H : Hp} {Q : L2.St → Hp → Prop} (h : PG X tg g) (q : g v σ H Q) : WG X tg v σ H Q := fun pins s u I r => h.run pins s σ H v u Q I r q
/-- to assign a value of φ to tg changes the slots as f tells -/
def GX (X : Cx) (tg : Expr) (φ : VP) (f : List Slot → List Slot) : Prop := ∀ es os F σ H v Q, Ow F os H → Sl F es σ → Cl φ F v → (∀ σ', Sl F (f es) σ' → Q σ' H) → WG X tg v σ H Q
theorem gx_name (B : Bd X N W G k) (T : Bt X V) (hi : N[i]? = some x) (hv : V[vi]? = some x) : GX X (.Name x pos) φ (fun es => es.set i (sl φ)) := fun es os F σ H v Q ow sl c q =>
  wg_of (pg_name (B.hN ▸ B.nd) (B.hN ▸ hi) (T.loc x (List.mem_of_getElem? hv)) (.inl (T.fn x))) (q _ (sl.put c))
theorem gx_pair {a b : Expr} {kk : Nat} {d1 d2 : PyData} {f g : List Slot → List Slot} (B : Bd X N W G k) (h1 : GX X a (dat d1) f) (h2 : GX X b (dat d2) g) (hn : (assignEach [a, b] X.env).length = 2 := by rfl) (hst : (assignEach [a, b] X.env).findIdx? (·.1) = none := by rfl)
    (hs : (assignEach [a, b] X.env).map (·.2) = assign a X.env :: (assignEach [b] X.env).map (·.2) := by rfl) (hs2 : (assignEach [b] X.env).map (·.2) = assign b X.env :: (assignEach [] X.env).map (·.2) := by rfl) :
    GX X (.Tuple [a, b] kk pos) (dat (.tuple [d1, d2])) (fun es => g (f es)) := fun es os F σ H v Q ow sl c q => by
  obtain ⟨p, vs, rfl, hp, hv⟩ := rdt_dat F v c
  cases hv with
  | cons k1 r =>
    cases r with
    | cons k2 r =>
      cases r
      refine wg_of (pg_tup (n := 2) B.calm (pgs_cons pg_u (pgs_cons pg_u pgs_nil hs2) hs) hn hst) ⟨p, _, rfl, .of (ow.ex _ _ hp), rfl, _, _, rfl, ?_⟩
      refine h1 es os F σ H _ _ ow sl (cl_dat k1) fun σ1 s1 => ⟨_, _, rfl, ?_⟩
      exact h2 _ os F σ1 H _ _ ow s1 (cl_dat k2) fun σ2 s2 => ⟨rfl, q σ2 s2⟩
theorem gx_triple {a b c : Expr} {kk : Nat} {d1 d2 d3 : PyData} {f g h : List Slot → List Slot} (B : Bd X N W G k) (h1 : GX X a (dat d1) f) (h2 : GX X b (dat d2) g) (h3 : GX X c (dat d3) h) (hn : (assignEach [a, b, c] X.env).length = 3 := by rfl) (hst : (assignEach [a, b, c] X.env).findIdx? (·.1) = none := by rfl)
    (hs : (assignEach [a, b, c] X.env).map (·.2) = assign a X.env :: (assignEach [b, c] X.env).map (·.2) := by rfl) (hs2 : (assignEach [b, c] X.env).map (·.2) = assign b X.env :: (assignEach [c] X.env).map (·.2) := by rfl) (hs3 : (assignEach [c] X.env).map (·.2) = assign c X.env :: (assignEach [] X.env).map (·.2) := by rfl) :
    GX X (.Tuple [a, b, c] kk pos) (dat (.tuple [d1, d2, d3])) (fun es => h (g (f es))) := fun es os F σ H v Q ow sl c q => by
  obtain ⟨p, vs, rfl, hp, hv⟩ := rdt_dat F v c
  cases hv with
  | cons k1 r =>
    cases r with
    | cons k2 r =>
      cases r with
      | cons k3 r =>
        cases r
        refine wg_of (pg_tup (n := 3) B.calm (pgs_cons pg_u (pgs_cons pg_u (pgs_cons pg_u pgs_nil hs3) hs2) hs) hn hst) ⟨p, _, rfl, .of (ow.ex _ _ hp), rfl, _, _, rfl, ?_⟩
        refine h1 es os F σ H _ _ ow sl (cl_dat k1) fun σ1 s1 => ⟨_, _, rfl, ?_⟩
        refine h2 _ os F σ1 H _ _ ow s1 (cl_dat k2) fun σ2 s2 => ⟨_, _, rfl, ?_⟩
        exact h3 _ os F σ2 H _ _ ow s2 (cl_dat k3) fun σ3 s3 => ⟨rfl, q σ3 s3⟩
/-- a, b = e: e a tuple -/
theorem sx_unp {tg : Expr} {f : List Slot → List Slot} (hg : GX X tg φ f) (he : EX X es os e φ os1) (h : SX X (f es) os1 F0 rest D) (hs : swapsWithSole [tg] e pos.line X.env = pure false := by rfl) (hw : swappedStores [tg] e X.env = pure none := by rfl)
    (h1 : (assignEach [tg] X.env).map (·.2) = [assign tg X.env] := by rfl) : SX X es os F0 (.Assign [tg] e pos :: rest) D := fun F σ H s ow sl =>
  wps_cons (ws_of (ps_asg pe_u pg_u hs hw h1) (he F σ H _ ow sl fun F1 H1 v e1 o1 c1 => hg es os1 F1 σ H1 v _ o1 (sl.mono e1) c1 fun σ1 s1 => h F1 σ1 H1 (s.trans e1) o1 s1))

/-! ### methods of one's own lists -/
theorem ty_own {F H : Hp} {K : PySem.W.Frag} {p : Addr} {ds : List PyData} {j : Nat} (ow : Ow F os H) (hj : os[j]? = some (p, ol ds)) : ∃ vs, H p = some (.lst vs) ∧ DqAll F vs ds ∧ tyV K "list" (.ref p) H := by
  obtain ⟨_, vs, ho, hv⟩ := (ow.perm (perm_at hj)).atL
  exact ⟨vs, ho, hv, .inl ⟨rfl, vs, .of ho⟩⟩
/-- a list that is one's own is rewritten -/
theorem ow_set {F H : Hp} {p : Addr} {ds ds' : List PyData} {vs' : List L2.V} {j : Nat} (ow : Ow F os H) (hj : os[j]? = some (p, ol ds)) (h : DqAll F vs' ds') : Ow F (os.set j (p, ol ds')) (upd H p (.lst vs')) :=
  ((ow.perm (perm_at hj)).putL h).perm (perm_set hj)
theorem ex_append {a : Expr} {apos cpos : Pos} {p : Addr} {ds : List PyData} {d : PyData} {j : Nat} (ho : EX X es os a (own p) os) (he : EX X es os e (dat d) os1) (h0 : os[j]? = some (p, ol ds0)) (hj : os1[j]? = some (p, ol ds)) (hz : ds.length < sizeLine)
    (hbase : attributeBase a "append" X.env (eval a X.env) = eval a X.env := by rfl) (hline : (apos.endLine == cpos.line) = true := by rfl) (hs : starEach [e] X.env = (false, eval e X.env) :: starEach [] X.env := by rfl)
    (hfew : ((backTo cpos (starEach [e] X.env)).all (fun x => !x.1) && (backToKw cpos (keywordEach [] X.env)).all (fun x => x.1.isSome) && decide ([e].length + ([] : List Keyword).length + (if ([] : List Keyword).isEmpty then 0 else 1) < 30)) = true := by rfl)
    (hplain : (backTo cpos (starEach [] X.env)).any (·.1) = false := by rfl) : EX X es os (.Call (.Attribute a "append" apos) [e] [] cpos) (dat .none) (os1.set j (p, ol (ds ++ [d]))) := fun F σ H Q ow sl q =>
  we_of (pe_bm PySem.F.plainAttrs_list PySem.F.slot_list_append PySem.F.type_list_append mt_append pe_u pa_u hbase hfew hline hs hplain) (ho F σ H _ ow sl fun F1 H1 v e1 o1 c1 => by
    obtain rfl : v = .ref p := c1.now
    obtain ⟨_, _, _, ty⟩ := ty_own (K := X.K) o1 h0
    refine ⟨ty, wa_of (pa_cons pe_u pa_nil hs) (he F1 σ H1 _ o1 (sl.mono e1) fun F2 H2 u e2 o2 c2 => ?_)⟩
    obtain ⟨vs, hp, hv, _⟩ := ty_own (K := X.K) o2 hj
    exact ⟨p, vs, u, rfl, rfl, hp, by rw [dqall_len hv]; exact hz, q F2 _ .non (e1.trans e2) (ow_set o2 hj (dqall_app hv (.cons c2.now .nil))) (cl_dat .non)⟩)
theorem dqall_last {F : Hp} : ∀ {ds : List PyData} {vs : List L2.V} {d : PyData}, DqAll F vs ds → ds.getLast? = some d → ∃ v, vs[vs.length - 1]? = some v ∧ Dq F v d ∧ DqAll F vs.dropLast ds.dropLast := fun {ds vs d} h e => by
  rw [List.getLast?_eq_getElem?] at e
  obtain ⟨v, e2, hd⟩ := dqall_get' h e
  refine ⟨v, by rw [dqall_len h]; exact e2, hd, ?_⟩
  rw [List.dropLast_eq_take, List.dropLast_eq_take, dqall_len h]
  exact dqall_take _ h
theorem ex_pop {a : Expr} {apos cpos : Pos} {p : Addr} {ds : List PyData} {d : PyData} {j : Nat} (ho : EX X es os a (own p) os) (hj : os[j]? = some (p, ol ds)) (hd : ds.getLast? = some d)
    (hbase : attributeBase a "pop" X.env (eval a X.env) = eval a X.env := by rfl) (hline : (apos.endLine == cpos.line) = true := by rfl) : EX X es os (.Call (.Attribute a "pop" apos) [] [] cpos) (dat d) (os.set j (p, ol ds.dropLast)) := fun F σ H Q ow sl q =>
  we_of (pe_bm0 PySem.F.plainAttrs_list PySem.F.slot_list_pop PySem.F.type_list_pop mt_pop pe_u hbase hline) (ho F σ H _ ow sl fun F1 H1 v e1 o1 c1 => by
    obtain rfl : v = .ref p := c1.now
    obtain ⟨vs, hp, hv, ty⟩ := ty_own (K := X.K) o1 hj
    obtain ⟨u, eu, hu, hr⟩ := dqall_last hv hd
    exact ⟨ty, p, vs, u, rfl, rfl, hp, eu, q F1 _ u e1 (ow_set o1 hj hr) (cl_dat hu)⟩)
/-- xs[i] = e -/
theorem sx_setL {a b : Expr} {tpos : Pos} {p : Addr} {ds : List PyData} {d : PyData} {j m : Nat} {z : Int} (he : EX X es os e (dat d) os1) (ho : EX X es os1 a (own p) os1) (hb : EX X es os1 b (dat (.int z)) os2) (hj : os2[j]? = some (p, ol ds)) (hz : ixN ds.length z = some m) (h : SX X es (os2.set j (p, ol (ds.set m d))) F0 rest D)
    (hs : swapsWithSole [.Subscript a b tpos] e pos.line X.env = pure false := by rfl) (hw : swappedStores [.Subscript a b tpos] e X.env = pure none := by rfl) (h1 : (assignEach [.Subscript a b tpos] X.env).map (·.2) = [assign (.Subscript a b tpos) X.env] := by rfl)
    (hsub : ∀ v, assign (.Subscript a b tpos) X.env v = (do
      let ov ← holding [v] (eval a X.env)
      let iv ← holding [v, ov] (eval b X.env)
      standAt tpos
      holding [v, ov, iv] (setItem ov iv v)
      release [v, ov, iv] []) := by intro _; rfl) : SX X es os F0 (.Assign [.Subscript a b tpos] e pos :: rest) D := fun F σ H s ow sl =>
  wps_cons (ws_of (ps_asg pe_u (pg_sub pe_u pe_u set_list hsub) hs hw h1) (he F σ H _ ow sl fun F1 H1 v e1 o1 c1 => ho F1 σ H1 _ o1 (sl.mono e1) fun F2 H2 w e2 o2 c2 => hb F2 σ H2 _ o2 (sl.mono (e1.trans e2)) fun F3 H3 u e3 o3 c3 => by
    obtain rfl : w = .ref p := c2.now
    obtain ⟨vs, hp, hv, _⟩ := ty_own (K := X.K) o3 hj
    refine ⟨p, vs, z, m, rfl, clv_int c3, hp, by rw [dqall_len hv]; exact hz, ?_⟩
    have e := (e1.trans e2).trans e3
    exact h F3 σ _ (s.trans e) (ow_set o3 hj (dqall_set ((c1.mono e2).mono e3).now m hv)) (sl.mono e)))
end
end Z
/-! Z, part F: loops and list comprehensions. -/
namespace Z
open PySem PySem.Spec PyProof.Rows L2

/-! ### the mirrors of loops -/
/-- one turn after another; none: it raises -/
def lp {α S : Type} (f : S → α → Option S) : List α → S → Option S
  | [], s => some s
  | x :: xs, s => (f s x).bind (lp f xs)
inductive Step (R S : Type) where
  | go (s : S) | brk (s : S) | ret (r : R)
/-- what follows a turn -/
def Step.aft {R S : Type} (k : S → Option (Sum R S)) : Step R S → Option (Sum R S)
  | .go s => k s
  | .brk s => some (.inr s)
  | .ret r => some (.inl r)
/-- .. that may be left: inl, what is handed back; inr, the state behind -/
def lpR {α R S : Type} (f : S → α → Option (Step R S)) : List α → S → Option (Sum R S)
  | [], s => some (.inr s)
  | x :: xs, s => (f s x).bind (Step.aft (lpR f xs))
/-- while, at most so many turns -/
def wh {R S : Type} (c : S → Option Bool) (f : S → Option (Step R S)) : Nat → S → Option (Sum R S)
  | 0, _ => none
  | n + 1, s => (c s).bind fun b => if b = true then (f s).bind (Step.aft (wh c f n)) else some (.inr s)
/-- a comprehension whose element may change the state -/
def lcS {α β S : Type} (f : S → α → Option (Option β × S)) : List α → S → Option (List β × S)
  | [], s => some ([], s)
  | x :: xs, s => (f s x).bind fun t => (lcS f xs t.2).bind fun u => some (t.1.toList ++ u.1, u.2)
def range' (a b : Int) : List Int := (List.range (b - a).toNat).map fun (i : Nat) => a + (i : Int)

section
variable {X : Cx} {es : List Slot} {os os1 os2 : Os} {F0 : Hp} {rest : List Stmt} {D : Ends} {N V G W : List Str} {k i vi gi : Nat} {x : Str} {p pos : Pos} {e e2 : Expr} {α : Type}

/-! ### what is walked -/
def WI (X : Cx) (tg iter : Expr) (σ : L2.St) (H : Hp) (R : It → Hp → Prop) : Prop := ∀ pins s, Inv X pins σ H s →
    wpAny (model X.prog X.w) X.A (eval iter X.env) (fun v s1 => wpAny (model X.prog X.w) X.A (pyIter v) (PIE X pins σ tg R) X.xe s1) X.xe s
theorem pi_u {tg iter : Expr} : PI X tg iter (WI X tg iter) := ⟨fun pins s _ _ _ I h => h pins s I⟩
theorem wi_of {tg iter : Expr} {w : TI} {σ : L2.St} {H : Hp} {R : It → Hp → Prop} (h : PI X tg iter w) (q : w σ H R) : WI X tg iter σ H R := fun pins s I => h.run pins s σ H R I q
/-- J yields the xs, as vp tells of each, from F on, while c holds of what is owned -/
def Good (J : It) (F : Hp) (xs : List α) (vp : α → VP) (c : Os → Prop) : Prop := ∀ F2 H2 os2 i, Same F F2 → Ow F2 os2 H2 → c os2 →
  (xs.length ≤ i → J.stop i H2) ∧ ∀ x, xs[i]? = some x → J.go i H2 ∧ ∀ v H3, J.yld i H2 v H3 → ∃ F3, Same F2 F3 ∧ Ow F3 os2 H3 ∧ Cl (vp x) F3 v
def IX (X : Cx) (tg : Expr) (es : List Slot) (os : Os) (iter : Expr) (xs : List α) (vp : α → VP) (c : Os → Prop) (os' : Os) : Prop := ∀ F σ H R, Ow F os H → Sl F es σ → (∀ F' H' J, Same F F' → Ow F' os' H' → Good J F' xs vp c → R J H') → WI X tg iter σ H R
def anyOs : Os → Prop := fun _ => True
theorem range_get {n i : Nat} {lo x : Int} (h : ((List.range n).map fun (i : Nat) => lo + (i : Int))[i]? = some x) : i < n ∧ x = lo + (i : Int) := by
  rw [List.getElem?_map] at h
  by_cases hi : i < n
  · rw [List.getElem?_range hi] at h
    exact ⟨hi, (Option.some.inj h).symm⟩
  · rw [List.getElem?_eq_none (by rw [List.length_range]; omega)] at h
    cases h
theorem good_range {F : Hp} {lo : Int} {n : Nat} : Good (Itr lo n) F ((List.range n).map fun (i : Nat) => lo + (i : Int)) (fun x => dat (.int x)) anyOs := fun F2 H2 os2 i s ow _ => by
  refine ⟨fun h => show n ≤ i by simpa using h, fun x hx => ?_⟩
  obtain ⟨h1, rfl⟩ := range_get hx
  refine ⟨h1, fun v H3 y => ?_⟩
  obtain ⟨rfl, rfl⟩ := y
  exact ⟨F2, Same.refl F2, ow, cl_dat (.int _)⟩
theorem ix_range1 {tg : Expr} {b : Int} (B : Bd X N W G k) (hj : G[gi]? = some "range") (hm : X.mg "range" = none) (hb : -(2 ^ 62) ≤ b ∧ b < 2 ^ 62) (ha : EX X es os e (dat (.int b)) os1) (hs : starEach [e] X.env = [(false, eval e X.env)] := by rfl) :
    IX X tg es os (.Call (.Name "range" p) [e] [] pos) (range' 0 b) (fun x => dat (.int x)) anyOs os1 := fun F σ H R ow sl q =>
  wi_of (pi_range1 (B.gl _ (List.mem_of_getElem? hj)).1 hm pa_u hs) (wa_of (pa_cons pe_u pa_nil hs) (ha F σ H _ ow sl fun F1 H1 v e1 o1 c1 => ⟨b, by rw [clv_int c1], hb.1, hb.2, q F1 H1 _ e1 o1 (by
    have := good_range (F := F1) (lo := 0) (n := b.toNat)
    unfold range'
    rw [Int.sub_zero]
    exact this)⟩))
theorem ix_range2 {tg : Expr} {a b : Int} (B : Bd X N W G k) (hj : G[gi]? = some "range") (hm : X.mg "range" = none) (hab : -(2 ^ 62) ≤ a ∧ a < 2 ^ 62 ∧ -(2 ^ 62) ≤ b ∧ b < 2 ^ 62) (ha : EX X es os e (dat (.int a)) os1) (hb : EX X es os1 e2 (dat (.int b)) os2)
    (hs : starEach [e, e2] X.env = [(false, eval e X.env), (false, eval e2 X.env)] := by rfl) (hs2 : starEach [e2] X.env = [(false, eval e2 X.env)] := by rfl) :
    IX X tg es os (.Call (.Name "range" p) [e, e2] [] pos) (range' a b) (fun x => dat (.int x)) anyOs os2 := fun F σ H R ow sl q =>
  wi_of (pi_range2 (B.gl _ (List.mem_of_getElem? hj)).1 hm pa_u hs hs2) (wa_of (pa_cons pe_u (pa_cons pe_u pa_nil hs2) (by rw [hs, hs2])) (ha F σ H _ ow sl fun F1 H1 v e1 o1 c1 => hb F1 σ H1 _ o1 (sl.mono e1) fun F2 H2 u e2 o2 c2 =>
    ⟨a, b, by rw [clv_int c1, clv_int c2], hab, q F2 H2 _ (e1.trans e2) o2 good_range⟩))
theorem dqall_map {F : Hp} {xs : List α} {enc : α → PyData} {vs : List L2.V} {i : Nat} {x : α} (h : DqAll F vs (xs.map enc)) (e : xs[i]? = some x) : ∃ v, vs[i]? = some v ∧ Dq F v (enc x) := dqall_get' h (by rw [List.getElem?_map, e]; rfl)
/-- a list (read as rl tells) -/
theorem ix_list {tg : Expr} {φ : VP} {xs : List α} {enc : α → PyData} {c : Os → Prop} (he : EX X es os e φ os1) (hc : ∀ o, c o → RdL X φ o (xs.map enc)) (h0 : c os1) : IX X tg es os e xs (fun x => dat (enc x)) c os1 := fun F σ H R ow sl q =>
  wi_of (pi_list pe_u) (he F σ H _ ow sl fun F1 H1 v e1 o1 c1 => by
    obtain ⟨a, vs, rfl, h1, h2⟩ := hc os1 h0 F1 H1 v o1 c1
    refine ⟨a, rfl, ⟨vs, h1⟩, q F1 H1 _ e1 o1 fun F2 H2 os2 i s ow2 k2 => ?_⟩
    obtain ⟨a', us, ea, g1, g2⟩ := hc os2 k2 F2 H2 _ ow2 (c1.mono s)
    cases ea
    have hl := dqall_len g2
    rw [List.length_map] at hl
    refine ⟨fun h => ⟨us, g1, by omega⟩, fun x hx => ?_⟩
    obtain ⟨u, hu, hd⟩ := dqall_map g2 hx
    refine ⟨⟨us, u, g1, hu⟩, fun w H3 y => ?_⟩
    obtain ⟨rfl, hy⟩ := y
    have ew : us[i]? = some w := hy us g1
    rw [hu] at ew
    cases ew
    exact ⟨F2, Same.refl F2, ow2, cl_dat hd⟩)
theorem ix_tup {tg : Expr} {φ : VP} {xs : List α} {enc : α → PyData} (he : EX X es os e φ os1) (hr : RdT φ (xs.map enc)) : IX X tg es os e xs (fun x => dat (enc x)) anyOs os1 := fun F σ H R ow sl q =>
  wi_of (pi_tup pe_u) (he F σ H _ ow sl fun F1 H1 v e1 o1 c1 => by
    obtain ⟨a, vs, rfl, h1, h2⟩ := hr F1 v c1
    refine ⟨a, rfl, ⟨vs, .of (o1.ex _ _ h1)⟩, q F1 H1 _ e1 o1 fun F2 H2 os2 i s ow2 k2 => ?_⟩
    have g1 := ow2.ex _ _ (s _ _ h1)
    have g2 := dqall_mono s _ _ h2
    have hl := dqall_len g2
    rw [List.length_map] at hl
    refine ⟨fun h => ⟨vs, .of g1, by omega⟩, fun x hx => ?_⟩
    obtain ⟨u, hu, hd⟩ := dqall_map g2 hx
    refine ⟨⟨vs, u, .of g1, hu⟩, fun w H3 y => ?_⟩
    obtain ⟨rfl, hy⟩ := y
    have ew : vs[i]? = some w := hy vs (.of g1)
    rw [hu] at ew
    cases ew
    exact ⟨F2, Same.refl F2, ow2, cl_dat hd⟩)
theorem zipIdx_get {xs : List α} {i : Nat} {z : Int × α} (h : (xs.zipIdx.map fun y => ((y.2 : Int), y.1))[i]? = some z) : z.1 = (i : Int) ∧ xs[i]? = some z.2 := by
  rw [List.getElem?_map, List.getElem?_zipIdx] at h
  cases e : xs[i]? with
  | none =>
    rw [e] at h
    cases h
  | some x =>
    rw [e] at h
    have := Option.some.inj h
    subst this
    exact ⟨by simp, rfl⟩
/-- enumerate(a list) -/
def enum {α : Type} (xs : List α) : List (Int × α) := xs.zipIdx.map fun y => ((y.2 : Int), y.1)
theorem enum_len {xs : List α} : (enum xs).length = xs.length := by
  unfold enum
  rw [List.length_map, List.length_zipIdx]
theorem ix_enum {elts : List Expr} {kk : Nat} {tpos : Pos} {φ : VP} {xs : List α} {enc : α → PyData} {c : Os → Prop} (B : Bd X N W G k) (hj : G[gi]? = some "enumerate") (hm : X.mg "enumerate" = none) (he : EX X es os e φ os1) (hc : ∀ o, c o → RdL X φ o (xs.map enc)) (h0 : c os1) (hs : starEach [e] X.env = [(false, eval e X.env)] := by rfl) :
    IX X (.Tuple elts kk tpos) es os (.Call (.Name "enumerate" p) [e] [] pos) (enum xs) (fun x => dat (.tuple [.int x.1, enc x.2])) c os1 := fun F σ H R ow sl q =>
  wi_of (pi_enum (B.gl _ (List.mem_of_getElem? hj)).1 hm pa_u hs) (wa_of (pa_cons pe_u pa_nil hs) (he F σ H _ ow sl fun F1 H1 v e1 o1 c1 => by
    obtain ⟨a, vs, rfl, h1, h2⟩ := hc os1 h0 F1 H1 v o1 c1
    refine ⟨a, vs, rfl, h1, q F1 H1 _ e1 o1 fun F2 H2 os2 i s ow2 k2 => ?_⟩
    obtain ⟨a', us, ea, g1, g2⟩ := hc os2 k2 F2 H2 _ ow2 (c1.mono s)
    cases ea
    have hl := dqall_len g2
    rw [List.length_map] at hl
    refine ⟨fun h => ⟨us, g1, by rw [enum_len] at h; omega⟩, fun x hx => ?_⟩
    obtain ⟨hz1, hz2⟩ := zipIdx_get hx
    obtain ⟨u, hu, hd⟩ := dqall_map g2 hz2
    refine ⟨⟨us, u, g1, hu⟩, fun w H3 y => ?_⟩
    obtain ⟨T, w2, rfl, hT, rfl, hy⟩ := y
    have ew : us[i]? = some w2 := hy us g1
    rw [hu] at ew
    cases ew
    have fT := ow2.ex.free hT
    refine ⟨_, same_upd fT, ow2.frozen hT, cl_dat (.tup upd_same ?_)⟩
    rw [hz1]
    exact .cons (.int _) (.cons (dq_mono (same_upd fT) _ _ hd) .nil)))

/-! ### for -/
theorem drop_cons' {xs : List α} {i : Nat} {x : α} (h : xs[i]? = some x) : xs.drop i = x :: xs.drop (i + 1) := by
  obtain ⟨h1, h2⟩ := List.getElem?_eq_some_iff.mp h
  rw [List.drop_eq_getElem_cons h1, h2]
/-- what a turn is to reach -/
def LpD {R S γ : Type} (F0 : Hp) (ES : S → γ → List Slot) (OS : S → γ → Os) (RT : R → L2.V → Hp → Prop) (t : Step R S) : Ends where
  nx := fun σ H => ∃ s g, t = .go s ∧ At F0 (ES s g) (OS s g) σ H
  ct := fun σ H => ∃ s g, t = .go s ∧ At F0 (ES s g) (OS s g) σ H
  bk := fun σ H => ∃ s g, t = .brk s ∧ At F0 (ES s g) (OS s g) σ H
  rt := fun v H => ∃ r, t = .ret r ∧ RT r v H
/-- a loop that may be left. γ: what changes beside the mirror's state (addresses) -/
theorem sx_forR {R S γ : Type} {tg iter : Expr} {body : List Stmt} {xs : List α} {vp : α → VP} {c : Os → Prop} {up : α → List Slot → List Slot} {fpos : Pos} (f : S → α → Option (Step R S)) (ES : S → γ → List Slot) (OS : S → γ → Os) (RT : R → L2.V → Hp → Prop)
    (B : Bd X N W G k) (T : Bt X V) (hg : ∀ x, GX X tg (vp x) (up x)) (s0 : S) (g0 : γ) (o : Sum R S) (hl : lpR f xs s0 = some o) (hi : IX X tg es os iter xs vp c (OS s0 g0)) (h0 : Wk es (ES s0 g0)) (hc : ∀ s g, c (OS s g))
    (hb : ∀ F1, Same F0 F1 → ∀ s g x t, x ∈ xs → f s x = some t → SX X (up x (ES s g)) (OS s g) F1 body (LpD F1 ES OS RT t))
    (hn : ∀ s g, o = .inr s → SX X (ES s g) (OS s g) F0 rest D) (hr : ∀ r v H, o = .inl r → RT r v H → D.rt v H) (hs : ∀ x, foldedSetIterable iter X.env x = pure x := by intro _; rfl) : SX X es os F0 (.For tg iter body [] fpos :: rest) D := fun F σ H s ow sl => by
  refine wps_cons (ws_of (ps_for T.po B.calm pi_u pg_u pss_u hs) (hi F σ H _ ow sl fun F1 H1 J e1 o1 good => ?_))
  refine ⟨fun i m σ' H' => m = xs.length - i ∧ i ≤ xs.length ∧ ∃ s' g', lpR f (xs.drop i) s' = some o ∧ ∃ F', Same F1 F' ∧ Ow F' (OS s' g') H' ∧ Sl F' (ES s' g') σ', ⟨_, rfl, Nat.zero_le _, s0, g0, hl, F1, Same.refl F1, o1, (sl.mono e1).weak h0⟩, ?_⟩
  rintro i m σ' H' ⟨rfl, hi, s', g', hl', F', e', o', sl'⟩
  obtain ⟨stop, go⟩ := good F' H' (OS s' g') i e' o' (hc s' g')
  cases hx : xs[i]? with
  | none =>
    have hi2 : xs.length ≤ i := List.getElem?_eq_none_iff.mp hx
    refine .inl ⟨stop hi2, ?_⟩
    rw [List.drop_eq_nil_of_le hi2] at hl'
    cases hl'
    exact hn s' g' rfl F' σ' H' ((s.trans e1).trans e') o' sl'
  | some x =>
    obtain ⟨hgo, hy⟩ := go x hx
    have hlt : i < xs.length := (List.getElem?_eq_some_iff.mp hx).1
    rw [drop_cons' hx] at hl'
    cases hf : f s' x with
    | none =>
      unfold lpR at hl'
      rw [hf] at hl'
      cases hl'
    | some t =>
      unfold lpR at hl'
      rw [hf] at hl'
      have hl2 : Step.aft (lpR f (xs.drop (i + 1))) t = some o := hl'
      refine .inr ⟨hgo, fun σ2 H2 => ∃ s2 g2, t = .go s2 ∧ ∃ F2, Same F1 F2 ∧ Ow F2 (OS s2 g2) H2 ∧ Sl F2 (ES s2 g2) σ2, ?_, ?_⟩
      · rintro σ2 H2 ⟨s2, g2, rfl, F2, e2, o2, sl2⟩
        exact ⟨_, by omega, rfl, by omega, s2, g2, hl2, F2, e2, o2, sl2⟩
      · intro v H3 yv
        obtain ⟨F3, e3, o3, c3⟩ := hy v H3 yv
        refine hg x _ _ F3 σ' H3 v _ o3 (sl'.mono e3) c3 fun σ4 sl4 => ?_
        have key := hb F1 (s.trans e1) s' g' x t (List.mem_of_getElem? hx) hf
        have q3 : Same F1 F3 := e'.trans e3
        -- the body, from F3; its ends are at least as strong as is wanted
        intro pins sh I
        refine wpAny_mono (key F3 σ4 H3 q3 o3 sl4 pins sh I) (fun fl s5 z => ?_) fun _ _ z => z
        cases fl with
        | next =>
          obtain ⟨σ5, H5, J5, s5', g5, et, F5, e5, o5, sl5⟩ := z
          exact ⟨σ5, H5, J5, s5', g5, et, F5, e5, o5, sl5⟩
        | cont =>
          obtain ⟨σ5, H5, J5, s5', g5, et, F5, e5, o5, sl5⟩ := z
          exact ⟨σ5, H5, J5, s5', g5, et, F5, e5, o5, sl5⟩
        | brk =>
          obtain ⟨σ5, H5, J5, s5', g5, et, F5, e5, o5, sl5⟩ := z
          subst et
          cases hl2
          exact ⟨σ5, H5, J5, hn s5' g5 rfl F5 σ5 H5 ((s.trans e1).trans e5) o5 sl5⟩
        | ret u =>
          obtain ⟨w, σ5, H5, J5, rv, r, et, rr⟩ := z
          subst et
          cases hl2
          exact ⟨w, σ5, H5, J5, rv, hr r w H5 rfl rr⟩
end
end Z
/-! Z, part G: plain loops, while, list comprehensions. -/
namespace Z
open PySem PySem.Spec PyProof.Rows L2

theorem lp_lpR {α S : Type} (f : S → α → Option S) : ∀ (xs : List α) (s fin : S), lp f xs s = some fin → lpR (R := Empty) (fun s x => (f s x).map Step.go) xs s = some (.inr fin)
  | [], s, fin, h => by
    cases h
    rfl
  | x :: xs, s, fin, h => by
    unfold lp at h
    unfold lpR
    cases e : f s x with
    | none =>
      rw [e] at h
      cases h
    | some s' =>
      rw [e] at h
      exact lp_lpR f xs s' fin h
section
variable {X : Cx} {es : List Slot} {os os1 os2 : Os} {F0 : Hp} {rest : List Stmt} {D : Ends} {N V G W : List Str} {k i vi gi : Nat} {x : Str} {p pos : Pos} {e e2 : Expr} {α : Type}
/-- what a turn of a plain loop is to reach -/
def LgD {S γ : Type} (F0 : Hp) (ES : S → γ → List Slot) (OS : S → γ → Os) (s : S) : Ends where
  nx := fun σ H => ∃ g, At F0 (ES s g) (OS s g) σ H
  ct := fun σ H => ∃ g, At F0 (ES s g) (OS s g) σ H
  bk := fun _ _ => False
  rt := fun _ _ => False
theorem sx_for {S γ : Type} {tg iter : Expr} {body : List Stmt} {xs : List α} {vp : α → VP} {c : Os → Prop} {up : α → List Slot → List Slot} {fpos : Pos} (f : S → α → Option S) (ES : S → γ → List Slot) (OS : S → γ → Os)
    (B : Bd X N W G k) (T : Bt X V) (hg : ∀ x, GX X tg (vp x) (up x)) (s0 : S) (g0 : γ) (fin : S) (hl : lp f xs s0 = some fin) (hi : IX X tg es os iter xs vp c (OS s0 g0)) (h0 : Wk es (ES s0 g0)) (hc : ∀ s g, c (OS s g))
    (hb : ∀ F1, Same F0 F1 → ∀ s g x s', x ∈ xs → f s x = some s' → SX X (up x (ES s g)) (OS s g) F1 body (LgD F1 ES OS s'))
    (hn : ∀ g, SX X (ES fin g) (OS fin g) F0 rest D) (hs : ∀ x, foldedSetIterable iter X.env x = pure x := by intro _; rfl) : SX X es os F0 (.For tg iter body [] fpos :: rest) D := by
  refine sx_forR (R := Empty) (fun s x => (f s x).map Step.go) ES OS (fun _ _ _ => False) B T hg s0 g0 (.inr fin) (lp_lpR f xs s0 fin hl) hi h0 hc (fun F1 h1 s g x t hx ht => ?_) (fun s g e => ?_) (fun r _ _ _ z => z.elim) hs
  · cases e : f s x with
    | none =>
      rw [e] at ht
      cases ht
    | some s' =>
      rw [e] at ht
      cases ht
      intro F σ H a b c pins sh I
      refine wpAny_mono (hb F1 h1 s g x s' hx e F σ H a b c pins sh I) (fun fl s5 z => ?_) fun _ _ z => z
      cases fl with
      | next =>
        obtain ⟨σ5, H5, J5, g5, a5⟩ := z
        exact ⟨σ5, H5, J5, s', g5, rfl, a5⟩
      | cont =>
        obtain ⟨σ5, H5, J5, g5, a5⟩ := z
        exact ⟨σ5, H5, J5, s', g5, rfl, a5⟩
      | brk =>
        obtain ⟨σ5, H5, J5, z⟩ := z
        exact z.elim
      | ret u =>
        obtain ⟨w, σ5, H5, J5, rv, z⟩ := z
        exact z.elim
  · cases e
    exact hn g

/-! ### while -/
theorem sx_while {R S γ : Type} {cd : Expr} {body : List Stmt} {fpos : Pos} (c : S → Option Bool) (f : S → Option (Step R S)) (ES : S → γ → List Slot) (OS : S → γ → Os) (RT : R → L2.V → Hp → Prop)
    (T : Bt X V) (n : Nat) (s0 : S) (g0 : γ) (o : Sum R S) (hl : wh c f n s0 = some o) (h0 : Wk es (ES s0 g0)) (ho : os = OS s0 g0)
    (hc : ∀ s g b, c s = some b → TX X (ES s g) (OS s g) cd b (OS s g))
    (hb : ∀ F1, Same F0 F1 → ∀ s g t, c s = some true → f s = some t → SX X (ES s g) (OS s g) F1 body (LpD F1 ES OS RT t))
    (hn : ∀ s g, o = .inr s → SX X (ES s g) (OS s g) F0 rest D) (hr : ∀ r v H, o = .inl r → RT r v H → D.rt v H) : SX X es os F0 (.While cd body [] fpos :: rest) D := fun F σ H s ow sl => by
  subst ho
  refine wps_cons (ws_of (ps_while T.po pt_u pss_u) ⟨fun m σ' H' => ∃ s' g', wh c f m s' = some o ∧ At F (ES s' g') (OS s' g') σ' H', ⟨n, s0, g0, hl, F, Same.refl F, ow, sl.weak h0⟩, ?_⟩)
  rintro m σ' H' ⟨s', g', hl', F', e', o', sl'⟩
  cases m with
  | zero => cases hl'
  | succ m =>
    unfold wh at hl'
    cases hcs : c s' with
    | none =>
      rw [hcs] at hl'
      cases hl'
    | some b =>
      rw [hcs] at hl'
      refine hc s' g' b hcs F' σ' H' _ o' sl' fun F1 H1 e1 o1 => ?_
      cases b with
      | false =>
        have hl2 : some (.inr s') = some o := hl'
        cases hl2
        rw [if_neg Bool.false_ne_true]
        exact hn s' g' rfl F1 σ' H1 ((s.trans e').trans e1) o1 (sl'.mono e1)
      | true =>
        have hl2 : (f s').bind (Step.aft (wh c f m)) = some o := hl'
        rw [if_pos rfl]
        cases hf : f s' with
        | none =>
          rw [hf] at hl2
          cases hl2
        | some t =>
          rw [hf] at hl2
          have hl3 : Step.aft (wh c f m) t = some o := hl2
          refine ⟨fun σ2 H2 => ∃ s2 g2, t = .go s2 ∧ At F (ES s2 g2) (OS s2 g2) σ2 H2, ?_, ?_⟩
          · rintro σ2 H2 ⟨s2, g2, rfl, a2⟩
            exact ⟨m, Nat.lt_succ_self m, s2, g2, hl3, a2⟩
          · intro pins sh I
            refine wpAny_mono (hb F s s' g' t hcs hf F1 σ' H1 (e'.trans e1) o1 (sl'.mono e1) pins sh I) (fun fl s5 z => ?_) fun _ _ z => z
            cases fl with
            | next => exact z
            | cont => exact z
            | brk =>
              obtain ⟨σ5, H5, J5, s5', g5, et, F5, e5, o5, sl5⟩ := z
              subst et
              cases hl3
              exact ⟨σ5, H5, J5, hn s5' g5 rfl F5 σ5 H5 (s.trans e5) o5 sl5⟩
            | ret u =>
              obtain ⟨w, σ5, H5, J5, rv, r, et, rr⟩ := z
              subst et
              cases hl3
              exact ⟨w, σ5, H5, J5, rv, hr r w H5 rfl rr⟩

/-! ### list comprehensions -/
theorem sl_wipe {F : Hp} {σ : L2.St} (h : Sl F es σ) : ∀ vs : List Nat, (∀ j ∈ vs, ∃ s, es[j]? = some s ∧ s = un) → Sl F es (wipe σ vs)
  | [], _ => h
  | v :: vs, hv => by
    have ih := sl_wipe h vs fun j hj => hv j (List.mem_cons_of_mem _ hj)
    obtain ⟨s, e, eu⟩ := hv v List.mem_cons_self
    subst eu
    have := ih.set (i := v) (s := un) (o := none) fun _ _ => trivial
    have e2 : es.set v un = es := by
      refine List.ext_getElem? fun j => ?_
      by_cases hj : v = j
      · subst hj
        rw [List.getElem?_set_self (List.getElem?_eq_some_iff.mp e).1, e]
      · rw [List.getElem?_set_ne hj]
    rw [e2] at this
    exact this

/-- the contexts in which the block of a comprehension runs -/
def Fam (X : Cx) (scope : Scope) (X' : Cx) : Prop := ∃ s H C cl fp, X' = X.blk s H scope (compEnvC scope cl C X.env) fp
/-- the tests of a comprehension: none, or one -/
inductive PTX (X : Cx) (es : List Slot) (os : Os) : List Expr → Bool → Os → Prop
  | nil : PTX X es os [] true os
  | one {c : Expr} {b : Bool} {os' : Os} : TX X es os c b os' → PTX X es os [c] b os'
def tIfs (X : Cx) (scope : Scope) (ifs : List Expr) : TT := fun σ H Q => match ifs with
  | [] => Q true H
  | [c] => ∀ X', Fam X scope X' → WT X' c σ H Q
  | _ => False
theorem pts_u {scope : Scope} {X' : Cx} (hf : Fam X scope X') : ∀ ifs : List Expr, PTs X' ifs (tIfs X scope ifs)
  | [] => pts_nil
  | [c] => pts_one ⟨fun pins s _ _ _ I h => h X' hf pins s I⟩
  | _ :: _ :: _ => ⟨fun _ _ _ _ _ _ h => h.elim⟩
def tElt (X : Cx) (scope : Scope) (e : Expr) : TE := fun σ H Q => ∀ X', Fam X scope X' → WE X' e σ H Q
theorem pe_elt {scope : Scope} {X' : Cx} (hf : Fam X scope X') : PE X' e (tElt X scope e) := ⟨fun pins s _ _ _ I h => h X' hf pins s I⟩
/-- the own names of a comprehension may be stored -/
def ownB (scope sc : Scope) (x : Str) : Bool := match (relS scope sc).names.lookup x with
  | some .local => true
  | some .cell => scope.names.lookup x == some .cell
  | _ => false
theorem pg_own {scope : Scope} {X' : Cx} {j : Nat} {y : Str} {tpos : Pos} (hf : Fam X scope X') (B : Bd X N W G k) (hj : N[j]? = some y) (ho : ownB scope X.env.scope y = true) : PG X' (.Name y tpos) (gName j) := by
  obtain ⟨s, H, C, cl, fp, rfl⟩ := hf
  unfold ownB at ho
  have e : (X.blk s H scope (compEnvC scope cl C X.env) fp).env.scope = relS scope X.env.scope := rfl
  split at ho
  · rename_i hl
    exact pg_name (B.hN ▸ B.nd) (B.hN ▸ hj) (.inl (by rw [e]; exact hl)) (.inr (by rw [e]; exact hl))
  · rename_i hl
    exact pg_name (B.hN ▸ B.nd) (B.hN ▸ hj) (.inr (by rw [e]; exact hl)) (.inl ho)
  · cases ho
/-- the state of a comprehension: the list so far, what is still to come -/
def LcS {S β : Type} (f : S → α → Option (Option β × S)) (OS : S → Os → Os) (enc : β → PyData) (xs : List α) (ys : List β) (sf : S) (os0 : Os) (Dl : Addr) (F1 : Hp) (i : Nat) (H : Hp) : Prop :=
  ∃ s d r F, lcS f (xs.drop i) s = some (r, sf) ∧ ys = d ++ r ∧ d.length ≤ i ∧ Same F1 F ∧ Ow F (OS s ((Dl, ol (d.map enc)) :: os0)) H
theorem lc_elt {S β : Type} {elt : Expr} {scope : Scope} {xs : List α} {enc : β → PyData} {f : S → α → Option (Option β × S)} {OS : S → Os → Os} {ys : List β} {sf : S} {os0 : Os} {Dl : Addr} {F1 F4 : Hp} {i : Nat} {up : List Slot} {t : Option β × S} {d r : List β} {σ : L2.St} {H4 : Hp} {os1 : Os}
    (hperm : ∀ s q tl, (OS s (q :: tl)).Perm (q :: OS s tl)) (hi : i < xs.length) (hz : xs.length < sizeLine) (hd : d.length ≤ i) (hr : ((lcS f (xs.drop (i + 1)) t.2).bind fun u => some (t.1.toList ++ u.1, u.2)) = some (r, sf)) (hy : ys = d ++ r)
    (e4 : Same F1 F4) (o4 : Ow F4 os1 H4) (sl : Sl F4 up σ) (key : ∀ X', Fam X scope X' → ∃ y, t.1 = some y ∧ EX X' up os1 elt (dat (enc y)) (OS t.2 ((Dl, ol (d.map enc)) :: os0))) :
    tElt X scope elt σ H4 fun y H5 => ∃ acc, H5 Dl = some (.lst acc) ∧ acc.length < sizeLine ∧ LcS f OS enc xs ys sf os0 Dl F1 (i + 1) (upd H5 Dl (.lst (acc ++ [y]))) := by
  intro X' hX'
  obtain ⟨y, hy1, he⟩ := key X' hX'
  refine he F4 σ H4 _ o4 sl fun F5 H5 v e5 o5 c5 => ?_
  have o6 := o5.perm (hperm t.2 _ os0)
  obtain ⟨_, vs, hu, hv⟩ := o6.atL
  have hl := dqall_len hv
  rw [List.length_map] at hl
  refine ⟨vs, hu, by omega, ?_⟩
  cases hu2 : lcS f (xs.drop (i + 1)) t.2 with
  | none =>
    rw [hu2] at hr
    cases hr
  | some w =>
    rw [hu2, hy1] at hr
    have hr2 : (y :: w.1, w.2) = (r, sf) := Option.some.inj hr
    obtain ⟨rfl, rfl⟩ := Prod.mk.inj hr2
    refine ⟨t.2, d ++ [y], w.1, F5, by rw [hu2], by rw [hy, List.append_assoc]; rfl, by rw [List.length_append, List.length_singleton]; omega, e4.trans e5, ?_⟩
    refine (o6.putL (ds' := (d ++ [y]).map enc) ?_).perm (hperm t.2 _ os0).symm
    rw [List.map_append]
    exact dqall_app hv (.cons c5.now .nil)
theorem lc_read {S β : Type} {elt iter tg : Expr} {ifs : List Expr} {scope : Scope} {vs : List Nat} {xs : List α} {vp : α → VP} {c : Os → Prop} {g : TG} {up : α → List Slot → List Slot} {enc : β → PyData} {f : S → α → Option (Option β × S)} {OS : S → Os → Os}
    {s0 : S} {os0 : Os} {ys : List β} {sf : S} (hv : ∀ j ∈ vs, es[j]? = some un) (hid : ∀ σ : L2.St, wipe (wipe σ vs) vs = wipe σ vs)
    (hg : ∀ x F σ H v Q os2, Sl F es σ → wipe σ vs = σ → Ow F os2 H → Cl (vp x) F v → (∀ σ', Sl F (up x es) σ' → wipe σ' vs = σ → Q σ' H) → g v σ H Q)
    (hif : ifs.length ≤ 1) (hl : lcS f xs s0 = some (ys, sf)) (hz : xs.length < sizeLine) (hi : IX X tg es os iter xs vp c (OS s0 os0)) (hc : ∀ s tl, c (OS s tl)) (hperm : ∀ s q tl, (OS s (q :: tl)).Perm (q :: OS s tl))
    (hb : ∀ s x t tl, x ∈ xs → f s x = some t → ∃ b os1, ∀ X', Fam X scope X' → PTX X' (up x es) (OS s tl) ifs b os1 ∧ (b = true → ∃ y, t.1 = some y ∧ EX X' (up x es) os1 elt (dat (enc y)) (OS t.2 tl)) ∧ (b = false → t.1 = none ∧ os1 = OS t.2 tl))
    {F σ H Q} (ow : Ow F os H) (sl : Sl F es σ) (q : ∀ F' H' p, Same F F' → Ow F' ((p, ol (ys.map enc)) :: OS sf os0) H' → Q (.ref p) H') : tLc (WI X tg iter) g (tIfs X scope ifs) (tElt X scope elt) vs σ H Q := by
  refine hi F σ H _ ow sl fun F1 H1 J e1 o1 good Dl hD => ?_
  refine ⟨fun i m H => m = xs.length - i ∧ i ≤ xs.length ∧ LcS f OS enc xs ys sf os0 Dl F1 i H, ⟨_, rfl, Nat.zero_le _, s0, [], ys, F1, hl, rfl, Nat.le_refl _, Same.refl F1, ?_⟩, ?_⟩
  · exact (o1.new hD fun G g => ⟨[], rfl, .nil⟩).perm (hperm s0 _ os0).symm
  · rintro i m H' ⟨rfl, hi, s, d, r, F', hr, hy, hdl, e', o'⟩
    obtain ⟨stop, go⟩ := good F' H' _ i e' o' (hc s _)
    cases hx : xs[i]? with
    | none =>
      have hi2 : xs.length ≤ i := List.getElem?_eq_none_iff.mp hx
      rw [List.drop_eq_nil_of_le hi2] at hr
      cases hr
      refine .inl ⟨stop hi2, q F' H' Dl (e1.trans e') ?_⟩
      rw [hy, List.append_nil]
      exact o'.perm (hperm _ _ os0)
    | some x =>
      obtain ⟨hgo, hyl⟩ := go x hx
      have hlt : i < xs.length := (List.getElem?_eq_some_iff.mp hx).1
      rw [drop_cons' hx] at hr
      unfold lcS at hr
      cases hf : f s x with
      | none =>
        rw [hf] at hr
        cases hr
      | some t =>
        rw [hf] at hr
        have hr : ((lcS f (xs.drop (i + 1)) t.2).bind fun u => some (t.1.toList ++ u.1, u.2)) = some (r, sf) := hr
        refine .inr ⟨hgo, LcS f OS enc xs ys sf os0 Dl F1 (i + 1), fun H2 hH2 => ⟨_, by omega, rfl, by omega, hH2⟩, fun v H3 yv => ?_⟩
        obtain ⟨F3, e3, o3, c3⟩ := hyl v H3 yv
        have slw : Sl F3 es (wipe σ vs) := sl_wipe (sl.mono ((e1.trans e').trans e3)) vs fun j hj => ⟨un, hv j hj, rfl⟩
        refine hg x F3 (wipe σ vs) H3 v _ _ slw (hid σ) o3 c3 fun σ' sl' hw => ⟨hw, ?_⟩
        obtain ⟨b, os1, key⟩ := hb s x t ((Dl, ol (d.map enc)) :: os0) (List.mem_of_getElem? hx) hf
        have e4 := e'.trans e3
        match ifs, hif, key with
        | [], _, key =>
          refine lc_elt hperm hlt hz hdl hr hy e4 o3 sl' fun X' hX' => ?_
          obtain ⟨k1, k2, _⟩ := key X' hX'
          cases k1
          exact k2 rfl
        | [cd], _, key =>
          intro X' hX'
          obtain ⟨k1, k2, k3⟩ := key X' hX'
          cases k1 with
          | one ht =>
            refine ht F3 σ' H3 _ o3 sl' fun F4 H4 e5 o4 => ?_
            cases b with
            | true =>
              rw [if_pos rfl]
              exact lc_elt hperm hlt hz hdl hr hy (e4.trans e5) o4 (sl'.mono e5) fun X'' hX'' => (key X'' hX'').2.1 rfl
            | false =>
              rw [if_neg Bool.false_ne_true]
              obtain ⟨k4, rfl⟩ := k3 rfl
              cases hu2 : lcS f (xs.drop (i + 1)) t.2 with
              | none =>
                rw [hu2] at hr
                cases hr
              | some w =>
                rw [hu2, k4] at hr
                have hr2 : (w.1, w.2) = (r, sf) := Option.some.inj hr
                obtain ⟨rfl, rfl⟩ := Prod.mk.inj hr2
                exact ⟨t.2, d, w.1, F4, by rw [hu2], hy, by omega, e4.trans e5, o4⟩
        | _ :: _ :: _, hif, key =>
          rw [List.length_cons, List.length_cons] at hif
          omega

/-- all that a comprehension asks -/
structure LcOk (X : Cx) (es : List Slot) (os : Os) {α S β : Type} (tg iter elt : Expr) (ifs : List Expr) (scope : Scope) (own : List (Str × Nat)) (xs : List α) (vp : α → VP) (c : Os → Prop) (g : TG) (up : α → List Slot → List Slot) (enc : β → PyData)
    (f : S → α → Option (Option β × S)) (OS : S → Os → Os) (s0 : S) (os0 : Os) (ys : List β) (sf : S) : Prop where
  calm : X.calm = true
  nd : X.N.Nodup
  ok : BlkOk X.N X.env.scope scope own
  pg : ∀ X', Fam X scope X' → PG X' tg g
  hv : ∀ j ∈ own.map (·.2), es[j]? = some un
  hid : ∀ σ : L2.St, wipe (wipe σ (own.map (·.2))) (own.map (·.2)) = wipe σ (own.map (·.2))
  hg : ∀ x F σ H v Q os2, Sl F es σ → wipe σ (own.map (·.2)) = σ → Ow F os2 H → Cl (vp x) F v → (∀ σ', Sl F (up x es) σ' → wipe σ' (own.map (·.2)) = σ → Q σ' H) → g v σ H Q
  hif : ifs.length ≤ 1
  hl : lcS f xs s0 = some (ys, sf)
  hz : xs.length < sizeLine
  hi : IX X tg es os iter xs vp c (OS s0 os0)
  hc : ∀ s tl, c (OS s tl)
  hperm : ∀ s q tl, (OS s (q :: tl)).Perm (q :: OS s tl)
  hb : ∀ s x t tl, x ∈ xs → f s x = some t → ∃ b os1, ∀ X', Fam X scope X' → PTX X' (up x es) (OS s tl) ifs b os1 ∧ (b = true → ∃ y, t.1 = some y ∧ EX X' (up x es) os1 elt (dat (enc y)) (OS t.2 tl)) ∧ (b = false → t.1 = none ∧ os1 = OS t.2 tl)
section
variable {α S β : Type} {tg iter elt : Expr} {ifs : List Expr} {scope : Scope} {own : List (Str × Nat)} {xs : List α} {vp : α → VP} {c : Os → Prop} {g : TG} {up : α → List Slot → List Slot} {enc : β → PyData}
    {f : S → α → Option (Option β × S)} {OS : S → Os → Os} {s0 : S} {os0 : Os} {ys : List β} {sf : S}
theorem en_lc (h : LcOk X es os tg iter elt ifs scope own xs vp c g up enc f OS s0 os0 ys sf) (hs : ∀ x, foldedSetIterable iter X.env x = pure x := by intro _; rfl) : EN X es os (.ListComp elt [⟨tg, iter, ifs, 0⟩] scope pos) (ol (ys.map enc)) (OS sf os0) := fun F σ H Q ow sl q =>
  we_of (pe_lc h.calm h.nd pi_u h.ok (fun s H C cl fp => h.pg _ ⟨s, H, C, cl, fp, rfl⟩) (fun s H C cl fp => pts_u ⟨s, H, C, cl, fp, rfl⟩ ifs) (fun s H C cl fp => pe_elt ⟨s, H, C, cl, fp, rfl⟩) hs)
    (lc_read h.hv h.hid h.hg h.hif h.hl h.hz h.hi h.hc h.hperm h.hb ow sl q)
theorem sx_asgLc {y : Str} {py spos : Pos} (B : Bd X N W G k) (T : Bt X V) (hi : N[i]? = some y) (hyl : X.env.scope.names.lookup y = some .local) (h : LcOk X es os tg iter elt ifs scope own xs vp c g up enc f OS s0 os0 ys sf)
    (hsw : swapsWith (.ListComp elt [⟨tg, iter, ifs, 0⟩] scope pos) (some (.Name y py)) spos.line X.env = pure true)
    (hn : ∀ p, SX X (es.set i (sl (Z.own p))) ((p, ol (ys.map enc)) :: OS sf os0) F0 rest D) (hs : ∀ x, foldedSetIterable iter X.env x = pure x := by intro _; rfl) : SX X es os F0 (.Assign [.Name y py] (.ListComp elt [⟨tg, iter, ifs, 0⟩] scope pos) spos :: rest) D := fun F σ H s ow sl =>
  wps_cons (ws_of (ps_setLc h.calm h.nd (B.hN ▸ hi) hyl hsw pi_u h.ok (fun s H C cl fp => h.pg _ ⟨s, H, C, cl, fp, rfl⟩) (fun s H C cl fp => pts_u ⟨s, H, C, cl, fp, rfl⟩ ifs) (fun s H C cl fp => pe_elt ⟨s, H, C, cl, fp, rfl⟩) hs)
    (lc_read (Q := fun v H1 => gName i v σ H1 (WPs X rest D)) h.hv h.hid h.hg h.hif h.hl h.hz h.hi h.hc h.hperm h.hb ow sl fun F1 H1 p e1 o1 => hn p F1 _ H1 (s.trans e1) o1 ((sl.mono e1).put cl_own)))
end
/-- the target is one name -/
theorem lc_gname {α : Type} {vp : α → VP} {j : Nat} (x : α) (F : Hp) (σ : L2.St) (H : Hp) (v : L2.V) (Q : L2.St → Hp → Prop) (os2 : Os) (sl : Sl F es σ) (hw : wipe σ [j] = σ) (ow : Ow F os2 H) (c : Cl (vp x) F v) (q : ∀ σ', Sl F (es.set j (Z.sl (vp x))) σ' → wipe σ' [j] = σ → Q σ' H) : gName j v σ H Q := by
  refine q _ (sl.put c) ?_
  show (σ.set j (some v)).set j none = σ
  rw [List.set_set]
  exact hw
theorem lc_id1 {j : Nat} (σ : L2.St) : wipe (wipe σ [j]) [j] = wipe σ [j] := by
  show (σ.set j none).set j none = σ.set j none
  rw [List.set_set]
/-- a pair of names -/
theorem lc_id2 {i j : Nat} (hij : i ≠ j) (σ : L2.St) : wipe (wipe σ [i, j]) [i, j] = wipe σ [i, j] := by
  show (((σ.set j none).set i none).set j none).set i none = (σ.set j none).set i none
  rw [List.set_comm _ _ hij, List.set_set, List.set_set]
theorem lc_gpair {α : Type} {K : PySem.W.Frag} {d1 d2 : α → PyData} {i j : Nat} (hij : i ≠ j) (x : α) (F : Hp) (σ : L2.St) (H : Hp) (v : L2.V) (Q : L2.St → Hp → Prop) (os2 : Os) (sl : Sl F es σ) (hw : wipe σ [i, j] = σ) (ow : Ow F os2 H) (c : Cl (dat (.tuple [d1 x, d2 x])) F v)
    (q : ∀ σ', Sl F ((es.set i (Z.sl (dat (d1 x)))).set j (Z.sl (dat (d2 x)))) σ' → wipe σ' [i, j] = σ → Q σ' H) : gTup K 2 (gCons (gName i) (gCons (gName j) gNil)) v σ H Q := by
  obtain ⟨p, vs, rfl, hp, hv⟩ := rdt_dat F v c
  cases hv with
  | cons k1 r =>
    cases r with
    | cons k2 r =>
      cases r
      refine ⟨p, _, rfl, .of (ow.ex _ _ hp), rfl, _, _, rfl, _, _, rfl, rfl, ?_⟩
      refine q _ ((sl.put (cl_dat k1)).put (cl_dat k2)) ?_
      have hw2 : (σ.set j none).set i none = σ := hw
      show (((σ.set i _).set j _).set j none).set i none = σ
      rw [List.set_set, List.set_comm _ _ hij, List.set_set, List.set_comm _ _ (Ne.symm hij)]
      rw [List.set_comm _ _ hij]
      exact hw2
theorem pg_own2 {scope : Scope} {X' : Cx} {i j : Nat} {y z : Str} {p1 p2 tpos : Pos} {kk : Nat} (hf : Fam X scope X') (B : Bd X N W G k) (hi : N[i]? = some y) (hj : N[j]? = some z) (ho : ownB scope X.env.scope y = true) (ho2 : ownB scope X.env.scope z = true) :
    PG X' (.Tuple [.Name y p1, .Name z p2] kk tpos) (gTup X'.K 2 (gCons (gName i) (gCons (gName j) gNil))) := by
  have hc : X'.calm = true := by
    obtain ⟨s, H, C, cl, fp, rfl⟩ := hf
    exact B.calm
  exact pg_tup hc (pgs_cons (pg_own hf B hi ho) (pgs_cons (pg_own hf B hj ho2) pgs_nil))
/-- a body's facts hold in a comprehension's block -/
theorem Bd.fam {scope : Scope} {X' : Cx} {W' G' : List Str} (B : Bd X N W G k) (hf : Fam X scope X') (h : namB (relS scope X.env.scope) W' G' = true) : Bd X' N W' G' k := by
  obtain ⟨s, H, C, cl, fp, rfl⟩ := hf
  exact ⟨B.hN, B.nd, B.calm, B.gd, B.room, nam_vis h, nam_gl h⟩
end
end Z
/-! Z, part H: from bodies to promises, and the law's own call. -/
namespace Z
open PySem PySem.Spec PyProof.Rows L2

section
variable {P : Program} {w : World} {K : PySem.W.Frag} {mg : Str → Option Value} {base : Heap}
theorem pass_nox {N : List Str} {qual : Str} {sc : Scope} {f : Addr} {cdv : Value} {A : Around} {outer : List Env} {s : Shared} {H : Hp} {E : XK} {sts : List Stmt} {D : Ends} {σ : L2.St} {H' : Hp}
    (h : WPs (cxOf CX0 P w K mg base N qual sc f cdv A outer s H E).nox sts D σ H') : WPs (cxOf CX0 P w K mg base N qual sc f cdv A outer s H E) sts D σ H' :=
  wps_of (PSs.nox (pss_u (X := (cxOf CX0 P w K mg base N qual sc f cdv A outer s H E).nox))) h
theorem cla_start {F : Hp} : ∀ {φs : List VP} {vs : List L2.V} (n : Nat), ClA φs F vs → Sl F (φs.map sl ++ List.replicate n un) (vs.map some ++ List.replicate n none)
  | [], _, n, h => by
    have e : _ = [] := h
    subst e
    refine ⟨by simp, fun i t q => ?_⟩
    have q' : (List.replicate n un)[i]? = some t := q
    rw [List.getElem?_replicate] at q'
    split at q'
    · rename_i hi
      cases q'
      refine ⟨none, ?_, fun _ _ => trivial⟩
      show (List.replicate n none)[i]? = some none
      rw [List.getElem?_replicate, if_pos hi]
    · cases q'
  | φ :: φs, _, n, ⟨v, r, e, h1, h2⟩ => by
    subst e
    have ih := cla_start n h2
    refine ⟨by simpa using ih.len, fun i t q => ?_⟩
    cases i with
    | zero =>
      have q' : some (sl φ) = some t := q
      cases q'
      exact ⟨some v, rfl, fun G g => ⟨v, rfl, h1 G g⟩⟩
    | succ i => exact ih.get i t q
/-- how a body hands back what a promise tells -/
structure RetZ (F0 : Hp) (os : Os) (φ : VP) (D : Ends) : Prop where
  rt : ∀ F H v, Same F0 F → Ow F os H → Cl φ F v → D.rt v H
  nx : ∀ σ H, D.rt .non H → D.nx σ H
structure RetN (F0 : Hp) (os : Os) (n : Ent) (D : Ends) : Prop where
  rt : ∀ F H p, Same F0 F → Ow F ((p, n) :: os) H → D.rt (.ref p) H
variable {α β : Type} {ps : α → List VP} {pre : α → Os} {m : α → Option β} {res : α → β → VP} {post : α → β → Os} {n : α → β → Ent} {x : Str} {st : Stmt} {f : Addr} {fd : FuncData} {N V Gs pn : List Str} {k nl : Nat}
theorem cal_Z (Fn : Fun K x x st f fd) (S : FnScope N pn (defScope st)) (nam : namB (defScope st) V Gs = true) (loc : V.all (locB (defScope st)) = true) (hmg : mg x = some (.ref f)) (hb : Binds K fd pn []) (hps : ∀ a, (ps a).length = pn.length) (hN : N.length = pn.length + nl)
    (body : ∀ (f : Addr) (cdv : Value) (A : Around) (outer : List Env) (s : Shared) (H : Hp) (E : XK) (a : α) (b : β) (F0 : Hp) (os : Os) (D : Ends), Bd (cxOf CX0 P w K mg base N x (defScope st) f cdv A outer s H E).nox N V Gs k → Bt (cxOf CX0 P w K mg base N x (defScope st) f cdv A outer s H E).nox V →
      m a = some b → RetZ F0 (post a b ++ os) (res a b) D → SX (cxOf CX0 P w K mg base N x (defScope st) f cdv A outer s H E).nox ((ps a).map sl ++ List.replicate nl un) (pre a ++ os) F0 (defBody st) D) : Cal P w K mg base (k + 1) x st pn (spZ ps pre m res post) := by
  refine ⟨f, fd, Fn, fun_ok Fn S (spZ_len hps) ?_, hmg, hb⟩
  rintro cdv A outer s H vs Q E hg hr ⟨a, b, F, os, c, ow, hm, q⟩
  refine pass_nox ?_
  have hl := (cla_len c).trans (hps a)
  have hst : L2.start N vs = vs.map some ++ List.replicate nl none := by
    unfold L2.start
    rw [hl, hN, Nat.add_sub_cancel_left]
  rw [hst]
  refine body f cdv A outer s H E a b F os _ ⟨rfl, S.nd, rfl, hg, hr, nam_vis nam, nam_gl nam⟩ ⟨fun _ => rfl, fun y hy => loc_of (List.all_eq_true.mp loc y hy), PassesOwn.never⟩ hm ⟨fun F' H' v e o c => q F' H' v e o c, fun _ _ z => z⟩ F _ H (Same.refl F) ow (cla_start nl c)
theorem cal_N (Fn : Fun K x x st f fd) (S : FnScope N pn (defScope st)) (nam : namB (defScope st) V Gs = true) (loc : V.all (locB (defScope st)) = true) (hmg : mg x = some (.ref f)) (hb : Binds K fd pn []) (hps : ∀ a, (ps a).length = pn.length) (hN : N.length = pn.length + nl)
    (body : ∀ (f : Addr) (cdv : Value) (A : Around) (outer : List Env) (s : Shared) (H : Hp) (E : XK) (a : α) (b : β) (F0 : Hp) (os : Os) (D : Ends), Bd (cxOf CX0 P w K mg base N x (defScope st) f cdv A outer s H E).nox N V Gs k → Bt (cxOf CX0 P w K mg base N x (defScope st) f cdv A outer s H E).nox V →
      m a = some b → RetN F0 (post a b ++ os) (n a b) D → SX (cxOf CX0 P w K mg base N x (defScope st) f cdv A outer s H E).nox ((ps a).map sl ++ List.replicate nl un) (pre a ++ os) F0 (defBody st) D) : Cal P w K mg base (k + 1) x st pn (spN ps pre m n post) := by
  refine ⟨f, fd, Fn, fun_ok Fn S (spN_len hps) ?_, hmg, hb⟩
  rintro cdv A outer s H vs Q E hg hr ⟨a, b, F, os, c, ow, hm, q⟩
  refine pass_nox ?_
  have hl := (cla_len c).trans (hps a)
  have hst : L2.start N vs = vs.map some ++ List.replicate nl none := by
    unfold L2.start
    rw [hl, hN, Nat.add_sub_cancel_left]
  rw [hst]
  refine body f cdv A outer s H E a b F os _ ⟨rfl, S.nd, rfl, hg, hr, nam_vis nam, nam_gl nam⟩ ⟨fun _ => rfl, fun y hy => loc_of (List.all_eq_true.mp loc y hy), PassesOwn.never⟩ hm ⟨fun F' H' p e o => q F' H' p e o⟩ F _ H (Same.refl F) ow (cla_start nl c)
end

/-! ### the law -/
/-- the law's call keeps a promise -/
def LawSp (K : PySem.W.Frag) (m : List Int → Option Bool) : Sp := spZ (fun ns => [scr K ns]) (fun _ => []) m (fun _ b => dat (.bool b)) (fun _ _ => [])
theorem law_run {P : Program} {w : World} {K : PySem.W.Frag} {mg mb : Str → Option Value} {k : Nat} {fa a : Addr} {fd : FuncData} {x : Str} {sp : Sp} {s1 : Shared} {vs : List Value} {ns : List Int}
    (KX : K.In s1.heap) (hns : s1.heap.Ns mainGlobals mg) (hb : s1.heap.Ns builtinsNs mb) (hbb : ∀ x : Str, x ≠ "__name__" → mb x = bootBuiltins x) (hlim : s1.heap.NoLimit) (hg : s1.gens = #[])
    (ha : s1.heap.get? a = some { cls := .type "list", data := .seq vs.toArray }) (hi : IntsAre vs ns) (hl : ns.length ≤ sizeLine) (hr : Room k callerA)
    (F : ∀ base : Heap, K.In base → base.Ns mainGlobals mg → FnG P w K mg base CX0 k fa fd [x] sp) (hbind : ∀ (s : Shared) (u : Value), BindsTo s fd ⟨[u], []⟩ [(x, u)])
    (hsp : ∀ H : Hp, Only H → SqL K H a (ns.map V.int) → sp [.ref a] H (fun v _ => v = .bl true) E0) :
    codeAny (model P w) callerA (.call (.ref fa) ⟨[.ref a], []⟩) (fun r s' => r = .ok (.ret (.bool true)) ∧ OldK s1.heap s'.heap ∧ s'.os = s1.os ∧ AllBare s'.gens) s1 := by
  have rv := vals_ints hi
  have step : ∀ H : Hp, Only H → SqL K H a (ns.map V.int) → HOk P w H s1.heap → (∀ b, H b ≠ none → b = a) → (H a ≠ none → K.lookup a = none) →
      codeAny (model P w) callerA (.call (.ref fa) ⟨[.ref a], []⟩) (fun r s' => r = .ok (.ret (.bool true)) ∧ OldK s1.heap s'.heap ∧ s'.os = s1.os ∧ AllBare s'.gens) s1 := by
    intro H only seq hok single lone
    have nsH : ∀ {b : Addr} {m : Str → Option Value}, s1.heap.Ns b m → (hidT s1.heap H).Ns b m := by
      rintro b m ⟨o, es, ep, e, d, r⟩
      refine ⟨o, es, ep, hidT_get e ?_, d, r⟩
      cases q : H b with
      | none => rfl
      | some u =>
        obtain rfl : b = a := single b (by rw [q]; simp)
        rw [ha] at e
        cases e
        have d' : Data.seq vs.toArray _ = Data.dict es ep := d
        cases d'
    have kin : K.In (hidT s1.heap H) := by
      intro b o e
      refine hidT_get (KX b o e) ?_
      cases q : H b with
      | none => rfl
      | some u =>
        obtain rfl : b = a := single b (by rw [q]; simp)
        have := lone (by rw [q]; simp)
        rw [this] at e
        cases e
    obtain ⟨mc, lim1, lim2⟩ := hlim
    have e0 : Env0 P w K mg (hidT s1.heap H) callerA [] s1 H :=
      { frames := rfl
        mod := ⟨kin, nsH hns, ⟨mb, nsH hb, hbb⟩, ⟨mc, nsH lim1, lim2⟩⟩
        bs := fun b o e => of_hidT e
        bsz := Nat.le_of_eq (hidT_size _ _)
        funs := trivial
        frf := fun b hb => nomatch (show b ∈ ([] : List Addr) from hb)
        hok := hok
        bare := .of_eq hg }
    refine codeAny_mono ((F _ kin (nsH hns)).run callerA [] s1 H ⟨[.ref a], []⟩ [.ref a] [.ref a] _ _ rfl hr e0 (hbind s1 (.ref a)) (.cons rfl .nil) (hsp H only seq)) ?_
    intro r s' h
    cases r with
    | error e => exact h.elim
    | ok fl =>
      cases fl with
      | next => exact h.elim
      | brk => exact h.elim
      | cont => exact h.elim
      | ret u =>
        obtain ⟨v, H', os, bare, un, hok', r', q⟩ := h
        obtain rfl : v = .bl true := q
        obtain rfl : u = Value.bool true := r'
        refine ⟨rfl, OldK.of_keep ?_, os, bare⟩
        intro b o e
        cases q : H b with
        | none => exact un.keep b o e q (fun z => nomatch (show b ∈ ([] : List Addr) from z)) (fun z => nomatch z)
        | some u =>
          rcases only b with z | ⟨ob, xs, z⟩
          · rw [q] at z
            cases z
          · obtain ⟨e1, _⟩ := hok b _ z
            obtain ⟨e2, _⟩ := hok' b _ (un.frzs b ob _ z)
            rw [e] at e1
            cases e1
            exact e2
  cases hk : K.lookup a with
  | some o =>
    have e := KX a o hk
    rw [ha] at e
    cases e
    exact step (fun _ => none) (fun _ => .inl rfl) (.inr ⟨_, vs.toArray, _, hk, rfl, rfl, rfl, by rw [List.size_toArray, hi.length]; exact hl, by simpa using rv⟩) (fun b u z => nomatch z) (fun b z => absurd rfl z) fun z => absurd rfl z
  | none =>
    let Hs : Hp := fun b => if b = a then some (.frz { cls := .type "list", data := .seq vs.toArray } (.lst (ns.map V.int))) else none
    have at_ : Hs a = some (.frz { cls := .type "list", data := .seq vs.toArray } (.lst (ns.map V.int))) := if_pos rfl
    have off : ∀ b, b ≠ a → Hs b = none := fun b h => if_neg h
    refine step Hs (fun b => ?_) (.inl (.inr ⟨_, at_⟩)) (fun b u z => ?_) (fun b z => Classical.byContradiction fun h => z (off b h)) fun _ => hk
    · by_cases h : b = a
      · exact .inr ⟨_, _, h ▸ at_⟩
      · exact .inl (off b h)
    · by_cases h : b = a
      · subst h
        rw [at_] at z
        cases z
        exact ⟨ha, by rw [List.length_map]; exact hl, vs, _, rv, ha⟩
      · rw [off b h] at z
        cases z
theorem law_sp {K : PySem.W.Frag} {m : List Int → Option Bool} {H : Hp} {a : Addr} {ns : List Int} (hm : m ns = some true) (hS : SqL K H a (ns.map V.int)) : LawSp K m [.ref a] H (fun v _ => v = .bl true) E0 :=
  ⟨ns, true, H, [], ⟨_, [], rfl, fun G g => ⟨a, rfl, g.seq hS⟩, rfl⟩, ⟨Same.refl H, [], .nil, (fun _ z => nomatch z), .nil⟩, hm, fun F' H' v _ _ c => clv_bool c⟩
/-- the goal that k_head leaves -/
theorem walk_ofG {l : PySem.W.OpenLaw} {n k : Nat} {q : Program} {loose : List Str} {XP : (Str → Option Value) → Heap → Prop} {YP : World → Heap → Prop} {d : DefRec} {K : Params → PySem.W.Frag} {m : List Int → Option Bool} {x : Str}
    (hn : l.most = some n) (hn2 : n ≤ sizeLine) (hdf : d.params.defaults = []) (hr : Room k callerA) (hY : ∀ (w : World) (h : Heap), YP w h → (K w.params).In h)
    (F : ∀ (w : World) (mg : Str → Option Value) (fa : Addr) (h : Heap), (K w.params).In h → h.Ns mainGlobals mg → mg d.name = some (.ref fa) →
      ∃ fd : FuncData, (∀ (s : Shared) (u : Value), BindsTo s fd ⟨[u], []⟩ [(x, u)]) ∧ ∀ base : Heap, (K w.params).In base → base.Ns mainGlobals mg → FnG l.prog w (K w.params) mg base CX0 k fa fd [x] (LawSp (K w.params) m))
    (hm : ∀ ns : List Int, ns.length ≤ n → m ns = some true) : PySem.W.WalkO q loose XP YP l.row.toRowW d [] (fun f vs => PySem.call f vs) := by
  refine Att.attach_call hn hdf ?_
  intro w s0 s1 mg mb fa o pm cd doc a vs ns G Y ho hd hcd hmg hobj hints hlen hg
  have KX := hY w _ Y
  obtain ⟨fd, hb, hF⟩ := F w mg fa _ KX G.T.g hmg
  exact law_run KX G.T.g G.T.b G.T.builtins G.T.nolimit hg hobj hints (Nat.le_trans hlen hn2) hr hF hb fun H _ hS => law_sp (hm ns hlen) hS
end Z
/-! Z, part I: small words for printed proofs. -/
namespace Z
open PySem PySem.Spec PyProof.Rows L2

theorem bnd {α β : Type} {m : Option α} {k : α → Option β} {b : β} (h : m.bind k = some b) : ∃ a, m = some a ∧ k a = some b := by
  cases m with
  | none => cases h
  | some a => exact ⟨a, rfl, h⟩
theorem ifT {α : Type} {c : Bool} {a b : Option α} {r : α} (h : (if c = true then a else b) = some r) (hc : c = true) : a = some r := by
  rw [if_pos hc] at h
  exact h
theorem ifF {α : Type} {c : Bool} {a b : Option α} {r : α} (h : (if c = true then a else b) = some r) (hc : c = false) : b = some r := by
  rw [if_neg (by rw [hc]; exact Bool.false_ne_true)] at h
  exact h
theorem som {α : Type} {a b : α} (h : some a = some b) : a = b := Option.some.inj h
/-- the ends of range(..) in bounds -/
def rngO (a b : Int) : Option (List Int) := if -(2 ^ 62) ≤ a ∧ a < 2 ^ 62 ∧ -(2 ^ 62) ≤ b ∧ b < 2 ^ 62 then some (range' a b) else none
/-- a list may grow by so many -/
def appO {α : Type} (xs : List α) (x : α) : Option (List α) := if xs.length < sizeLine then some (xs ++ [x]) else none
def popO {α : Type} (xs : List α) : Option (α × List α) := match xs.getLast? with
  | some x => some (x, xs.dropLast)
  | none => none
def setO {α : Type} (xs : List α) (i : Int) (x : α) : Option (List α) := (ixN xs.length i).bind fun m => some (xs.set m x)
abbrev eL {α : Type} (e : α → PyData) : List α → PyData := fun xs => .list (xs.map e)
abbrev eT {α : Type} (e : α → PyData) : List α → PyData := fun xs => .tuple (xs.map e)
abbrev eP {α β : Type} (e : α → PyData) (f : β → PyData) : α × β → PyData := fun x => .tuple [e x.1, f x.2]
structure Tri (α β γ : Type) where
  a : α
  b : β
  c : γ
  deriving DecidableEq
abbrev eP3 {α β γ : Type} (e : α → PyData) (f : β → PyData) (g : γ → PyData) : Tri α β γ → PyData := fun x => .tuple [e x.a, f x.b, g x.c]
abbrev eN : Unit → PyData := fun _ => .none
abbrev eO {α : Type} (e : α → PyData) : Option α → PyData := fun
  | none => .none
  | some a => e a

section
variable {X : Cx} {es es' : List Slot} {os os1 os2 : Os} {F0 : Hp} {rest : List Stmt} {D : Ends} {N V G W : List Str} {k i vi gi : Nat} {x : Str} {p pos : Pos} {e e2 a b : Expr} {φ : VP} {n : Ent} {α : Type}
theorem At.weak {σ : L2.St} {H : Hp} (h : At F0 es os σ H) (w : Wk es es') : At F0 es' os σ H := let ⟨F, s, o, l⟩ := h; ⟨F, s, o, l.weak w⟩
theorem At.perm {σ : L2.St} {H : Hp} (h : At F0 es os σ H) (w : os.Perm os1) : At F0 es os1 σ H := let ⟨F, s, o, l⟩ := h; ⟨F, s, o.perm w, l⟩
theorem At.drop {σ : L2.St} {H : Hp} {q : Addr × Ent} (h : At F0 es (q :: os) σ H) : At F0 es os σ H := let ⟨F, s, o, l⟩ := h; ⟨F, s, o.drop, l⟩
theorem EX.weak (h : EX X es' os e φ os1) (w : Wk es es') : EX X es os e φ os1 := fun F σ H Q ow sl q => h F σ H Q ow (sl.weak w) q
theorem EN.weak (h : EN X es' os e n os1) (w : Wk es es') : EN X es os e n os1 := fun F σ H Q ow sl q => h F σ H Q ow (sl.weak w) q
theorem EN.perm (h : EN X es os e n os1) (k : os1.Perm os2) : EN X es os e n os2 := fun F σ H Q ow sl q => h F σ H Q ow sl fun F' H' v e o => q F' H' v e (o.perm (k.cons _))
theorem EN.pre (h : EN X es os e n os1) (k : os2.Perm os) : EN X es os2 e n os1 := fun F σ H Q ow sl q => h F σ H Q (ow.perm k) sl q
/-- the owned object at the k-th place ahead -/
theorem perm_fro {l : Os} {k : Nat} {q : Addr × Ent} (h : l[k]? = some q) : (q :: l.eraseIdx k).Perm l := (perm_at h).symm
/-- an own list at the slot i is data from now on -/
theorem sx_frz {j : Nat} {q : Addr} {ds : List PyData} (hj : os[j]? = some (q, ol ds)) (hi : es[i]? = some (sl (own q))) (h : SX X (es.set i (sl (dat (.list ds)))) (os.eraseIdx j) F0 rest D) : SX X es os F0 rest D := fun F σ H s ow sl => by
  obtain ⟨u, hu, ⟨vs, rfl, hv⟩, e1, o1⟩ := (ow.perm (perm_at hj)).freezeU uni_ol
  have hv := dqall_mono e1 _ _ hv
  obtain ⟨v, ev, cv⟩ := sl.val hi
  obtain rfl : v = .ref q := cv.now
  have sl2 := (sl.mono e1).put (i := i) (v := .ref q) (φ := dat (.list ds)) (cl_dat (.lst upd_same hv))
  have e2 : σ.set i (some (.ref q)) = σ := by
    refine List.ext_getElem? fun m => ?_
    by_cases hm : i = m
    · subst hm
      rw [List.getElem?_set_self (List.getElem?_eq_some_iff.mp ev).1, ev]
    · rw [List.getElem?_set_ne hm]
  rw [e2] at sl2
  exact h _ σ H (s.trans e1) o1 sl2
theorem ix_rng1 {tg : Expr} {b : Int} {xs : List Int} (B : Bd X N W G k) (hj : G[gi]? = some "range") (hm : X.mg "range" = none) (hr : rngO 0 b = some xs) (ha : EX X es os e (dat (.int b)) os1) (hs : starEach [e] X.env = [(false, eval e X.env)] := by rfl) :
    IX X tg es os (.Call (.Name "range" p) [e] [] pos) xs (fun x => dat (.int x)) anyOs os1 := by
  unfold rngO at hr
  split at hr
  · rename_i h
    cases hr
    exact ix_range1 B hj hm h.2.2 ha hs
  · cases hr
theorem ix_rng2 {tg : Expr} {a b : Int} {xs : List Int} (B : Bd X N W G k) (hj : G[gi]? = some "range") (hm : X.mg "range" = none) (hr : rngO a b = some xs) (ha : EX X es os e (dat (.int a)) os1) (hb : EX X es os1 e2 (dat (.int b)) os2)
    (hs : starEach [e, e2] X.env = [(false, eval e X.env), (false, eval e2 X.env)] := by rfl) (hs2 : starEach [e2] X.env = [(false, eval e2 X.env)] := by rfl) :
    IX X tg es os (.Call (.Name "range" p) [e, e2] [] pos) xs (fun x => dat (.int x)) anyOs os2 := by
  unfold rngO at hr
  split at hr
  · rename_i h
    cases hr
    exact ix_range2 B hj hm h ha hb hs hs2
  · cases hr
/-- xs.append(e) of an own list -/
theorem ex_app {β : Type} {apos cpos : Pos} {q : Addr} {enc : β → PyData} {xs xs0 ys : List β} {y : β} {j : Nat} (ha : appO xs y = some ys) (ho : EX X es os a (own q) os) (h0 : os[j]? = some (q, ol (xs0.map enc))) (he : EX X es os e (dat (enc y)) os1) (hj : os1[j]? = some (q, ol (xs.map enc)))
    (hbase : attributeBase a "append" X.env (eval a X.env) = eval a X.env := by rfl) (hline : (apos.endLine == cpos.line) = true := by rfl) (hs : starEach [e] X.env = (false, eval e X.env) :: starEach [] X.env := by rfl)
    (hfew : ((backTo cpos (starEach [e] X.env)).all (fun x => !x.1) && (backToKw cpos (keywordEach [] X.env)).all (fun x => x.1.isSome) && decide ([e].length + ([] : List Keyword).length + (if ([] : List Keyword).isEmpty then 0 else 1) < 30)) = true := by rfl)
    (hplain : (backTo cpos (starEach [] X.env)).any (·.1) = false := by rfl) : EX X es os (.Call (.Attribute a "append" apos) [e] [] cpos) (dat .none) (os1.set j (q, ol (ys.map enc))) := by
  unfold appO at ha
  split at ha
  · rename_i h
    cases ha
    rw [List.map_append]
    exact ex_append ho he h0 hj (by rw [List.length_map]; exact h) hbase hline hs hfew hplain
  · cases ha
theorem ex_popO {β : Type} {apos cpos : Pos} {q : Addr} {enc : β → PyData} {xs : List β} {r : β × List β} {j : Nat} (hr : popO xs = some r) (ho : EX X es os a (own q) os) (hj : os[j]? = some (q, ol (xs.map enc)))
    (hbase : attributeBase a "pop" X.env (eval a X.env) = eval a X.env := by rfl) (hline : (apos.endLine == cpos.line) = true := by rfl) : EX X es os (.Call (.Attribute a "pop" apos) [] [] cpos) (dat (enc r.1)) (os.set j (q, ol (r.2.map enc))) := by
  unfold popO at hr
  split at hr
  · rename_i z hz
    cases hr
    have e : (xs.map enc).getLast? = some (enc z) := by rw [List.getLast?_map, hz]; rfl
    have h := ex_pop ho hj e hbase hline
    rw [← List.map_dropLast] at h
    exact h
  · cases hr
theorem sx_setO {β : Type} {tpos : Pos} {q : Addr} {enc : β → PyData} {xs ys : List β} {y : β} {j : Nat} {z : Int} (hy : setO xs z y = some ys) (he : EX X es os e (dat (enc y)) os1) (ho : EX X es os1 a (own q) os1) (hb : EX X es os1 b (dat (.int z)) os2) (hj : os2[j]? = some (q, ol (xs.map enc))) (h : SX X es (os2.set j (q, ol (ys.map enc))) F0 rest D)
    (hs : swapsWithSole [.Subscript a b tpos] e pos.line X.env = pure false := by rfl) (hw : swappedStores [.Subscript a b tpos] e X.env = pure none := by rfl) (h1 : (assignEach [.Subscript a b tpos] X.env).map (·.2) = [assign (.Subscript a b tpos) X.env] := by rfl)
    (hsub : ∀ v, assign (.Subscript a b tpos) X.env v = (do
      let ov ← holding [v] (eval a X.env)
      let iv ← holding [v, ov] (eval b X.env)
      standAt tpos
      holding [v, ov, iv] (setItem ov iv v)
      release [v, ov, iv] []) := by intro _; rfl) : SX X es os F0 (.Assign [.Subscript a b tpos] e pos :: rest) D := by
  obtain ⟨m, hm, h2⟩ := bnd hy
  cases h2
  rw [List.map_set] at h
  exact sx_setL he ho hb hj (by rw [List.length_map]; exact hm) h hs hw h1 hsub
theorem ex_idxL {β : Type} {enc : β → PyData} {xs : List β} {y : β} {z : Int} (hk : idx xs z = some y) (hr : RdL X φ os2 (xs.map enc)) (ha : EX X es os a φ os1) (hb : EX X es os1 b (dat (.int z)) os2) (hp : PlainIx b := by exact fun _ _ => rfl) : EX X es os (.Subscript a b pos) (dat (enc y)) os2 := ex_ixL hr (atI_map enc hk) ha hb hp
theorem ex_idxT {β : Type} {enc : β → PyData} {xs : List β} {y : β} {z : Int} (hk : idx xs z = some y) (hr : RdT φ (xs.map enc)) (ha : EX X es os a φ os1) (hb : EX X es os1 b (dat (.int z)) os2) (hp : PlainIx b := by exact fun _ _ => rfl) : EX X es os (.Subscript a b pos) (dat (enc y)) os2 := ex_ixT hr (atI_map enc hk) ha hb hp
/-- a literal list or tuple of one kind is a map -/
theorem EN.list {ds ds' : List PyData} (h : EN X es os e (ol ds) os1) (k : ds = ds') : EN X es os e (ol ds') os1 := k ▸ h
theorem EX.to {d d' : PyData} (h : EX X es os e (dat d) os1) (k : d = d') : EX X es os e (dat d') os1 := k ▸ h
theorem TX.to {t t' : Bool} (h : TX X es os e t os1) (k : t = t') : TX X es os e t' os1 := k ▸ h
end
/-- two lists of data are equal exactly if they are alike -/
def EqvOk {α : Type} [DecidableEq α] (e : α → PyData) : Prop := ∀ a b, PyData.eqv (e a) (e b) = decide (a = b)
theorem eqv_int : EqvOk PyData.int := fun a b => by
  simp only [PyData.eqv]
  exact Bool.beq_eq_decide_eq a b
theorem eqv_bool : EqvOk PyData.bool := fun a b => by
  simp only [PyData.eqv]
  exact Bool.beq_eq_decide_eq a b
theorem eqv_str : EqvOk PyData.str := fun a b => by
  simp only [PyData.eqv]
  by_cases h : a = b
  · subst h
    simp
  · simp [h]
theorem eqv_unit : EqvOk eN := fun a b => by
  simp only [PyData.eqv]
  simp
theorem eqvAll_map {α : Type} [DecidableEq α] {e : α → PyData} (h : EqvOk e) : ∀ xs ys : List α, PyData.eqvAll (xs.map e) (ys.map e) = decide (xs = ys)
  | [], [] => by simp [PyData.eqvAll]
  | [], y :: ys => by simp [PyData.eqvAll]
  | x :: xs, [] => by simp [PyData.eqvAll]
  | x :: xs, y :: ys => by
    simp only [List.map_cons, PyData.eqvAll, h x y, eqvAll_map h xs ys, List.cons.injEq, Bool.decide_and]
theorem eqv_list {α : Type} [DecidableEq α] {e : α → PyData} (h : EqvOk e) : EqvOk (eL e) := fun a b => by
  simp only [PyData.eqv]
  exact eqvAll_map h a b
theorem eqv_tup {α : Type} [DecidableEq α] {e : α → PyData} (h : EqvOk e) : EqvOk (eT e) := fun a b => by
  simp only [PyData.eqv]
  exact eqvAll_map h a b
theorem eqv_pair {α β : Type} [DecidableEq α] [DecidableEq β] {e : α → PyData} {f : β → PyData} (h : EqvOk e) (g : EqvOk f) : EqvOk (eP e f) := fun a b => by
  simp only [PyData.eqv, PyData.eqvAll, Bool.and_true]
  rw [h, g, ← Bool.decide_and]
  exact decide_eq_decide.mpr ⟨fun ⟨p, q⟩ => Prod.ext p q, fun p => by rw [p]; exact ⟨rfl, rfl⟩⟩
theorem eqv_tri {α β γ : Type} [DecidableEq α] [DecidableEq β] [DecidableEq γ] {e : α → PyData} {f : β → PyData} {g : γ → PyData} (h : EqvOk e) (h2 : EqvOk f) (h3 : EqvOk g) : EqvOk (eP3 e f g) := fun a b => by
  simp only [PyData.eqv, PyData.eqvAll, Bool.and_true]
  rw [h, h2, h3, ← Bool.decide_and, ← Bool.decide_and]
  refine decide_eq_decide.mpr ⟨fun ⟨p, q, r⟩ => ?_, fun p => by rw [p]; exact ⟨rfl, rfl, rfl⟩⟩
  cases a
  cases b
  simp only at p q r
  rw [p, q, r]
/-- data of bounded depth without dicts -/
structure ShOk {α : Type} (e : α → PyData) (n : Nat) : Prop where
  lay : ∀ a, (e a).canLay0 = true
  dep : ∀ a, (e a).depth ≤ n
theorem ShOk.shaped {α : Type} {e : α → PyData} {n : Nat} (h : ShOk e n) (hn : n ≤ 64) (a : α) : SeqAt.shaped (e a) = true := by
  unfold SeqAt.shaped
  rw [h.lay a, Bool.true_and]
  exact decide_eq_true (Nat.le_trans (h.dep a) hn)
theorem sh_int : ShOk PyData.int 0 := ⟨fun _ => by simp only [PyData.canLay0], fun _ => by simp only [PyData.depth]; exact Nat.le_refl 0⟩
theorem sh_bool : ShOk PyData.bool 0 := ⟨fun _ => by simp only [PyData.canLay0], fun _ => by simp only [PyData.depth]; exact Nat.le_refl 0⟩
theorem sh_unit : ShOk eN 0 := ⟨fun _ => by simp only [PyData.canLay0], fun _ => by simp only [PyData.depth]; exact Nat.le_refl 0⟩
theorem layAll_map {α : Type} {e : α → PyData} {n : Nat} (h : ShOk e n) : ∀ xs : List α, PyData.canLayAll0 (xs.map e) = true ∧ PyData.depthAll (xs.map e) ≤ n
  | [] => by
    simp only [List.map_nil, PyData.canLayAll0, PyData.depthAll]
    exact ⟨trivial, Nat.zero_le _⟩
  | x :: xs => by
    obtain ⟨a, b⟩ := layAll_map h xs
    simp only [List.map_cons, PyData.canLayAll0, PyData.depthAll, h.lay x, a]
    exact ⟨rfl, Nat.max_le.mpr ⟨h.dep x, b⟩⟩
theorem sh_list {α : Type} {e : α → PyData} {n : Nat} (h : ShOk e n) : ShOk (eL e) (n + 1) :=
  ⟨fun xs => by simp only [PyData.canLay0]; exact (layAll_map h xs).1, fun xs => by simp only [PyData.depth]; exact Nat.succ_le_succ (layAll_map h xs).2⟩
theorem sh_tup {α : Type} {e : α → PyData} {n : Nat} (h : ShOk e n) : ShOk (eT e) (n + 1) :=
  ⟨fun xs => by simp only [PyData.canLay0]; exact (layAll_map h xs).1, fun xs => by simp only [PyData.depth]; exact Nat.succ_le_succ (layAll_map h xs).2⟩
theorem sh_pair {α β : Type} {e : α → PyData} {f : β → PyData} {n m : Nat} (h : ShOk e n) (g : ShOk f m) : ShOk (eP e f) (max n m + 1) :=
  ⟨fun x => by simp only [PyData.canLay0, PyData.canLayAll0, h.lay, g.lay]; rfl, fun x => by
    simp only [PyData.depth, PyData.depthAll]
    have h1 := h.dep x.1
    have h2 := g.dep x.2
    omega⟩
theorem sh_tri {α β γ : Type} {e : α → PyData} {f : β → PyData} {g : γ → PyData} {n m k : Nat} (h : ShOk e n) (h2 : ShOk f m) (h3 : ShOk g k) : ShOk (eP3 e f g) (max n (max m k) + 1) :=
  ⟨fun x => by simp only [PyData.canLay0, PyData.canLayAll0, h.lay, h2.lay, h3.lay]; rfl, fun x => by
    simp only [PyData.depth, PyData.depthAll]
    have q1 := h.dep x.a
    have q2 := h2.dep x.b
    have q3 := h3.dep x.c
    omega⟩
section
variable {X : Cx} {es : List Slot} {os os1 os2 : Os} {N V G W : List Str} {k : Nat} {pos : Pos} {a b : Expr} {α : Type} [DecidableEq α] {e : α → PyData} {n : Nat} {x y : α}
theorem ex_eqD (B : Bd X N W G k) (h : EqvOk e) (s : ShOk e n) (hn : n ≤ 64) (ha : EX X es os a (dat (e x)) os1) (hb : EX X es os1 b (dat (e y)) os2) : EX X es os (.Compare a [.Eq] [b] pos) (dat (.bool (decide (x = y)))) os2 :=
  ex_cmp (op_eqD B.room.units) (r2_eq (s.shaped hn x) (s.shaped hn y) (h x y)) (nomark _) ha hb
theorem ex_neD (B : Bd X N W G k) (h : EqvOk e) (s : ShOk e n) (hn : n ≤ 64) (ha : EX X es os a (dat (e x)) os1) (hb : EX X es os1 b (dat (e y)) os2) : EX X es os (.Compare a [.NotEq] [b] pos) (dat (.bool (!decide (x = y)))) os2 :=
  ex_cmp (op_neD B.room.units) (r2_ne (s.shaped hn x) (s.shaped hn y) (by rw [h x y])) (nomark _) ha hb
theorem tx_eqD (B : Bd X N W G k) (h : EqvOk e) (s : ShOk e n) (hn : n ≤ 64) (ha : EX X es os a (dat (e x)) os1) (hb : EX X es os1 b (dat (e y)) os2) : TX X es os (.Compare a [.Eq] [b] pos) (decide (x = y)) os2 :=
  tx_cmp (op_eqD B.room.units) (r2_eq (s.shaped hn x) (s.shaped hn y) (h x y)) (nomark _) ha hb
theorem tx_neD (B : Bd X N W G k) (h : EqvOk e) (s : ShOk e n) (hn : n ≤ 64) (ha : EX X es os a (dat (e x)) os1) (hb : EX X es os1 b (dat (e y)) os2) : TX X es os (.Compare a [.NotEq] [b] pos) (!decide (x = y)) os2 :=
  tx_cmp (op_neD B.room.units) (r2_ne (s.shaped hn x) (s.shaped hn y) (by rw [h x y])) (nomark _) ha hb
end
end Z
/-! Z, part J: parallel assignments, isinstance, factorial, mirrors of comprehensions, +, slices. -/
namespace Z
open PySem PySem.Spec PyProof.Rows L2

section
variable {X : Cx} {es es' : List Slot} {os os1 os2 : Os} {F0 : Hp} {rest : List Stmt} {D : Ends} {N V G W : List Str} {k i j l vi gi : Nat} {x y z : Str} {p pos : Pos} {e e2 a b c : Expr} {φ : VP} {n : Ent} {α : Type}

/-! ### values side by side, new lists among them -/
def AQ (X : Cx) (es : List Slot) (as : List Expr) (os : Os) (Rel : List VP → Os → Prop) : Prop := ∀ F σ H Q, Ow F os H → Sl F es σ → (∀ F' H' vs φs os', Same F F' → Rel φs os' → Ow F' os' H' → ClA φs F' vs → Q vs H') → WA X as σ H Q
theorem aq_nil : AQ X es [] os (fun φs os' => φs = [] ∧ os' = os) := fun F σ H Q ow sl q => wa_of pa_nil (q F H [] [] os (Same.refl F) ⟨rfl, rfl⟩ ow rfl)
theorem aq_x {as : List Expr} {Rel : List VP → Os → Prop} (ha : EX X es os a φ os1) (hr : AQ X es as os1 Rel) (hs : starEach (a :: as) X.env = (false, eval a X.env) :: starEach as X.env := by rfl) : AQ X es (a :: as) os (fun φs os' => ∃ r, φs = φ :: r ∧ Rel r os') := fun F σ H Q ow sl q =>
  wa_of (pa_cons pe_u pa_u hs) (ha F σ H _ ow sl fun F1 H1 v e1 o1 c1 => hr F1 σ H1 _ o1 (sl.mono e1) fun F2 H2 vs φs os' e2 rel o2 c2 => q F2 H2 _ _ os' (e1.trans e2) ⟨φs, rfl, rel⟩ o2 ⟨v, vs, rfl, c1.mono e2, c2⟩)
theorem aq_n {as : List Expr} {Rel : Addr → List VP → Os → Prop} (ha : EN X es os a n os1) (hr : ∀ p, AQ X es as ((p, n) :: os1) (Rel p)) (hs : starEach (a :: as) X.env = (false, eval a X.env) :: starEach as X.env := by rfl) : AQ X es (a :: as) os (fun φs os' => ∃ p r, φs = own p :: r ∧ Rel p r os') := fun F σ H Q ow sl q =>
  wa_of (pa_cons pe_u pa_u hs) (ha F σ H _ ow sl fun F1 H1 p e1 o1 => hr p F1 σ H1 _ o1 (sl.mono e1) fun F2 H2 vs φs os' e2 rel o2 c2 => q F2 H2 _ _ os' (e1.trans e2) ⟨p, φs, rfl, rel⟩ o2 ⟨_, vs, rfl, cl_own, c2⟩)
/-- the names are stored from the right -/
def swpB (sc : Scope) (ts : List Expr) (v : Expr) (xs : List Str) : Prop := ∀ env : Env, env.scope = sc → swappedStores ts v env = pure (some xs)
def nswB (sc : Scope) (ts : List Expr) (v : Expr) : Prop := ∀ env : Env, env.scope = sc → swappedStores ts v env = pure none
def lclB (sc : Scope) (x : Str) : Bool := match sc.names.lookup x with
  | some .local => true
  | _ => false
theorem lcl_of {sc : Scope} {x : Str} (h : lclB sc x = true) : sc.names.lookup x = some .local := by
  unfold lclB at h
  split at h
  · assumption
  · cases h
theorem sx_par2 {px py pt p2 : Pos} {kt k2 : Nat} {Rel : List VP → Os → Prop} (sc : Scope) (hsc : X.env.scope = sc) (B : Bd X N W G k) (hi : N[i]? = some x) (hj : N[j]? = some y) (hij : i ≠ j) (hx : lclB sc x = true) (hy : lclB sc y = true) (hw : swpB sc [.Tuple [.Name x px, .Name y py] kt pt] (.Tuple [a, b] k2 p2) [x, y])
    (ha : AQ X es [a, b] os Rel) (h : ∀ φ ψ os', Rel [φ, ψ] os' → SX X ((es.set i (sl φ)).set j (sl ψ)) os' F0 rest D) (hR : ∀ φs os', Rel φs os' → ∃ φ ψ, φs = [φ, ψ])
    (hs : swapsWithSole [.Tuple [.Name x px, .Name y py] kt pt] (.Tuple [a, b] k2 p2) pos.line X.env = pure false := by rfl) : SX X es os F0 (.Assign [.Tuple [.Name x px, .Name y py] kt pt] (.Tuple [a, b] k2 p2) pos :: rest) D := fun F σ H s ow sl =>
  wps_cons (ws_of (ps_par B.calm (B.hN ▸ B.nd) (B.hN ▸ hi) (B.hN ▸ hj) hij (by rw [hsc]; exact lcl_of hx) (by rw [hsc]; exact lcl_of hy) pa_u (hw _ hsc) hs) (ha F σ H _ ow sl fun F1 H1 vs φs os' e1 rel o1 c1 => by
    obtain ⟨φ, ψ, rfl⟩ := hR φs os' rel
    obtain ⟨v, u, rfl, h1, h2⟩ := cla2 c1
    exact ⟨v, u, rfl, h φ ψ os' rel F1 _ H1 (s.trans e1) o1 (((sl.mono e1).put h1).put h2)⟩))
theorem cla3 {φ ψ χ : VP} {F : Hp} {vs : List L2.V} (h : ClA [φ, ψ, χ] F vs) : ∃ v u w, vs = [v, u, w] ∧ Cl φ F v ∧ Cl ψ F u ∧ Cl χ F w := by
  obtain ⟨v, r, e, h1, h2⟩ := h
  obtain ⟨u, w, e2, h3, h4⟩ := cla2 h2
  subst e2
  exact ⟨v, u, w, e, h1, h3, h4⟩
theorem sx_par3 {px py pz pt p2 : Pos} {kt k2 : Nat} {Rel : List VP → Os → Prop} (sc : Scope) (hsc : X.env.scope = sc) (B : Bd X N W G k) (hi : N[i]? = some x) (hj : N[j]? = some y) (hl : N[l]? = some z) (hij : i ≠ j) (hil : i ≠ l) (hjl : j ≠ l) (hx : lclB sc x = true) (hy : lclB sc y = true) (hz : lclB sc z = true)
    (hw : swpB sc [.Tuple [.Name x px, .Name y py, .Name z pz] kt pt] (.Tuple [a, b, c] k2 p2) [x, y, z])
    (ha : AQ X es [a, b, c] os Rel) (h : ∀ φ ψ χ os', Rel [φ, ψ, χ] os' → SX X (((es.set i (sl φ)).set j (sl ψ)).set l (sl χ)) os' F0 rest D) (hR : ∀ φs os', Rel φs os' → ∃ φ ψ χ, φs = [φ, ψ, χ])
    (hs : swapsWithSole [.Tuple [.Name x px, .Name y py, .Name z pz] kt pt] (.Tuple [a, b, c] k2 p2) pos.line X.env = pure false := by rfl) : SX X es os F0 (.Assign [.Tuple [.Name x px, .Name y py, .Name z pz] kt pt] (.Tuple [a, b, c] k2 p2) pos :: rest) D := fun F σ H s ow sl =>
  wps_cons (ws_of (ps_par3 B.calm (B.hN ▸ B.nd) (B.hN ▸ hi) (B.hN ▸ hj) (B.hN ▸ hl) hij hil hjl (by rw [hsc]; exact lcl_of hx) (by rw [hsc]; exact lcl_of hy) (by rw [hsc]; exact lcl_of hz) pa_u (hw _ hsc) hs) (ha F σ H _ ow sl fun F1 H1 vs φs os' e1 rel o1 c1 => by
    obtain ⟨φ, ψ, χ, rfl⟩ := hR φs os' rel
    obtain ⟨v, u, w, rfl, h1, h2, h3⟩ := cla3 c1
    exact ⟨v, u, w, rfl, h φ ψ χ os' rel F1 _ H1 (s.trans e1) o1 ((((sl.mono e1).put h1).put h2).put h3)⟩))
/-- a, b = (e1, e2): the tuple is made, then taken apart -/
theorem sx_mk2 {t1 t2 pt p2 : Pos} {kt k2 : Nat} {Rel : List VP → Os → Prop} (sc : Scope) (hsc : X.env.scope = sc) (B : Bd X N W G k) (T : Bt X V) (hi : N[i]? = some x) (hj : N[j]? = some y) (hx : V[vi]? = some x) (hy : V[gi]? = some y) (hw : nswB sc [.Tuple [.Name x t1, .Name y t2] kt pt] (.Tuple [a, b] k2 p2))
    (ha : AQ X es [a, b] os Rel) (h : ∀ φ ψ os', Rel [φ, ψ] os' → SX X ((es.set i (sl φ)).set j (sl ψ)) os' F0 rest D) (hR : ∀ φs os', Rel φs os' → ∃ φ ψ, φs = [φ, ψ])
    (hs : swapsWithSole [.Tuple [.Name x t1, .Name y t2] kt pt] (.Tuple [a, b] k2 p2) pos.line X.env = pure false := by rfl) (h1 : (assignEach [.Tuple [.Name x t1, .Name y t2] kt pt] X.env).map (·.2) = [assign (.Tuple [.Name x t1, .Name y t2] kt pt) X.env] := by rfl) :
    SX X es os F0 (.Assign [.Tuple [.Name x t1, .Name y t2] kt pt] (.Tuple [a, b] k2 p2) pos :: rest) D := fun F σ H s ow sl =>
  wps_cons (ws_of (ps_asg (pe_tup pa_u) (pg_tup (n := 2) B.calm (pgs_cons (pg_name (B.hN ▸ B.nd) (B.hN ▸ hi) (T.loc x (List.mem_of_getElem? hx)) (.inl (T.fn x))) (pgs_cons (pg_name (B.hN ▸ B.nd) (B.hN ▸ hj) (T.loc y (List.mem_of_getElem? hy)) (.inl (T.fn y))) pgs_nil)) rfl rfl) hs (hw _ hsc) h1) (ha F σ H _ ow sl fun F1 H1 vs φs os' e1 rel o1 c1 => by
    obtain ⟨φ, ψ, rfl⟩ := hR φs os' rel
    obtain ⟨v, u, rfl, h1, h2⟩ := cla2 c1
    refine ⟨by show 2 ≤ sizeLine; decide, fun p hp => ?_⟩
    refine ⟨p, _, rfl, .of upd_same, rfl, _, _, rfl, _, _, rfl, rfl, ?_⟩
    exact h φ ψ os' rel F1 _ _ (s.trans e1) (o1.grow (same_upd hp)) (((sl.mono e1).put h1).put h2)))
theorem sx_mk3 {m : Nat} {t1 t2 t3 pt p2 : Pos} {kt k2 : Nat} {Rel : List VP → Os → Prop} (sc : Scope) (hsc : X.env.scope = sc) (B : Bd X N W G k) (T : Bt X V) (hi : N[i]? = some x) (hj : N[j]? = some y) (hl : N[l]? = some z) (hx : V[vi]? = some x) (hy : V[gi]? = some y) (hz : V[m]? = some z) (hw : nswB sc [.Tuple [.Name x t1, .Name y t2, .Name z t3] kt pt] (.Tuple [a, b, c] k2 p2))
    (ha : AQ X es [a, b, c] os Rel) (h : ∀ φ ψ χ os', Rel [φ, ψ, χ] os' → SX X (((es.set i (sl φ)).set j (sl ψ)).set l (sl χ)) os' F0 rest D) (hR : ∀ φs os', Rel φs os' → ∃ φ ψ χ, φs = [φ, ψ, χ])
    (hs : swapsWithSole [.Tuple [.Name x t1, .Name y t2, .Name z t3] kt pt] (.Tuple [a, b, c] k2 p2) pos.line X.env = pure false := by rfl) (h1 : (assignEach [.Tuple [.Name x t1, .Name y t2, .Name z t3] kt pt] X.env).map (·.2) = [assign (.Tuple [.Name x t1, .Name y t2, .Name z t3] kt pt) X.env] := by rfl) :
    SX X es os F0 (.Assign [.Tuple [.Name x t1, .Name y t2, .Name z t3] kt pt] (.Tuple [a, b, c] k2 p2) pos :: rest) D := fun F σ H s ow sl =>
  wps_cons (ws_of (ps_asg (pe_tup pa_u) (pg_tup (n := 3) B.calm (pgs_cons (pg_name (B.hN ▸ B.nd) (B.hN ▸ hi) (T.loc x (List.mem_of_getElem? hx)) (.inl (T.fn x))) (pgs_cons (pg_name (B.hN ▸ B.nd) (B.hN ▸ hj) (T.loc y (List.mem_of_getElem? hy)) (.inl (T.fn y))) (pgs_cons (pg_name (B.hN ▸ B.nd) (B.hN ▸ hl) (T.loc z (List.mem_of_getElem? hz)) (.inl (T.fn z))) pgs_nil))) rfl rfl) hs (hw _ hsc) h1) (ha F σ H _ ow sl fun F1 H1 vs φs os' e1 rel o1 c1 => by
    obtain ⟨φ, ψ, χ, rfl⟩ := hR φs os' rel
    obtain ⟨v, u, w, rfl, h1, h2, h3⟩ := cla3 c1
    refine ⟨by show 3 ≤ sizeLine; decide, fun p hp => ?_⟩
    refine ⟨p, _, rfl, .of upd_same, rfl, _, _, rfl, _, _, rfl, _, _, rfl, rfl, ?_⟩
    exact h φ ψ χ os' rel F1 _ _ (s.trans e1) (o1.grow (same_upd hp)) ((((sl.mono e1).put h1).put h2).put h3)))

/-! ### isinstance of a datum -/
def isTy : PyData → String → Bool
  | .none, s => s == "NoneType"
  | .bool _, s => s == "bool" || s == "int"
  | .int _, s => s == "int"
  | .str _, s => s == "str"
  | .list _, s => s == "list"
  | .tuple _, s => s == "tuple"
  | .dict _, s => s == "dict"
theorem ex_tyname {T : String} (B : Bd X N W G k) (hj : G[gi]? = some x) (hm : X.mg x = none) (hv : bootBuiltins x = some (.type T)) : EX X es os (.Name x pos) (fun _ v => v = .ty T) os := fun F σ H Q ow sl q =>
  let ⟨u, v⟩ := B.gl x (List.mem_of_getElem? hj)
  we_of (pe_bltn (v := .ty T) u hm hv rfl (dun_n v) (dun_d v)) (q F H _ (Same.refl F) ow fun _ _ => rfl)

def tyName : PyData → String
  | .none => "NoneType"
  | .bool _ => "bool"
  | .int _ => "int"
  | .str _ => "str"
  | .list _ => "list"
  | .tuple _ => "tuple"
  | .dict _ => "dict"
theorem rc_isi {d : PyData} {T : String} {r : Bool} (h : kitB (tyName d) T = some r) (hT : ∀ ps, d ≠ .dict ((.none, .none) :: ps) := by intro _ z; first | cases z | assumption) : RCX (rIsi X.K) [dat d, fun _ v => v = .ty T] os (dat (.bool r)) os := fun F H vs Q ow c q => by
  obtain ⟨v, u, rfl, h1, h2⟩ := cla2 c
  obtain rfl : u = .ty T := h2.now
  have fin := q F H _ (Same.refl F) ow (cl_dat (.bl r))
  have hd := h1.now
  have key : ∀ t : String, tyName d = t → TyX X.K H v (.type t) → rIsi X.K [v, .ty T] H Q := fun t e k => ⟨v, _, _, _, r, rfl, .ty T, k, kit_ty (e ▸ h), fin⟩
  cases hd with
  | non => exact key _ rfl (.base .non)
  | bl b => exact key _ rfl (.base (.bl b))
  | int i => exact key _ rfl (.base (.int i))
  | str x => exact key _ rfl (.base (.str x))
  | lst k1 k2 => exact key _ rfl (.base (.lst (ow.ex _ _ k1)))
  | tup k1 k2 => exact key _ rfl (.base (.tup (ow.ex _ _ k1)))
  | dctK k1 k2 k3 => exact key _ rfl (.fDict (ow.ex _ _ k1))
  | dctT k1 k2 k3 => exact (hT _ rfl).elim

/-! ### factorial -/
def facO (a : Int) : Option Int := if 0 ≤ a ∧ a ≤ 20000 then some ((Builtin.Math.factorialNat a.toNat : Nat) : Int) else none
def rFac : List L2.V → Hp → VK → Prop := fun vs H Q => ∃ a : Int, vs = [.int a] ∧ 0 ≤ a ∧ a ≤ 20000 ∧ Q (.int ((Builtin.Math.factorialNat a.toNat : Nat) : Int)) H
theorem cr_fac : CallR X (.builtin "math.factorial") rFac := by
  intro pins s σ H vs us Q I r h
  obtain ⟨a, rfl, h0, h1, q⟩ := h
  obtain ⟨u, rfl, t, rfl⟩ := vals1 r
  exact PySem.W.mc_factorial h0 h1 fun _ => ⟨.int _, H, I.tok _, ⟨_, rfl⟩, q⟩
theorem rc_fac {a m : Int} (h : facO a = some m) : RCX rFac [dat (.int a)] os (dat (.int m)) os := fun F H vs Q ow c q => by
  unfold facO at h
  split at h
  · rename_i hh
    cases h
    obtain ⟨v, rfl, h⟩ := cla1 c
    exact ⟨a, by rw [clv_int h], hh.1, hh.2, q F H _ (Same.refl F) ow (cl_dat (.int _))⟩
  · cases h
/-- a module's name for a built-in function -/
theorem ex_mfn {as : List Expr} {id : String} {r : List L2.V → Hp → VK → Prop} {φs : List VP} {d : VP} (B : Bd X N V G k) (hj : G[gi]? = some x) (hm : X.mg x = some (.builtin id)) (hc : CallR X (.builtin id) r) (hr : RCX r φs os1 d os2)
    (ha : AX X es os (e :: as) φs os1) (he : starEach (e :: as) X.env = (false, eval e X.env) :: starEach as X.env := by rfl) (hpl : (backTo pos (starEach as X.env)).any (·.1) = false := by rfl) : EX X es os (.Call (.Name x p) (e :: as) [] pos) d os2 := fun F σ H Q ow sl q =>
  let ⟨a, b⟩ := B.gl x (List.mem_of_getElem? hj)
  we_of (pe_callBfun hc a hm pa_u (dun_d b) he hpl) (ha F σ H _ ow sl fun F1 H1 vs e1 o1 c1 => hr F1 H1 vs Q o1 c1 fun F2 H2 v e2 => q F2 H2 v (e1.trans e2))

/-! ### +, slices -/
def catO {α : Type} (xs ys : List α) : Option (List α) := if xs.length + ys.length ≤ sizeLine then some (xs ++ ys) else none
theorem dqall_rev {F : Hp} : ∀ {ds : List PyData} {vs : List L2.V}, DqAll F vs ds → DqAll F vs.reverse ds.reverse
  | [], _, h => by
    cases h
    exact .nil
  | d :: ds, _, h => by
    cases h with
    | cons h1 h2 =>
      rw [List.reverse_cons, List.reverse_cons]
      exact dqall_app (dqall_rev h2) (.cons h1 .nil)
theorem dat_list {F H : Hp} {v : L2.V} {ds : List PyData} (ow : Ow F os H) (c : Cl (dat (.list ds)) F v) : ∃ p vs, v = .ref p ∧ H p = some (.lst vs) ∧ DqAll F vs ds := by
  have h := c.now
  cases h with
  | lst h1 h2 => exact ⟨_, _, rfl, ow.ex _ _ h1, h2⟩
theorem en_cat {α : Type} {enc : α → PyData} {xs ys zs : List α} (h : catO xs ys = some zs) (ha : EX X es os a (dat (.list (xs.map enc))) os1) (hb : EX X es os1 b (dat (.list (ys.map enc))) os2) : EN X es os (.BinOp a .Add b pos) (ol (zs.map enc)) os2 := fun F σ H Q ow sl q => by
  unfold catO at h
  split at h
  · rename_i hl
    cases h
    refine we_of (pe_op op_cat pe_u pe_u) (ha F σ H _ ow sl fun F1 H1 v e1 o1 c1 => hb F1 σ H1 _ o1 (sl.mono e1) fun F2 H2 u e2 o2 c2 => ?_)
    obtain ⟨p, vs, rfl, h1, h2⟩ := dat_list o2 (c1.mono e2)
    obtain ⟨r, us, rfl, h3, h4⟩ := dat_list o2 c2
    refine ⟨p, r, vs, us, rfl, rfl, h1, h3, by rw [dqall_len h2, dqall_len h4, List.length_map, List.length_map]; exact hl, fun m hm => ?_⟩
    refine q F2 _ m (e1.trans e2) (o2.new hm fun G g => ⟨_, rfl, ?_⟩)
    rw [List.map_append]
    exact dqall_mono g _ _ (dqall_app h2 h4)
  · cases h
theorem ex_catT {α : Type} {enc : α → PyData} {xs ys zs : List α} (h : catO xs ys = some zs) (ha : EX X es os a (dat (.tuple (xs.map enc))) os1) (hb : EX X es os1 b (dat (.tuple (ys.map enc))) os2) : EX X es os (.BinOp a .Add b pos) (dat (.tuple (zs.map enc))) os2 := fun F σ H Q ow sl q => by
  unfold catO at h
  split at h
  · rename_i hl
    cases h
    refine we_of (pe_op op_catA pe_u pe_u) (ha F σ H _ ow sl fun F1 H1 v e1 o1 c1 => hb F1 σ H1 _ o1 (sl.mono e1) fun F2 H2 u e2 o2 c2 => ?_)
    obtain ⟨p, vs, rfl, h1, h2⟩ := rdt_dat F2 v (c1.mono e2)
    obtain ⟨r, us, rfl, h3, h4⟩ := rdt_dat F2 u c2
    have e := e1.trans e2
    have hd := dqall_app h2 h4
    rw [← List.map_append] at hd
    refine ⟨p, r, vs, us, rfl, rfl, .of (o2.ex _ _ h1), .of (o2.ex _ _ h3), by rw [dqall_len h2, dqall_len h4, List.length_map, List.length_map]; exact hl, fun h0 => ?_, fun h0 h5 => ?_, fun h0 h5 m hm => ?_⟩
    · refine q F2 H2 _ e o2 (cl_dat (.tup h3 ?_))
      rw [h0, List.nil_append] at hd
      exact hd
    · refine q F2 H2 _ e o2 (cl_dat (.tup h1 ?_))
      rw [h5, List.append_nil] at hd
      exact hd
    · have fp := o2.ex.free hm
      exact q _ _ _ (e.trans (same_upd fp)) (o2.frozen hm) (cl_dat (.tup upd_same (dqall_mono (same_upd fp) _ _ hd)))
  · cases h
/-- xs[lo:hi] -/
def cut {α : Type} (xs : List α) (lo hi : Option Int) : List α := (xs.drop (HT.sIx xs.length 0 lo)).take (HT.sIx xs.length xs.length hi - HT.sIx xs.length 0 lo)
theorem dqall_cut {F : Hp} {ds : List PyData} {vs : List L2.V} (h : DqAll F vs ds) (lo hi : Option Int) : DqAll F (cutV vs lo hi) (cut ds lo hi) := by
  unfold cutV cut
  rw [dqall_len h]
  exact dqall_take _ (dqall_drop _ h)
theorem cut_map {α β : Type} (f : α → β) (xs : List α) (lo hi : Option Int) : cut (xs.map f) lo hi = (cut xs lo hi).map f := by
  unfold cut
  rw [List.length_map, List.map_take, List.map_drop]
def WO (X : Cx) : Option Expr → TO
  | none => tNoPart
  | some e => tPart (WE X e)
theorem po_u : ∀ e : Option Expr, PO X e (WO X e)
  | none => po_none
  | some e => po_some pe_u
/-- an end of a slice -/
def PX (X : Cx) (es : List Slot) (os : Os) (e : Option Expr) (o : Option Int) (os' : Os) : Prop := ∀ F σ H Q, Ow F os H → Sl F es σ → (∀ F' H', Same F F' → Ow F' os' H' → Q o H') → WO X e σ H Q
theorem px_none : PX X es os none none os := fun F σ H Q ow sl q => q F H (Same.refl F) ow
theorem px_some {i : Int} (h : EX X es os e (dat (.int i)) os1) : PX X es os (some e) (some i) os1 := fun F σ H Q ow sl q => h F σ H _ ow sl fun F1 H1 v e1 o1 c1 => ⟨i, clv_int c1, q F1 H1 e1 o1⟩
theorem en_cut {α : Type} {enc : α → PyData} {xs : List α} {lo hi : Option Expr} {l u : Option Int} {os3 : Os} {p2 : Pos} (hr : RdL X φ os3 (xs.map enc)) (ha : EX X es os a φ os1) (hl : PX X es os1 lo l os2) (hu : PX X es os2 hi u os3) : EN X es os (.Subscript a (.Slice lo hi none p2) pos) (ol ((cut xs l u).map enc)) os3 := fun F σ H Q ow sl q =>
  we_of (pe_slice sl_list pe_u (po_u lo) (po_u hi)) (ha F σ H _ ow sl fun F1 H1 v e1 o1 c1 => hl F1 σ H1 _ o1 (sl.mono e1) fun F2 H2 e2 o2 => hu F2 σ H2 _ o2 (sl.mono (e1.trans e2)) fun F3 H3 e3 o3 => by
    obtain ⟨p, vs, rfl, h1, h2⟩ := hr F3 H3 v o3 ((c1.mono e2).mono e3)
    refine ⟨p, vs, rfl, h1, fun m hm => q F3 _ m ((e1.trans e2).trans e3) (o3.new hm fun G g => ⟨_, rfl, ?_⟩)⟩
    rw [← cut_map]
    exact dqall_mono g _ _ (dqall_cut h2 l u))
theorem ex_cutT {α : Type} {enc : α → PyData} {xs : List α} {lo hi : Option Expr} {l u : Option Int} {os3 : Os} {p2 : Pos} (hr : RdT φ (xs.map enc)) (ha : EX X es os a φ os1) (hl : PX X es os1 lo l os2) (hu : PX X es os2 hi u os3) : EX X es os (.Subscript a (.Slice lo hi none p2) pos) (dat (.tuple ((cut xs l u).map enc))) os3 := fun F σ H Q ow sl q =>
  we_of (pe_slice sl_tupA pe_u (po_u lo) (po_u hi)) (ha F σ H _ ow sl fun F1 H1 v e1 o1 c1 => hl F1 σ H1 _ o1 (sl.mono e1) fun F2 H2 e2 o2 => hu F2 σ H2 _ o2 (sl.mono (e1.trans e2)) fun F3 H3 e3 o3 => by
    obtain ⟨p, vs, rfl, h1, h2⟩ := hr F3 v ((c1.mono e2).mono e3)
    have e := (e1.trans e2).trans e3
    have hd := dqall_cut h2 l u
    rw [cut_map] at hd
    refine ⟨p, vs, rfl, .of (o3.ex _ _ h1), fun hw => ?_, fun hw m hm => ?_⟩
    · refine q F3 H3 _ e o3 (cl_dat (.tup h1 ?_))
      have e4 : cutV vs l u = vs := by
        unfold cutV
        rw [hw.1, hw.2, List.drop_zero, Nat.sub_zero, List.take_length]
      rw [e4] at hd
      exact hd
    · have fp := o3.ex.free hm
      exact q _ _ _ (e.trans (same_upd fp)) (o3.frozen hm) (cl_dat (.tup upd_same (dqall_mono (same_upd fp) _ _ hd))))
/-- xs[::-1] of a list -/
theorem en_rev {α : Type} {enc : α → PyData} {xs : List α} {kk : Nat} {p1 p2 p3 : Pos} (hr : RdL X φ os1 (xs.map enc)) (ha : EX X es os a φ os1) : EN X es os (.Subscript a (.Slice none none (some (.UnaryOp .USub (.Constant (.int 1) kk p1) p2)) p3) pos) (ol (xs.reverse.map enc)) os1 := fun F σ H Q ow sl q =>
  we_of (pe_revL pe_u) (ha F σ H _ ow sl fun F1 H1 v e1 o1 c1 => by
    obtain ⟨p, vs, rfl, h1, h2⟩ := hr F1 H1 v o1 c1
    refine ⟨p, vs, rfl, h1, fun m hm => q F1 _ m e1 (o1.new hm fun G g => ⟨_, rfl, ?_⟩)⟩
    rw [List.map_reverse]
    exact dqall_mono g _ _ (dqall_rev h2))
/-! ### mirrors of comprehensions -/
def lcT {α β : Type} (f : α → β) (xs : List α) : Option (List β) := if xs.length < sizeLine then some (xs.map f) else none
def lcF {α β : Type} (c : α → Bool) (f : α → β) (xs : List α) : Option (List β) := if xs.length < sizeLine then some ((xs.filter c).map f) else none
def mapO {α β : Type} (f : α → Option β) : List α → Option (List β)
  | [] => some []
  | x :: xs => (f x).bind fun y => (mapO f xs).bind fun ys => some (y :: ys)
def lcO {α β : Type} (f : α → Option β) (xs : List α) : Option (List β) := if xs.length < sizeLine then mapO f xs else none
def lcE {α β S : Type} (f : S → α → Option (Option β × S)) (xs : List α) (s : S) : Option (List β × S) := if xs.length < sizeLine then lcS f xs s else none
theorem lcS_map {α β : Type} (f : α → β) : ∀ xs : List α, lcS (fun (_ : Unit) x => some (some (f x), ())) xs () = some (xs.map f, ())
  | [] => rfl
  | x :: xs => by
    unfold lcS
    show ((lcS _ xs ()).bind fun u => some ([f x] ++ u.1, u.2)) = _
    rw [lcS_map f xs]
    rfl
theorem lcS_filter {α β : Type} (c : α → Bool) (f : α → β) : ∀ xs : List α, lcS (fun (_ : Unit) x => some (if c x = true then some (f x) else none, ())) xs () = some ((xs.filter c).map f, ())
  | [] => rfl
  | x :: xs => by
    unfold lcS
    show ((lcS _ xs ()).bind fun u => some ((if c x = true then some (f x) else none).toList ++ u.1, u.2)) = _
    rw [lcS_filter c f xs]
    cases h : c x with
    | true =>
      rw [if_pos rfl, List.filter_cons, if_pos h]
      rfl
    | false =>
      rw [if_neg Bool.false_ne_true, List.filter_cons, if_neg (by rw [h]; exact Bool.false_ne_true)]
      rfl
theorem lcS_mapO {α β : Type} (f : α → Option β) : ∀ (xs : List α) (ys : List β), mapO f xs = some ys → lcS (fun (_ : Unit) x => (f x).map fun y => (some y, ())) xs () = some (ys, ())
  | [], ys, h => by
    cases h
    rfl
  | x :: xs, ys, h => by
    unfold mapO at h
    obtain ⟨y, hy, h⟩ := bnd h
    obtain ⟨zs, hz, h⟩ := bnd h
    cases h
    unfold lcS
    rw [hy]
    show ((lcS _ xs ()).bind fun u => some ([y] ++ u.1, u.2)) = _
    rw [lcS_mapO f xs zs hz]
    rfl
theorem lcT_ok {α β : Type} {f : α → β} {xs : List α} {ys : List β} (h : lcT f xs = some ys) : xs.length < sizeLine ∧ lcS (fun (_ : Unit) x => some (some (f x), ())) xs () = some (ys, ()) := by
  unfold lcT at h
  split at h
  · rename_i hl
    cases h
    exact ⟨hl, lcS_map f xs⟩
  · cases h
theorem lcF_ok {α β : Type} {c : α → Bool} {f : α → β} {xs : List α} {ys : List β} (h : lcF c f xs = some ys) : xs.length < sizeLine ∧ lcS (fun (_ : Unit) x => some (if c x = true then some (f x) else none, ())) xs () = some (ys, ()) := by
  unfold lcF at h
  split at h
  · rename_i hl
    cases h
    exact ⟨hl, lcS_filter c f xs⟩
  · cases h
theorem lcO_ok {α β : Type} {f : α → Option β} {xs : List α} {ys : List β} (h : lcO f xs = some ys) : xs.length < sizeLine ∧ lcS (fun (_ : Unit) x => (f x).map fun y => (some y, ())) xs () = some (ys, ()) := by
  unfold lcO at h
  split at h
  · rename_i hl
    exact ⟨hl, lcS_mapO f xs ys h⟩
  · cases h
theorem lcE_ok {α β S : Type} {f : S → α → Option (Option β × S)} {xs : List α} {s : S} {r : List β × S} (h : lcE f xs s = some r) : xs.length < sizeLine ∧ lcS f xs s = some (r.1, r.2) := by
  unfold lcE at h
  split at h
  · rename_i hl
    exact ⟨hl, h⟩
  · cases h
end
end Z
/-! Z, part K: what the printer names. -/
namespace Z
open PySem PySem.Spec PyProof.Rows L2

abbrev absI (i : Int) : Int := if i < 0 then -i else i
abbrev maxI (i j : Int) : Int := if j > i then j else i
abbrev minI (i j : Int) : Int := if j < i then j else i
theorem fdivO_lit {i j : Int} (h : 0 < j) (h2 : j.natAbs.log2 < 9000) : fdivO i j = some (i / j) := if_pos ⟨h, h2⟩
theorem modO_lit {i j : Int} (h : 0 < j) : modO i j = some (i % j) := if_pos h
theorem and_fix {k l : Bool} (h : k = false → l = false) : (k && l) = l := by
  cases k with
  | true => rfl
  | false => rw [h rfl]; rfl
theorem or_fix {k l : Bool} (h : k = true → l = true) : (k || l) = l := by
  cases k with
  | false => rfl
  | true => rw [h rfl]; rfl
section
variable {X X' : Cx} {es es' : List Slot} {os os1 os2 : Os} {F0 : Hp} {rest : List Stmt} {st : Stmt} {D : Ends} {N V G W : List Str} {k i j l vi gi gj : Nat} {x y z : Str} {p pos : Pos} {e e2 a b c : Expr} {φ ψ : VP} {n : Ent} {α β : Type} {scope : Scope}
theorem sx_join (es' : List Slot) (os' : Os) (h : SX X es' os' F0 rest D) (kk : SX X es' os' F0 rest D → SX X es os F0 (st :: rest) D) : SX X es os F0 (st :: rest) D := kk h
theorem sx_retO {q : Addr} (he : EX X es os e (own q) os1) (h : ∀ F H, Same F0 F → Ow F os1 H → D.rt (.ref q) H) : SX X es os F0 (.Return (some e) pos :: rest) D := sx_ret he fun F H v e o c => by
  obtain rfl : v = .ref q := c.now
  exact h F H e o
theorem sx_end (h : ∀ F σ H, Same F0 F → Ow F os H → D.nx σ H) : SX X es os F0 [] D := sx_nil fun σ H a => let ⟨F, s, o, _⟩ := a; h F σ H s o
theorem sx_doc {t : Str} {q : Nat} {p1 p2 : Pos} (h : SX X es os F0 rest D) : SX X es os F0 (.Expr (.Constant (.str t) q p1) p2 :: rest) D := fun F σ H s ow sl => wps_cons (ws_of ps_doc (h F σ H s ow sl))
theorem fam_mg {f : Str} {v : Option Value} (h : Fam X scope X') (e : X.mg f = v) : X'.mg f = v := by
  obtain ⟨_, _, _, _, _, rfl⟩ := h
  exact e
theorem fam_cal {f : Str} {s : Stmt} {ps : List Str} {sp : PySem.W.Frag → Sp} {m : Nat} (h : Fam X scope X') (c : Cal X.prog X.w X.K X.mg X.base m f s ps (sp X.K)) : Cal X'.prog X'.w X'.K X'.mg X'.base m f s ps (sp X'.K) := by
  obtain ⟨_, _, _, _, _, rfl⟩ := h
  exact c
theorem fam_scope (h : Fam X scope X') : X'.env.scope = relS scope X.env.scope := by
  obtain ⟨_, _, _, _, _, rfl⟩ := h
  rfl
/-- a stored comprehension -/
theorem sw_ok {elt : Expr} {gs : List Comprehension} {l : Nat} {py : Pos} {env : Env} (hk : (match env.scope.kind with | .function => true | _ => false) = true) (hy : env.scope.names.lookup y = some .local) (hl : (py.line == pos.line) = true)
    (ha : (scope.names.any fun q => q.1 == y && (q.2 == .local || q.2 == .cell)) = false) : swapsWith (.ListComp elt gs scope pos) (some (.Name y py)) l env = pure true := by
  refine sw_true ?_ hy hl ha
  split at hk
  · assumption
  · cases hk

/-! ### == of what may be read as data -/
def RdX (X : Cx) (φ : VP) (os : Os) (d : PyData) : Prop := d.hasDict = false → ∀ F H v, Ow F os H → Cl φ F v → Dp X.K H v d
theorem rdx_dat {d : PyData} : RdX X (dat d) os d := fun z F H v ow c => dq_dp _ _ _ z (dq_mono ow.ex _ _ c.now)
theorem rdx_own {q : Addr} {ds : List PyData} (m : Nat) (h : os[m]? = some (q, ol ds)) : RdX X (own q) os (.list ds) := fun z F H v ow c => by
  obtain ⟨_, vs, ho, hv⟩ := (ow.perm (perm_at h)).atL
  obtain rfl : v = .ref q := c.now
  exact .lst (.of ho) (dqall_dp _ _ _ (by simpa [PyData.hasDict] using z) (dqall_mono ow.ex _ _ hv))
theorem r2_eqR {d d' : PyData} {t : Bool} (r1 : RdX X φ os d) (r2 : RdX X ψ os d') (h1 : SeqAt.shaped d = true) (h2 : SeqAt.shaped d' = true) (hk : PyData.eqv d d' = t) : R2X X (rEqD X.K) φ ψ os (dat (.bool t)) := fun F H x y Q ow cx cy q =>
  ⟨d, d', r1 (shaped_lay h1) F H x ow cx, r2 (shaped_lay h2) F H y ow cy, h1, h2, by rw [hk]; exact q F H _ (Same.refl F) ow (cl_dat (.bl _))⟩
theorem r2_neR {d d' : PyData} {t : Bool} (r1 : RdX X φ os d) (r2 : RdX X ψ os d') (h1 : SeqAt.shaped d = true) (h2 : SeqAt.shaped d' = true) (hk : (!PyData.eqv d d') = t) : R2X X (rNeD X.K) φ ψ os (dat (.bool t)) := fun F H x y Q ow cx cy q =>
  ⟨d, d', r1 (shaped_lay h1) F H x ow cx, r2 (shaped_lay h2) F H y ow cy, h1, h2, by rw [hk]; exact q F H _ (Same.refl F) ow (cl_dat (.bl _))⟩
section
variable [DecidableEq α] {e : α → PyData} {m : Nat} {x y : α}
theorem ex_eqR (B : Bd X N W G k) (h : EqvOk e) (s : ShOk e m) (hn : m ≤ 64) (r1 : RdX X φ os2 (e x)) (r2 : RdX X ψ os2 (e y)) (ha : EX X es os a φ os1) (hb : EX X es os1 b ψ os2) : EX X es os (.Compare a [.Eq] [b] pos) (dat (.bool (decide (x = y)))) os2 :=
  ex_cmp (op_eqD B.room.units) (r2_eqR r1 r2 (s.shaped hn x) (s.shaped hn y) (h x y)) (nomark _) ha hb
theorem ex_neR (B : Bd X N W G k) (h : EqvOk e) (s : ShOk e m) (hn : m ≤ 64) (r1 : RdX X φ os2 (e x)) (r2 : RdX X ψ os2 (e y)) (ha : EX X es os a φ os1) (hb : EX X es os1 b ψ os2) : EX X es os (.Compare a [.NotEq] [b] pos) (dat (.bool (!decide (x = y)))) os2 :=
  ex_cmp (op_neD B.room.units) (r2_neR r1 r2 (s.shaped hn x) (s.shaped hn y) (by rw [h x y])) (nomark _) ha hb
theorem tx_eqR (B : Bd X N W G k) (h : EqvOk e) (s : ShOk e m) (hn : m ≤ 64) (r1 : RdX X φ os2 (e x)) (r2 : RdX X ψ os2 (e y)) (ha : EX X es os a φ os1) (hb : EX X es os1 b ψ os2) : TX X es os (.Compare a [.Eq] [b] pos) (decide (x = y)) os2 :=
  tx_cmp (op_eqD B.room.units) (r2_eqR r1 r2 (s.shaped hn x) (s.shaped hn y) (h x y)) (nomark _) ha hb
theorem tx_neR (B : Bd X N W G k) (h : EqvOk e) (s : ShOk e m) (hn : m ≤ 64) (r1 : RdX X φ os2 (e x)) (r2 : RdX X ψ os2 (e y)) (ha : EX X es os a φ os1) (hb : EX X es os1 b ψ os2) : TX X es os (.Compare a [.NotEq] [b] pos) (!decide (x = y)) os2 :=
  tx_cmp (op_neD B.room.units) (r2_neR r1 r2 (s.shaped hn x) (s.shaped hn y) (by rw [h x y])) (nomark _) ha hb
end
theorem r2_isB {s t : Bool} : R2X X rIsB (dat (.bool s)) (dat (.bool t)) os (dat (.bool (decide (s = t)))) := fun F H x y Q ow cx cy q =>
  ⟨s, t, clv_bool cx, clv_bool cy, q F H _ (Same.refl F) ow (cl_dat (.bl _))⟩
theorem r2_notB {s t : Bool} : R2X X rNotB (dat (.bool s)) (dat (.bool t)) os (dat (.bool (!decide (s = t)))) := fun F H x y Q ow cx cy q =>
  ⟨s, t, clv_bool cx, clv_bool cy, q F H _ (Same.refl F) ow (cl_dat (.bl _))⟩
/-! ### in, of ints -/
theorem inV_ints (i : Int) : ∀ xs : List Int, inV (.int i) (xs.map L2.V.int) = xs.contains i
  | [] => rfl
  | x :: xs => by
    have ih := inV_ints i xs
    unfold inV at ih ⊢
    rw [List.map_cons, List.any_cons, ih, List.contains_cons]
    have e : eqV (.int x) (.int i) = (x == i) := by simp [eqV]
    rw [e, Bool.beq_comm]
theorem flat_ints : ∀ xs : List Int, (xs.map L2.V.int).all flatV = true
  | [] => rfl
  | x :: xs => by
    rw [List.map_cons, List.all_cons, flat_ints xs]
    rfl
theorem r2_inT {i : Int} {xs : List Int} (hr : RdT ψ (xs.map PyData.int)) : R2X X (rIn X.K false) (dat (.int i)) ψ os (dat (.bool (xs.contains i))) := fun F H x y Q ow cx cy q => by
  obtain ⟨p, vs, rfl, h1, h2⟩ := hr F y cy
  have ev := dqall_of_ints xs h2
  subst ev
  rw [clv_int cx]
  exact ⟨p, _, rfl, .inr (.of (ow.ex _ _ h1)), rfl, flat_ints xs, by rw [inV_ints]; exact q F H _ (Same.refl F) ow (cl_dat (.bl _))⟩
theorem r2_ninT {i : Int} {xs : List Int} (hr : RdT ψ (xs.map PyData.int)) : R2X X (rIn X.K true) (dat (.int i)) ψ os (dat (.bool (!xs.contains i))) := fun F H x y Q ow cx cy q => by
  obtain ⟨p, vs, rfl, h1, h2⟩ := hr F y cy
  have ev := dqall_of_ints xs h2
  subst ev
  rw [clv_int cx]
  exact ⟨p, _, rfl, .inr (.of (ow.ex _ _ h1)), rfl, flat_ints xs, by rw [inV_ints]; exact q F H _ (Same.refl F) ow (cl_dat (.bl _))⟩
theorem r2_inL {i : Int} {xs : List Int} (hr : RdL X ψ os (xs.map PyData.int)) : R2X X (rIn X.K false) (dat (.int i)) ψ os (dat (.bool (xs.contains i))) := fun F H x y Q ow cx cy q => by
  obtain ⟨p, vs, rfl, h1, h2⟩ := hr F H y ow cy
  have ev := dqall_of_ints xs h2
  subst ev
  rw [clv_int cx]
  exact ⟨p, _, rfl, .inl h1, rfl, flat_ints xs, by rw [inV_ints]; exact q F H _ (Same.refl F) ow (cl_dat (.bl _))⟩
theorem r2_ninL {i : Int} {xs : List Int} (hr : RdL X ψ os (xs.map PyData.int)) : R2X X (rIn X.K true) (dat (.int i)) ψ os (dat (.bool (!xs.contains i))) := fun F H x y Q ow cx cy q => by
  obtain ⟨p, vs, rfl, h1, h2⟩ := hr F H y ow cy
  have ev := dqall_of_ints xs h2
  subst ev
  rw [clv_int cx]
  exact ⟨p, _, rfl, .inl h1, rfl, flat_ints xs, by rw [inV_ints]; exact q F H _ (Same.refl F) ow (cl_dat (.bl _))⟩
/-! ### list * int -/
def repO {α : Type} (xs : List α) (m : Int) : Option (List α) := if -(2 ^ 63) ≤ m ∧ m < 2 ^ 63 ∧ xs.length * m.toNat ≤ sizeLine then some (List.replicate m.toNat xs).flatten else none
theorem dqall_rep {F : Hp} {ds : List PyData} {vs : List L2.V} (h : DqAll F vs ds) : ∀ m : Nat, DqAll F (List.replicate m vs).flatten (List.replicate m ds).flatten
  | 0 => .nil
  | m + 1 => by
    rw [List.replicate_succ, List.replicate_succ, List.flatten_cons, List.flatten_cons]
    exact dqall_app h (dqall_rep h m)
theorem map_rep {α β : Type} (f : α → β) (xs : List α) : ∀ m : Nat, (List.replicate m (xs.map f)).flatten = ((List.replicate m xs).flatten).map f
  | 0 => rfl
  | m + 1 => by rw [List.replicate_succ, List.replicate_succ, List.flatten_cons, List.flatten_cons, map_rep f xs m, List.map_append]
theorem en_rep {enc : α → PyData} {xs ys : List α} {m : Int} (h : repO xs m = some ys) (ha : EX X es os a (dat (.list (xs.map enc))) os1) (hb : EX X es os1 b (dat (.int m)) os2) : EN X es os (.BinOp a .Mult b pos) (ol (ys.map enc)) os2 := fun F σ H Q ow sl q => by
  unfold repO at h
  split at h
  · rename_i hl
    cases h
    refine we_of (pe_op op_rep pe_u pe_u) (ha F σ H _ ow sl fun F1 H1 v e1 o1 c1 => hb F1 σ H1 _ o1 (sl.mono e1) fun F2 H2 u e2 o2 c2 => ?_)
    obtain ⟨p, vs, rfl, h1, h2⟩ := dat_list o2 (c1.mono e2)
    refine ⟨p, m, vs, rfl, clv_int c2, h1, hl.1, hl.2.1, by rw [dqall_len h2, List.length_map]; exact hl.2.2, fun r hr => ?_⟩
    refine q F2 _ r (e1.trans e2) (o2.new hr fun G g => ⟨_, rfl, ?_⟩)
    rw [← map_rep]
    exact dqall_mono g _ _ (dqall_rep h2 _)
  · cases h
/-! ### list(range(..)), tuple(range(..)) -/
def rgO (a b : Int) : Option (List Int) := if -(2 ^ 62) ≤ a ∧ a < 2 ^ 62 ∧ -(2 ^ 62) ≤ b ∧ b < 2 ^ 62 ∧ (b - a).toNat ≤ 2 ^ 24 then some (range' a b) else none
theorem rgV_map (a b : Int) : rgV a b = (range' a b).map L2.V.int := by
  unfold rgV range'
  rw [List.map_map]
  rfl
theorem en_rgL1 {b : Int} {xs : List Int} (B : Bd X N W G k) (hj : G[gi]? = some "list") (hj2 : G[gj]? = some "range") (hm : X.mg "list" = none) (hm2 : X.mg "range" = none) (hr : rgO 0 b = some xs) (ha : EX X es os e (dat (.int b)) os1) {p2 pos2 : Pos}
    (na : starEach [(.Call (.Name "range" p2) [e] [] pos2)] X.env = (false, eval (.Call (.Name "range" p2) [e] [] pos2) X.env) :: starEach [] X.env := by rfl) (nb : starEach [e] X.env = (false, eval e X.env) :: starEach [] X.env := by rfl) :
    EN X es os (.Call (.Name "list" p) [.Call (.Name "range" p2) [e] [] pos2] [] pos) (ol (xs.map PyData.int)) os1 := fun F σ H Q ow sl q => by
  unfold rgO at hr
  split at hr
  · rename_i hl
    cases hr
    refine we_of (pe_listRg B.calm (B.gl _ (List.mem_of_getElem? hj)).1 hm (prg_1 (B.gl _ (List.mem_of_getElem? hj2)).1 hm2 pe_u nb) na) (ha F σ H _ ow sl fun F1 H1 v e1 o1 c1 => ⟨b, clv_int c1, hl, fun r hr => ?_⟩)
    rw [rgV_map]
    exact q F1 _ r e1 (o1.new hr fun G g => ⟨_, rfl, dqall_ints _⟩)
  · cases hr
theorem en_rgL2 {lo b : Int} {xs : List Int} (B : Bd X N W G k) (hj : G[gi]? = some "list") (hj2 : G[gj]? = some "range") (hm : X.mg "list" = none) (hm2 : X.mg "range" = none) (hr : rgO lo b = some xs) (ha : EX X es os e (dat (.int lo)) os1) (hb : EX X es os1 e2 (dat (.int b)) os2) {p2 pos2 : Pos}
    (na : starEach [(.Call (.Name "range" p2) [e, e2] [] pos2)] X.env = (false, eval (.Call (.Name "range" p2) [e, e2] [] pos2) X.env) :: starEach [] X.env := by rfl) (nb : starEach [e, e2] X.env = (false, eval e X.env) :: starEach [e2] X.env := by rfl) (nc : starEach [e2] X.env = (false, eval e2 X.env) :: starEach [] X.env := by rfl)
    (hpp : (backTo pos2 (starEach [e2] X.env)).any (·.1) = false := by rfl) : EN X es os (.Call (.Name "list" p) [.Call (.Name "range" p2) [e, e2] [] pos2] [] pos) (ol (xs.map PyData.int)) os2 := fun F σ H Q ow sl q => by
  unfold rgO at hr
  split at hr
  · rename_i hl
    cases hr
    refine we_of (pe_listRg B.calm (B.gl _ (List.mem_of_getElem? hj)).1 hm (prg_2 (B.gl _ (List.mem_of_getElem? hj2)).1 hm2 pe_u pe_u nb nc hpp) na) (ha F σ H _ ow sl fun F1 H1 v e1 o1 c1 => hb F1 σ H1 _ o1 (sl.mono e1) fun F2 H2 u e2 o2 c2 => ⟨lo, b, clv_int c1, clv_int c2, hl, fun r hr => ?_⟩)
    rw [rgV_map]
    exact q F2 _ r (e1.trans e2) (o2.new hr fun G g => ⟨_, rfl, dqall_ints _⟩)
  · cases hr
/-! ### comprehensions, ready to use -/
section
variable {S : Type} {elt iter : Expr} {ifs : List Expr} {xs : List α} {vp : α → VP} {enc : β → PyData} {s0 : S} {os0 : Os} {ys : List β} {sf : S} {tpos : Pos} {cc : Os → Prop}
theorem lc_mk1 {c : Os → Prop} (f : S → α → Option (Option β × S)) (OS : S → Os → Os) (s0 : S) (ys : List β) (sf : S) (B : Bd X N W G k) (hj : N[j]? = some x) (hun : (es[j]? = some un)) (hblk : blkC X.N X.env.scope scope [(x, j)] = true) (hown : ownB scope X.env.scope x = true) (hif : ifs.length ≤ 1)
    (hl : xs.length < sizeLine ∧ lcS f xs s0 = some (ys, sf)) (hi : IX X (.Name x tpos) es os iter xs vp c (OS s0 os0)) (hc : ∀ s tl, c (OS s tl)) (hperm : ∀ s q tl, (OS s (q :: tl)).Perm (q :: OS s tl))
    (hb : ∀ s x t tl, x ∈ xs → f s x = some t → ∃ b os1, ∀ X', Fam X scope X' → PTX X' (es.set j (sl (vp x))) (OS s tl) ifs b os1 ∧ (b = true → ∃ y, t.1 = some y ∧ EX X' (es.set j (sl (vp x))) os1 elt (dat (enc y)) (OS t.2 tl)) ∧ (b = false → t.1 = none ∧ os1 = OS t.2 tl)) :
    LcOk X es os (.Name x tpos) iter elt ifs scope [(x, j)] xs vp c (gName j) (fun x es => es.set j (sl (vp x))) enc f OS s0 os0 ys sf where
  calm := B.calm
  nd := B.hN ▸ B.nd
  ok := blkOk_by hblk
  pg := fun X' hX => pg_own hX B hj hown
  hv := fun m hm => by
    have e : m = j := by simpa using hm
    rw [e]
    exact hun
  hid := lc_id1
  hg := fun x F σ H v Q os2 sl hw ow c q => lc_gname x F σ H v Q os2 sl hw ow c q
  hif := hif
  hl := hl.2
  hz := hl.1
  hi := hi
  hc := hc
  hperm := hperm
  hb := hb
end
end
end Z
/-! Z, part L: None, more. -/
namespace Z
open PySem PySem.Spec PyProof.Rows L2
theorem elimL {α β γ : Type} {f : α → Option γ} {g : β → Option γ} {x : α} {c : Option γ} (h : Sum.elim f g (.inl x) = c) : f x = c := h
theorem elimR {α β γ : Type} {f : α → Option γ} {g : β → Option γ} {x : β} {c : Option γ} (h : Sum.elim f g (.inr x) = c) : g x = c := h
theorem len_ok {ds : List PyData} {n : Nat} (h : ds.length = n) (h2 : n ≤ sizeLine := by decide +kernel) : ds.length ≤ sizeLine := h ▸ h2
section
variable {X : Cx} {os : Os}
def noneB : PyData → Bool
  | .none => true
  | _ => false
theorem dq_none {F : Hp} : ∀ {v : L2.V} {d : PyData}, Dq F v d → decide (v = .non) = noneB d
  | _, _, .non => rfl
  | _, _, .bl _ => by simp [noneB]
  | _, _, .int _ => by simp [noneB]
  | _, _, .str _ => by simp [noneB]
  | _, _, .lst _ _ => by simp [noneB]
  | _, _, .tup _ _ => by simp [noneB]
  | _, _, .dctK _ _ _ => by simp [noneB]
  | _, _, .dctT _ _ _ => by simp [noneB]
theorem r2_isN {d : PyData} {t : Bool} (h : noneB d = t) : R2X X (fun x y H Q => y = .non ∧ Q (.bl (decide (x = .non))) H) (dat d) (dat .none) os (dat (.bool t)) := fun F H x y Q ow cx cy q =>
  ⟨by have := cy.now; cases this; rfl, by rw [dq_none cx.now, h]; exact q F H _ (Same.refl F) ow (cl_dat (.bl _))⟩
theorem r2_notN {d : PyData} {t : Bool} (h : (!noneB d) = t) : R2X X (fun x y H Q => y = .non ∧ Q (.bl (!decide (x = .non))) H) (dat d) (dat .none) os (dat (.bool t)) := fun F H x y Q ow cx cy q =>
  ⟨by have := cy.now; cases this; rfl, by rw [dq_none cx.now, h]; exact q F H _ (Same.refl F) ow (cl_dat (.bl _))⟩
end
theorem Ow.suf {F H : Hp} {rest : Os} : ∀ {l : Os}, Ow F (l ++ rest) H → Ow F rest H
  | [], h => h
  | _ :: l, h => Ow.suf (l := l) h.drop
section
variable {X : Cx} {es : List Slot} {os os1 rest : Os} {N V G : List Str} {k j : Nat} {x : Str} {p pos : Pos} {e : Expr} {st : Stmt} {pn : List Str} {α β : Type} {ps : α → List VP} {pre : α → Os} {m : α → Option β} {res : α → β → VP} {post : α → β → Os} {n : Ent} {gi : Nat} {φ : VP}
/-- a call whose one argument is a list made for it -/
theorem ex_calln {a : Addr → α} {b : β} (B : Bd X N V G k) (hj : G[gi]? = some x) (c : Cal X.prog X.w X.K X.mg X.base j x st pn (spZ ps pre m res post)) (hl : j ≤ k) (hm : ∀ q, m (a q) = some b) (ha : EN X es os e n rest)
    (hps : ∀ q, ps (a q) = [own q]) (hpre : ∀ q, pre (a q) = [(q, n)]) (hres : ∀ q, res (a q) b = φ)
    (he : starEach [e] X.env = (false, eval e X.env) :: starEach [] X.env := by rfl) (hpl : (backTo pos (starEach [] X.env)).any (·.1) = false := by rfl) : EX X es os (.Call (.Name x p) [e] [] pos) φ rest := fun F σ H Q ow sl q =>
  let ⟨u, v⟩ := B.gl x (List.mem_of_getElem? hj)
  we_of (pe_g (c.mono hl) B.gd B.room u (pa_cons (hs := he) pe_u pa_nil) (dun_d v) he hpl) (ha F σ H _ ow sl fun F1 H1 r e1 o1 => ⟨a r, b, F1, rest, by rw [hps]; exact ⟨_, [], rfl, cl_own, rfl⟩, by rw [hpre]; exact o1, hm r, fun F2 H2 v e2 o2 c2 => q F2 H2 v (e1.trans e2) o2.suf (hres r ▸ c2)⟩)
end
end Z
/-! Z, part M: tuples turned about and told again and again; comprehensions of parts that may fail. -/
namespace Z
open PySem PySem.Spec PyProof.Rows L2 HT
section
variable {prog : Program} {w : World} {A : Around} {E : Value → Shared → Prop} {s : Shared}
theorem places_rev (n : Nat) : Builtin.Slice.slicePlaces ((n : Int) - 1) (-1) (-1) = n := by
  unfold Builtin.Slice.slicePlaces
  have z1 : ¬ ((-1 : Int) > 0) := by omega
  have z2 : (-(-1) : Int) = 1 := by omega
  simp only [z1, if_false, z2, Int.ediv_one]
  split <;> omega
theorem applied_rev {q : Addr} {vs : Value} {n : Nat} {Q : Int × Int × Nat → Shared → Prop} (hs : s.heap.IsSliceOf q .none .none vs) (ps : IsPart vs (some (-1)))
    (h : Q ((n : Int) - 1, -1, n) s) : wpAny (model prog w) A (Builtin.Slice.sliceApplied (.ref q) (pure (n : Int))) Q E s := by
  obtain ⟨o, h1, h2, h3⟩ := id hs
  unfold Builtin.Slice.sliceApplied Builtin.Slice.sliceFields
  refine wpAny_bind (wpAny_bind (wpAny_field h1 h3 (x := Value.none) rfl (wpAny_bind (wpAny_field h1 h3 (x := Value.none) rfl (wpAny_bind (wpAny_field h1 h3 (x := vs) rfl (wpAny_pure ?_)))))))
  refine wpAny_bind (slicePart_ ps ?_)
  show wpAny _ _ (if ((-1 : Int) == 0) = true then _ else _) _ _ s
  rw [if_neg (show ¬ ((-1 : Int) == 0) = true by decide)]
  refine wpAny_bind (slicePart_none (wpAny_bind (slicePart_none (wpAny_bind (wpAny_pure ?_)))))
  show wpAny _ _ (pure ((n : Int) - 1, (-1 : Int), Builtin.Slice.slicePlaces ((n : Int) - 1) (-1) (-1))) _ _ s
  rw [places_rev]
  exact wpAny_pure h
theorem fm_all (l : List Value) : ∀ m : Nat, m ≤ l.length → ((List.range m).filterMap fun k : Nat => l[m - 1 - k]?) = (l.take m).reverse
  | 0, _ => rfl
  | m + 1, hm => by
    have ih := fm_all l m (by omega)
    rw [List.range_succ_eq_map, List.filterMap_cons, List.filterMap_map]
    have e0 : l[m + 1 - 1 - 0]? = some l[m] := by
      rw [show m + 1 - 1 - 0 = m by omega]
      exact List.getElem?_eq_getElem (by omega)
    rw [e0]
    have e1 : ((fun k : Nat => l[m + 1 - 1 - k]?) ∘ Nat.succ) = fun k : Nat => l[m - 1 - k]? := by
      funext k
      show l[m + 1 - 1 - (k + 1)]? = _
      rw [show m + 1 - 1 - (k + 1) = m - 1 - k by omega]
    rw [e1, ih]
    rw [List.take_succ_eq_append_getElem (by omega), List.reverse_append]
    rfl
theorem fm_congr {α β : Type} {f g : α → Option β} : ∀ {l : List α}, (∀ x ∈ l, f x = g x) → l.filterMap f = l.filterMap g
  | [], _ => rfl
  | x :: l, h => by rw [List.filterMap_cons, List.filterMap_cons, h x List.mem_cons_self, fm_congr fun y hy => h y (List.mem_cons_of_mem _ hy)]
theorem pick_rev (xs : Array Value) : ((List.range xs.size).filterMap fun (k : Nat) => xs[(((xs.size : Int) - 1) + (k : Int) * (-1)).toNat]?).toArray = xs.toList.reverse.toArray := by
  have key : ((List.range xs.size).filterMap fun (k : Nat) => xs[(((xs.size : Int) - 1) + (k : Int) * (-1)).toNat]?) = ((List.range xs.size).filterMap fun k : Nat => xs.toList[xs.size - 1 - k]?) := by
    refine fm_congr fun k hk => ?_
    have := List.mem_range.mp hk
    rw [show (((xs.size : Int) - 1) + (k : Int) * (-1)).toNat = xs.size - 1 - k by omega, Array.getElem?_toList]
  rw [key, fm_all xs.toList xs.size (by simp), List.take_of_length_le (by simp)]
theorem item_rev {t q : Addr} {its : Array Value} {vs : Value} {Q : Value → Shared → Prop} (ht : IsTup s.heap t its) (hs : s.heap.IsSliceOf q .none .none vs) (ps : IsPart vs (some (-1)))
    (h : Q (.ref s.heap.objs.size) { s with heap := s.heap.push { cls := .type "tuple", data := .seq its.toList.reverse.toArray } }) (hz : its.size ≤ sizeLine) : wpAny (model prog w) A (getItem (.ref t) (.ref q)) Q E s := by
  have fits : sizeOk (.seq its.toList.reverse.toArray) := by
    show its.toList.reverse.toArray.size ≤ sizeLine
    rw [List.size_toArray, List.length_reverse, Array.length_toList]
    exact hz
  obtain ⟨o, h1, h2, h3⟩ := id hs
  have tq : s.TypeIs (.ref q) "slice" := ⟨o, h1, h2⟩
  unfold getItem
  try with_reducible refine wpAny_holding ?_
  first | refine wpAny_bind (wpAny_pure ?_) | skip
  refine wpAny_bind (wpAny_sequenceKey (IsTup.typeIs ht) (by decide) ?_)
  refine wpAny_bind (wpAny_callSpecial?_slot (name := Str.ofString "__getitem__") (IsTup.typeIs ht) PyProof.Rows.slot_tuple_getitem (wpAny_call_entry PyProof.Rows.slot_tuple_getitem (IsTup.typeIs ht) entry_tuple_getitem ?_ (args_tuple_getitem _ _)))
  show wpAny _ _ (Builtin.Tuple.tupleItemsOf (.ref t) >>= _) _ _ s
  refine wpAny_bind (tupleItemsOf_ ht (wpAny_bind (wpAny_typeOf tq ?_)))
  rw [if_pos (by decide)]
  refine wpAny_bind (applied_rev hs ps ?_)
  have hno : ¬ ((((its.size : Int) - 1) == 0 && (-1 : Int) == 1 && its.size == its.size) = true) := by
    intro z
    rw [Bool.and_eq_true, Bool.and_eq_true] at z
    exact absurd (eq_of_beq z.1.2) (by decide)
  show wpAny _ _ (if (((its.size : Int) - 1) == 0 && (-1 : Int) == 1 && its.size == its.size) = true then _ else _) _ _ s
  rw [if_neg hno, pick_rev]
  exact wpAny_bind (m := Builtin.Tuple.tupleExact _) (wpAny_newObj_type (wpAny_pure ⟨_, rfl, wpAny_pure h⟩) fits)
end
def tRevT (K : PySem.W.Frag) (te : TE) : TE := fun σ H Q => te σ H fun x H1 => ∃ a xs, x = .ref a ∧ SqT K H1 a xs ∧ ∀ p, H1 p = none → Q (.ref p) (upd H1 p (.tup xs.reverse))
section
variable {X : Cx}
theorem pe_revT {e : Expr} {te : TE} {k : Nat} {p1 p2 p3 pos : Pos} (he : PE X e te) : PE X (.Subscript e (.Slice none none (some (.UnaryOp .USub (.Constant (.int 1) k p1) p2)) p3) pos) (tRevT X.K te) := by
  refine ⟨fun pins s σ H Q I h => Subscript_ (thn (he.run pins s σ H _ I h) fun v s1 ⟨x, H1, I1, r1, q1⟩ => ?_)⟩
  obtain ⟨a, xs, rfl, hx, q⟩ := q1
  cases r1
  have hst : PO X (some (.UnaryOp .USub (.Constant (.int 1) k p1) p2)) (tPart (tUn (rU fun i => .int (-i)) (tC (.int 1)))) := po_some (pe_un un_neg pe_int)
  refine wpAny_Slice (thn (po_none.run pins s1 σ H1 (fun o Hx => o = none ∧ Hx = H1) I1 ⟨rfl, rfl⟩) fun vl s2 ⟨l, H2, I2, pl, u1, u2⟩ => ?_)
  subst u1 u2
  refine thn (po_none.run pins s2 σ H2 (fun o Hx => o = none ∧ Hx = H2) I2 ⟨rfl, rfl⟩) fun vu s3 ⟨u, H3, I3, pu, u1, u2⟩ => ?_
  subst u1 u2
  refine thn (hst.run pins s3 σ H3 (fun o Hx => o = some (-1) ∧ Hx = H3) I3 ⟨1, rfl, -1, rfl, rfl, rfl⟩) fun vs s4 ⟨o, H4, I4, ps, u1, u2⟩ => ?_
  subst u1 u2
  cases pl
  cases pu
  have J : Inv X pins σ H4 { s4 with heap := s4.heap.push { cls := .type "slice", data := .fields #[.none, .none, vs] } } := I4.kept (t' := s4.toks) fun b ob z => Heap.get?_push_of_some _ z
  obtain ⟨its, r, ht, hz⟩ := J.tuple hx
  have hlen := r.length
  show wpAny (model X.prog X.w) X.A (subscriptTail e (.Slice none none (some (.UnaryOp .USub (.Constant (.int 1) k p1) p2)) p3) (.ref a) (.ref s4.heap.objs.size)) (EP X pins σ Q) X.xe { s4 with heap := s4.heap.push { cls := .type "slice", data := .fields #[.none, .none, vs] } }
  refine tail_any (ops := [.ref a, .ref s4.heap.objs.size]) (IsTup.typeIs ht) PyProof.Rows.slot_tuple_getitem.lookup ?_ (by with_unfolding_all rfl)
  refine item_rev ht (Heap.IsSliceOf.new _ Value.none Value.none vs) ps ?_ (by rw [List.size_toArray]; omega)
  refine ⟨.ref _, _, J.laid (t' := s4.toks) (o := .tup xs.reverse) (fun b ob z => Heap.get?_push_of_some _ z) (Nat.le_refl _) ?_, rfl, q _ (J.hok.fresh (Nat.le_refl _))⟩
  exact ⟨by rw [List.length_reverse]; exact hz, _, r.reverse, IsTup.new _ _⟩
end
section
variable {X : Cx} {es : List Slot} {os os1 os2 : Os} {pos : Pos} {a b : Expr} {φ : VP}
theorem ex_revT {α : Type} {enc : α → PyData} {xs : List α} {kk : Nat} {p1 p2 p3 : Pos} (hr : RdT φ (xs.map enc)) (ha : EX X es os a φ os1) : EX X es os (.Subscript a (.Slice none none (some (.UnaryOp .USub (.Constant (.int 1) kk p1) p2)) p3) pos) (dat (.tuple (xs.reverse.map enc))) os1 := fun F σ H Q ow sl q =>
  we_of (pe_revT pe_u) (ha F σ H _ ow sl fun F1 H1 v e1 o1 c1 => by
    obtain ⟨p, vs, rfl, h1, h2⟩ := hr F1 v c1
    refine ⟨p, vs, rfl, .of (o1.ex _ _ h1), fun m hm => ?_⟩
    have fp := o1.ex.free hm
    have hd := dqall_rev h2
    rw [← List.map_reverse] at hd
    exact q _ _ _ (e1.trans (same_upd fp)) (o1.frozen hm) (cl_dat (.tup upd_same (dqall_mono (same_upd fp) _ _ hd))))
end
/-! ### comprehensions of parts that may fail -/
def mapG {α β : Type} (f : α → Option (Option β)) : List α → Option (List β)
  | [] => some []
  | x :: xs => (f x).bind fun y => (mapG f xs).bind fun ys => some (y.toList ++ ys)
def lcG {α β : Type} (f : α → Option (Option β)) (xs : List α) : Option (List β) := if xs.length < sizeLine then mapG f xs else none
theorem lcS_mapG {α β : Type} (f : α → Option (Option β)) : ∀ (xs : List α) (ys : List β), mapG f xs = some ys → lcS (fun (_ : Unit) x => (f x).map fun y => (y, ())) xs () = some (ys, ())
  | [], ys, h => by
    cases h
    rfl
  | x :: xs, ys, h => by
    unfold mapG at h
    obtain ⟨y, h1, h2⟩ := bnd h
    obtain ⟨zs, h3, h4⟩ := bnd h2
    obtain rfl := som h4
    unfold lcS
    rw [h1]
    show ((lcS _ xs ()).bind fun u => some (y.toList ++ u.1, u.2)) = _
    rw [lcS_mapG f xs zs h3]
    rfl
theorem lcG_ok {α β : Type} {f : α → Option (Option β)} {xs : List α} {ys : List β} (h : lcG f xs = some ys) : xs.length < sizeLine ∧ lcS (fun (_ : Unit) x => (f x).map fun y => (y, ())) xs () = some (ys, ()) := by
  unfold lcG at h
  split at h
  · rename_i hl
    exact ⟨hl, lcS_mapG f xs ys h⟩
  · cases h
end Z
set_option maxHeartbeats 4000000
/-! Z, part N: tuple * int at every count. -/
namespace Z
open PySem PySem.Spec PyProof.Rows L2
theorem mul_same (l : Addr) (items : Array Value) (n : Nat) (dd : Option Addr) (sl : Array (Option Value)) (x : Int) (u : Tok) (c0 : (decide (x < -(2 ^ 63)) || decide (x ≥ 2 ^ 63)) = false) (c1 : (items.isEmpty || x == 1) = true) :
    Meets (Builtin.«tuple.__mul__» ⟨[.ref l, .int x u], []⟩) (fun _ R s => s.heap.get? l = some { cls := .type "tuple", dict := dd, data := .seq items n, slots := sl } ∧ R (.ok (.ret (.ref l))) s) :=
  .of_wp fun prog w A R s h => by
    obtain ⟨hp, g, d, tk, os⟩ := s
    obtain ⟨hl, h⟩ := h
    have f1 := AutoSeq1.idx_int
    wp_walk using wpAny_loadPart' hl
    repeat (first
      | (refine wpAny_ite_false (decide_eq_false (by rw [c0]; exact Bool.false_ne_true)) ?_; wp_walk using wpAny_loadPart' hl)
      | (refine wpAny_ite_true (decide_eq_true (by rw [c1])) ?_; wp_walk using wpAny_loadPart' hl))
    exact ⟨_, rfl, h⟩
theorem mul_none (l : Addr) (items : Array Value) (n : Nat) (dd : Option Addr) (sl : Array (Option Value)) (x : Int) (u : Tok) (c0 : (decide (x < -(2 ^ 63)) || decide (x ≥ 2 ^ 63)) = false) (c1 : (items.isEmpty || x == 1) = false) (c2 : (decide (x ≤ 0) || items.isEmpty) = true) :
    Meets (Builtin.«tuple.__mul__» ⟨[.ref l, .int x u], []⟩) (fun _ R s => s.heap.get? l = some { cls := .type "tuple", dict := dd, data := .seq items n, slots := sl } ∧
      R (.ok (.ret (Value.ref s.heap.objs.size))) { s with heap := s.heap.push { cls := Value.type "tuple", data := Data.seq #[] }, toks := s.toks }) :=
  .of_wp fun prog w A R s h => by
    obtain ⟨hp, g, d, tk, os⟩ := s
    obtain ⟨hl, h⟩ := h
    have f1 := AutoSeq1.idx_int
    wp_walk using wpAny_loadPart' hl
    repeat (first
      | (refine wpAny_ite_false (decide_eq_false (by rw [c0]; exact Bool.false_ne_true)) ?_; wp_walk using wpAny_loadPart' hl)
      | (refine wpAny_ite_false (decide_eq_false (by rw [c1]; exact Bool.false_ne_true)) ?_; wp_walk using wpAny_loadPart' hl)
      | (refine wpAny_ite_true (decide_eq_true (by rw [c2])) ?_; wp_walk using wpAny_loadPart' hl))
    exact ⟨_, rfl, h⟩
/-- a tuple, so many times behind one another -/
def rRepA (K : PySem.W.Frag) : R2 := fun x y H Q => ∃ l k xs, x = .ref l ∧ y = .int k ∧ SqT K H l xs ∧ -(2 ^ 63) ≤ k ∧ k < 2 ^ 63 ∧ ((xs = [] ∨ k = 1) → Q (.ref l) H) ∧ (xs ≠ [] → k ≤ 0 → ∀ p, H p = none → Q (.ref p) (upd H p (.tup []))) ∧
  (xs ≠ [] → 2 ≤ k → k ≤ 1000 ∧ xs.length ≤ 1000 ∧ ∀ p, H p = none → Q (.ref p) (upd H p (.tup (List.replicate k.toNat xs).flatten)))
section
variable {X : Cx}
theorem op_repA : OpR X (binaryOp .Mult) (rRepA X.K) := by
  intro pins s σ H x y v u Q I rx ry h
  obtain ⟨l, k, xs, rfl, rfl, hT, k0, k1, qa, qb, qc⟩ := h
  by_cases hbig : xs ≠ [] ∧ 2 ≤ k
  · obtain ⟨g1, g2, g3⟩ := qc hbig.1 hbig.2
    exact op_repT pins s σ H _ _ v u Q I rx ry ⟨l, k, xs, rfl, rfl, hT, hbig.1, hbig.2, g1, g2, g3⟩
  cases rx
  obtain ⟨t, rfl⟩ := ry
  obtain ⟨its, r, ⟨⟨cls, dd, data, sl⟩, ho, hc, n, hd⟩, hs⟩ := I.tuple hT
  simp only at hc hd
  subst hc hd
  have c0 : (decide (k < -(2 ^ 63)) || decide (k ≥ 2 ^ 63)) = false := by
    rw [Bool.or_eq_false_iff]
    exact ⟨decide_eq_false (by omega), decide_eq_false (by omega)⟩
  have emp : its.toArray.isEmpty = decide (xs = []) := by
    cases r with
    | nil => rfl
    | cons _ _ => rfl
  by_cases h1 : xs = [] ∨ k = 1
  · have c1 : (its.toArray.isEmpty || k == 1) = true := by
      rw [emp, Bool.or_eq_true, decide_eq_true_eq, beq_iff_eq]
      exact h1
    refine wpAny_binaryOp_repeat_ref (T := "tuple") (U := "int") (by decide) ⟨_, ho, rfl⟩ (fun s2 => typeIs_int s2 k t) noFill_tuple_mul F.fills_int_mul F.slot_int_rmul repeat_tuple F.slot_int_index.lookup
      (call_meets F.slot_int_rmul (typeIs_int s k t) F.entry_int_rmul (F.args_int_rmul_2 _ _) (int_rmul_tuple k t l its.toArray n dd sl) ⟨ho, rfl, ⟨_, ho, rfl⟩, call_meets F.slot_tuple_mul ⟨_, ho, rfl⟩ F.entry_tuple_mul (F.args_tuple_mul_2 _ _) (mul_same l its.toArray n dd sl k t c0 c1) ⟨ho, ?_⟩⟩)
    exact ⟨.ref l, H, I, rfl, qa h1⟩
  · have hne : xs ≠ [] := fun z => h1 (.inl z)
    have hk : k ≤ 0 := by
      have z1 : ¬ 2 ≤ k := fun z => hbig ⟨hne, z⟩
      have z2 : ¬ k = 1 := fun z => h1 (.inr z)
      omega
    have c1 : (its.toArray.isEmpty || k == 1) = false := by
      rw [emp, Bool.or_eq_false_iff]
      exact ⟨decide_eq_false hne, beq_eq_false_iff_ne.mpr (by omega)⟩
    have c2 : (decide (k ≤ 0) || its.toArray.isEmpty) = true := by
      rw [decide_eq_true hk, Bool.true_or]
    refine wpAny_binaryOp_repeat_ref (T := "tuple") (U := "int") (by decide) ⟨_, ho, rfl⟩ (fun s2 => typeIs_int s2 k t) noFill_tuple_mul F.fills_int_mul F.slot_int_rmul repeat_tuple F.slot_int_index.lookup
      (call_meets F.slot_int_rmul (typeIs_int s k t) F.entry_int_rmul (F.args_int_rmul_2 _ _) (int_rmul_tuple k t l its.toArray n dd sl) ⟨ho, rfl, ⟨_, ho, rfl⟩, call_meets F.slot_tuple_mul ⟨_, ho, rfl⟩ F.entry_tuple_mul (F.args_tuple_mul_2 _ _) (mul_none l its.toArray n dd sl k t c0 c1 c2) ⟨ho, ?_⟩⟩)
    refine ⟨.ref s.heap.objs.size, _, I.laid (t' := s.toks) (o := .tup []) (fun b ob z => Heap.get?_push_of_some _ z) (Nat.le_refl _) ?_, rfl, qb hne hk _ (I.hok.fresh (Nat.le_refl _))⟩
    exact ⟨Nat.zero_le _, [], .nil, IsTup.new _ _⟩
end
section
variable {X : Cx} {es : List Slot} {os os1 os2 : Os} {pos : Pos} {a b : Expr}
/-- the result of t * m -/
def repT {α : Type} (xs : List α) (m : Int) : Option (List α) := if -(2 ^ 63) ≤ m ∧ m ≤ 1000 ∧ xs.length ≤ 1000 then some (List.replicate m.toNat xs).flatten else none
theorem rep_nil {α : Type} : ∀ m : Nat, (List.replicate m ([] : List α)).flatten = []
  | 0 => rfl
  | m + 1 => by rw [List.replicate_succ, List.flatten_cons, rep_nil m]; rfl
theorem ex_repT {α : Type} {enc : α → PyData} {xs ys : List α} {m : Int} (h : repT xs m = some ys) (ha : EX X es os a (dat (.tuple (xs.map enc))) os1) (hb : EX X es os1 b (dat (.int m)) os2) : EX X es os (.BinOp a .Mult b pos) (dat (.tuple (ys.map enc))) os2 := fun F σ H Q ow sl q => by
  unfold repT at h
  split at h
  · rename_i hl
    cases h
    refine we_of (pe_op op_repA pe_u pe_u) (ha F σ H _ ow sl fun F1 H1 v e1 o1 c1 => hb F1 σ H1 _ o1 (sl.mono e1) fun F2 H2 u e2 o2 c2 => ?_)
    obtain ⟨p, vs, rfl, h1, h2⟩ := rdt_dat F2 v (c1.mono e2)
    have e := e1.trans e2
    have hd := dqall_rep h2 m.toNat
    rw [map_rep] at hd
    have hlen := dqall_len h2
    rw [List.length_map] at hlen
    refine ⟨p, m, vs, rfl, clv_int c2, .of (o2.ex _ _ h1), hl.1, by omega, fun h0 => ?_, fun hne hk r hr => ?_, fun hne hk => ⟨hl.2.1, by omega, fun r hr => ?_⟩⟩
    · refine q F2 H2 _ e o2 (cl_dat (.tup h1 ?_))
      rcases h0 with h0 | h0
      · subst h0
        have hx : xs = [] := List.eq_nil_of_length_eq_zero hlen.symm
        subst hx
        rw [rep_nil]
        exact h2
      · subst h0
        have e9 : (List.replicate (1 : Int).toNat xs).flatten = xs := by
          show (List.replicate 1 xs).flatten = xs
          rw [List.replicate_one, List.flatten_cons, List.flatten_nil, List.append_nil]
        rw [e9]
        exact h2
    · have fp := o2.ex.free hr
      have e9 : m.toNat = 0 := by omega
      rw [e9] at q
      exact q _ _ _ (e.trans (same_upd fp)) (o2.frozen hr) (cl_dat (.tup upd_same .nil))
    · have fp := o2.ex.free hr
      exact q _ _ _ (e.trans (same_upd fp)) (o2.frozen hr) (cl_dat (.tup upd_same (dqall_mono (same_upd fp) _ _ hd)))
  · cases h
end
end Z
/-! Z, part O: more rules. -/
namespace Z
open PySem PySem.Spec PyProof.Rows L2
section
variable {X : Cx} {os : Os}
theorem rc_len2 {d1 d2 : PyData} : RCX (fun xs H Q => ∃ p ys, xs = [L2.V.ref p] ∧ (SqL X.K H p ys ∨ SqT X.K H p ys) ∧ Q (.int ys.length) H) [dat (.tuple [d1, d2])] os (dat (.int 2)) os := rc_lenT (ds := [d1, d2]) rdt_dat
theorem rc_len3 {d1 d2 d3 : PyData} : RCX (fun xs H Q => ∃ p ys, xs = [L2.V.ref p] ∧ (SqL X.K H p ys ∨ SqT X.K H p ys) ∧ Q (.int ys.length) H) [dat (.tuple [d1, d2, d3])] os (dat (.int 3)) os := rc_lenT (ds := [d1, d2, d3]) rdt_dat
end
end Z
/-! Z, part P: enumerate over a tuple, range downwards, extend, index. -/
namespace Z
open PySem PySem.Spec PyProof.Rows L2
/-! ### enumerate(t) -/
theorem new_enum1 {v : Value} {o : Obj} {H : Heap → Prop} (B : Begins v o H) :
    Meets (Builtin.«enumerate.__new__» ⟨[.type "enumerate", v], []⟩) (fun _ R s => H s.heap ∧
      R (.ok (.ret (.ref (s.heap.push o).objs.size))) { s with heap := (s.heap.push o).push { cls := .type "enumerate", data := .fields #[.none, .bool false, .ref s.heap.objs.size, rawInt 0, .none, .none] } }) :=
  .of_wp fun prog w A R s h => by
    obtain ⟨hp, g, d, tk, os⟩ := s
    obtain ⟨h1, h⟩ := h
    have hsub := sub_enumerate
    have q1 : ∀ {A' : Around} {E : Value → Shared → Prop} {Q : Value → Shared → Prop}, Q (.ref hp.objs.size) ⟨hp.push o, g, d, tk, os⟩ → wpAny (model prog w) A' (pyIter v) Q E ⟨hp, g, d, tk, os⟩ := fun q => B.iter prog w _ _ ⟨hp, g, d, tk, os⟩ _ h1 q
    wp_walk using q1
    refine wpAny_stack_any fun st => wpAny_pure ?_
    split
    · rename_i c _ _ _ _ _
      cases (c == Value.type "enumerate") <;> (wp_walk using q1; exact ⟨_, rfl, h⟩)
    · wp_walk using q1
      exact ⟨_, rfl, h⟩
theorem enum_begins1 {prog : Program} {w : World} {A : Around} {E : Value → Shared → Prop} {s : Shared} {v : Value} {o : Obj} {H : Heap → Prop} {Q : Value → Shared → Prop} (B : Begins v o H) (h1 : H s.heap)
    (h : ∀ g, IsEnum g (s.heap.objs.size + 1) s.heap.objs.size 0 .none → g.get? s.heap.objs.size = some o → (∀ b u, s.heap.get? b = some u → g.get? b = some u) → Q (.ref (s.heap.objs.size + 1)) { s with heap := g }) :
    wpAny (model prog w) A (call (.type "enumerate") [v]) Q E s := by
  refine callType_new F.called_enumerate (by decide) (F.typeCall_enumerate_1 _) (F.newCall_enumerate_1 _) (fun obj => F.args_object_init_2 obj _) F.entry_enumerate_new (new_enum1 B) ⟨h1, ?_⟩
  have hz : (s.heap.push o).objs.size = s.heap.objs.size + 1 := Heap.size_push ..
  show _ ∧ _
  rw [hz]
  have he : IsEnum ((s.heap.push o).push { cls := .type "enumerate", data := .fields #[.none, .bool false, .ref s.heap.objs.size, rawInt 0, .none, .none] }) (s.heap.objs.size + 1) s.heap.objs.size 0 .none := by
    have q := Heap.get?_push_size (s.heap.push o) (o := { cls := .type "enumerate", data := .fields #[.none, .bool false, .ref s.heap.objs.size, rawInt 0, .none, .none] }) rfl
    rw [hz] at q
    exact q
  exact ⟨⟨_, he, rfl⟩, h _ he (Heap.get?_push_of_some _ (Heap.get?_push_size _ B.free)) fun b u x => Heap.get?_push_of_some _ (Heap.get?_push_of_some _ x)⟩
/-- the items of the tuple at a, each in a new pair -/
def IteT (K : PySem.W.Frag) (a : Addr) : It :=
  ⟨fun i H => ∃ (xs : List L2.V) (x : L2.V), SqT K H a xs ∧ xs[i]? = some x, fun i H v H' => ∃ T x, v = .ref T ∧ H T = none ∧ H' = upd H T (.tup [.int (i : Nat), x]) ∧ ∀ xs, SqT K H a xs → xs[i]? = some x, fun i H => ∃ xs : List L2.V, SqT K H a xs ∧ xs.length ≤ i⟩
/-- the tuple's items as they stand in the heap -/
def TupAt (h : Heap) (a : Addr) (n : Nat) : Prop := ∃ its : Array Value, h.IsTuple a its ∧ its.size = n
theorem turn_enumT {P : Program} {w : World} {K : PySem.W.Frag} {elts : List Expr} {kk : Nat} {tpos : Pos} (a e it : Addr) :
    Turn P w K (.Tuple elts kk tpos) (IteT K a) [e, it] e (fun i h => (∃ old, IsEnum h e it ((i : Nat) : Int) old) ∧ h.IsTupleIter it a i ∧ e ≠ it ∧ a ≠ e ∧ a ≠ it) where
  mem := by simp
  obj := fun i h st b hb => by
    obtain ⟨⟨old, he⟩, ⟨o, ho, hc, hd⟩, _⟩ := st
    have z : b = e ∨ b = it := by simpa using hb
    rcases z with z | z
    · rw [z]
      exact ⟨_, he, fun v q => nomatch q⟩
    · rw [z]
      exact ⟨o, ho, fun v q => by rw [hd] at q; cases q⟩
  keep := fun i h g st k => by
    obtain ⟨⟨old, he⟩, hi, r⟩ := st
    exact ⟨⟨old, k e (by simp) _ he⟩, hi.at fun o q => k it (by simp) o q, r⟩
  item := by
    intro X hP hw hK hc i pins s σ H E I hf st hg
    subst hP hw hK
    obtain ⟨⟨old, he⟩, hit, hne, hae, hai⟩ := st
    obtain ⟨xs, x, hq, hx⟩ := hg
    obtain ⟨its, rv, p, hz⟩ := I.tuple hq
    obtain ⟨u, hu, ru⟩ := rv.get hx
    have hel : e < s.heap.objs.size := Heap.lt_size he
    have hil : it < s.heap.objs.size := by
      obtain ⟨_, q, _⟩ := hit
      exact Heap.lt_size q
    have D := Draws.tuple (prog := X.prog) (w := X.w) (A := X.A.in1) (I.ok.hd hc) it a hai its.toArray
    have hlt : i < its.toArray.size := by
      have := (List.getElem?_eq_some_iff.mp hu).1
      simpa using this
    refine wpAny_pyNext_enum_itemD D he ⟨hit, p⟩ hlt hne (by simp [hne, Ne.symm hae]) fun x' h' tk hP' ho hst hT hsz hk => ?_
    have ex : x' = u := by
      have q : its.toArray[i]? = some u := by simpa using hu
      exact Option.some.inj (hP'.symm.trans q)
    subst ex
    refine ⟨_, rfl, wpAny_letOwnedTupleGo_enum (s := { s with heap := h', toks := tk + 1 }) ho fun h'' he' sb => ?_⟩
    have hT2 : h''.get? s.heap.objs.size = some { cls := .type "tuple", data := .seq #[.int i tk, x'] } := (sb.2 _ (Nat.ne_of_gt hel)).trans hT
    have new : ObjOk X.prog X.w (upd H s.heap.objs.size (.tup [.int (i : Nat), x])) h'' s.heap.objs.size (.tup [.int (i : Nat), x]) :=
      ⟨by show 2 ≤ sizeLine; decide, [.int i tk, x'], .cons ⟨_, rfl⟩ (.cons ru .nil), ⟨_, hT2, rfl, _, rfl⟩⟩
    have I1 : Inv X pins σ (upd H s.heap.objs.size (.tup [.int (i : Nat), x])) { s with heap := h'', toks := tk + 1 } :=
      I.turnedNew (ch := [e, it]) (fun b ob hb q => (sb.2 b (fun z => hb (by simp [z]))).trans (hk b ob (fun z => hb (by simp [z])) (fun z => hb (by simp [z])) q)) hf (Nat.le_refl _) new
    refine ⟨.ref s.heap.objs.size, _, I1, rfl, ⟨_, x, rfl, I.hok.fresh (Nat.le_refl _), rfl, fun ys hy => by rw [I.tuple_inj hy hq]; exact hx⟩, ⟨⟨x', ?_⟩, hst.1.at fun o q => (sb.2 it (Ne.symm hne)).trans q, hne, hae, hai⟩, fun b hb => ?_⟩
    · have e1 : ((i + 1 : Nat) : Int) = (i : Int) + 1 := by omega
      rw [e1]
      exact he'
    · have hb' : b < s.heap.objs.size := by
        have z : b = e ∨ b = it := by simpa using hb
        rcases z with z | z
        · rw [z]
          exact hel
        · rw [z]
          exact hil
      rw [upd_ne (Nat.ne_of_lt hb')]
      exact (hf b hb).1
  done := by
    intro X hP hw hK hc i pins s σ H E I hf st hg
    subst hP hw hK
    obtain ⟨⟨old, he⟩, hit, hne, hae, hai⟩ := st
    obtain ⟨xs, hq, hx⟩ := hg
    obtain ⟨its, rv, p, hz⟩ := I.tuple hq
    obtain ⟨f0, f1, f2, f3, f4, f5⟩ := hf it (by simp)
    have hl := rv.length
    have hT : s.TypeIs (.ref e) "enumerate" := ⟨_, he, rfl⟩
    unfold pyNext
    refine wpAny_bind (wpAny_attempt (wpAny_callSpecial?_slot (name := Str.ofString "__next__") hT F.slot_enumerate_next (wpAny_call_entry F.slot_enumerate_next hT F.entry_enumerate_next ?_ (F.args_enumerate_next_1 _))))
    show wpAny _ _ (field (.ref e) 2 >>= _) _ _ _
    refine wpAny_bind (wpAny_field he rfl (x := .ref it) rfl ?_)
    refine wpAny_bind (wpAny_nextOf_tuple_end (A := X.A.in1) (I.ok.hd hc) hit (show s.heap.IsTuple a its.toArray from p) (by simp; omega) fun h' x he' hx' => ?_)
    obtain ⟨o, ho, hcx⟩ := hx'
    refine wpAny_bind (wpAny_isInstance (T := "StopIteration") (b := true) ⟨o, ho, hcx⟩ isSubtype_stop ?_)
    exact wpAny_pure ⟨rfl, I.turned (t' := s.toks) (fun b o hb q => he' b o hb q) f0 f1 f3 f4 f5⟩
  self := fun A i s Q E st h => by
    obtain ⟨⟨_, he⟩, _⟩ := st
    exact wpAny_pyIter_enum he h
def iEnumT (K : PySem.W.Frag) (ta : TA) : TI := fun σ H R => ta σ H fun vs H1 => ∃ a xs, vs = [.ref a] ∧ SqT K H1 a xs ∧ R (IteT K a) H1
theorem pi_enumT {X : Cx} {e : Expr} {ta : TA} {p pos tpos : Pos} {elts : List Expr} {kk : Nat} (hg : Gl X "enumerate") (hm : X.mg "enumerate" = none) (ha : PA X [e] ta) (hs : starEach [e] X.env = [(false, eval e X.env)] := by rfl) :
    PI X (.Tuple elts kk tpos) (.Call (.Name "enumerate" p) [e] [] pos) (iEnumT X.K ta) := by
  refine ⟨fun pins s σ H R I h => Call_ (ld_blt I hg hm boot_enumerate (PyProof.Rows.callWith_type1 (thn (ha.run pos pins s σ H _ I h) fun us s1 ⟨vs, H1, I1, r1, q1⟩ => ?_) hs rfl))⟩
  obtain ⟨a, xs, rfl, hq, q⟩ := q1
  cases r1 with
  | cons r rr =>
    cases rr
    cases r
    obtain ⟨its, rv, p2, hz⟩ := I1.tuple hq
    have ht : s1.heap.IsTuple a its.toArray := p2
    have hal : a < s1.heap.objs.size := by
      obtain ⟨_, z, _⟩ := ht
      exact Heap.lt_size z
    refine enum_begins1 (begins_tuple a its.toArray) ht fun h' he hit hk => wpAny_pyIter_enum he ?_
    have I2 : Inv X pins σ H1 { s1 with heap := h' } := I1.kept (t' := s1.toks) hk
    refine ⟨s1.heap.objs.size + 1, [s1.heap.objs.size + 1, s1.heap.objs.size], _, _, H1, rfl, I2, turn_enumT a (s1.heap.objs.size + 1) s1.heap.objs.size, ⟨⟨.none, he⟩, ⟨_, hit, rfl, rfl⟩, Nat.succ_ne_self _, Nat.ne_of_lt (Nat.lt_succ_of_lt hal), Nat.ne_of_lt hal⟩, fun b hb => ?_, q⟩
    have z : b = s1.heap.objs.size + 1 ∨ b = s1.heap.objs.size := by simpa using hb
    have hle : s1.heap.objs.size ≤ b := by
      rcases z with z | z
      · rw [z]
        exact Nat.le_succ _
      · rw [z]
        exact Nat.le_refl _
    exact I1.fpOk hle (I1.hok.fresh hle)
section
variable {X : Cx} {es : List Slot} {os os1 os2 os3 : Os} {N V G W : List Str} {k i vi gi j : Nat} {x : Str} {p pos : Pos} {e e2 e3 a : Expr} {φ : VP} {n : Ent} {α : Type}
theorem ix_enumT {elts : List Expr} {kk : Nat} {tpos : Pos} {xs : List α} {enc : α → PyData} (B : Bd X N W G k) (hj : G[gi]? = some "enumerate") (hm : X.mg "enumerate" = none) (he : EX X es os e φ os1) (hr : RdT φ (xs.map enc)) (hs : starEach [e] X.env = [(false, eval e X.env)] := by rfl) :
    IX X (.Tuple elts kk tpos) es os (.Call (.Name "enumerate" p) [e] [] pos) (enum xs) (fun x => dat (.tuple [.int x.1, enc x.2])) anyOs os1 := fun F σ H R ow sl q =>
  wi_of (pi_enumT (B.gl _ (List.mem_of_getElem? hj)).1 hm pa_u hs) (wa_of (pa_cons pe_u pa_nil hs) (he F σ H _ ow sl fun F1 H1 v e1 o1 c1 => by
    obtain ⟨a, vs, rfl, h1, h2⟩ := hr F1 v c1
    refine ⟨a, vs, rfl, .of (o1.ex _ _ h1), q F1 H1 _ e1 o1 fun F2 H2 os2 i s ow2 k2 => ?_⟩
    have g1 := s _ _ h1
    have g2 := dqall_mono s _ _ h2
    have hl := dqall_len g2
    rw [List.length_map] at hl
    have hT : SqT X.K H2 a vs := .of (ow2.ex _ _ g1)
    refine ⟨fun h => ⟨vs, hT, by rw [enum_len] at h; omega⟩, fun x hx => ?_⟩
    obtain ⟨hz1, hz2⟩ := zipIdx_get hx
    obtain ⟨u, hu, hd⟩ := dqall_map g2 hz2
    refine ⟨⟨vs, u, hT, hu⟩, fun w H3 y => ?_⟩
    obtain ⟨T, w2, rfl, hTn, rfl, hy⟩ := y
    have ew : vs[i]? = some w2 := hy vs hT
    rw [hu] at ew
    cases ew
    have fT := ow2.ex.free hTn
    refine ⟨_, same_upd fT, ow2.frozen hTn, cl_dat (.tup upd_same ?_)⟩
    rw [hz1]
    exact .cons (.int _) (.cons (dq_mono (same_upd fT) _ _ hd) .nil)))
/-! ### range(a, b, -1) -/
def rangeD (a b : Int) : List Int := (List.range (a - b).toNat).map fun (i : Nat) => a + (i : Int) * (-1)
def rngDO (a b : Int) : Option (List Int) := if -(2 ^ 62) ≤ a ∧ a < 2 ^ 62 ∧ -(2 ^ 62) ≤ b ∧ b < 2 ^ 62 then some (rangeD a b) else none
theorem ix_rngD {tg : Expr} {lo hi : Int} {xs : List Int} (B : Bd X N W G k) (hj : G[gi]? = some "range") (hm : X.mg "range" = none) (hx : rngDO lo hi = some xs) (ha : EX X es os e (dat (.int lo)) os1) (hb : EX X es os1 e2 (dat (.int hi)) os2) (hc : EX X es os2 e3 (dat (.int (-1))) os3)
    (hs : starEach [e, e2, e3] X.env = (false, eval e X.env) :: starEach [e2, e3] X.env := by rfl) (hs2 : starEach [e2, e3] X.env = (false, eval e2 X.env) :: starEach [e3] X.env := by rfl) (hs3 : starEach [e3] X.env = (false, eval e3 X.env) :: starEach [] X.env := by rfl) (hpl : (backTo pos (starEach [e2, e3] X.env)).any (·.1) = false := by rfl) :
    IX X tg es os (.Call (.Name "range" p) [e, e2, e3] [] pos) xs (fun x => dat (.int x)) anyOs os3 := fun F σ H R ow sl q => by
  unfold rngDO at hx
  split at hx
  · rename_i h
    cases hx
    refine wi_of (pi_range3 (B.gl _ (List.mem_of_getElem? hj)).1 hm pa_u hs hpl) (wa_of (pa_cons (hs := hs) pe_u (pa_cons (hs := hs2) pe_u (pa_cons (hs := hs3) pe_u pa_nil))) (ha F σ H _ ow sl fun F1 H1 v e1 o1 c1 => hb F1 σ H1 _ o1 (sl.mono e1) fun F2 H2 u e2 o2 c2 => hc F2 σ H2 _ o2 (sl.mono (e1.trans e2)) fun F3 H3 w e3 o3 c3 => ?_))
    refine ⟨lo, hi, -1, (lo - hi).toNat, by rw [clv_int c1, clv_int c2, clv_int c3], .neg h.1 h.2.1 h.2.2.1 h.2.2.2, q F3 H3 _ ((e1.trans e2).trans e3) o3 fun F4 H4 os4 i s ow4 _ => ?_⟩
    refine ⟨fun z => show (lo - hi).toNat ≤ i by unfold rangeD at z; simpa using z, fun x hx => ?_⟩
    unfold rangeD at hx
    rw [List.getElem?_map] at hx
    by_cases hi2 : i < (lo - hi).toNat
    · rw [List.getElem?_range hi2] at hx
      cases hx
      refine ⟨hi2, fun v H5 y => ?_⟩
      obtain ⟨rfl, rfl⟩ := y
      exact ⟨F4, Same.refl F4, ow4, cl_dat (.int _)⟩
    · rw [List.getElem?_eq_none (by rw [List.length_range]; omega)] at hx
      cases hx
  · cases hx
/-! ### extend, index -/
theorem ex_extend {apos cpos : Pos} {q : Addr} {enc : α → PyData} {xs xs0 ys zs : List α} (ha : catO xs ys = some zs) (ho : EX X es os a (own q) os) (h0 : os[j]? = some (q, ol (xs0.map enc))) (he : EN X es os e (ol (ys.map enc)) os1) (hj : os1[j]? = some (q, ol (xs.map enc)))
    (hbase : attributeBase a "extend" X.env (eval a X.env) = eval a X.env := by rfl) (hline : (apos.endLine == cpos.line) = true := by rfl) (hs : starEach [e] X.env = (false, eval e X.env) :: starEach [] X.env := by rfl)
    (hfew : ((backTo cpos (starEach [e] X.env)).all (fun x => !x.1) && (backToKw cpos (keywordEach [] X.env)).all (fun x => x.1.isSome) && decide ([e].length + ([] : List Keyword).length + (if ([] : List Keyword).isEmpty then 0 else 1) < 30)) = true := by rfl)
    (hplain : (backTo cpos (starEach [] X.env)).any (·.1) = false := by rfl) : EX X es os (.Call (.Attribute a "extend" apos) [e] [] cpos) (dat .none) (os1.set j (q, ol (zs.map enc))) := fun F σ H Q ow sl qq => by
  unfold catO at ha
  split at ha
  · rename_i hz
    cases ha
    refine we_of (pe_bm PySem.F.plainAttrs_list PySem.F.slot_list_extend PySem.F.type_list_extend mt_extend pe_u pa_u hbase hfew hline hs hplain) (ho F σ H _ ow sl fun F1 H1 v e1 o1 c1 => ?_)
    obtain rfl : v = .ref q := c1.now
    obtain ⟨_, _, _, ty⟩ := ty_own (K := X.K) o1 h0
    refine ⟨ty, wa_of (pa_cons pe_u pa_nil hs) (he F1 σ H1 _ o1 (sl.mono e1) fun F2 H2 r e2 o2 => ?_)⟩
    obtain ⟨vs, hp, hv, _⟩ := ty_own (K := X.K) o2.drop hj
    obtain ⟨_, us, hu, hus⟩ := o2.atL
    have l1 := dqall_len hv
    have l2 := dqall_len hus
    rw [List.length_map] at l1 l2
    have o3 := ow_set o2.drop hj (dqall_app hv hus)
    rw [← List.map_append] at o3
    exact ⟨q, r, vs, us, rfl, rfl, hp, hu, by omega, qq F2 _ .non (e1.trans e2) o3 (cl_dat .non)⟩
  · cases ha
/-- the first place at which an integer stands -/
def ixOf : List Int → Int → Option Nat
  | [], _ => none
  | x :: xs, y => if x = y then some 0 else (ixOf xs y).map (· + 1)
theorem ixOf_spec : ∀ {xs : List Int} {y : Int} {m : Nat}, ixOf xs y = some m → xs[m]? = some y ∧ ∀ l z, l < m → xs[l]? = some z → z ≠ y
  | [], _, _, h => by cases h
  | x :: xs, y, m, h => by
    unfold ixOf at h
    by_cases hx : x = y
    · rw [if_pos hx] at h
      cases h
      exact ⟨by rw [hx]; rfl, fun l z hl => absurd hl (Nat.not_lt_zero _)⟩
    · rw [if_neg hx] at h
      cases e : ixOf xs y with
      | none =>
        rw [e] at h
        cases h
      | some m' =>
        rw [e] at h
        cases h
        obtain ⟨h1, h2⟩ := ixOf_spec e
        refine ⟨by simpa using h1, fun l z hl hz => ?_⟩
        cases l with
        | zero =>
          simp at hz
          exact hz ▸ hx
        | succ l => exact h2 l z (Nat.lt_of_succ_lt_succ hl) (by simpa using hz)
theorem ex_index {apos cpos : Pos} {xs : List Int} {y : Int} {m : Nat} (hm : ixOf xs y = some m) (hr : ∀ o, o = os1 ∨ o = os2 → RdL X φ o (xs.map PyData.int)) (ho : EX X es os a φ os1) (he : EX X es os1 e (dat (.int y)) os2)
    (hbase : attributeBase a "index" X.env (eval a X.env) = eval a X.env := by rfl) (hline : (apos.endLine == cpos.line) = true := by rfl) (hs : starEach [e] X.env = (false, eval e X.env) :: starEach [] X.env := by rfl)
    (hfew : ((backTo cpos (starEach [e] X.env)).all (fun x => !x.1) && (backToKw cpos (keywordEach [] X.env)).all (fun x => x.1.isSome) && decide ([e].length + ([] : List Keyword).length + (if ([] : List Keyword).isEmpty then 0 else 1) < 30)) = true := by rfl)
    (hplain : (backTo cpos (starEach [] X.env)).any (·.1) = false := by rfl) : EX X es os (.Call (.Attribute a "index" apos) [e] [] cpos) (dat (.int (m : Int))) os2 := fun F σ H Q ow sl qq => by
  refine we_of (pe_bm PySem.F.plainAttrs_list PySem.F.slot_list_index PySem.F.type_list_index mt_index pe_u pa_u hbase hfew hline hs hplain) (ho F σ H _ ow sl fun F1 H1 v e1 o1 c1 => ?_)
  obtain ⟨b, us, rfl, h1, h2⟩ := hr os1 (.inl rfl) F1 H1 v o1 c1
  refine ⟨.inl ⟨rfl, us, h1⟩, wa_of (pa_cons pe_u pa_nil hs) (he F1 σ H1 _ o1 (sl.mono e1) fun F2 H2 u e2 o2 c2 => ?_)⟩
  obtain ⟨b', us', eb, g1, g2⟩ := hr os2 (.inr rfl) F2 H2 _ o2 (c1.mono e2)
  cases eb
  have ev := dqall_of_ints xs g2
  subst ev
  rw [clv_int c2]
  obtain ⟨s1, s2⟩ := ixOf_spec hm
  refine ⟨b, _, .int y, m, .int y, rfl, rfl, g1, rfl, flat_ints xs, by rw [List.getElem?_map, s1]; rfl, by simp [eqV], fun l z hl hz => ?_, qq F2 H2 _ (e1.trans e2) o2 (cl_dat (.int _))⟩
  rw [List.getElem?_map] at hz
  cases ez : xs[l]? with
  | none =>
    rw [ez] at hz
    cases hz
  | some z' =>
    rw [ez] at hz
    cases hz
    have := s2 l z' hl ez
    simp [eqV, this]
end
end Z
/-! Z, part Q: values that may be None. -/
namespace Z
open PySem PySem.Spec PyProof.Rows L2
/-- an encoding that is never None -/
def NoN {α : Type} (e : α → PyData) : Prop := ∀ a, noneB (e a) = false
theorem non_int : NoN PyData.int := fun _ => rfl
theorem non_bool : NoN PyData.bool := fun _ => rfl
theorem non_str : NoN PyData.str := fun _ => rfl
theorem non_list {α : Type} {e : α → PyData} : NoN (eL e) := fun _ => rfl
theorem non_tup {α : Type} {e : α → PyData} : NoN (eT e) := fun _ => rfl
theorem non_pair {α β : Type} {e : α → PyData} {f : β → PyData} : NoN (eP e f) := fun _ => rfl
theorem non_tri {α β γ : Type} {e : α → PyData} {f : β → PyData} {g : γ → PyData} : NoN (eP3 e f g) := fun _ => rfl
theorem none_opt {α : Type} {e : α → PyData} (h : NoN e) : ∀ x : Option α, noneB (eO e x) = x.isNone
  | none => rfl
  | some a => h a
theorem some_opt {α : Type} {e : α → PyData} (h : NoN e) (x : Option α) : (!noneB (eO e x)) = x.isSome := by
  rw [none_opt h]
  cases x <;> rfl
theorem eqv_noneL : ∀ d : PyData, PyData.eqv .none d = noneB d
  | .none => by simp only [PyData.eqv, noneB]
  | .bool _ => by simp only [PyData.eqv, noneB]
  | .int _ => by simp only [PyData.eqv, noneB]
  | .str _ => by simp only [PyData.eqv, noneB]
  | .list _ => by simp only [PyData.eqv, noneB]
  | .tuple _ => by simp only [PyData.eqv, noneB]
  | .dict _ => by simp only [PyData.eqv, noneB]
theorem eqv_noneR : ∀ d : PyData, PyData.eqv d .none = noneB d
  | .none => by simp only [PyData.eqv, noneB]
  | .bool _ => by simp only [PyData.eqv, noneB]
  | .int _ => by simp only [PyData.eqv, noneB]
  | .str _ => by simp only [PyData.eqv, noneB]
  | .list _ => by simp only [PyData.eqv, noneB]
  | .tuple _ => by simp only [PyData.eqv, noneB]
  | .dict _ => by simp only [PyData.eqv, noneB]
theorem eqv_opt {α : Type} [DecidableEq α] {e : α → PyData} (h : EqvOk e) (k : NoN e) : EqvOk (eO e) := fun a b => by
  cases a with
  | none =>
    rw [show eO e none = PyData.none from rfl, eqv_noneL, none_opt k]
    cases b <;> simp
  | some a =>
    cases b with
    | none =>
      rw [show eO e none = PyData.none from rfl, eqv_noneR, none_opt k]
      simp
    | some b =>
      show PyData.eqv (e a) (e b) = _
      rw [h a b]
      simp
theorem sh_opt {α : Type} {e : α → PyData} {n : Nat} (h : ShOk e n) : ShOk (eO e) n := by
  refine ⟨fun a => ?_, fun a => ?_⟩
  · cases a with
    | none =>
      show PyData.canLay0 .none = true
      simp only [PyData.canLay0]
    | some a => exact h.lay a
  · cases a with
    | none =>
      show PyData.depth .none ≤ n
      simp only [PyData.depth]
      exact Nat.zero_le _
    | some a => exact h.dep a
/-- a value that is there, told as one that may be there -/
theorem to_some {α : Type} (e : α → PyData) (a : α) : e a = eO e (some a) := rfl
theorem list_some {α : Type} (e : α → PyData) (xs : List α) : xs.map e = (xs.map some).map (eO e) := by
  rw [List.map_map]
  rfl
end Z
/-! Z, part R: dicts (keys: ints, texts, flat tuples of them), owned or data; what is given away is locked. -/
namespace Z
open PySem PySem.Spec PyProof.Rows L2

/-! ### locking -/
inductive Lk (Q : Hp → Prop) : Hp → Prop
  | now {H : Hp} : Q H → Lk Q H
  | lock {H : Hp} (d : Addr) (u : HO) : H d = some u → Mut (some u) → (∀ od, Lk Q (upd H d (.frz od u))) → Lk Q H
theorem Lk.bind {Q R : Hp → Prop} {H : Hp} (h : Lk Q H) (k : ∀ H, Q H → Lk R H) : Lk R H := by
  induction h with
  | now q => exact k _ q
  | lock d u a b _ ih => exact .lock d u a b ih
theorem Lk.inv {X : Cx} {pins : List (Addr × Obj)} {σ : L2.St} {s : Shared} {Q : Hp → Prop} {H : Hp} (h : Lk Q H) : Inv X pins σ H s → ∃ H', Inv X pins σ H' s ∧ Q H' := by
  induction h with
  | now q => exact fun I => ⟨_, I, q⟩
  | lock d u a b _ ih =>
    intro I
    obtain ⟨od, I1⟩ := I.lock a b
    exact ih od I1
theorem we_lk {X : Cx} {e : Expr} {σ : L2.St} {H : Hp} {Q : VK} (h : WE X e σ H fun v H' => Lk (Q v) H') : WE X e σ H Q := fun pins s I =>
  wpAny_mono (h pins s I) (fun u s1 ⟨v, H1, I1, r, k⟩ => let ⟨H2, I2, q⟩ := k.inv I1; ⟨v, H2, I2, r, q⟩) fun _ _ z => z
theorem wps_lk {X : Cx} {sts : List Stmt} {D : Ends} {σ : L2.St} {H : Hp} (h : Lk (WPs X sts D σ) H) : WPs X sts D σ H := fun pins s I =>
  let ⟨_, I2, q⟩ := h.inv I; q pins s I2
/-- what is owned as e may be given away, as the data d -/
def Frb (e : Ent) (d : PyData) : Prop := ∀ p F os H (Q : Hp → Prop), Ow F ((p, e) :: os) H → (∀ F' H', Same F F' → Ow F' os H' → Dq F' (.ref p) d → Q H') → Lk Q H
theorem frb_ol {ds : List PyData} : Frb (ol ds) (.list ds) := fun p F os H Q ow q => by
  obtain ⟨o, ho, ⟨vs, rfl, hv⟩, s, o2⟩ := ow.freezeU uni_ol
  exact .now (q _ H s o2 (.lst upd_same (dqall_mono s _ _ hv)))

/-! ### typed tables -/
section
variable {κ β : Type} [DecidableEq κ]
def dGet (d : List (κ × β)) (k : κ) : Option β := (d.find? fun kv => decide (kv.1 = k)).map (·.2)
def dPut (d : List (κ × β)) (k : κ) (v : β) : List (κ × β) :=
  if (d.any fun kv => decide (kv.1 = k)) = true then d.map (fun kv => if kv.1 = k then (kv.1, v) else kv) else d ++ [(k, v)]
def dDel (d : List (κ × β)) (k : κ) : List (κ × β) := d.filter fun kv => decide (kv.1 ≠ k)
/-- a store in bounds -/
def dPutO (d : List (κ × β)) (k : κ) (v : β) : Option (List (κ × β)) := if d.length < sizeLine then some (dPut d k v) else none
/-- d.pop(k) -/
def dPopO (d : List (κ × β)) (k : κ) : Option (β × List (κ × β)) := (dGet d k).map fun v => (v, dDel d k)
end
theorem dGet_map {κ β γ : Type} [DecidableEq κ] (f : β → γ) (k : κ) : ∀ d : List (κ × β), dGet (d.map fun p => (p.1, f p.2)) k = (dGet d k).map f
  | [] => rfl
  | (a, b) :: d => by
    have ih := dGet_map f k d
    unfold dGet at ih ⊢
    rw [List.map_cons, List.find?_cons, List.find?_cons]
    by_cases h : a = k
    · simp [h]
    · simp only [h, decide_false]
      exact ih
theorem dPut_map {κ β γ : Type} [DecidableEq κ] (f : β → γ) (k : κ) (v : β) (d : List (κ × β)) : dPut (d.map fun p => (p.1, f p.2)) k (f v) = (dPut d k v).map fun p => (p.1, f p.2) := by
  unfold dPut
  rw [List.any_map]
  have e : ((fun kv : κ × γ => decide (kv.1 = k)) ∘ fun p : κ × β => (p.1, f p.2)) = fun kv => decide (kv.1 = k) := rfl
  rw [e]
  split
  · rw [List.map_map, List.map_map]
    congr 1
    funext p
    show (if p.1 = k then (p.1, f v) else (p.1, f p.2)) = _
    by_cases h : p.1 = k
    · simp [h]
    · simp [h]
  · simp
theorem dDel_map {κ β γ : Type} [DecidableEq κ] (f : β → γ) (k : κ) (d : List (κ × β)) : dDel (d.map fun p => (p.1, f p.2)) k = (dDel d k).map fun p => (p.1, f p.2) := by
  unfold dDel
  rw [List.filter_map]
  rfl
/-- the keys renamed one to one -/
theorem dGet_key {κ κ' β : Type} [DecidableEq κ] [DecidableEq κ'] {f : κ → κ'} (hf : ∀ a b, f a = f b → a = b) (k : κ) : ∀ d : List (κ × β), dGet (d.map fun p => (f p.1, p.2)) (f k) = dGet d k
  | [] => rfl
  | (a, b) :: d => by
    have ih := dGet_key hf k d
    unfold dGet at ih ⊢
    rw [List.map_cons, List.find?_cons, List.find?_cons]
    by_cases h : a = k
    · simp [h]
    · have h2 : ¬ f a = f k := fun z => h (hf _ _ z)
      simp only [h, h2, decide_false]
      exact ih
theorem dPut_key {κ κ' β : Type} [DecidableEq κ] [DecidableEq κ'] {f : κ → κ'} (hf : ∀ a b, f a = f b → a = b) (k : κ) (v : β) (d : List (κ × β)) : dPut (d.map fun p => (f p.1, p.2)) (f k) v = (dPut d k v).map fun p => (f p.1, p.2) := by
  unfold dPut
  rw [List.any_map]
  have e : ((fun kv : κ' × β => decide (kv.1 = f k)) ∘ fun p : κ × β => (f p.1, p.2)) = fun kv => decide (kv.1 = k) := by
    funext p
    show decide (f p.1 = f k) = decide (p.1 = k)
    exact decide_eq_decide.mpr ⟨hf _ _, fun z => by rw [z]⟩
  rw [e]
  split
  · rw [List.map_map, List.map_map]
    congr 1
    funext p
    show (if f p.1 = f k then (f p.1, v) else (f p.1, p.2)) = _
    by_cases h : p.1 = k
    · simp [h]
    · have h2 : ¬ f p.1 = f k := fun z => h (hf _ _ z)
      simp [h, h2]
  · simp
theorem dDel_key {κ κ' β : Type} [DecidableEq κ] [DecidableEq κ'] {f : κ → κ'} (hf : ∀ a b, f a = f b → a = b) (k : κ) (d : List (κ × β)) : dDel (d.map fun p => (f p.1, p.2)) (f k) = (dDel d k).map fun p => (f p.1, p.2) := by
  unfold dDel
  rw [List.filter_map]
  congr 1
  refine List.filter_congr fun p _ => ?_
  show decide (f p.1 ≠ f k) = decide (p.1 ≠ k)
  exact decide_eq_decide.mpr ⟨fun h z => h (by rw [z]), fun h z => h (hf _ _ z)⟩
theorem valV_dGet {κ : Type} [DecidableEq κ] (d : List (κ × L2.V)) (k : κ) : valV d k = dGet d k := rfl
theorem putK_dPut {κ : Type} [DecidableEq κ] (d : List (κ × L2.V)) (k : κ) (v : L2.V) : putK d k v = dPut d k v := rfl
theorem dropK_dDel {κ : Type} [DecidableEq κ] (d : List (κ × L2.V)) (k : κ) : dropK d k = dDel d k := rfl

/-! ### kinds of keys -/
inductive Kd (κ : Type) where
  | fl (f : κ → Key)
  | tu (f : κ → List Key)
section
variable {κ : Type}
def Kd.ek : Kd κ → κ → PyData
  | .fl f, k => kPD (f k)
  | .tu f, k => .tuple ((f k).map kPD)
def Kd.Inj : Kd κ → Prop
  | .fl f => ∀ a b, f a = f b → a = b
  | .tu f => ∀ a b, f a = f b → a = b
def Kd.ho : Kd κ → List (κ × L2.V) → HO
  | .fl f, kvs => .dK (kvs.map fun p => (f p.1, p.2))
  | .tu f, kvs => .dT (kvs.map fun p => (f p.1, p.2))
def Kd.pd (kd : Kd κ) (ps : List (κ × PyData)) : PyData := match kd with
  | .fl f => .dict (ps.map fun p => (kPD (f p.1), p.2))
  | .tu f => .dict ((.none, .none) :: ps.map fun p => (PyData.tuple ((f p.1).map kPD), p.2))
theorem Kd.ntup (kd : Kd κ) (kvs : List (κ × L2.V)) : ∀ xs, kd.ho kvs ≠ .tup xs := by cases kd <;> intro _ z <;> cases z
theorem Kd.mut (kd : Kd κ) (kvs : List (κ × L2.V)) : Mut (some (kd.ho kvs)) := by cases kd <;> trivial
end
abbrev kI : Kd Int := .fl Sum.inl
abbrev kS : Kd Str := .fl Sum.inr
abbrev kTI : Kd (List Int) := .tu fun l => l.map Sum.inl
abbrev kII : Kd (Int × Int) := .tu fun p => [Sum.inl p.1, Sum.inl p.2]
theorem inj_kI : kI.Inj := fun a b h => Sum.inl.inj h
theorem inj_kS : kS.Inj := fun a b h => Sum.inr.inj h
theorem inj_kTI : kTI.Inj := fun a b h => by
  have : ∀ l m : List Int, l.map (Sum.inl : Int → Key) = m.map Sum.inl → l = m := fun l => by
    induction l with
    | nil => intro m h; cases m with
      | nil => rfl
      | cons => cases h
    | cons x l ih => intro m h; cases m with
      | nil => cases h
      | cons y m =>
        rw [List.map_cons, List.map_cons] at h
        injection h with h1 h2
        rw [Sum.inl.inj h1, ih m h2]
  exact this a b h
theorem inj_kII : kII.Inj := fun a b h => by
  injection h with h1 h2
  injection h2 with h2 _
  exact Prod.ext (Sum.inl.inj h1) (Sum.inl.inj h2)
theorem kPD_inj : ∀ {a b : Key}, kPD a = kPD b → a = b
  | .inl _, .inl _, h => by injection h with h; rw [h]
  | .inr _, .inr _, h => by injection h with h; rw [h]
  | .inl _, .inr _, h => nomatch h
  | .inr _, .inl _, h => nomatch h
theorem kPDs_inj : ∀ {a b : List Key}, a.map kPD = b.map kPD → a = b
  | [], [], _ => rfl
  | [], _ :: _, h => nomatch h
  | _ :: _, [], h => nomatch h
  | x :: a, y :: b, h => by
    rw [List.map_cons, List.map_cons] at h
    injection h with h1 h2
    rw [kPD_inj h1, kPDs_inj h2]

/-! ### what a table holds -/
section
variable {κ : Type}
inductive DV (F : Hp) : List (κ × L2.V) → List (κ × PyData) → Prop
  | nil : DV F [] []
  | cons {k : κ} {v : L2.V} {d : PyData} {kvs : List (κ × L2.V)} {ds : List (κ × PyData)} : Dq F v d → DV F kvs ds → DV F ((k, v) :: kvs) ((k, d) :: ds)
theorem dv_mono {F F' : Hp} (e : Same F F') : ∀ {kvs : List (κ × L2.V)} {ds : List (κ × PyData)}, DV F kvs ds → DV F' kvs ds
  | _, _, .nil => .nil
  | _, _, .cons h1 h2 => .cons (dq_mono e _ _ h1) (dv_mono e h2)
theorem dv_len {F : Hp} : ∀ {kvs : List (κ × L2.V)} {ds : List (κ × PyData)}, DV F kvs ds → kvs.length = ds.length
  | _, _, .nil => rfl
  | _, _, .cons h1 h2 => by rw [List.length_cons, List.length_cons, dv_len h2]
theorem dv_app {F : Hp} : ∀ {kvs us : List (κ × L2.V)} {ds es : List (κ × PyData)}, DV F kvs ds → DV F us es → DV F (kvs ++ us) (ds ++ es)
  | _, _, _, _, .nil, h => h
  | _, _, _, _, .cons h1 h2, h => .cons h1 (dv_app h2 h)
theorem dv_at {F : Hp} : ∀ {kvs : List (κ × L2.V)} {ds : List (κ × PyData)} {i : Nat} {k : κ} {d : PyData}, DV F kvs ds → ds[i]? = some (k, d) → ∃ v, kvs[i]? = some (k, v) ∧ Dq F v d
  | _, _, i, k, d, .nil, h => by simp at h
  | _, _, 0, k, d, .cons h1 h2, h => by
    simp at h
    obtain ⟨rfl, rfl⟩ := h
    exact ⟨_, rfl, h1⟩
  | _, _, i + 1, k, d, .cons h1 h2, h => dv_at (i := i) h2 (by simpa using h)
theorem dv_keys {F : Hp} : ∀ {kvs : List (κ × L2.V)} {ds : List (κ × PyData)}, DV F kvs ds → kvs.map (·.1) = ds.map (·.1)
  | _, _, .nil => rfl
  | _, _, .cons h1 h2 => by rw [List.map_cons, List.map_cons, dv_keys h2]
theorem dv_vals {F : Hp} : ∀ {kvs : List (κ × L2.V)} {ds : List (κ × PyData)}, DV F kvs ds → DqAll F (kvs.map (·.2)) (ds.map (·.2))
  | _, _, .nil => .nil
  | _, _, .cons h1 h2 => .cons h1 (dv_vals h2)
variable [DecidableEq κ]
theorem dv_get {F : Hp} (k : κ) : ∀ {kvs : List (κ × L2.V)} {ds : List (κ × PyData)}, DV F kvs ds → (∀ d, dGet ds k = some d → ∃ v, dGet kvs k = some v ∧ Dq F v d) ∧ (dGet ds k = none → dGet kvs k = none)
  | _, _, .nil => ⟨fun d h => (nomatch h), fun _ => rfl⟩
  | _, _, .cons (k := j) h1 h2 => by
    have ih := dv_get k h2
    unfold dGet at ih ⊢
    rw [List.find?_cons, List.find?_cons]
    by_cases e : j = k
    · simp only [e, decide_true]
      exact ⟨fun d h => by cases h; exact ⟨_, rfl, h1⟩, fun h => nomatch h⟩
    · simp only [e, decide_false]
      exact ih
theorem dv_any {F : Hp} (k : κ) : ∀ {kvs : List (κ × L2.V)} {ds : List (κ × PyData)}, DV F kvs ds → (kvs.any fun kv => decide (kv.1 = k)) = ds.any fun kv => decide (kv.1 = k)
  | _, _, .nil => rfl
  | _, _, .cons (k := j) h1 h2 => by
    rw [List.any_cons, List.any_cons, dv_any k h2]
theorem dv_rep {F : Hp} (k : κ) {v : L2.V} {d : PyData} (hd : Dq F v d) : ∀ {kvs : List (κ × L2.V)} {ds : List (κ × PyData)}, DV F kvs ds → DV F (kvs.map fun kv => if kv.1 = k then (kv.1, v) else kv) (ds.map fun kv => if kv.1 = k then (kv.1, d) else kv)
  | _, _, .nil => .nil
  | _, _, .cons (k := j) h1 h2 => by
    rw [List.map_cons, List.map_cons]
    by_cases e : j = k
    · simp only [e, if_true]
      exact .cons hd (dv_rep k hd h2)
    · simp only [e, if_false]
      exact .cons h1 (dv_rep k hd h2)
theorem dv_put {F : Hp} (k : κ) {v : L2.V} {d : PyData} (hd : Dq F v d) {kvs : List (κ × L2.V)} {ds : List (κ × PyData)} (h : DV F kvs ds) : DV F (dPut kvs k v) (dPut ds k d) := by
  unfold dPut
  rw [dv_any k h]
  split
  · exact dv_rep k hd h
  · exact dv_app h (.cons hd .nil)
theorem dv_del {F : Hp} (k : κ) : ∀ {kvs : List (κ × L2.V)} {ds : List (κ × PyData)}, DV F kvs ds → DV F (dDel kvs k) (dDel ds k)
  | _, _, .nil => .nil
  | _, _, .cons (k := j) h1 h2 => by
    have ih := dv_del k h2
    unfold dDel at ih ⊢
    rw [List.filter_cons, List.filter_cons]
    by_cases e : j = k
    · simp only [e, ne_eq, not_true_eq_false, decide_false, Bool.false_eq_true, if_false]
      exact ih
    · simp only [ne_eq, e, not_false_eq_true, decide_true, if_true]
      exact .cons h1 ih
end

/-! ### an owned dict; a dict as data -/
section
variable {κ : Type}
def od (kd : Kd κ) (d : List (κ × PyData)) : Ent := fun p F h => ∃ kvs, h = one p (kd.ho kvs) ∧ DV F kvs d
theorem uni_od {kd : Kd κ} {d : List (κ × PyData)} : Uni (od kd d) (fun F o => ∃ kvs, o = kd.ho kvs ∧ DV F kvs d) := fun p F h ⟨kvs, e, x⟩ => ⟨_, e, kvs, rfl, x⟩
theorem od_one {kd : Kd κ} {d : List (κ × PyData)} {p : Addr} {F : Hp} {kvs : List (κ × L2.V)} (h : DV F kvs d) : ∀ F', Same F F' → od kd d p F' (one p (kd.ho kvs)) := fun _ g => ⟨kvs, rfl, dv_mono g h⟩
theorem dq_pd {F : Hp} {kd : Kd κ} {a : Addr} {ob : Obj} {kvs : List (κ × L2.V)} {d : List (κ × PyData)} (h : F a = some (.frz ob (kd.ho kvs))) (k : DV F kvs d) : Dq F (.ref a) (kd.pd d) := by
  have kk := dv_keys k
  have kv := dv_vals k
  cases kd with
  | fl f =>
    refine .dctK h ?_ ?_
    · rw [List.map_map, List.map_map]
      have : (kvs.map (·.1)).map (fun x => kPD (f x)) = (d.map (·.1)).map (fun x => kPD (f x)) := by rw [kk]
      rw [List.map_map, List.map_map] at this
      exact this
    · rw [List.map_map, List.map_map]
      exact kv
  | tu f =>
    refine .dctT h ?_ ?_
    · rw [List.map_map, List.map_map]
      have : (kvs.map (·.1)).map (fun x => PyData.tuple ((f x).map kPD)) = (d.map (·.1)).map (fun x => PyData.tuple ((f x).map kPD)) := by rw [kk]
      rw [List.map_map, List.map_map] at this
      exact this
    · rw [List.map_map, List.map_map]
      exact kv
theorem dv_of {F : Hp} {κ' : Type} {f : κ → κ'} {g : κ' → PyData} (hg : ∀ a b, g a = g b → a = b) : ∀ {kvs : List (κ' × L2.V)} {d : List (κ × PyData)}, kvs.map (fun p => g p.1) = d.map (fun p => g (f p.1)) → DqAll F (kvs.map (·.2)) (d.map (·.2)) → ∃ kvs' : List (κ × L2.V), kvs = kvs'.map (fun p => (f p.1, p.2)) ∧ DV F kvs' d
  | [], [], _, _ => ⟨[], rfl, .nil⟩
  | [], _ :: _, h, _ => nomatch h
  | _ :: _, [], h, _ => nomatch h
  | (a, v) :: kvs, (k, x) :: d, h, hv => by
    rw [List.map_cons, List.map_cons] at h hv
    injection h with h1 h2
    cases hv with
    | cons v1 v2 =>
      obtain ⟨r, rfl, hr⟩ := dv_of hg h2 v2
      exact ⟨(k, v) :: r, by rw [List.map_cons, ← hg _ _ h1], .cons v1 hr⟩
theorem pd_dq {F : Hp} {kd : Kd κ} {v : L2.V} {d : List (κ × PyData)} (h : Dq F v (kd.pd d)) : ∃ a ob kvs, v = .ref a ∧ F a = some (.frz ob (kd.ho kvs)) ∧ DV F kvs d := by
  cases kd with
  | fl f =>
    generalize e : (Kd.fl f).pd d = x at h
    cases h with
    | dctK h1 h2 h3 =>
      injection e with e
      subst e
      rw [List.map_map] at h2 h3
      obtain ⟨r, rfl, hr⟩ := dv_of (f := f) (g := kPD) (fun _ _ => kPD_inj) h2 h3
      exact ⟨_, _, r, rfl, h1, hr⟩
    | dctT h1 h2 h3 =>
      injection e with e
      cases d with
      | nil => cases e
      | cons p d =>
        rw [List.map_cons] at e
        injection e with e _
        injection e with e _
        cases hk : f p.1 <;> rw [hk] at e <;> cases e
    | _ => cases e
  | tu f =>
    generalize e : (Kd.tu f).pd d = x at h
    cases h with
    | dctT h1 h2 h3 =>
      injection e with e
      injection e with _ e
      subst e
      rw [List.map_map] at h2 h3
      obtain ⟨r, rfl, hr⟩ := dv_of (f := f) (g := fun l : List Key => PyData.tuple (l.map kPD)) (fun a b z => kPDs_inj (by injection z)) h2 h3
      exact ⟨_, _, r, rfl, h1, hr⟩
    | @dctK a ob kvs ps h1 h2 h3 =>
      injection e with e
      subst e
      cases kvs with
      | nil => cases h2
      | cons p kvs =>
        rw [List.map_cons, List.map_cons] at h2
        injection h2 with e _
        cases hk : p.1 <;> rw [hk] at e <;> cases e
    | _ => cases e
theorem frb_od {kd : Kd κ} {d : List (κ × PyData)} : Frb (od kd d) (kd.pd d) := fun p F os H Q ow q => by
  obtain ⟨fp, o, ho, _, kvs, rfl, hv⟩ := ow.atU uni_od
  refine .lock p _ ho (kd.mut kvs) fun ob => .now ?_
  have o1 : Ow F ((p, fun q G h => h = one q (.frz ob (kd.ho kvs)) ∧ DV G kvs d) :: os) (upd H p (.frz ob (kd.ho kvs))) := ow.putU uni_od fun G g => ⟨rfl, dv_mono g hv⟩
  obtain ⟨o', ho', ⟨rfl, hv'⟩, s, o2⟩ := o1.freezeU (r := fun G o => o = .frz ob (kd.ho kvs) ∧ DV G kvs d) fun q G h ⟨e, x⟩ => ⟨_, e, rfl, x⟩
  exact q _ _ s o2 (dq_pd upd_same (dv_mono s hv'))
end
end Z
/-! Z, part S: dicts read and written. -/
namespace Z
open PySem PySem.Spec PyProof.Rows L2

abbrev eM {κ β : Type} (e : β → PyData) (w : List (κ × β)) : List (κ × PyData) := w.map fun p => (p.1, e p.2)
abbrev eD {κ β : Type} (kd : Kd κ) (e : β → PyData) : List (κ × β) → PyData := fun w => kd.pd (eM e w)
section
variable {κ β : Type} {kd : Kd κ} {enc : β → PyData}
def KeyV (kd : Kd κ) (k : κ) (F : Hp) (y : L2.V) : Prop := match kd with
  | .fl f => y = kV (f k)
  | .tu f => ∃ b, y = .ref b ∧ F b = some (.tup ((f k).map kV))
theorem dq_key {F : Hp} : ∀ {k : Key} {v : L2.V}, Dq F v (kPD k) → v = kV k
  | .inl _, _, h => by cases h; rfl
  | .inr _, _, h => by cases h; rfl
theorem dqall_keys {F : Hp} : ∀ {ks : List Key} {vs : List L2.V}, DqAll F vs (ks.map kPD) → vs = ks.map kV
  | [], _, h => by cases h; rfl
  | k :: ks, _, h => by
    cases h with
    | cons h1 h2 => rw [dq_key h1, dqall_keys h2, List.map_cons]
theorem key_val {k : κ} {F : Hp} {y : L2.V} (h : Cl (dat (kd.ek k)) F y) : KeyV kd k F y := by
  have q := h.now
  cases kd with
  | fl f => exact dq_key q
  | tu f =>
    have q : Dq F y (.tuple ((f k).map kPD)) := q
    cases q with
    | tup a b => exact ⟨_, rfl, by rw [← dqall_keys b]; exact a⟩
variable [DecidableEq κ]
theorem dget_of (hi : kd.Inj) {F H : Hp} (s : Same F H) {a : Addr} {kvs : List (κ × L2.V)} {k : κ} {y : L2.V} (e : Rd H a (kd.ho kvs)) (hk : KeyV kd k F y) : DGet H a y (dGet kvs k) := by
  cases kd with
  | fl f => exact .inl ⟨_, f k, e, hk, (dGet_key hi k kvs).symm⟩
  | tu f =>
    obtain ⟨b, rfl, hb⟩ := hk
    exact .inr ⟨_, f k, b, e, rfl, s _ _ hb, (dGet_key hi k kvs).symm⟩
theorem dput_of (hi : kd.Inj) {F H : Hp} (s : Same F H) {a : Addr} {kvs : List (κ × L2.V)} {k : κ} {y v : L2.V} (e : H a = some (kd.ho kvs)) (hk : KeyV kd k F y) (hl : kvs.length < sizeLine) : DPut H a y v (upd H a (kd.ho (dPut kvs k v))) := by
  cases kd with
  | fl f => exact .inl ⟨_, f k, e, hk, by rw [List.length_map]; exact hl, by rw [putK_dPut, dPut_key hi]; rfl⟩
  | tu f =>
    obtain ⟨b, rfl, hb⟩ := hk
    exact .inr ⟨_, f k, b, e, rfl, s _ _ hb, by rw [List.length_map]; exact hl, by rw [putK_dPut, dPut_key hi]; rfl⟩
theorem isD_of {H : Hp} {a : Addr} {kvs : List (κ × L2.V)} (e : Rd H a (kd.ho kvs)) : IsD H a := by
  cases kd with
  | fl f => exact .inl ⟨_, e⟩
  | tu f => exact .inr ⟨_, e⟩
end

theorem Bd.u1 {X : Cx} {N V G : List Str} {n : Nat} (B : Bd X N V G n) : X.A.units + 1 < cLine := by
  have := B.room.units
  omega

/-! ### what may be read as a table; what may be written -/
section
variable {κ β : Type}
def RdD (kd : Kd κ) (φ : VP) (os : Os) (d : List (κ × PyData)) : Prop := ∀ F H v, Ow F os H → Cl φ F v → ∃ a kvs, v = .ref a ∧ Rd H a (kd.ho kvs) ∧ DV F kvs d
theorem rdd_dat {kd : Kd κ} {os : Os} {d : List (κ × PyData)} : RdD kd (dat (kd.pd d)) os d := fun F H v ow c => by
  obtain ⟨a, ob, kvs, rfl, h1, h2⟩ := pd_dq c.now
  exact ⟨a, kvs, rfl, .inr ⟨ob, ow.ex _ _ h1⟩, h2⟩
theorem rdd_own {kd : Kd κ} {os : Os} {d : List (κ × PyData)} {p : Addr} (k : Nat) (h : os[k]? = some (p, od kd d)) : RdD kd (own p) os d := fun F H v ow c => by
  obtain ⟨_, o, ho, _, kvs, rfl, hv⟩ := (ow.perm (perm_at h)).atU uni_od
  exact ⟨p, kvs, c.now, .inl ho, hv⟩
/-- at q stands an entry of one thing, of the content d; another content may take its place -/
def WrT {γ : Type} (os : Os) (q : Addr) (f : γ → Ent) (d : γ) (os' : γ → Os) : Prop := ∀ F H (r : Hp → HO → Prop), Uni (f d) r → Ow F os H → F q = none ∧ ∃ o, H q = some o ∧ f d q F (one q o) ∧ r F o ∧
  ∀ o' d', (∀ xs, o' ≠ .tup xs) → (∀ F', Same F F' → f d' q F' (one q o')) → Ow F (os' d') (upd H q o')
theorem wr_flat {γ : Type} {os : Os} {q : Addr} {f : γ → Ent} {d : γ} (j : Nat) (h : os[j]? = some (q, f d)) : WrT os q f d (fun d' => os.set j (q, f d')) := fun F H r u ow => by
  have o1 := ow.perm (perm_at h)
  obtain ⟨a, o, b, c, d⟩ := o1.atU u
  exact ⟨a, o, b, c, d, fun o' e' nt he => (o1.putU u he nt).perm (perm_set h)⟩
abbrev odT (kd : Kd κ) (e : β → PyData) : List (κ × β) → Ent := fun w => od kd (eM e w)
abbrev olT (e : β → PyData) : List β → Ent := fun w => ol (w.map e)
theorem rdd_wr {kd : Kd κ} {enc : β → PyData} {os : Os} {d : List (κ × β)} {q : Addr} {os' : List (κ × β) → Os} (h : WrT os q (odT kd enc) d os') : RdD kd (own q) os (eM enc d) := fun F H v ow c => by
  obtain ⟨_, o, ho, _, ⟨kvs, rfl, hv⟩, _⟩ := h F H _ uni_od ow
  exact ⟨q, kvs, c.now, .inl ho, hv⟩
theorem rdl_wr {X : Cx} {enc : β → PyData} {os : Os} {d : List β} {q : Addr} {os' : List β → Os} (h : WrT os q (olT enc) d os') : RdL X (own q) os (d.map enc) := fun F H v ow c => by
  obtain ⟨_, o, ho, _, ⟨vs, rfl, hv⟩, _⟩ := h F H _ uni_ol ow
  exact ⟨q, vs, c.now, .of ho, hv⟩
end

section
variable {X : Cx} {es es' : List Slot} {os os1 os2 os3 : Os} {F0 : Hp} {rest : List Stmt} {D : Ends} {N V G W : List Str} {n i vi gi : Nat} {p pos apos cpos : Pos} {e a b c : Expr} {φ : VP} {κ β : Type} [DecidableEq κ] {kd : Kd κ} {enc : β → PyData} {w : List (κ × β)} {k : κ} {x : β}
theorem EN.exF {m : Ent} {d : PyData} (h : EN X es os e m os1) (f : Frb m d) : EX X es os e (dat d) os1 := fun F σ H Q ow sl q =>
  we_lk (h F σ H _ ow sl fun F' H' p e o => f p F' os1 H' _ o fun F2 H2 s o2 dq => q F2 H2 _ (e.trans s) o2 (cl_dat dq))
theorem sx_frzF {j : Nat} {q : Addr} {m : Ent} {d : PyData} (f : Frb m d) (hj : os[j]? = some (q, m)) (hi : es[i]? = some (sl (own q))) (h : SX X (es.set i (sl (dat d))) (os.eraseIdx j) F0 rest D) : SX X es os F0 rest D := fun F σ H s ow sl =>
  wps_lk (f q F _ H _ (ow.perm (perm_at hj)) fun F2 H2 s2 o2 dq => by
    obtain ⟨v, ev, cv⟩ := sl.val hi
    obtain rfl : v = .ref q := cv.now
    have sl2 := (sl.mono s2).put (i := i) (v := .ref q) (φ := dat d) (cl_dat dq)
    have e2 : σ.set i (some (.ref q)) = σ := by
      refine List.ext_getElem? fun m => ?_
      by_cases hm : i = m
      · subst hm
        rw [List.getElem?_set_self (List.getElem?_eq_some_iff.mp ev).1, ev]
      · rw [List.getElem?_set_ne hm]
    rw [e2] at sl2
    exact h F2 σ H2 (s.trans s2) o2 sl2)

/-! ### reading -/
theorem ex_dget (hi : kd.Inj) (hk : dGet w k = some x) (B : Bd X N W G n) (hr : RdD kd φ os2 (eM enc w)) (ha : EX X es os a φ os1) (hb : EX X es os1 b (dat (kd.ek k)) os2) (hs : NoSl b := by intro _ _; rfl) : EX X es os (.Subscript a b pos) (dat (enc x)) os2 := fun F σ H Q ow sl q =>
  we_of (pe_dget B.u1 pe_u pe_u hs) (ha F σ H _ ow sl fun F1 H1 v e1 o1 c1 => hb F1 σ H1 _ o1 (sl.mono e1) fun F2 H2 y e2 o2 c2 => by
    obtain ⟨p, kvs, rfl, rd, dv⟩ := hr F2 H2 v o2 (c1.mono e2)
    obtain ⟨u, hu, hd⟩ := (dv_get k dv).1 (enc x) (by rw [dGet_map, hk]; rfl)
    exact ⟨p, u, rfl, hu ▸ dget_of hi o2.ex rd (key_val c2), q F2 H2 u (e1.trans e2) o2 (cl_dat hd)⟩)
theorem dget_some (hi : kd.Inj) {F H : Hp} {p : Addr} {kvs : List (κ × L2.V)} (dv : DV F kvs (eM enc w)) : (dGet kvs k).isSome = (dGet w k).isSome := by
  cases h : dGet w k with
  | none =>
    rw [(dv_get k dv).2 (by rw [dGet_map, h]; rfl)]
    rfl
  | some x =>
    obtain ⟨u, hu, _⟩ := (dv_get k dv).1 (enc x) (by rw [dGet_map, h]; rfl)
    rw [hu]
    rfl
theorem ex_din (hi : kd.Inj) (B : Bd X N W G n) (hr : RdD kd φ os2 (eM enc w)) (ha : EX X es os a (dat (kd.ek k)) os1) (hb : EX X es os1 b φ os2) (hm : behindInMarks .In b = false := by rfl) : EX X es os (.Compare a [.In] [b] pos) (dat (.bool (dGet w k).isSome)) os2 := fun F σ H Q ow sl q =>
  we_of (pe_cmp (pc_din B.u1 pe_u pe_u) hm) (ha F σ H _ ow sl fun F1 H1 y e1 o1 c1 => hb F1 σ H1 _ o1 (sl.mono e1) fun F2 H2 v e2 o2 c2 => by
    obtain ⟨p, kvs, rfl, rd, dv⟩ := hr F2 H2 v o2 c2
    exact ⟨p, _, rfl, dget_of hi o2.ex rd (key_val (c1.mono e2)), by rw [dget_some (H := H2) (p := p) hi dv]; exact q F2 H2 _ (e1.trans e2) o2 (cl_dat (.bl _))⟩)
theorem ex_dnotin (hi : kd.Inj) (B : Bd X N W G n) (hr : RdD kd φ os2 (eM enc w)) (ha : EX X es os a (dat (kd.ek k)) os1) (hb : EX X es os1 b φ os2) (hm : behindInMarks .NotIn b = false := by rfl) : EX X es os (.Compare a [.NotIn] [b] pos) (dat (.bool (!(dGet w k).isSome))) os2 := fun F σ H Q ow sl q =>
  we_of (pe_cmp (pc_dnotin B.u1 pe_u pe_u) hm) (ha F σ H _ ow sl fun F1 H1 y e1 o1 c1 => hb F1 σ H1 _ o1 (sl.mono e1) fun F2 H2 v e2 o2 c2 => by
    obtain ⟨p, kvs, rfl, rd, dv⟩ := hr F2 H2 v o2 c2
    exact ⟨p, _, rfl, dget_of hi o2.ex rd (key_val (c1.mono e2)), by rw [dget_some (H := H2) (p := p) hi dv]; exact q F2 H2 _ (e1.trans e2) o2 (cl_dat (.bl _))⟩)
theorem dq_opt {F : Hp} {kvs : List (κ × L2.V)} (dv : DV F kvs (eM enc w)) : Dq F ((dGet kvs k).getD .non) (eO enc (dGet w k)) := by
  cases h : dGet w k with
  | none =>
    rw [(dv_get k dv).2 (by rw [dGet_map, h]; rfl)]
    exact .non
  | some x =>
    obtain ⟨u, hu, hd⟩ := (dv_get k dv).1 (enc x) (by rw [dGet_map, h]; rfl)
    rw [hu]
    exact hd
/-- d.get(k) -/
theorem ex_dget1 (hi : kd.Inj) (B : Bd X N W G n) (hr : RdD kd φ os1 (eM enc w)) (hr2 : RdD kd φ os2 (eM enc w)) (ha : EX X es os a φ os1) (hb : EX X es os1 b (dat (kd.ek k)) os2) (hbase : attributeBase a "get" X.env (eval a X.env) = eval a X.env := by rfl) (hline : (apos.endLine == cpos.line) = true := by rfl)
    (htr : backTo cpos (starEach [b] X.env) = [(false, eval b X.env)] := by rfl) : EX X es os (.Call (.Attribute a "get" apos) [b] [] cpos) (dat (eO enc (dGet w k))) os2 := fun F σ H Q ow sl q =>
  we_of (pe_dget1 B.u1 pe_u pe_u ⟨hbase, by rw [htr]; rfl, hline, htr⟩) (ha F σ H _ ow sl fun F1 H1 v e1 o1 c1 => by
    obtain ⟨p, kvs, rfl, rd, dv⟩ := hr F1 H1 v o1 c1
    refine ⟨p, rfl, isD_of rd, hb F1 σ H1 _ o1 (sl.mono e1) fun F2 H2 y e2 o2 c2 => ?_⟩
    obtain ⟨p', kvs', ep, rd', dv'⟩ := hr2 F2 H2 _ o2 (c1.mono e2)
    cases ep
    exact ⟨_, dget_of hi o2.ex rd' (key_val c2), q F2 H2 _ (e1.trans e2) o2 (cl_dat (dq_opt dv'))⟩)
/-- d.get(k, x) -/
theorem ex_dget2 (hi : kd.Inj) (B : Bd X N W G n) (hr : RdD kd φ os1 (eM enc w)) (hr2 : RdD kd φ os3 (eM enc w)) (ha : EX X es os a φ os1) (hb : EX X es os1 b (dat (kd.ek k)) os2) (hc : EX X es os2 c (dat (enc x)) os3) (hbase : attributeBase a "get" X.env (eval a X.env) = eval a X.env := by rfl) (hline : (apos.endLine == cpos.line) = true := by rfl)
    (htr : backTo cpos (starEach [b, c] X.env) = [(false, eval b X.env), (false, eval c X.env)] := by rfl) : EX X es os (.Call (.Attribute a "get" apos) [b, c] [] cpos) (dat (enc ((dGet w k).getD x))) os3 := fun F σ H Q ow sl q =>
  we_of (pe_dget2 B.u1 pe_u pe_u pe_u ⟨hbase, by rw [htr]; rfl, hline, htr⟩) (ha F σ H _ ow sl fun F1 H1 v e1 o1 c1 => by
    obtain ⟨p, kvs, rfl, rd, dv⟩ := hr F1 H1 v o1 c1
    refine ⟨p, rfl, isD_of rd, hb F1 σ H1 _ o1 (sl.mono e1) fun F2 H2 y e2 o2 c2 => hc F2 σ H2 _ o2 (sl.mono (e1.trans e2)) fun F3 H3 z e3 o3 c3 => ?_⟩
    obtain ⟨p', kvs', ep, rd', dv'⟩ := hr2 F3 H3 _ o3 ((c1.mono e2).mono e3)
    cases ep
    refine ⟨_, dget_of hi o3.ex rd' (key_val (c2.mono e3)), q F3 H3 _ ((e1.trans e2).trans e3) o3 ?_⟩
    cases h : dGet w k with
    | none =>
      rw [(dv_get k dv').2 (by rw [dGet_map, h]; rfl)]
      exact c3
    | some x =>
      obtain ⟨u, hu, hd⟩ := (dv_get k dv').1 (enc x) (by rw [dGet_map, h]; rfl)
      rw [hu]
      exact cl_dat hd)
/-- {} -/
theorem en_dnew : EN X es os (.Dict [] [] pos) (od kd []) os := fun F σ H Q ow sl q => by
  cases kd with
  | fl f => exact we_of pe_dnewK fun p hp => q F _ p (Same.refl F) (ow.new hp (od_one (kd := .fl f) .nil))
  | tu f => exact we_of pe_dnewT fun p hp => q F _ p (Same.refl F) (ow.new hp (od_one (kd := .tu f) .nil))
/-- len(d), keys ints or texts -/
def rLenD : List L2.V → Hp → VK → Prop := fun xs H Q => ∃ (p : Addr) (kvs : List (Key × L2.V)), xs = [.ref p] ∧ Rd H p (.dK kvs) ∧ Q (.int kvs.length) H
theorem call_len_d : CallR X (.builtin "len") rLenD := by
  intro pins s σ H vs us Q I r h
  obtain ⟨p, kvs, rfl, rd, q⟩ := h
  obtain ⟨u, rfl, ru⟩ := vals1 r
  obtain rfl : u = Value.ref p := ru
  exact d_len I rd fun t s' I' => ⟨.int _, H, I', ⟨_, rfl⟩, q⟩
theorem rc_lenD {f : κ → Key} (hr : RdD (.fl f) φ os (eM enc w)) : RCX rLenD [φ] os (dat (.int (w.length : Int))) os := fun F H vs Q ow c q => by
  obtain ⟨v, rfl, h⟩ := cla1 c
  obtain ⟨p, kvs, rfl, rd, dv⟩ := hr F H v ow h
  refine ⟨p, _, rfl, rd, ?_⟩
  have : (kvs.map fun z => (f z.1, z.2)).length = w.length := by rw [List.length_map, dv_len dv, List.length_map]
  rw [this]
  exact q F H _ (Same.refl F) ow (cl_dat (.int _))
/-- dict(d), keys ints or texts -/
def rCopyD : List L2.V → Hp → VK → Prop := fun xs H Q => ∃ (p : Addr) (kvs : List (Key × L2.V)), xs = [.ref p] ∧ Rd H p (.dK kvs) ∧ ∀ m, H m = none → Q (.ref m) (upd H m (.dK kvs))
theorem call_copy_d : CallR X (.type "dict") rCopyD := by
  intro pins s σ H vs us Q I r h
  obtain ⟨p, kvs, rfl, rd, q⟩ := h
  obtain ⟨u, rfl, ru⟩ := vals1 r
  obtain rfl : u = Value.ref p := ru
  exact d_copyOf I rd fun m s' hm I' => ⟨.ref m, _, I', rfl, q m hm⟩
theorem rc_copyD {f : κ → Key} {d : List (κ × PyData)} (hr : RdD (.fl f) φ os d) : RCN rCopyD [φ] os (od (.fl f) d) os := fun F H vs Q ow c q => by
  obtain ⟨v, rfl, h⟩ := cla1 c
  obtain ⟨p, kvs, rfl, rd, dv⟩ := hr F H v ow h
  exact ⟨p, _, rfl, rd, fun m hm => q F _ m (Same.refl F) (ow.new hm (od_one (kd := .fl f) dv))⟩

/-! ### writing -/
theorem dput_enc {F : Hp} {kvs : List (κ × L2.V)} {v : L2.V} (dv : DV F kvs (eM enc w)) (hd : Dq F v (enc x)) : DV F (dPut kvs k v) (eM enc (dPut w k x)) := by
  have := dv_put k hd dv
  rw [dPut_map] at this
  exact this
/-- a[b] = e -/
theorem sx_dput {w' : List (κ × β)} {tpos : Pos} {q : Addr} {os' : List (κ × β) → Os} (hi : kd.Inj) (hp : dPutO w k x = some w') (B : Bd X N W G n) (he : EX X es os e (dat (enc x)) os1) (ho : EX X es os1 a (own q) os2) (hb : EX X es os2 b (dat (kd.ek k)) os3) (hw : WrT os3 q (odT kd enc) w os')
    (h : SX X es (os' w') F0 rest D) (hs : swapsWith e (some (.Subscript a b tpos)) pos.line X.env = pure false := by rfl) : SX X es os F0 (.Assign [.Subscript a b tpos] e pos :: rest) D := fun F σ H s ow sl => by
  unfold dPutO at hp
  split at hp
  · rename_i hl
    cases hp
    refine wps_cons (ws_of (ps_dput B.u1 pe_u pe_u pe_u hs) (he F σ H _ ow sl fun F1 H1 v e1 o1 c1 => ho F1 σ H1 _ o1 (sl.mono e1) fun F2 H2 u e2 o2 c2 => hb F2 σ H2 _ o2 (sl.mono (e1.trans e2)) fun F3 H3 y e3 o3 c3 => ?_))
    obtain rfl : u = .ref q := c2.now
    obtain ⟨_, o, hq, _, ⟨kvs, rfl, dv⟩, z⟩ := hw F3 H3 _ uni_od o3
    have e := (e1.trans e2).trans e3
    refine ⟨q, _, rfl, dput_of hi o3.ex hq (key_val c3) (by rw [dv_len dv, List.length_map]; exact hl), ?_⟩
    exact h F3 σ _ (s.trans e) (z _ _ (Kd.ntup _ _) (od_one (dput_enc dv ((c1.mono e2).mono e3).now))) (sl.mono e)
  · cases hp
/-- a.pop(b), keys ints or texts -/
theorem ex_dpop {f : κ → Key} {r : β × List (κ × β)} {q : Addr} {os' : List (κ × β) → Os} (hi : (Kd.fl f).Inj) (hp : dPopO w k = some r) (ho : EX X es os a (own q) os1) (h0 : RdD (.fl f) (own q) os1 d0) (hb : EX X es os1 b (dat ((Kd.fl f).ek k)) os2) (hw : WrT os2 q (odT (.fl f) enc) w os')
    (hbase : attributeBase a "pop" X.env (eval a X.env) = eval a X.env := by rfl) (hline : (apos.endLine == cpos.line) = true := by rfl) (htr : backTo cpos (starEach [b] X.env) = [(false, eval b X.env)] := by rfl) :
    EX X es os (.Call (.Attribute a "pop" apos) [b] [] cpos) (dat (enc r.1)) (os' r.2) := fun F σ H Q ow sl qq => by
  unfold dPopO at hp
  cases hg : dGet w k with
  | none =>
    rw [hg] at hp
    cases hp
  | some x =>
    rw [hg] at hp
    cases hp
    refine we_of (pe_dpop1 pe_u pe_u ⟨hbase, by rw [htr]; rfl, hline, htr⟩) (ho F σ H _ ow sl fun F1 H1 v e1 o1 c1 => ?_)
    obtain ⟨p, kvs0, rfl, rd, _⟩ := h0 F1 H1 v o1 c1
    obtain rfl : p = q := by
      have := c1.now
      cases this
      rfl
    refine ⟨p, rfl, isD_of (kd := .fl f) rd, hb F1 σ H1 _ o1 (sl.mono e1) fun F2 H2 y e2 o2 c2 => ?_⟩
    obtain ⟨_, o, hq, _, ⟨kvs, rfl, dv⟩, z⟩ := hw F2 H2 _ uni_od o2
    obtain ⟨u, hu, hd⟩ := (dv_get k dv).1 (enc x) (by rw [dGet_map, hg]; rfl)
    refine ⟨_, f k, u, hq, key_val (kd := .fl f) c2, ?_, ?_⟩
    · rw [valV_dGet, dGet_key hi]
      exact hu
    · have e5 : dropK (kvs.map fun p => (f p.1, p.2)) (f k) = (dDel kvs k).map fun p => (f p.1, p.2) := dDel_key hi k kvs
      rw [e5]
      have d5 := dv_del k dv
      rw [dDel_map] at d5
      exact qq F2 _ u (e1.trans e2) (z _ _ (Kd.ntup (.fl f) _) (od_one (kd := .fl f) d5)) (cl_dat hd)
/-- a.setdefault(b, c), keys ints or texts -/
def dSetO (w : List (κ × β)) (k : κ) (x : β) : Option (β × List (κ × β)) := if w.length < sizeLine then some (match dGet w k with
  | some y => (y, w)
  | none => (x, dPut w k x)) else none
theorem ex_dsetd {f : κ → Key} {r : β × List (κ × β)} {q : Addr} {os' : List (κ × β) → Os} (hi : (Kd.fl f).Inj) (hp : dSetO w k x = some r) (ho : EX X es os a (own q) os1) (h0 : RdD (.fl f) (own q) os1 d0) (hb : EX X es os1 b (dat ((Kd.fl f).ek k)) os2) (hc : EX X es os2 c (dat (enc x)) os3) (hw : WrT os3 q (odT (.fl f) enc) w os')
    (hsame : ∀ F H, Ow F os3 H → Ow F (os' w) H)
    (hbase : attributeBase a "setdefault" X.env (eval a X.env) = eval a X.env := by rfl) (hline : (apos.endLine == cpos.line) = true := by rfl) (htr : backTo cpos (starEach [b, c] X.env) = [(false, eval b X.env), (false, eval c X.env)] := by rfl) :
    EX X es os (.Call (.Attribute a "setdefault" apos) [b, c] [] cpos) (dat (enc r.1)) (os' r.2) := fun F σ H Q ow sl qq => by
  unfold dSetO at hp
  split at hp
  · rename_i hl
    cases hp
    refine we_of (pe_dsetd pe_u pe_u pe_u ⟨hbase, by rw [htr]; rfl, hline, htr⟩) (ho F σ H _ ow sl fun F1 H1 v e1 o1 c1 => ?_)
    obtain ⟨p, kvs0, rfl, rd, _⟩ := h0 F1 H1 v o1 c1
    obtain rfl : p = q := by
      have := c1.now
      cases this
      rfl
    refine ⟨p, rfl, isD_of (kd := .fl f) rd, hb F1 σ H1 _ o1 (sl.mono e1) fun F2 H2 y e2 o2 c2 => hc F2 σ H2 _ o2 (sl.mono (e1.trans e2)) fun F3 H3 u e3 o3 c3 => ?_⟩
    obtain ⟨_, o, hq, _, ⟨kvs, rfl, dv⟩, z⟩ := hw F3 H3 _ uni_od o3
    have e := (e1.trans e2).trans e3
    refine ⟨_, f k, hq, key_val (kd := .fl f) c2, by rw [List.length_map, dv_len dv, List.length_map]; exact hl, fun v hv => ?_, fun hn => ?_⟩
    · rw [valV_dGet, dGet_key hi] at hv
      cases hg : dGet w k with
      | none =>
        rw [(dv_get k dv).2 (by rw [dGet_map, hg]; rfl)] at hv
        cases hv
      | some y =>
        obtain ⟨u', hu, hd⟩ := (dv_get k dv).1 (enc y) (by rw [dGet_map, hg]; rfl)
        rw [hu] at hv
        cases hv
        simp only [hg] at qq
        exact qq F3 H3 _ e (hsame F3 H3 o3) (cl_dat hd)
    · rw [valV_dGet, dGet_key hi] at hn
      cases hg : dGet w k with
      | some y =>
        obtain ⟨u', hu, hd⟩ := (dv_get k dv).1 (enc y) (by rw [dGet_map, hg]; rfl)
        rw [hu] at hn
        cases hn
      | none =>
        have e5 : putK (kvs.map fun p => (f p.1, p.2)) (f k) u = (dPut kvs k u).map fun p => (f p.1, p.2) := dPut_key hi k u kvs
        rw [e5]
        simp only [hg] at qq
        exact qq F3 _ u e (z _ _ (Kd.ntup (.fl f) _) (od_one (kd := .fl f) (dput_enc dv c3.now))) c3
  · cases hp
end
end Z
/-! Z, part T: dicts walked; lists of one's own dicts or lists. -/
namespace Z
open PySem PySem.Spec PyProof.Rows L2

/-! ### lists of owned things -/
def uniH : List Hp → Hp
  | [] => fun _ => none
  | h :: hs => ov h (uniH hs)
theorem uniH_some : ∀ {l : List Hp} {a : Addr} {o : HO}, uniH l a = some o → ∃ h ∈ l, h a = some o
  | [], _, _, e => nomatch e
  | h :: l, a, o, e => by
    unfold uniH at e
    cases q : h a with
    | some u =>
      rw [ov_some q] at e
      exact ⟨h, List.mem_cons_self, q.trans e⟩
    | none =>
      rw [ov_none q] at e
      obtain ⟨k, hk, e2⟩ := uniH_some e
      exact ⟨k, List.mem_cons_of_mem _ hk, e2⟩
theorem uniH_same : ∀ {l : List Hp} {h : Hp}, l.Pairwise Ap → h ∈ l → Same h (uniH l)
  | [], _, _, m => nomatch m
  | k :: l, h, p, m => by
    obtain ⟨p1, p2⟩ := List.pairwise_cons.mp p
    intro a o e
    unfold uniH
    rcases List.mem_cons.mp m with rfl | m
    · exact ov_some e
    · have : k a = none := (p1 h m).symm a (by rw [e]; simp)
      rw [ov_none this]
      exact uniH_same p2 m a o e
theorem uniH_none {l : List Hp} {a : Addr} (h : ∀ k ∈ l, k a = none) : uniH l a = none := by
  cases e : uniH l a with
  | none => rfl
  | some o =>
    obtain ⟨k, hk, q⟩ := uniH_some e
    rw [h k hk] at q
    cases q
def onl (qs : List Addr) (es : List Ent) : Ent := fun p F h => ∃ hs, h = uniH (one p (.lst (qs.map .ref)) :: hs) ∧ Pcs F (qs.zip es) hs ∧ (one p (.lst (qs.map .ref)) :: hs).Pairwise Ap ∧ (∀ k ∈ hs, NT k) ∧ qs.length = es.length
def onx (es : List Ent) : Ent := fun p F h => ∃ qs, onl qs es p F h
def orf (qs : List Addr) : Ent := fun p _ h => h = one p (.lst (qs.map .ref))
theorem uni_orf {qs : List Addr} : Uni (orf qs) (fun _ o => o = .lst (qs.map .ref)) := fun p F h e => ⟨_, e, rfl⟩
theorem onl_mono {qs : List Addr} {es : List Ent} {p : Addr} {F F' h : Hp} (e : Same F F') (x : onl qs es p F h) : onl qs es p F' h := by
  obtain ⟨hs, a, b, c, d, l⟩ := x
  exact ⟨hs, a, b.mono e, c, d, l⟩
theorem pcs_app {F : Hp} : ∀ {os os' : Os} {hs hs' : List Hp}, Pcs F os hs → Pcs F os' hs' → Pcs F (os ++ os') (hs ++ hs')
  | _, _, _, _, .nil, h => h
  | _, _, _, _, .cons h1 h2, h => .cons h1 (pcs_app h2 h)
theorem pcs_split {F : Hp} : ∀ {os os' : Os} {l : List Hp}, Pcs F (os ++ os') l → ∃ hs hs', l = hs ++ hs' ∧ Pcs F os hs ∧ Pcs F os' hs'
  | [], os', l, h => ⟨[], l, rfl, .nil, h⟩
  | q :: os, os', _, .cons h1 h2 => by
    obtain ⟨hs, hs', rfl, a, b⟩ := pcs_split h2
    exact ⟨_ :: hs, hs', rfl, .cons h1 a, b⟩
section
variable {F H : Hp} {os : Os} {p : Addr} {qs : List Addr} {es : List Ent}
theorem Ow.opn (h : Ow F ((p, onl qs es) :: os) H) : Ow F ((p, orf qs) :: (qs.zip es ++ os)) H ∧ qs.length = es.length := by
  obtain ⟨l, a, b, c⟩ := h.ps
  cases a with
  | @cons _ _ k r h1 h2 =>
    obtain ⟨hs, rfl, p1, pw, nt, hl⟩ := h1 F (Same.refl F)
    obtain ⟨c1, c2⟩ := List.pairwise_cons.mp c
    obtain ⟨s, x, _⟩ := b _ List.mem_cons_self
    have sub : ∀ g ∈ one p (.lst (qs.map .ref)) :: hs, Same g H ∧ Ap F g := fun g hg =>
      ⟨(uniH_same pw hg).trans s, fun z hz => (uniH_same pw hg).free (x z hz)⟩
    have far : ∀ g ∈ one p (.lst (qs.map .ref)) :: hs, ∀ t ∈ r, Ap g t := fun g hg t ht z hz => by
      refine c1 t ht z ?_
      cases e : g z with
      | none => exact (hz e).elim
      | some o => rw [uniH_same pw hg z o e]; simp
    refine ⟨⟨h.ex, one p (.lst (qs.map .ref)) :: (hs ++ r), .cons (fun _ _ => rfl) (pcs_app p1 h2), fun g hg => ?_, ?_⟩, hl⟩
    · rcases List.mem_cons.mp hg with rfl | hg
      · exact ⟨(sub _ List.mem_cons_self).1, (sub _ List.mem_cons_self).2, nt_one (fun _ z => by cases z)⟩
      · rcases List.mem_append.mp hg with hg | hg
        · exact ⟨(sub g (List.mem_cons_of_mem _ hg)).1, (sub g (List.mem_cons_of_mem _ hg)).2, nt g hg⟩
        · exact b g (List.mem_cons_of_mem _ hg)
    · rw [← List.cons_append]
      exact List.pairwise_append.mpr ⟨pw, c2, fun g hg t ht => far g hg t ht⟩
theorem Ow.cls (h : Ow F ((p, orf qs) :: (qs.zip es ++ os)) H) (hl : qs.length = es.length) : Ow F ((p, onl qs es) :: os) H := by
  obtain ⟨l, a, b, c⟩ := h.ps
  cases a with
  | @cons _ _ k r h1 h2 =>
    obtain rfl : k = one p (.lst (qs.map .ref)) := h1 F (Same.refl F)
    obtain ⟨hs, r', rfl, p1, p2⟩ := pcs_split h2
    rw [← List.cons_append] at c
    obtain ⟨c1, c2, c3⟩ := List.pairwise_append.mp c
    have bb : ∀ g ∈ one p (.lst (qs.map .ref)) :: hs, Same g H ∧ Ap F g ∧ NT g := fun g hg => b g (by
      rcases List.mem_cons.mp hg with rfl | hg
      · exact List.mem_cons_self
      · exact List.mem_cons_of_mem _ (List.mem_append_left _ hg))
    refine ⟨h.ex, uniH (one p (.lst (qs.map .ref)) :: hs) :: r', .cons (fun F' s => ⟨hs, rfl, p1.mono s, c1, fun k hk => (bb k (List.mem_cons_of_mem _ hk)).2.2, hl⟩) p2, fun g hg => ?_, List.pairwise_cons.mpr ⟨fun t ht => ?_, c2⟩⟩
    · rcases List.mem_cons.mp hg with rfl | hg
      · refine ⟨fun z o e => ?_, fun z hz => uniH_none fun k hk => (bb k hk).2.1 z hz, fun z xs e => ?_⟩
        · obtain ⟨k, hk, q⟩ := uniH_some e
          exact (bb k hk).1 z o q
        · obtain ⟨k, hk, q⟩ := uniH_some e
          exact (bb k hk).2.2 z xs q
      · exact b g (List.mem_cons_of_mem _ (List.mem_append_right _ hg))
    · intro z hz
      cases e : uniH (one p (.lst (qs.map .ref)) :: hs) z with
      | none => exact (hz e).elim
      | some o =>
        obtain ⟨k, hk, q⟩ := uniH_some e
        exact c3 k hk t ht z (by rw [q]; simp)
theorem Ow.opx (h : Ow F ((p, onx es) :: os) H) : ∃ qs, Ow F ((p, onl qs es) :: os) H := by
  obtain ⟨l, a, b, c⟩ := h.ps
  cases a with
  | cons h1 h2 =>
    obtain ⟨qs, x⟩ := h1 F (Same.refl F)
    exact ⟨qs, h.ex, _, .cons (fun F' s => onl_mono s x) h2, b, c⟩
theorem Ow.clx (h : Ow F ((p, onl qs es) :: os) H) : Ow F ((p, onx es) :: os) H := h.weak fun _ _ x => ⟨qs, x⟩
end

/-! ### places within -/
def ixD (n : Nat) (z : Int) : Nat := (ixN n z).getD 0
/-- the address at the place z -/
def qa (qs : List Addr) (z : Int) : Addr := qs.getD (ixD qs.length z) 0
def setI {α : Type} (xs : List α) (z : Int) (x : α) : List α := xs.set (ixD xs.length z) x
theorem setI_len {α : Type} (xs : List α) (z : Int) (x : α) : (setI xs z x).length = xs.length := by
  unfold setI
  rw [List.length_set]
theorem idx_at {α : Type} {xs : List α} {z : Int} {x : α} (h : idx xs z = some x) : ixN xs.length z = some (ixD xs.length z) ∧ xs[ixD xs.length z]? = some x := by
  unfold idx atI at h
  unfold ixD
  cases e : ixN xs.length z with
  | none => rw [e] at h; cases h
  | some j =>
    rw [e] at h
    exact ⟨rfl, h⟩
theorem zip_at {α β : Type} : ∀ {qs : List α} {es : List β} {i : Nat} {q : α} {e : β}, qs[i]? = some q → es[i]? = some e → (qs.zip es)[i]? = some (q, e)
  | [], _, _, _, _, h, _ => by simp at h
  | _ :: _, [], _, _, _, _, h => by simp at h
  | a :: qs, b :: es, 0, q, e, h, k => by simp at h k; subst h; subst k; rfl
  | a :: qs, b :: es, i + 1, q, e, h, k => zip_at (i := i) (qs := qs) (es := es) (by simpa using h) (by simpa using k)
theorem zip_set {α β : Type} : ∀ {qs : List α} {es : List β} {i : Nat} {q : α} {e' : β}, qs[i]? = some q → (qs.zip es).set i (q, e') = qs.zip (es.set i e')
  | [], _, _, _, _, h => by simp at h
  | _ :: _, [], _, _, _, _ => by simp
  | a :: qs, b :: es, 0, q, e', h => by simp at h; subst h; rfl
  | a :: qs, b :: es, i + 1, q, e', h => by
    rw [List.zip_cons_cons, List.set_cons_succ, List.set_cons_succ, List.zip_cons_cons, zip_set (by simpa using h)]
theorem getD_at {α : Type} {l : List α} {i : Nat} {d : α} (h : i < l.length) : l[i]? = some (l.getD i d) := by
  rw [List.getD_eq_getElem?_getD, List.getElem?_eq_getElem h]
  rfl
section
variable {γ : Type} {os : Os} {p : Addr} {qs : List Addr} {f : γ → Ent} {ws : List γ} {z : Int} {d : γ}
/-- the entry at the place z of an owned list of owned things -/
theorem wr_nest (j : Nat) (h : os[j]? = some (p, onl qs (ws.map f))) (hk : idx ws z = some d) : WrT os (qa qs z) f d (fun d' => os.set j (p, onl qs ((setI ws z d').map f))) := fun F H r u ow => by
  obtain ⟨o1, hl⟩ := (ow.perm (perm_at h)).opn
  rw [List.length_map] at hl
  obtain ⟨k1, k2⟩ := idx_at hk
  have hi : ixD ws.length z < ws.length := (List.getElem?_eq_some_iff.mp k2).1
  have hq : qs[ixD ws.length z]? = some (qa qs z) := by
    unfold qa
    rw [hl]
    exact getD_at (by rw [hl]; exact hi)
  have he : (ws.map f)[ixD ws.length z]? = some (f d) := by rw [List.getElem?_map, k2]; rfl
  have hz : ((p, orf qs) :: (qs.zip (ws.map f) ++ os.eraseIdx j))[ixD ws.length z + 1]? = some (qa qs z, f d) := by
    rw [List.getElem?_cons_succ, List.getElem?_append_left (by rw [List.length_zip, List.length_map]; omega)]
    exact zip_at hq he
  have o2 := o1.perm (perm_at hz)
  obtain ⟨a, o, b, c, e⟩ := o2.atU u
  refine ⟨a, o, b, c, e, fun o' d' nt hd => ?_⟩
  have o3 := (o2.putU u hd nt).perm (perm_set hz)
  rw [List.set_cons_succ, List.set_append_left _ _ (by rw [List.length_zip, List.length_map]; omega), zip_set hq] at o3
  have o4 := o3.cls (by rw [List.length_set, List.length_map]; exact hl)
  have e5 : (ws.map f).set (ixD ws.length z) (f d') = (setI ws z d').map f := by
    unfold setI
    rw [List.map_set]
  rw [e5] at o4
  exact o4.perm (perm_set h)
/-- read as a list of addresses -/
theorem nest_at {F H : Hp} {os : Os} (j : Nat) (h : os[j]? = some (p, onl qs (ws.map f))) (ow : Ow F os H) : H p = some (.lst (qs.map .ref)) ∧ qs.length = ws.length := by
  obtain ⟨o1, hl⟩ := (ow.perm (perm_at h)).opn
  rw [List.length_map] at hl
  obtain ⟨_, o, ho, _, rfl⟩ := o1.atU uni_orf
  exact ⟨ho, hl⟩
end
theorem nestx_at {γ : Type} {f : γ → Ent} {ws : List γ} {p : Addr} {F H : Hp} {os : Os} (j : Nat) (h : os[j]? = some (p, onx (ws.map f))) (ow : Ow F os H) : ∃ qs : List Addr, H p = some (.lst (qs.map .ref)) ∧ qs.length = ws.length := by
  obtain ⟨qs, o1⟩ := (ow.perm (perm_at h)).opx
  exact ⟨qs, nest_at 0 rfl o1⟩
section
variable {X : Cx} {es es' : List Slot} {os os1 os2 os3 : Os} {F0 : Hp} {rest : List Stmt} {D : Ends} {N V G W : List Str} {n i vi gi : Nat} {p pos apos cpos : Pos} {e a b c : Expr} {φ : VP} {γ : Type} {f : γ → Ent} {ws : List γ} {d : γ} {z : Int} {q : Addr} {qs : List Addr}
/-- x[i], x a list of owned things -/
theorem ex_nst (j : Nat) (hk : idx ws z = some d) (h : os2[j]? = some (q, onl qs (ws.map f))) (ha : EX X es os a (own q) os1) (hb : EX X es os1 b (dat (.int z)) os2) (hp : PlainIx b := by exact fun _ _ => rfl) : EX X es os (.Subscript a b pos) (own (qa qs z)) os2 := fun F σ H Q ow sl qq =>
  we_of (pe_ix L2.ix_list pe_u pe_u hp) (ha F σ H _ ow sl fun F1 H1 x e1 o1 c1 => hb F1 σ H1 _ o1 (sl.mono e1) fun F2 H2 y e2 o2 c2 => by
    obtain rfl : x = .ref q := c1.now
    obtain ⟨h1, hl⟩ := nest_at j h o2
    obtain ⟨k1, k2⟩ := idx_at hk
    have hi : ixD ws.length z < ws.length := (List.getElem?_eq_some_iff.mp k2).1
    have hq : atI (qs.map L2.V.ref) z = some (.ref (qa qs z)) := by
      unfold atI
      rw [List.length_map, hl, k1]
      show (qs.map L2.V.ref)[ixD ws.length z]? = _
      rw [List.getElem?_map]
      unfold qa
      rw [hl, getD_at (d := (0 : Addr)) (by rw [hl]; exact hi)]
      rfl
    exact ⟨q, _, z, _, rfl, clv_int c2, .of h1, hq, qq F2 H2 _ (e1.trans e2) o2 cl_own⟩)
theorem sx_open (j : Nat) (h : os[j]? = some (q, onx es0)) (k : ∀ qs, SX X es (os.set j (q, onl qs es0)) F0 rest D) : SX X es os F0 rest D := fun F σ H s ow sl => by
  obtain ⟨qs, o1⟩ := (ow.perm (perm_at h)).opx
  exact k qs F σ H s (o1.perm (perm_set h)) sl
theorem sx_clos (j : Nat) (h : os[j]? = some (q, onl qs es0)) (k : SX X es (os.set j (q, onx es0)) F0 rest D) : SX X es os F0 rest D := fun F σ H s ow sl =>
  k F σ H s ((ow.perm (perm_at h)).clx.perm (perm_set h)) sl
theorem At.clos {σ : L2.St} {H : Hp} (j : Nat) (h : os[j]? = some (q, onl qs es0)) (k : At F0 es os σ H) : At F0 es (os.set j (q, onx es0)) σ H := let ⟨F, s, o, l⟩ := k; ⟨F, s, (o.perm (perm_at h)).clx.perm (perm_set h), l⟩
theorem Ow.clos {F H : Hp} (j : Nat) (h : os[j]? = some (q, onl qs es0)) (k : Ow F os H) : Ow F (os.set j (q, onx es0)) H := (k.perm (perm_at h)).clx.perm (perm_set h)
theorem EX.clos (j : Nat) (h : os[j]? = some (q, onl qs es0)) (k : EX X es (os.set j (q, onx es0)) e φ os1) : EX X es os e φ os1 := fun F σ H Q ow sl qq => k F σ H Q (ow.clos j h) sl qq
theorem EN.clos {m : Ent} (j : Nat) (h : os[j]? = some (q, onl qs es0)) (k : EN X es (os.set j (q, onx es0)) e m os1) : EN X es os e m os1 := fun F σ H Q ow sl qq => k F σ H Q (ow.clos j h) sl qq
/-- len of a list of owned things -/
theorem rc_lenO (j : Nat) (h : os[j]? = some (q, onl qs (ws.map f))) : RCX (fun xs H Q => ∃ p ys, xs = [L2.V.ref p] ∧ (SqL X.K H p ys ∨ SqT X.K H p ys) ∧ Q (.int ys.length) H) [own q] os (dat (.int (ws.length : Int))) os := fun F H vs Q ow c qq => by
  obtain ⟨v, rfl, hv⟩ := cla1 c
  obtain rfl : v = .ref q := hv.now
  obtain ⟨h1, hl⟩ := nest_at j h ow
  refine ⟨q, _, rfl, .inl (.of h1), ?_⟩
  rw [List.length_map, hl]
  exact qq F H _ (Same.refl F) ow (cl_dat (.int _))
theorem frz_all {g : γ → PyData} (hf : ∀ w, Frb (f w) (g w)) : ∀ (qs : List Addr) (ws : List γ) (F : Hp) (os : Os) (H : Hp) (Q : Hp → Prop), qs.length = ws.length → Ow F (qs.zip (ws.map f) ++ os) H → (∀ F' H', Same F F' → Ow F' os H' → DqAll F' (qs.map .ref) (ws.map g) → Q H') → Lk Q H
  | [], [], F, os, H, Q, _, ow, k => .now (k F H (Same.refl F) ow .nil)
  | [], _ :: _, _, _, _, _, h, _, _ => by simp at h
  | _ :: _, [], _, _, _, _, h, _, _ => by simp at h
  | q :: qs, w :: ws, F, os, H, Q, hl, ow, k => by
    rw [List.map_cons, List.zip_cons_cons, List.cons_append] at ow
    refine Lk.bind (Q := fun H' => ∃ F', Same F F' ∧ Ow F' (qs.zip (ws.map f) ++ os) H' ∧ Dq F' (.ref q) (g w)) (hf w q F _ H _ ow fun F' H' s o d => ⟨F', s, o, d⟩) ?_
    rintro H1 ⟨F1, s1, o1, d1⟩
    refine frz_all hf qs ws F1 os H1 Q (by simpa using hl) o1 fun F2 H2 s2 o2 d2 => ?_
    exact k F2 H2 (s1.trans s2) o2 (.cons (dq_mono s2 _ _ d1) d2)
theorem frb_onl {g : γ → PyData} (hf : ∀ w, Frb (f w) (g w)) : Frb (onl qs (ws.map f)) (.list (ws.map g)) := fun p F os H Q ow k => by
  obtain ⟨o1, hl⟩ := ow.opn
  rw [List.length_map] at hl
  have o2 : Ow F (qs.zip (ws.map f) ++ (p, orf qs) :: os) H := o1.perm (List.perm_middle.symm)
  refine frz_all hf qs ws F _ H Q hl o2 fun F1 H1 s1 o3 d1 => ?_
  obtain ⟨o, ho, rfl, s2, o4⟩ := o3.freezeU uni_orf
  exact k _ H1 (s1.trans s2) o4 (.lst upd_same (dqall_mono s2 _ _ d1))
theorem frb_onx {g : γ → PyData} (hf : ∀ w, Frb (f w) (g w)) : Frb (onx (ws.map f)) (.list (ws.map g)) := fun p F os H Q ow k => by
  obtain ⟨qs, o1⟩ := ow.opx
  exact frb_onl hf p F os H Q o1 k
end
end Z
/-! Z, part U: dicts walked, their values summed and listed; dict comprehensions; lists of new owned things. -/
namespace Z
open PySem PySem.Spec PyProof.Rows L2

section
variable {X : Cx} {es : List Slot} {os os1 os2 : Os} {F0 : Hp} {rest : List Stmt} {D : Ends} {N V G W : List Str} {n i vi gi : Nat} {x : Str} {p pos apos cpos : Pos} {e a b : Expr} {φ : VP} {κ β : Type} {enc : β → PyData} {w : List (κ × β)}

/-! ### d.items(), d.values(), d: data -/
theorem good_items {f : κ → Key} {F : Hp} {d : Addr} {ob : Obj} {kvs : List (κ × L2.V)} (hf : F d = some (.frz ob (.dK (kvs.map fun p => (f p.1, p.2))))) (dv : DV F kvs (eM enc w)) :
    Good (Iti d ob (kvs.map fun p => (f p.1, p.2))) F w (fun x => dat (.tuple [kPD (f x.1), enc x.2])) anyOs := fun F2 H2 os2 i s ow _ => by
  have hd := ow.ex _ _ (s _ _ hf)
  have hl : (kvs.map fun p => (f p.1, p.2)).length = w.length := by rw [List.length_map, dv_len dv, List.length_map]
  refine ⟨fun h => ⟨hd, by omega⟩, fun x hx => ?_⟩
  have hlt : i < w.length := (List.getElem?_eq_some_iff.mp hx).1
  obtain ⟨v, hv, dq⟩ := dv_at (i := i) (k := x.1) (d := enc x.2) dv (by rw [List.getElem?_map, hx]; rfl)
  refine ⟨⟨hd, by omega⟩, fun u H3 y => ?_⟩
  obtain ⟨T, k, v2, h1, rfl, hT, rfl⟩ := y
  rw [List.getElem?_map, hv] at h1
  cases h1
  have fT := ow.ex.free hT
  refine ⟨_, same_upd fT, ow.frozen hT, cl_dat (.tup upd_same (.cons ?_ (.cons (dq_mono (s.trans (same_upd fT)) _ _ dq) .nil)))⟩
  cases hk : f x.1 with
  | inl j => exact .int j
  | inr t => exact .str t
theorem ix_itemsD {f : κ → Key} {elts : List Expr} {kk : Nat} {tpos : Pos} (he : EX X es os e (dat ((Kd.fl f).pd (eM enc w))) os1) (hbase : attributeBase e "items" X.env (eval e X.env) = eval e X.env := by rfl) (hline : (apos.endLine == cpos.line) = true := by rfl) :
    IX X (.Tuple elts kk tpos) es os (.Call (.Attribute e "items" apos) [] [] cpos) w (fun x => dat (.tuple [kPD (f x.1), enc x.2])) anyOs os1 := fun F σ H R ow sl q =>
  wi_of (pi_items pe_u hbase hline) (he F σ H _ ow sl fun F1 H1 v e1 o1 c1 => by
    obtain ⟨d, ob, kvs, rfl, h1, dv⟩ := pd_dq c1.now
    exact ⟨d, ob, _, rfl, o1.ex _ _ h1, q F1 H1 _ e1 o1 (good_items h1 dv)⟩)
theorem good_vals {f : κ → Key} {F : Hp} {d : Addr} {ob : Obj} {kvs : List (κ × L2.V)} (hf : F d = some (.frz ob (.dK (kvs.map fun p => (f p.1, p.2))))) (dv : DV F kvs (eM enc w)) :
    Good (Itd d ob (kvs.map fun p => (f p.1, p.2))) F (w.map (·.2)) (fun x => dat (enc x)) anyOs := fun F2 H2 os2 i s ow _ => by
  have hd := ow.ex _ _ (s _ _ hf)
  have hl : (kvs.map fun p => (f p.1, p.2)).length = w.length := by rw [List.length_map, dv_len dv, List.length_map]
  refine ⟨fun h => ⟨hd, by rw [List.length_map] at h; omega⟩, fun x hx => ?_⟩
  rw [List.getElem?_map] at hx
  cases hy : w[i]? with
  | none => rw [hy] at hx; cases hx
  | some y =>
    rw [hy] at hx
    cases hx
    have hlt : i < w.length := (List.getElem?_eq_some_iff.mp hy).1
    obtain ⟨v, hv, dq⟩ := dv_at (i := i) (k := y.1) (d := enc y.2) dv (by rw [List.getElem?_map, hy]; rfl)
    refine ⟨⟨hd, by omega⟩, fun u H3 yy => ?_⟩
    obtain ⟨rfl, k, h1⟩ := yy
    rw [List.getElem?_map, hv] at h1
    cases h1
    exact ⟨F2, Same.refl F2, ow, cl_dat (dq_mono s _ _ dq)⟩
theorem ix_valsD {f : κ → Key} {tg : Expr} (he : EX X es os e (dat ((Kd.fl f).pd (eM enc w))) os1) (hbase : attributeBase e "values" X.env (eval e X.env) = eval e X.env := by rfl) (hline : (apos.endLine == cpos.line) = true := by rfl) :
    IX X tg es os (.Call (.Attribute e "values" apos) [] [] cpos) (w.map (·.2)) (fun x => dat (enc x)) anyOs os1 := fun F σ H R ow sl q =>
  wi_of (pi_values pe_u hbase hline) (he F σ H _ ow sl fun F1 H1 v e1 o1 c1 => by
    obtain ⟨d, ob, kvs, rfl, h1, dv⟩ := pd_dq c1.now
    exact ⟨d, ob, _, rfl, o1.ex _ _ h1, q F1 H1 _ e1 o1 (good_vals h1 dv)⟩)
theorem dq_keyV {F : Hp} : ∀ k : Key, Dq F (kV k) (kPD k)
  | .inl j => .int j
  | .inr t => .str t
theorem dqall_keyV {F : Hp} : ∀ ks : List Key, DqAll F (ks.map kV) (ks.map kPD)
  | [] => .nil
  | k :: ks => .cons (dq_keyV k) (dqall_keyV ks)
theorem ix_keysD {kd : Kd κ} {tg : Expr} (he : EX X es os e (dat (kd.pd (eM enc w))) os1) : IX X tg es os e (w.map (·.1)) (fun x => dat (kd.ek x)) anyOs os1 := fun F σ H R ow sl q =>
  wi_of (pi_keys pe_u) (he F σ H _ ow sl fun F1 H1 v e1 o1 c1 => by
    obtain ⟨d, ob, kvs, rfl, h1, dv⟩ := pd_dq c1.now
    have hkk : kvs.map (·.1) = w.map (·.1) := by rw [dv_keys dv, List.map_map]; rfl
    have at_ : ∀ {i : Nat} {x : κ}, (w.map (·.1))[i]? = some x → ∃ v, kvs[i]? = some (x, v) := fun {i x} hx => by
      rw [← hkk, List.getElem?_map] at hx
      cases hy : kvs[i]? with
      | none => rw [hy] at hx; cases hx
      | some y =>
        rw [hy] at hx
        cases hx
        exact ⟨y.2, rfl⟩
    have hlen : kvs.length = w.length := by rw [dv_len dv, List.length_map]
    cases kd with
    | fl f =>
      refine ⟨d, ob, rfl, .inl ⟨_, o1.ex _ _ h1, q F1 H1 _ e1 o1 fun F2 H2 os2 i s ow2 _ => ?_⟩⟩
      have hd := ow2.ex _ _ (s _ _ h1)
      refine ⟨fun h => ⟨hd, by rw [List.length_map] at h ⊢; omega⟩, fun x hx => ?_⟩
      obtain ⟨v, hv⟩ := at_ hx
      have hlt := (List.getElem?_eq_some_iff.mp hv).1
      refine ⟨⟨hd, by rw [List.length_map]; exact hlt⟩, fun u H3 yy => ?_⟩
      obtain ⟨rfl, k, v2, h2, rfl⟩ := yy
      rw [List.getElem?_map, hv] at h2
      cases h2
      exact ⟨F2, Same.refl F2, ow2, cl_dat (dq_keyV _)⟩
    | tu f =>
      refine ⟨d, ob, rfl, .inr ⟨_, o1.ex _ _ h1, q F1 H1 _ e1 o1 fun F2 H2 os2 i s ow2 _ => ?_⟩⟩
      have hd := ow2.ex _ _ (s _ _ h1)
      refine ⟨fun h => ⟨hd, by rw [List.length_map] at h ⊢; omega⟩, fun x hx => ?_⟩
      obtain ⟨v, hv⟩ := at_ hx
      have hlt := (List.getElem?_eq_some_iff.mp hv).1
      refine ⟨⟨hd, by rw [List.length_map]; exact hlt⟩, fun u H3 yy => ?_⟩
      obtain ⟨rfl, k, v2, r, h2, rfl, h3⟩ := yy
      rw [List.getElem?_map, hv] at h2
      cases h2
      obtain ⟨sf, o3⟩ := ow2.tup h3
      exact ⟨_, sf, o3, cl_dat (.tup upd_same (dqall_keyV _))⟩)

/-! ### d.values() as a value -/
def valsO (p d : Addr) : HO := .ext fun h => h.IsValuesView p d
theorem valsO_ok {P : Program} {w : World} {H : Hp} {h : Heap} {p d : Addr} (e : h.get? p = some { cls := .type "dict_values", data := .fields #[.ref d] }) : ObjOk P w H h p (valsO p d) :=
  ⟨⟨_, e, rfl, rfl⟩, ⟨_, e⟩, fun h1 h2 x k => let ⟨o, ho, r⟩ := x; ⟨o, k o ho, r⟩⟩
def tVals (td : TE) : TE := fun σ H Q => td σ H fun x H1 => ∃ (d : Addr) (kvs : List (Key × L2.V)), x = .ref d ∧ Rd H1 d (.dK kvs) ∧ ∀ p, H1 p = none → Q (.ref p) (upd H1 p (valsO p d))
theorem pe_vals {td : TE} (he : PE X e td) (hbase : attributeBase e "values" X.env (eval e X.env) = eval e X.env := by rfl) (hline : (apos.endLine == cpos.line) = true := by rfl) : PE X (.Call (.Attribute e "values" apos) [] [] cpos) (tVals td) := by
  refine ⟨fun pins s σ H R I h => ?_⟩
  refine wpAny_Call_method (T := "dict") (id := "dict.values") hbase rfl hline PySem.F.plainAttrs_dict PySem.F.slot_dict_values PySem.F.type_dict_values (thn (he.run pins s σ H _ I h) fun u s1 ⟨x, H1, I1, rx, d, kvs, ex, rd, q⟩ => ?_)
  subst ex
  obtain rfl : u = Value.ref d := rx
  obtain ⟨z, hs, vs, rel, dd⟩ := dk_rd I1.hok rd
  refine ⟨dd.typeIs, dd.mapOf.noDict, ?_⟩
  have hf : H1 s1.heap.objs.size = none := I1.hok.fresh (Nat.le_refl _)
  have fin : EP X pins σ R (.ref s1.heap.objs.size) { s1 with heap := s1.heap.push { cls := .type "dict_values", data := .fields #[.ref d] } } :=
    ⟨.ref s1.heap.objs.size, upd H1 s1.heap.objs.size (valsO s1.heap.objs.size d), I1.laid (t' := s1.toks) (fun b u e => Heap.get?_push_of_some _ e) (Nat.le_refl _) (valsO_ok (Heap.get?_push_size _ rfl)), rfl, q _ hf⟩
  show wpAny _ _ (callWith cpos (.builtin "dict.values") [.ref d] [] []) _ X.xe s1
  exact method_meetsIn PySem.F.slot_dict_values PySem.F.entry_dict_values rfl (PySem.evalArgs_none ⟨rfl, dd.typeIs, PySem.F.args_dict_values_1 _, _, meets_dict_values (mixKind X.prog X.w) d hs, ⟨vs, dd⟩, fin⟩)
def vwV (φ : VP) : VP := fun F v => ∃ p a, v = .ref p ∧ F p = some (valsO p a) ∧ Cl φ F (.ref a)
theorem ex_vals {f : κ → Key} {d : List (κ × PyData)} (hr : RdD (.fl f) φ os1 d) (he : EX X es os e φ os1) (hbase : attributeBase e "values" X.env (eval e X.env) = eval e X.env := by rfl) (hline : (apos.endLine == cpos.line) = true := by rfl) :
    EX X es os (.Call (.Attribute e "values" apos) [] [] cpos) (vwV φ) os1 := fun F σ H Q ow sl q =>
  we_of (pe_vals pe_u hbase hline) (he F σ H _ ow sl fun F1 H1 v e1 o1 c1 => by
    obtain ⟨a, kvs, rfl, rd, dv⟩ := hr F1 H1 v o1 c1
    refine ⟨a, _, rfl, rd, fun p hp => ?_⟩
    have fp := o1.ex.free hp
    exact q _ _ _ (e1.trans (same_upd fp)) (o1.frozen hp) fun G g => ⟨p, a, rfl, g _ _ upd_same, (c1.mono (same_upd fp)).mono g⟩)
theorem presum_ints : ∀ (ns : List Int) (n : Nat), n ≤ ns.length → preSum (fun i => ns.getD i 0) n = (ns.take n).sum
  | ns, 0, _ => by simp [preSum]
  | ns, n + 1, h => by
    rw [preSum, presum_ints ns n (by omega), List.take_add_one, List.getElem?_eq_getElem (by omega), List.sum_append]
    simp [List.getD_eq_getElem?_getD, List.getElem?_eq_getElem (show n < ns.length by omega)]
def rSumV : List L2.V → Hp → VK → Prop := fun xs H Q => ∃ (p d : Addr) (kvs : List (Key × L2.V)) (ns : List Int), xs = [.ref p] ∧ H p = some (valsO p d) ∧ Rd H d (.dK kvs) ∧ kvs.map (·.2) = ns.map L2.V.int ∧ Q (.int ns.sum) H
theorem kv_vals {κ : Type} : ∀ {kvs : List (κ × L2.V)} {vs : List (κ × Value)} {ns : List Int}, KV kvs vs → kvs.map (·.2) = ns.map L2.V.int → ∀ (i : Nat) (k : κ) (v : Value), vs[i]? = some (k, v) → ∃ t, v = Value.int (ns.getD i 0) t
  | [], [], _, _, _, i, k, v, h => by simp at h
  | _, _, [], .cons h1 h2, e, _, _, _, _ => by cases e
  | (a, x) :: kvs, (b, u) :: vs, m :: ns, .cons h1 h2, e, i, k, v, h => by
    rw [List.map_cons, List.map_cons] at e
    injection e with e1 e2
    cases i with
    | zero =>
      simp at h
      obtain ⟨rfl, rfl⟩ := h
      have e1 : x = L2.V.int m := e1
      subst e1
      exact h1.2
    | succ i => exact kv_vals h2 e2 i k v (by simpa using h)
theorem cr_sumV (hc : X.calm = true) : CallR X (.builtin "sum") rSumV := by
  intro pins s σ H vs us Q I r h
  obtain ⟨p, d, kvs, ns, rfl, hp, rd, hk, q⟩ := h
  obtain ⟨u, rfl, ru⟩ := vals1 r
  obtain rfl : u = Value.ref p := ru
  obtain ⟨hv, _, _⟩ := I.hok p _ hp
  have hv : s.heap.IsValuesView p d := hv
  obtain ⟨z, hs, vs, rel, dd⟩ := dk_rd I.hok rd
  obtain ⟨o, es, ep, dr⟩ := id dd
  have da : s.heap.DictAt (mixKind X.prog X.w) d vs ep := ⟨o, es, dr⟩
  have K := PySem.W.kdl_values (prog := X.prog) (w := X.w) (knd := mixKind X.prog X.w) (d := d) (r := p) (kvs := vs) (ep := ep)
  have hh := I.ok.hd hc
  refine call_sum_walkAnyS ?_
  obtain ⟨oI, St, hit, W, st⟩ := K.iter X.A.in1 s hh ⟨hv, da⟩
  have hl : vs.length = ns.length := by
    have h1 : kvs.length = ns.length := by
      have := congrArg List.length hk
      rw [List.length_map, List.length_map] at this
      exact this
    rw [← rel.length]
    exact h1
  refine hit _ _ ⟨s.heap.objs.size, _, _, _, vs.length, _, _, fun i => ns.getD i 0, rfl, W.toS, st, fun b hb => ?_, fun i v ⟨k, hk2⟩ => kv_vals rel hk i k v hk2, fun s' t' hm => ?_⟩
  · show b < (s.heap.push oI).objs.size
    rw [size_push']
    rcases List.mem_cons.mp hb with e | hb
    · rw [e]; exact Nat.lt_succ_self _
    · rw [List.mem_singleton.mp hb]; exact Nat.lt_succ_of_lt (K.there _ ⟨hv, da⟩).2
  · have hk : ∀ b o, s.heap.get? b = some o → s'.heap.get? b = some o := fun b o e =>
      hm.heap b o (fun hI => absurd (Heap.lt_size e) (by rw [List.mem_singleton.mp hI]; exact Nat.lt_irrefl _)) (Heap.get?_push_of_some _ e)
    rw [Moved.eq_with hm, hl, presum_ints ns _ (Nat.le_refl _), List.take_length]
    exact ⟨.int _, H, I.kept hk, ⟨_, rfl⟩, q⟩
theorem dv_ints {F : Hp} : ∀ {kvs : List (κ × L2.V)} {w : List (κ × Int)}, DV F kvs (eM PyData.int w) → kvs.map (·.2) = (w.map (·.2)).map L2.V.int
  | [], [], _ => rfl
  | [], _ :: _, h => by cases h
  | _ :: _, [], h => by cases h
  | _ :: _, _ :: _, .cons h1 h2 => by
    rw [List.map_cons, List.map_cons, List.map_cons, dv_ints h2]
    cases h1
    rfl
theorem rc_sumV {f : κ → Key} {w : List (κ × Int)} (hr : RdD (.fl f) φ os (eM PyData.int w)) : RCX rSumV [vwV φ] os (dat (.int (w.map (·.2)).sum)) os := fun F H vs Q ow c q => by
  obtain ⟨v, rfl, h⟩ := cla1 c
  obtain ⟨p, a, rfl, hp, ca⟩ := h.now
  obtain ⟨a', kvs, ea, rd, dv⟩ := hr F H _ ow ca
  cases ea
  refine ⟨p, a, _, w.map (·.2), rfl, ow.ex _ _ hp, rd, ?_, q F H _ (Same.refl F) ow (cl_dat (.int _))⟩
  rw [List.map_map]
  exact dv_ints dv
/-- list(d.values()) -/
def rListV : List L2.V → Hp → VK → Prop := fun xs H Q => ∃ (p d : Addr) (kvs : List (Key × L2.V)), xs = [.ref p] ∧ H p = some (valsO p d) ∧ Rd H d (.dK kvs) ∧ ∀ m, H m = none → Q (.ref m) (upd H m (.lst (kvs.map (·.2))))
theorem kv_all {κ : Type} {kvs : List (κ × L2.V)} {vs : List (κ × Value)} (r : KV kvs vs) : Vals (kvs.map (·.2)) (vs.map (·.2)) := by
  induction r with
  | nil => exact .nil
  | cons h1 h2 ih => exact .cons h1.2 ih
theorem itemsOf_list {P : Nat → Value → Prop} {acc : Array Value} {n : Nat} {us : List Value} (h : ItemsOf P acc n) (hl : us.length = n) (hp : ∀ i v, P i v → us[i]? = some v) : acc.toList = us := by
  refine List.ext_getElem? fun i => ?_
  by_cases hi : i < n
  · have h1 : i < acc.size := by rw [h.1]; exact hi
    have := hp i acc[i] (h.2 i _ (Array.getElem?_eq_getElem h1))
    rw [this, Array.getElem?_toList, Array.getElem?_eq_getElem h1]
  · rw [List.getElem?_eq_none (by rw [Array.length_toList, h.1]; omega), List.getElem?_eq_none (by omega)]
theorem cr_listV (hc : X.calm = true) : CallR X (.type "list") rListV := by
  intro pins s σ H vs us Q I r h
  obtain ⟨p, d, kvs, rfl, hp, rd, q⟩ := h
  obtain ⟨u, rfl, ru⟩ := vals1 r
  obtain rfl : u = Value.ref p := ru
  obtain ⟨hv, _, _⟩ := I.hok p _ hp
  have hv : s.heap.IsValuesView p d := hv
  obtain ⟨z, hs, vs, rel, dd⟩ := dk_rd I.hok rd
  obtain ⟨o, es, ep, dr⟩ := id dd
  have da : s.heap.DictAt (mixKind X.prog X.w) d vs ep := ⟨o, es, dr⟩
  have K := PySem.W.kdl_values (prog := X.prog) (w := X.w) (knd := mixKind X.prog X.w) (d := d) (r := p) (kvs := vs) (ep := ep)
  refine PySem.W.kdl_call K (I.ok.hd hc) ⟨hv, da⟩ (by rw [← rel.length]; exact z) fun h' tk acc c hk hl hi => ?_
  have hf : H s.heap.objs.size = none := I.hok.fresh (Nat.le_refl _)
  refine ⟨.ref s.heap.objs.size, upd H s.heap.objs.size (.lst (kvs.map (·.2))), I.laid (t' := tk) hk (Nat.le_refl _) ?_, rfl, q _ hf⟩
  refine ⟨by rw [List.length_map]; exact z, acc.toList, c, ?_, ?_⟩
  · rw [itemsOf_list (us := vs.map (·.2)) hi (by rw [List.length_map]) fun i v ⟨k, h⟩ => by rw [List.getElem?_map, h]; rfl]
    exact kv_all rel
  · rw [Array.toArray_toList]
    exact hl
theorem rc_listV {f : κ → Key} (hr : RdD (.fl f) φ os (eM enc w)) : RCN rListV [vwV φ] os (ol ((w.map (·.2)).map enc)) os := fun F H vs Q ow c q => by
  obtain ⟨v, rfl, h⟩ := cla1 c
  obtain ⟨p, a, rfl, hp, ca⟩ := h.now
  obtain ⟨a', kvs, ea, rd, dv⟩ := hr F H _ ow ca
  cases ea
  refine ⟨p, a, _, rfl, ow.ex _ _ hp, rd, fun m hm => q F _ m (Same.refl F) (ow.new hm fun G g => ⟨_, rfl, ?_⟩)⟩
  have := dv_vals dv
  rw [List.map_map] at this
  rw [List.map_map, List.map_map]
  exact dqall_mono g _ _ this
/-- list(d) -/
def rListK : List L2.V → Hp → VK → Prop := fun xs H Q => ∃ (d : Addr) (kvs : List (Key × L2.V)), xs = [.ref d] ∧ Rd H d (.dK kvs) ∧ ∀ m, H m = none → Q (.ref m) (upd H m (.lst (kvs.map fun p => kV p.1)))
theorem cr_listK (hc : X.calm = true) : CallR X (.type "list") rListK := by
  intro pins s σ H vs us Q I r h
  obtain ⟨d, kvs, rfl, rd, q⟩ := h
  obtain ⟨u, rfl, ru⟩ := vals1 r
  obtain rfl : u = Value.ref d := ru
  obtain ⟨z, hs, vs, rel, dd⟩ := dk_rd I.hok rd
  obtain ⟨o, es, ep, dr⟩ := id dd
  have da : s.heap.DictAt (mixKind X.prog X.w) d vs ep := ⟨o, es, dr⟩
  have K := PySem.W.kdl_dict (prog := X.prog) (w := X.w) (knd := mixKind X.prog X.w) (d := d) (kvs := vs) (ep := ep) hs
  refine PySem.W.kdl_call K (I.ok.hd hc) da (by rw [← rel.length]; exact z) fun h' tk acc c hk hl hi => ?_
  have hf : H s.heap.objs.size = none := I.hok.fresh (Nat.le_refl _)
  refine ⟨.ref s.heap.objs.size, upd H s.heap.objs.size (.lst (kvs.map fun p => kV p.1)), I.laid (t' := tk) hk (Nat.le_refl _) ?_, rfl, q _ hf⟩
  refine ⟨by rw [List.length_map]; exact z, acc.toList, c, ?_, ?_⟩
  · have key : ∀ (kvs : List (Key × L2.V)) (vs : List (Key × Value)) (us : List Value), KV kvs vs → us.length = vs.length → (∀ (i : Nat) (v : Value), us[i]? = some v → ∃ k x, vs[i]? = some (k, x) ∧ (mixKind X.prog X.w).is k v = true) → Vals (kvs.map fun p => kV p.1) us := by
      intro kvs
      induction kvs with
      | nil =>
        intro vs us r hl hp
        cases r
        cases us with
        | nil => exact .nil
        | cons => simp at hl
      | cons kv kvs ih =>
        intro vs us r hl hp
        cases r with
        | @cons _ b _ vs h1 h2 =>
          cases us with
          | nil => simp at hl
          | cons u us =>
            obtain ⟨k, x, e1, e2⟩ := hp 0 u rfl
            simp at e1
            subst e1
            refine .cons ?_ (ih vs us h2 (by simpa using hl) fun i v hv => ?_)
            · have e3 : keyIs k u = true := e2
              have e4 : kv.1 = k := h1.1
              show L2.RelV (kV kv.1) u
              rw [e4]
              exact relV_key e3
            · obtain ⟨k, x, e3, e4⟩ := hp (i + 1) v (by simpa using hv)
              exact ⟨k, x, by simpa using e3, e4⟩
    refine key kvs vs acc.toList rel (by rw [Array.length_toList]; exact hi.1) fun i v hv => ?_
    exact hi.2 i v (by rw [← Array.getElem?_toList]; exact hv)
  · rw [Array.toArray_toList]
    exact hl
theorem rc_listK {f : κ → Key} (hr : RdD (.fl f) φ os (eM enc w)) : RCN rListK [φ] os (ol ((w.map (·.1)).map (Kd.fl f).ek)) os := fun F H vs Q ow c q => by
  obtain ⟨v, rfl, h⟩ := cla1 c
  obtain ⟨a, kvs, rfl, rd, dv⟩ := hr F H _ ow h
  refine ⟨a, _, rfl, rd, fun m hm => q F _ m (Same.refl F) (ow.new hm fun G g => ⟨_, rfl, ?_⟩)⟩
  have hk := dv_keys dv
  rw [List.map_map] at hk
  have hk : kvs.map (·.1) = w.map (·.1) := hk
  rw [← hk, List.map_map, List.map_map]
  have key : ∀ l : List (κ × L2.V), DqAll G (l.map fun p => kV (f p.1)) (l.map fun p => kPD (f p.1)) := fun l => by
    induction l with
    | nil => exact .nil
    | cons x l ih => exact .cons (dq_keyV _) ih
  exact key kvs
end
end Z
/-! Z, part V: dict comprehensions, comprehensions of new owned things, general targets. -/
namespace Z
open PySem PySem.Spec PyProof.Rows L2

theorem zip_snoc {α β : Type} : ∀ {qs : List α} {es : List β} {q : α} {e : β}, qs.length = es.length → (qs ++ [q]).zip (es ++ [e]) = qs.zip es ++ [(q, e)]
  | [], [], _, _, _ => rfl
  | [], _ :: _, _, _, h => by simp at h
  | _ :: _, [], _, _, h => by simp at h
  | a :: qs, b :: es, q, e, h => by
    rw [List.cons_append, List.cons_append, List.zip_cons_cons, List.zip_cons_cons, zip_snoc (by simpa using h)]
    rfl
theorem Ow.snoc {F H : Hp} {os : Os} {p q : Addr} {qs : List Addr} {es : List Ent} {e : Ent} (h : Ow F ((q, e) :: (p, onl qs es) :: os) H) : H p = some (.lst (qs.map .ref)) ∧ qs.length = es.length ∧
    Ow F ((p, onl (qs ++ [q]) (es ++ [e])) :: os) (upd H p (.lst (qs.map .ref ++ [.ref q]))) := by
  obtain ⟨o1, hl⟩ := (h.perm (List.Perm.swap _ _ _)).opn
  obtain ⟨_, o, ho, _, rfl⟩ := o1.atU uni_orf
  refine ⟨ho, hl, ?_⟩
  have o2 := o1.putU (e' := orf (qs ++ [q])) (o := .lst ((qs ++ [q]).map .ref)) uni_orf fun _ _ => rfl
  rw [List.map_append] at o2
  refine Ow.cls ?_ (by rw [List.length_append, List.length_append, hl]; rfl)
  rw [zip_snoc hl, List.append_assoc]
  exact o2
/-- what a comprehension asks of its target and of what it walks -/
structure CpOk (X : Cx) (es : List Slot) (os : Os) {α : Type} (tg iter : Expr) (scope : Scope) (own : List (Str × Nat)) (xs : List α) (vp : α → VP) (c : Os → Prop) (g : TG) (up : α → List Slot → List Slot) (os0 : Os) : Prop where
  calm : X.calm = true
  nd : X.N.Nodup
  ok : BlkOk X.N X.env.scope scope own
  pg : ∀ X', Fam X scope X' → PG X' tg g
  hv : ∀ j ∈ own.map (·.2), es[j]? = some un
  hid : ∀ σ : L2.St, wipe (wipe σ (own.map (·.2))) (own.map (·.2)) = wipe σ (own.map (·.2))
  hg : ∀ x F σ H v Q os2, Sl F es σ → wipe σ (own.map (·.2)) = σ → Ow F os2 H → Cl (vp x) F v → (∀ σ', Sl F (up x es) σ' → wipe σ' (own.map (·.2)) = σ → Q σ' H) → g v σ H Q
  hz : xs.length < sizeLine
  hi : IX X tg es os iter xs vp c os0
  hc : ∀ q, c (q :: os0)
section
variable {X : Cx} {es : List Slot} {os os0 os1 os2 : Os} {F0 : Hp} {rest : List Stmt} {D : Ends} {N V G W : List Str} {k i j vi gi : Nat} {x y : Str} {p pos tpos : Pos} {e : Expr} {α β κ γ : Type} {scope : Scope} {iter tg elt kx vx : Expr} {ifs : List Expr} {own : List (Str × Nat)} {xs : List α} {vp : α → VP} {c : Os → Prop} {g : TG} {up : α → List Slot → List Slot}
theorem cp_mk1 (B : Bd X N W G k) (hj : N[j]? = some x) (hun : es[j]? = some un) (hblk : blkC X.N X.env.scope scope [(x, j)] = true) (hown : ownB scope X.env.scope x = true) (hz : xs.length < sizeLine) (hi : IX X (.Name x tpos) es os iter xs vp c os0) (hc : ∀ q, c (q :: os0)) :
    CpOk X es os (.Name x tpos) iter scope [(x, j)] xs vp c (gName j) (fun x es => es.set j (sl (vp x))) os0 where
  calm := B.calm
  nd := B.hN ▸ B.nd
  ok := blkOk_by hblk
  pg := fun X' hX => pg_own hX B hj hown
  hv := fun m hm => by
    have e : m = j := by simpa using hm
    rw [e]
    exact hun
  hid := lc_id1
  hg := fun x F σ H v Q os2 sl hw ow c q => lc_gname x F σ H v Q os2 sl hw ow c q
  hz := hz
  hi := hi
  hc := hc
theorem cp_mk2 {d1 d2 : α → PyData} {p1 p2 : Pos} {kk : Nat} (B : Bd X N W G k) (hi : N[i]? = some x) (hj : N[j]? = some y) (hij : i ≠ j) (hu1 : es[i]? = some un) (hu2 : es[j]? = some un) (hblk : blkC X.N X.env.scope scope [(x, i), (y, j)] = true)
    (ho1 : ownB scope X.env.scope x = true) (ho2 : ownB scope X.env.scope y = true) (hz : xs.length < sizeLine) (hx : IX X (.Tuple [.Name x p1, .Name y p2] kk tpos) es os iter xs (fun z => dat (.tuple [d1 z, d2 z])) c os0) (hc : ∀ q, c (q :: os0)) :
    CpOk X es os (.Tuple [.Name x p1, .Name y p2] kk tpos) iter scope [(x, i), (y, j)] xs (fun z => dat (.tuple [d1 z, d2 z])) c (gTup X.K 2 (gCons (gName i) (gCons (gName j) gNil))) (fun z es => (es.set i (sl (dat (d1 z)))).set j (sl (dat (d2 z)))) os0 where
  calm := B.calm
  nd := B.hN ▸ B.nd
  ok := blkOk_by hblk
  pg := fun X' hX => by
    have hK : X'.K = X.K := by
      obtain ⟨_, _, _, _, _, rfl⟩ := hX
      rfl
    have := pg_own2 (tpos := tpos) (kk := kk) (p1 := p1) (p2 := p2) hX B hi hj ho1 ho2
    rw [hK] at this
    exact this
  hv := fun m hm => by
    have e : m = i ∨ m = j := by simpa using hm
    rcases e with rfl | rfl
    · exact hu1
    · exact hu2
  hid := lc_id2 hij
  hg := fun x F σ H v Q os2 sl hw ow c q => lc_gpair hij x F σ H v Q os2 sl hw ow c q
  hz := hz
  hi := hx
  hc := hc

/-! ### [new owned things] -/
def LnS (f : γ → Ent) (m : α → Option γ) (xs : List α) (ys : List γ) (os0 : Os) (Dl : Addr) (F1 : Hp) (i : Nat) (H : Hp) : Prop :=
  ∃ d r F, mapO m (xs.drop i) = some r ∧ ys = d ++ r ∧ d.length ≤ i ∧ Same F1 F ∧ Ow F ((Dl, onx (d.map f)) :: os0) H
theorem ln_read {f : γ → Ent} {m : α → Option γ} {ys : List γ} (h : CpOk X es os tg iter scope own xs vp c g up os0) (hl : mapO m xs = some ys)
    (hb : ∀ x y q, x ∈ xs → m x = some y → ∀ X', Fam X scope X' → EN X' (up x es) (q :: os0) elt (f y) (q :: os0))
    {F σ H Q} (ow : Ow F os H) (sl : Sl F es σ) (q : ∀ F' H' p, Same F F' → Ow F' ((p, onx (ys.map f)) :: os0) H' → Q (.ref p) H') : tLc (WI X tg iter) g (tIfs X scope []) (tElt X scope elt) (own.map (·.2)) σ H Q := by
  refine h.hi F σ H _ ow sl fun F1 H1 J e1 o1 good Dl hD => ?_
  refine ⟨fun i n H => n = xs.length - i ∧ i ≤ xs.length ∧ LnS f m xs ys os0 Dl F1 i H, ⟨_, rfl, Nat.zero_le _, [], ys, F1, hl, rfl, Nat.le_refl _, Same.refl F1, ?_⟩, ?_⟩
  · refine o1.new hD fun G s => ⟨[], [], ?_, .nil, ?_, (fun _ z => nomatch z), rfl⟩
    · show one Dl (.lst []) = ov (one Dl (.lst [])) (fun _ => none)
      funext a
      cases z : one Dl (.lst []) a with
      | none => rw [ov_none z]
      | some u => rw [ov_some z]
    · exact List.pairwise_cons.mpr ⟨(fun _ z => nomatch z), .nil⟩
  · rintro i n H' ⟨rfl, hi, d, r, F', hr, hy, hdl, e', o'⟩
    obtain ⟨stop, go⟩ := good F' H' _ i e' o' (h.hc _)
    cases hx : xs[i]? with
    | none =>
      have hi2 : xs.length ≤ i := List.getElem?_eq_none_iff.mp hx
      rw [List.drop_eq_nil_of_le hi2] at hr
      cases hr
      refine .inl ⟨stop hi2, q F' H' Dl (e1.trans e') ?_⟩
      rw [hy, List.append_nil]
      exact o'
    | some x =>
      obtain ⟨hgo, hyl⟩ := go x hx
      have hlt : i < xs.length := (List.getElem?_eq_some_iff.mp hx).1
      rw [drop_cons' hx] at hr
      unfold mapO at hr
      obtain ⟨y, hm, hr⟩ := bnd hr
      obtain ⟨r', hr1, hr2⟩ := bnd hr
      obtain rfl := som hr2
      refine .inr ⟨hgo, LnS f m xs ys os0 Dl F1 (i + 1), fun H2 hH2 => ⟨_, by omega, rfl, by omega, hH2⟩, fun v H3 yv => ?_⟩
      obtain ⟨F3, e3, o3, c3⟩ := hyl v H3 yv
      have slw : Sl F3 es (wipe σ (own.map (·.2))) := sl_wipe (sl.mono ((e1.trans e').trans e3)) _ fun j hj => ⟨un, h.hv j hj, rfl⟩
      refine h.hg x F3 _ H3 v _ _ slw (h.hid σ) o3 c3 fun σ' sl' hw => ⟨hw, ?_⟩
      intro X' hX'
      refine hb x y _ (List.mem_of_getElem? hx) hm X' hX' F3 σ' H3 _ o3 sl' fun F5 H5 qn e5 o5 => ?_
      obtain ⟨qs, o6⟩ := (o5.perm (List.Perm.swap _ _ _)).opx
      obtain ⟨hp, hlen, o7⟩ := (o6.perm (List.Perm.swap _ _ _)).snoc
      rw [List.length_map] at hlen
      refine ⟨_, hp, by rw [List.length_map, hlen]; have := h.hz; omega, d ++ [y], r', F5, hr1, by rw [hy, List.append_assoc]; rfl, by rw [List.length_append, List.length_singleton]; omega, (e'.trans e3).trans e5, ?_⟩
      rw [List.map_append]
      exact o7.clx
theorem en_lcN {f : γ → Ent} {m : α → Option γ} {ys : List γ} (h : CpOk X es os tg iter scope own xs vp c g up os0) (hl : mapO m xs = some ys)
    (hb : ∀ x y q, x ∈ xs → m x = some y → ∀ X', Fam X scope X' → EN X' (up x es) (q :: os0) elt (f y) (q :: os0)) (hs : ∀ x, foldedSetIterable iter X.env x = pure x := by intro _; rfl) : EN X es os (.ListComp elt [⟨tg, iter, [], 0⟩] scope pos) (onx (ys.map f)) os0 := fun F σ H Q ow sl q =>
  we_of (pe_lc h.calm h.nd pi_u h.ok (fun s H C cl fp => h.pg _ ⟨s, H, C, cl, fp, rfl⟩) (fun s H C cl fp => pts_u ⟨s, H, C, cl, fp, rfl⟩ []) (fun s H C cl fp => pe_elt ⟨s, H, C, cl, fp, rfl⟩) hs)
    (ln_read h hl hb ow sl q)
theorem sx_asgLcN {y : Str} {py spos : Pos} {f : γ → Ent} {m : α → Option γ} {ys : List γ} (B : Bd X N W G k) (T : Bt X V) (hi : N[i]? = some y) (hyl : X.env.scope.names.lookup y = some .local) (h : CpOk X es os tg iter scope own xs vp c g up os0) (hl : mapO m xs = some ys)
    (hb : ∀ x y q, x ∈ xs → m x = some y → ∀ X', Fam X scope X' → EN X' (up x es) (q :: os0) elt (f y) (q :: os0))
    (hsw : swapsWith (.ListComp elt [⟨tg, iter, [], 0⟩] scope pos) (some (.Name y py)) spos.line X.env = pure true)
    (hn : ∀ p, SX X (es.set i (sl (Z.own p))) ((p, onx (ys.map f)) :: os0) F0 rest D) (hs : ∀ x, foldedSetIterable iter X.env x = pure x := by intro _; rfl) : SX X es os F0 (.Assign [.Name y py] (.ListComp elt [⟨tg, iter, [], 0⟩] scope pos) spos :: rest) D := fun F σ H s ow sl =>
  wps_cons (ws_of (ps_setLc h.calm h.nd (B.hN ▸ hi) hyl hsw pi_u h.ok (fun s H C cl fp => h.pg _ ⟨s, H, C, cl, fp, rfl⟩) (fun s H C cl fp => pts_u ⟨s, H, C, cl, fp, rfl⟩ []) (fun s H C cl fp => pe_elt ⟨s, H, C, cl, fp, rfl⟩) hs)
    (ln_read (Q := fun v H1 => gName i v σ H1 (WPs X rest D)) h hl hb ow sl fun F1 H1 p e1 o1 => hn p F1 _ H1 (s.trans e1) o1 ((sl.mono e1).put cl_own)))

/-! ### {k: v for ..} -/
def dcS [DecidableEq κ] (m : α → Option (Option (κ × β))) : List α → List (κ × β) → Option (List (κ × β))
  | [], w => some w
  | x :: xs, w => (m x).bind fun t => dcS m xs (match t with
    | some z => dPut w z.1 z.2
    | none => w)
theorem dput_len [DecidableEq κ] (w : List (κ × β)) (k : κ) (v : β) : (dPut w k v).length ≤ w.length + 1 := by
  unfold dPut
  split
  · rw [List.length_map]; omega
  · rw [List.length_append]; simp
def DcT [DecidableEq κ] (f : κ → Key) (enc : β → PyData) (m : α → Option (Option (κ × β))) (xs : List α) (wf : List (κ × β)) (os0 : Os) (Dl : Addr) (F1 : Hp) (i : Nat) (H : Hp) : Prop :=
  ∃ w F, dcS m (xs.drop i) w = some wf ∧ w.length ≤ i ∧ Same F1 F ∧ Ow F ((Dl, od (.fl f) (eM enc w)) :: os0) H
theorem dc_read [DecidableEq κ] {f : κ → Key} {enc : β → PyData} {m : α → Option (Option (κ × β))} {wf : List (κ × β)} (hinj : (Kd.fl f).Inj) (h : CpOk X es os tg iter scope own xs vp c g up os0) (hif : ifs.length ≤ 1) (hl : dcS m xs [] = some wf)
    (hb : ∀ x t q, x ∈ xs → m x = some t → ∃ b, ∀ X', Fam X scope X' → PTX X' (up x es) (q :: os0) ifs b (q :: os0) ∧ (b = true → ∃ z, t = some z ∧ EX X' (up x es) (q :: os0) kx (dat ((Kd.fl f).ek z.1)) (q :: os0) ∧ EX X' (up x es) (q :: os0) vx (dat (enc z.2)) (q :: os0)) ∧ (b = false → t = none))
    {F σ H Q} (ow : Ow F os H) (sl : Sl F es σ) (q : ∀ F' H' p, Same F F' → Ow F' ((p, od (.fl f) (eM enc wf)) :: os0) H' → Q (.ref p) H') : tDc (WI X tg iter) g (tIfs X scope ifs) (tElt X scope kx) (tElt X scope vx) (own.map (·.2)) σ H Q := by
  refine h.hi F σ H _ ow sl fun F1 H1 J e1 o1 good Dl hD => ?_
  refine ⟨fun i n H => n = xs.length - i ∧ i ≤ xs.length ∧ DcT f enc m xs wf os0 Dl F1 i H, ⟨_, rfl, Nat.zero_le _, [], F1, hl, Nat.le_refl _, Same.refl F1, ?_⟩, ?_⟩
  · exact o1.new hD (od_one (kd := .fl f) .nil)
  · rintro i n H' ⟨rfl, hi, w, F', hr, hwl, e', o'⟩
    obtain ⟨stop, go⟩ := good F' H' _ i e' o' (h.hc _)
    cases hx : xs[i]? with
    | none =>
      have hi2 : xs.length ≤ i := List.getElem?_eq_none_iff.mp hx
      rw [List.drop_eq_nil_of_le hi2] at hr
      cases hr
      exact .inl ⟨stop hi2, q F' H' Dl (e1.trans e') o'⟩
    | some x =>
      obtain ⟨hgo, hyl⟩ := go x hx
      have hlt : i < xs.length := (List.getElem?_eq_some_iff.mp hx).1
      rw [drop_cons' hx] at hr
      unfold dcS at hr
      obtain ⟨t, hm, hr⟩ := bnd hr
      refine .inr ⟨hgo, DcT f enc m xs wf os0 Dl F1 (i + 1), fun H2 hH2 => ⟨_, by omega, rfl, by omega, hH2⟩, fun v H3 yv => ?_⟩
      obtain ⟨F3, e3, o3, c3⟩ := hyl v H3 yv
      have slw : Sl F3 es (wipe σ (own.map (·.2))) := sl_wipe (sl.mono ((e1.trans e').trans e3)) _ fun j hj => ⟨un, h.hv j hj, rfl⟩
      refine h.hg x F3 _ H3 v _ _ slw (h.hid σ) o3 c3 fun σ' sl' hw => ⟨hw, ?_⟩
      obtain ⟨b, key⟩ := hb x t (Dl, od (.fl f) (eM enc w)) (List.mem_of_getElem? hx) hm
      have yes : ∀ F4 H4, Same F3 F4 → Ow F4 ((Dl, od (.fl f) (eM enc w)) :: os0) H4 → b = true → tElt X scope kx σ' H4 fun y H5 => tElt X scope vx σ' H5 fun z H6 => ∃ kvs k, y = kV k ∧ H6 Dl = some (.dK kvs) ∧ kvs.length < sizeLine ∧ DcT f enc m xs wf os0 Dl F1 (i + 1) (upd H6 Dl (.dK (putK kvs k z))) := by
        intro F4 H4 e4 o4 hbt X' hX'
        obtain ⟨_, k2, _⟩ := key X' hX'
        obtain ⟨z, rfl, k3, _⟩ := k2 hbt
        refine k3 F4 σ' H4 _ o4 (sl'.mono e4) fun F5 H5 y e5 o5 c5 => ?_
        intro X'' hX''
        obtain ⟨_, k2', _⟩ := key X'' hX''
        obtain ⟨z', ez, _, k4⟩ := k2' hbt
        cases ez
        refine k4 F5 σ' H5 _ o5 (sl'.mono (e4.trans e5)) fun F6 H6 u e6 o6 c6 => ?_
        obtain ⟨_, o, ho, _, kvs, rfl, dv⟩ := o6.atU uni_od
        have hlen : kvs.length = w.length := by rw [dv_len dv, List.length_map]
        refine ⟨_, f z.1, key_val (kd := .fl f) (c5.mono e6), ho, by rw [List.length_map, hlen]; have := h.hz; omega, ?_⟩
        have e7 : putK (kvs.map fun p => (f p.1, p.2)) (f z.1) u = (dPut kvs z.1 u).map fun p => (f p.1, p.2) := dPut_key hinj z.1 u kvs
        rw [e7]
        refine ⟨dPut w z.1 z.2, F6, hr, by have := dput_len w z.1 z.2; omega, ((e'.trans e3).trans e4).trans (e5.trans e6), ?_⟩
        exact o6.putU (o := (Kd.fl f).ho (dPut kvs z.1 u)) uni_od (od_one (kd := .fl f) (dput_enc dv c6.now))
      have no : ∀ F4 H4, Same F3 F4 → Ow F4 ((Dl, od (.fl f) (eM enc w)) :: os0) H4 → t = none → DcT f enc m xs wf os0 Dl F1 (i + 1) H4 := by
        intro F4 H4 e4 o4 ht
        subst ht
        exact ⟨w, F4, hr, by omega, (e'.trans e3).trans e4, o4⟩
      have ex : b = false → t = none ∨ ¬ ∃ X', Fam X scope X' := fun hb0 => by
        by_cases hX : ∃ X', Fam X scope X'
        · obtain ⟨X', hX'⟩ := hX
          exact .inl ((key X' hX').2.2 hb0)
        · exact .inr hX
      match ifs, hif, key, yes with
      | [], _, key, yes =>
        intro X' hX'
        obtain ⟨k1, k2, k3⟩ := key X' hX'
        cases k1
        exact yes F3 H3 (Same.refl F3) o3 rfl X' hX'
      | [cd], _, key, yes =>
        intro X' hX'
        obtain ⟨k1, k2, k3⟩ := key X' hX'
        cases k1 with
        | one ht =>
          refine ht F3 σ' H3 _ o3 sl' fun F4 H4 e4 o4 => ?_
          cases b with
          | true =>
            rw [if_pos rfl]
            exact yes F4 H4 e4 o4 rfl
          | false =>
            rw [if_neg Bool.false_ne_true]
            exact no F4 H4 e4 o4 (k3 rfl)
      | _ :: _ :: _, hif, _, _ =>
        rw [List.length_cons, List.length_cons] at hif
        omega
theorem en_dc [DecidableEq κ] {f : κ → Key} {enc : β → PyData} {m : α → Option (Option (κ × β))} {wf : List (κ × β)} (hinj : (Kd.fl f).Inj) (h : CpOk X es os tg iter scope own xs vp c g up os0) (hif : ifs.length ≤ 1) (hl : dcS m xs [] = some wf)
    (hb : ∀ x t q, x ∈ xs → m x = some t → ∃ b, ∀ X', Fam X scope X' → PTX X' (up x es) (q :: os0) ifs b (q :: os0) ∧ (b = true → ∃ z, t = some z ∧ EX X' (up x es) (q :: os0) kx (dat ((Kd.fl f).ek z.1)) (q :: os0) ∧ EX X' (up x es) (q :: os0) vx (dat (enc z.2)) (q :: os0)) ∧ (b = false → t = none))
    (hs : ∀ x, foldedSetIterable iter X.env x = pure x := by intro _; rfl) : EN X es os (.DictComp kx vx [⟨tg, iter, ifs, 0⟩] scope pos) (od (.fl f) (eM enc wf)) os0 := fun F σ H Q ow sl q =>
  we_of (pe_dc h.calm h.nd pi_u h.ok (fun s H C cl fp => h.pg _ ⟨s, H, C, cl, fp, rfl⟩) (fun s H C cl fp => pts_u ⟨s, H, C, cl, fp, rfl⟩ ifs) (fun s H C cl fp => pe_elt ⟨s, H, C, cl, fp, rfl⟩) (fun s H C cl fp => pe_elt ⟨s, H, C, cl, fp, rfl⟩) hs)
    (dc_read hinj h hif hl hb ow sl q)
end
end Z
/-! Z, part W: targets of any kind; methods of lists within lists. -/
namespace Z
open PySem PySem.Spec PyProof.Rows L2

/-- to assign a value of ψ to tg: slots and what is owned change -/
def GY (X : Cx) (tg : Expr) (ψ : VP) (es : List Slot) (os : Os) (es' : List Slot) (os' : Os) : Prop := ∀ F σ H v (Q : L2.St → Hp → Prop), Ow F os H → Sl F es σ → Cl ψ F v → (∀ F' σ' H', Same F F' → Ow F' os' H' → Sl F' es' σ' → Q σ' H') → WG X tg v σ H Q
section
variable {X : Cx} {es es1 es2 : List Slot} {os os1 os2 os3 os4 : Os} {F0 : Hp} {rest : List Stmt} {D : Ends} {N V G W : List Str} {n i j vi gi : Nat} {x : Str} {p pos tpos apos cpos : Pos} {e a b tg tg1 tg2 : Expr} {φ ψ : VP} {κ β γ : Type} {enc : β → PyData}
theorem gy_name (B : Bd X N W G n) (T : Bt X V) (hi : N[i]? = some x) (hv : V[vi]? = some x) : GY X (.Name x pos) ψ es os (es.set i (sl ψ)) os := fun F σ H v Q ow s c q =>
  wg_of (pg_name (B.hN ▸ B.nd) (B.hN ▸ hi) (T.loc x (List.mem_of_getElem? hv)) (.inl (T.fn x))) (q F _ H (Same.refl F) ow (s.put c))
/-- d[k] = v -/
theorem gy_dput [DecidableEq κ] {kd : Kd κ} {w w' : List (κ × β)} {k : κ} {y : β} {q : Addr} {os' : List (κ × β) → Os} (hi : kd.Inj) (hp : dPutO w k y = some w') (B : Bd X N W G n) (ho : EX X es os a (own q) os1) (hb : EX X es os1 b (dat (kd.ek k)) os2) (hw : WrT os2 q (odT kd enc) w os')
    (ha : ∀ v, assign (.Subscript a b tpos) X.env v = (do
      let ov ← holding [v] (eval a X.env)
      let iv ← holding [v, ov] (eval b X.env)
      standAt tpos
      holding [v, ov, iv] (setItem ov iv v)
      release [v, ov, iv] []) := by intro _; rfl) : GY X (.Subscript a b tpos) (dat (enc y)) es os es (os' w') := fun F σ H v Q ow s c qq => by
  unfold dPutO at hp
  split at hp
  · rename_i hl
    cases hp
    refine wg_of (pg_sub pe_u pe_u (set_dict B.u1) ha) (ho F σ H _ ow s fun F1 H1 u e1 o1 c1 => hb F1 σ H1 _ o1 (s.mono e1) fun F2 H2 z e2 o2 c2 => ?_)
    obtain rfl : u = .ref q := c1.now
    obtain ⟨_, o, hq, _, ⟨kvs, rfl, dv⟩, zz⟩ := hw F2 H2 _ uni_od o2
    have e := e1.trans e2
    refine ⟨q, _, rfl, dput_of hi o2.ex hq (key_val c2) (by rw [dv_len dv, List.length_map]; exact hl), ?_⟩
    exact qq F2 σ _ e (zz _ _ (Kd.ntup _ _) (od_one (dput_enc dv (c.mono e).now))) (s.mono e)
  · cases hp
/-- xs[i] = v -/
theorem gy_setL {xs ys : List β} {y : β} {z : Int} {q : Addr} {os' : List β → Os} (hy : setO xs z y = some ys) (ho : EX X es os a (own q) os1) (hb : EX X es os1 b (dat (.int z)) os2) (hw : WrT os2 q (olT enc) xs os')
    (ha : ∀ v, assign (.Subscript a b tpos) X.env v = (do
      let ov ← holding [v] (eval a X.env)
      let iv ← holding [v, ov] (eval b X.env)
      standAt tpos
      holding [v, ov, iv] (setItem ov iv v)
      release [v, ov, iv] []) := by intro _; rfl) : GY X (.Subscript a b tpos) (dat (enc y)) es os es (os' ys) := fun F σ H v Q ow s c qq => by
  obtain ⟨m, hm, h2⟩ := bnd hy
  cases h2
  refine wg_of (pg_sub pe_u pe_u L2.set_list ha) (ho F σ H _ ow s fun F1 H1 u e1 o1 c1 => hb F1 σ H1 _ o1 (s.mono e1) fun F2 H2 zv e2 o2 c2 => ?_)
  obtain rfl : u = .ref q := c1.now
  obtain ⟨_, o, hq, _, ⟨vs, rfl, dv⟩, zz⟩ := hw F2 H2 _ uni_ol o2
  have e := e1.trans e2
  have hl := dqall_len dv
  rw [List.length_map] at hl
  refine ⟨q, vs, z, m, rfl, clv_int c2, hq, by rw [hl]; exact hm, ?_⟩
  refine qq F2 σ _ e (zz _ (xs.set m y) (fun _ h => by cases h) fun G g => ⟨_, rfl, ?_⟩) (s.mono e)
  rw [List.map_set]
  exact dqall_mono g _ _ (dqall_set (c.mono e).now m dv)
/-- xs[i] = r, xs a list of owned things, r owned: the two change places -/
theorem gy_swp {f : γ → Ent} {ws : List γ} {d d0 : γ} {z : Int} {q r : Addr} {qs : List Addr} (hk : idx ws z = some d) (hr : os2[i]? = some (r, f d0)) (hj : (os2.eraseIdx i)[j]? = some (q, onl qs (ws.map f))) (ho : EX X es os a (own q) os1) (hb : EX X es os1 b (dat (.int z)) os2)
    (ha : ∀ v, assign (.Subscript a b tpos) X.env v = (do
      let ov ← holding [v] (eval a X.env)
      let iv ← holding [v, ov] (eval b X.env)
      standAt tpos
      holding [v, ov, iv] (setItem ov iv v)
      release [v, ov, iv] []) := by intro _; rfl) : GY X (.Subscript a b tpos) (own r) es os es ((qa qs z, f d) :: (os2.eraseIdx i).set j (q, onl (setI qs z r) ((setI ws z d0).map f))) := fun F σ H v Q ow s c qq => by
  refine wg_of (pg_sub pe_u pe_u L2.set_list ha) (ho F σ H _ ow s fun F1 H1 u e1 o1 c1 => hb F1 σ H1 _ o1 (s.mono e1) fun F2 H2 zv e2 o2 c2 => ?_)
  obtain rfl : u = .ref q := c1.now
  obtain rfl : v = .ref r := c.now
  have o3 := o2.perm (perm_at hr)
  have o4 := (o3.perm ((perm_at hj).cons _)).perm (List.Perm.swap _ _ _)
  obtain ⟨o5, hl⟩ := o4.opn
  rw [List.length_map] at hl
  obtain ⟨k1, k2⟩ := idx_at hk
  have hi : ixD ws.length z < ws.length := (List.getElem?_eq_some_iff.mp k2).1
  have hq : qs[ixD ws.length z]? = some (qa qs z) := by
    unfold qa
    rw [hl]
    exact getD_at (by rw [hl]; exact hi)
  obtain ⟨_, o, hh, _, rfl⟩ := o5.atU uni_orf
  refine ⟨q, qs.map .ref, z, ixD ws.length z, rfl, clv_int c2, hh, by rw [List.length_map, hl]; exact k1, ?_⟩
  refine qq F2 σ _ (e1.trans e2) ?_ (s.mono (e1.trans e2))
  have o6 := o5.putU (e' := orf (setI qs z r)) (o := .lst ((setI qs z r).map .ref)) uni_orf fun _ _ => rfl
  have em : (setI qs z r).map L2.V.ref = (qs.map L2.V.ref).set (ixD ws.length z) (.ref r) := by
    unfold setI
    rw [List.map_set, hl]
  rw [em] at o6
  -- the entries: r and the one at the place z exchanged
  have hz : (qs.zip (ws.map f))[ixD ws.length z]? = some (qa qs z, f d) := zip_at hq (by rw [List.getElem?_map, k2]; rfl)
  have pm : ((q, orf (setI qs z r)) :: (qs.zip (ws.map f) ++ (r, f d0) :: (os2.eraseIdx i).eraseIdx j)).Perm ((qa qs z, f d) :: (q, orf (setI qs z r)) :: ((setI qs z r).zip ((setI ws z d0).map f) ++ (os2.eraseIdx i).eraseIdx j)) := by
    have p1 : (qs.zip (ws.map f)).Perm ((qa qs z, f d) :: (qs.zip (ws.map f)).eraseIdx (ixD ws.length z)) := perm_at hz
    have p2 : ((r, f d0) :: (qs.zip (ws.map f)).eraseIdx (ixD ws.length z)).Perm ((qs.zip (ws.map f)).set (ixD ws.length z) (r, f d0)) := perm_set hz
    have p3 : (qs.zip (ws.map f)).set (ixD ws.length z) (r, f d0) = (setI qs z r).zip ((setI ws z d0).map f) := by
      unfold setI
      rw [List.map_set, hl]
      have : ∀ (qs : List Addr) (es : List Ent) (i : Nat) (q : Addr) (e : Ent), (qs.zip es).set i (q, e) = (qs.set i q).zip (es.set i e) := by
        intro qs
        induction qs with
        | nil => intro es i q e; simp
        | cons a qs ih =>
          intro es i q e
          cases es with
          | nil => cases i <;> simp
          | cons b es =>
            cases i with
            | zero => rfl
            | succ i => rw [List.zip_cons_cons, List.set_cons_succ, List.set_cons_succ, List.set_cons_succ, List.zip_cons_cons, ih]
      exact this _ _ _ _ _
    rw [p3] at p2
    have p4 : (qs.zip (ws.map f) ++ (r, f d0) :: (os2.eraseIdx i).eraseIdx j).Perm ((qa qs z, f d) :: ((setI qs z r).zip ((setI ws z d0).map f) ++ (os2.eraseIdx i).eraseIdx j)) := by
      refine (List.Perm.append_right _ p1).trans ?_
      rw [List.cons_append]
      refine List.Perm.cons _ ?_
      refine List.perm_middle.trans ?_
      rw [← List.cons_append]
      exact List.Perm.append_right _ p2
    exact (p4.cons _).trans (List.Perm.swap _ _ _)
  have o7 := o6.perm pm
  have o8 := (o7.perm (List.Perm.swap _ _ _))
  have hl2 : (setI qs z r).length = ((setI ws z d0).map f).length := by
    rw [setI_len, List.length_map, setI_len]
    exact hl
  have o9 : Ow F2 ((q, onl (setI qs z r) ((setI ws z d0).map f)) :: (qa qs z, f d) :: (os2.eraseIdx i).eraseIdx j) (upd H2 q (.lst ((qs.map L2.V.ref).set (ixD ws.length z) (.ref r)))) := by
    refine Ow.cls (o8.perm ?_) hl2
    exact List.Perm.cons _ (List.perm_middle.symm)
  have o10 := o9.perm (List.Perm.swap _ _ _)
  exact o10.perm (List.Perm.cons _ (perm_set hj))
theorem GY.clos {q : Addr} {es0 : List Ent} {es' : List Slot} (k : GY X tg ψ es os es' os1) (h : os1[j]? = some (q, onl qs es0)) : GY X tg ψ es os es' (os1.set j (q, onx es0)) := fun F σ H v Q ow s c qq => k F σ H v Q ow s c fun F' σ' H' e o l => qq F' σ' H' e (o.clos j h) l
/-- t1, t2 = a, b -/
theorem sx_asgQ2 {pt p2 : Pos} {kt k2 : Nat} {Rel : List VP → Os → Prop} (sc : Scope) (hsc : X.env.scope = sc) (B : Bd X N W G n) (hw : nswB sc [.Tuple [tg1, tg2] kt pt] (.Tuple [a, b] k2 p2))
    (ha : AQ X es [a, b] os Rel) (hR : ∀ φs os', Rel φs os' → ∃ φ ψ, φs = [φ, ψ]) (h : ∀ φ ψ os', Rel [φ, ψ] os' → ∃ es1 os1 es2 os2, GY X tg1 φ es os' es1 os1 ∧ GY X tg2 ψ es1 os1 es2 os2 ∧ SX X es2 os2 F0 rest D)
    (hs : swapsWithSole [.Tuple [tg1, tg2] kt pt] (.Tuple [a, b] k2 p2) pos.line X.env = pure false := by rfl) (h1 : (assignEach [.Tuple [tg1, tg2] kt pt] X.env).map (·.2) = [assign (.Tuple [tg1, tg2] kt pt) X.env] := by rfl)
    (hn : (assignEach [tg1, tg2] X.env).length = 2 := by rfl) (hst : (assignEach [tg1, tg2] X.env).findIdx? (·.1) = none := by rfl) (hs1 : (assignEach [tg1, tg2] X.env).map (·.2) = assign tg1 X.env :: (assignEach [tg2] X.env).map (·.2) := by rfl) (hs2 : (assignEach [tg2] X.env).map (·.2) = assign tg2 X.env :: (assignEach [] X.env).map (·.2) := by rfl) :
    SX X es os F0 (.Assign [.Tuple [tg1, tg2] kt pt] (.Tuple [a, b] k2 p2) pos :: rest) D := fun F σ H s ow sl =>
  wps_cons (ws_of (ps_asg (pe_tup pa_u) (pg_tup (n := 2) B.calm (pgs_cons pg_u (pgs_cons pg_u pgs_nil hs2) hs1) hn hst) hs (hw _ hsc) h1) (ha F σ H _ ow sl fun F1 H1 vs φs os' e1 rel o1 c1 => by
    obtain ⟨φ, ψ, rfl⟩ := hR φs os' rel
    obtain ⟨v, u, rfl, c2, c3⟩ := cla2 c1
    obtain ⟨es1, os1, es2, os2, g1, g2, k⟩ := h φ ψ os' rel
    refine ⟨by show 2 ≤ sizeLine; decide, fun p hp => ?_⟩
    refine ⟨p, _, rfl, .of upd_same, rfl, _, _, rfl, ?_⟩
    refine g1 F1 σ _ v _ (o1.grow (same_upd hp)) (sl.mono e1) c2 fun F2 σ2 H2 e2 o2 s2 => ⟨_, _, rfl, ?_⟩
    exact g2 F2 σ2 H2 u _ o2 s2 (c3.mono e2) fun F3 σ3 H3 e3 o3 s3 => ⟨rfl, k F3 σ3 H3 (s.trans (e1.trans (e2.trans e3))) o3 s3⟩))
/-- tg = e -/
theorem sx_asgG (hg : GY X tg φ es os1 es1 os2) (he : EX X es os e φ os1) (h : SX X es1 os2 F0 rest D) (hs : swapsWithSole [tg] e pos.line X.env = pure false := by rfl) (hw : swappedStores [tg] e X.env = pure none := by rfl)
    (h1 : (assignEach [tg] X.env).map (·.2) = [assign tg X.env] := by rfl) : SX X es os F0 (.Assign [tg] e pos :: rest) D := fun F σ H s ow sl =>
  wps_cons (ws_of (ps_asg pe_u pg_u hs hw h1) (he F σ H _ ow sl fun F1 H1 v e1 o1 c1 => hg F1 σ H1 v _ o1 (sl.mono e1) c1 fun F2 σ2 H2 e2 o2 s2 => h F2 σ2 H2 (s.trans (e1.trans e2)) o2 s2))
/-- .append of a list wherever it stands -/
theorem ex_appW {xs xs0 ys : List β} {y : β} {q : Addr} {os' os0' : List β → Os} (hz : appO xs y = some ys) (ho : EX X es os a (own q) os1) (h0 : WrT os1 q (olT enc) xs0 os0') (he : EX X es os1 e (dat (enc y)) os2) (hw : WrT os2 q (olT enc) xs os')
    (hbase : attributeBase a "append" X.env (eval a X.env) = eval a X.env := by rfl) (hline : (apos.endLine == cpos.line) = true := by rfl) (hs : starEach [e] X.env = (false, eval e X.env) :: starEach [] X.env := by rfl)
    (hfew : ((backTo cpos (starEach [e] X.env)).all (fun x => !x.1) && (backToKw cpos (keywordEach [] X.env)).all (fun x => x.1.isSome) && decide ([e].length + ([] : List Keyword).length + (if ([] : List Keyword).isEmpty then 0 else 1) < 30)) = true := by rfl)
    (hplain : (backTo cpos (starEach [] X.env)).any (·.1) = false := by rfl) : EX X es os (.Call (.Attribute a "append" apos) [e] [] cpos) (dat .none) (os' ys) := fun F σ H Q ow sl q => by
  unfold appO at hz
  split at hz
  · rename_i hl
    cases hz
    refine we_of (pe_bm PySem.F.plainAttrs_list PySem.F.slot_list_append PySem.F.type_list_append mt_append pe_u pa_u hbase hfew hline hs hplain) (ho F σ H _ ow sl fun F1 H1 v e1 o1 c1 => ?_)
    obtain ⟨_, o, hq, _, ⟨vs0, rfl, _⟩, _⟩ := h0 F1 H1 _ uni_ol o1
    cases c1.now
    refine ⟨.inl ⟨rfl, vs0, .of hq⟩, wa_of (pa_cons pe_u pa_nil hs) (he F1 σ H1 _ o1 (sl.mono e1) fun F2 H2 u e2 o2 c2 => ?_)⟩
    obtain ⟨_, o, hq, _, ⟨vs, rfl, dv⟩, zz⟩ := hw F2 H2 _ uni_ol o2
    have hlen := dqall_len dv
    rw [List.length_map] at hlen
    refine ⟨_, vs, u, rfl, rfl, hq, by rw [hlen]; exact hl, q F2 _ .non (e1.trans e2) (zz _ (xs ++ [y]) (fun _ h => by cases h) fun G g => ⟨_, rfl, ?_⟩) (cl_dat .non)⟩
    rw [List.map_append]
    exact dqall_mono g _ _ (dqall_app dv (.cons c2.now .nil))
  · cases hz
/-- xs.append(a new owned thing), xs a list of owned things -/
theorem ex_appN {qs0 : List Addr} {ws0 : List γ} {f : γ → Ent} {ws ws' : List γ} {d0 : γ} {q : Addr} {qs : List Addr} (hz : appO ws d0 = some ws') (ho : EX X es os a (own q) os) (h0 : os[i]? = some (q, onl qs0 (ws0.map f))) (he : EN X es os e (f d0) os1) (hj : os1[j]? = some (q, onl qs (ws.map f)))
    (hbase : attributeBase a "append" X.env (eval a X.env) = eval a X.env := by rfl) (hline : (apos.endLine == cpos.line) = true := by rfl) (hs : starEach [e] X.env = (false, eval e X.env) :: starEach [] X.env := by rfl)
    (hfew : ((backTo cpos (starEach [e] X.env)).all (fun x => !x.1) && (backToKw cpos (keywordEach [] X.env)).all (fun x => x.1.isSome) && decide ([e].length + ([] : List Keyword).length + (if ([] : List Keyword).isEmpty then 0 else 1) < 30)) = true := by rfl)
    (hplain : (backTo cpos (starEach [] X.env)).any (·.1) = false := by rfl) : EX X es os (.Call (.Attribute a "append" apos) [e] [] cpos) (dat .none) (os1.set j (q, onx (ws'.map f))) := fun F σ H Q ow sl qq => by
  unfold appO at hz
  split at hz
  · rename_i hl
    cases hz
    refine we_of (pe_bm PySem.F.plainAttrs_list PySem.F.slot_list_append PySem.F.type_list_append mt_append pe_u pa_u hbase hfew hline hs hplain) (ho F σ H _ ow sl fun F1 H1 v e1 o1 c1 => ?_)
    obtain rfl : v = .ref q := c1.now
    obtain ⟨hq0, _⟩ := nest_at i h0 o1
    refine ⟨.inl ⟨rfl, _, .of hq0⟩, wa_of (pa_cons pe_u pa_nil hs) (he F1 σ H1 _ o1 (sl.mono e1) fun F2 H2 r e2 o2 => ?_)⟩
    have o3 := o2.perm ((perm_at hj).cons _)
    obtain ⟨hq, hlen, o4⟩ := o3.snoc
    rw [List.length_map] at hlen
    refine ⟨q, _, .ref r, rfl, rfl, hq, by rw [List.length_map, hlen]; exact hl, qq F2 _ .non (e1.trans e2) ?_ (cl_dat .non)⟩
    rw [List.map_append]
    exact (o4.clx).perm (perm_set hj)
  · cases hz
end
end Z
/-! Z, part X: small words for the printed proofs over dicts. -/
namespace Z
open PySem PySem.Spec PyProof.Rows L2

theorem non_dict {κ β : Type} {kd : Kd κ} {e : β → PyData} : NoN (eD kd e) := fun a => by cases kd <;> rfl
def lenO {α : Type} (xs : List α) : Option Unit := if xs.length < sizeLine then some () else none
theorem lenO_ok {α : Type} {xs : List α} {u : Unit} (h : lenO xs = some u) : xs.length < sizeLine := by
  unfold lenO at h
  split at h
  · assumption
  · cases h
theorem wpAny_Dict_pairsH' {prog : Program} {w : World} {A : Around} {E : Value → Shared → Prop} {s : Shared} {K : Type} [DecidableEq K] {knd : HeapKind prog w K} {env : Env} {keys : List (Option Expr)} {values : List Expr} {pos : Pos} {pairs : List (Sem Value × Sem Value)} {Q : Value → Shared → Prop} (hu : knd.room A)
    (hshape : (evalEachOpt keys env).zip ((evalEach values env).map fun v => do let x ← v; standAt pos; pure x) = pairs.map fun p => (some p.1, p.2)) (h0 : pairs ≠ []) (hlen : pairs.length ≤ 15)
    (h : wpAny (model prog w) A (evalPairs pairs) (fun vs s₁ => ∃ ps, CarriesH knd s₁.heap vs ps ∧ s₁.heap.DictOfH knd s.heap.objs.size [] ∧
      ∀ h' tk, h'.DictOfH knd s.heap.objs.size (storedAllH [] ps) → Heap.SameBut s.heap.objs.size s₁.heap h' → Q (.ref s.heap.objs.size) { s₁ with heap := h', toks := tk }) E
      { s with heap := s.heap.push { cls := .type "dict", data := .dict #[] } }) :
    wpAny (model prog w) A (eval (.Dict keys values pos) env) Q E s := by
  rw [arm_eval_Dict, hshape, dictDisplay_pairs pairs h0 (by omega)]
  exact wpAny_bind (wpAny_standAt (wpAny_bind (wpAny_subDictH (knd := knd) (Q := fun d s' => wpAny (model prog w) A (pure (Value.ref d)) Q E s') hu hlen
    (wpAny_mono h (fun vs s₁ h₁ => by obtain ⟨ps, hc, hm, hq⟩ := h₁; exact ⟨ps, hc, hm, fun h' tk a b => wpAny_pure (hq h' tk a b)⟩) fun _ _ e => e))))
section
variable {X : Cx} {es es1 es2 : List Slot} {os os1 os2 os3 : Os} {F0 : Hp} {rest : List Stmt} {D : Ends} {N V G W : List Str} {n i j vi gi : Nat} {x y : Str} {p pos tpos apos cpos : Pos} {e a b c k v : Expr} {φ ψ : VP} {α κ β γ : Type} {enc : β → PyData}
theorem SX.clos {q : Addr} {qs : List Addr} {es0 : List Ent} (j : Nat) (h : os[j]? = some (q, onl qs es0)) (k : SX X es (os.set j (q, onx es0)) F0 rest D) : SX X es os F0 rest D := sx_clos j h k
theorem wr_same_flat {f : γ → Ent} {d : γ} {q : Addr} (j : Nat) (h : os[j]? = some (q, f d)) : ∀ F H, Ow F os H → Ow F (os.set j (q, f d)) H := fun F H ow => (ow.perm (perm_at h)).perm (perm_set h)
theorem wr_same_nest {f : γ → Ent} {ws : List γ} {d : γ} {q : Addr} {qs : List Addr} {z : Int} (j : Nat) (h : os[j]? = some (q, onl qs (ws.map f))) (hk : idx ws z = some d) : ∀ F H, Ow F os H → Ow F (os.set j (q, onl qs ((setI ws z d).map f))) H := fun F H ow => by
  have e : setI ws z d = ws := by
    obtain ⟨_, k2⟩ := idx_at hk
    unfold setI
    refine List.ext_getElem? fun m => ?_
    by_cases hm : ixD ws.length z = m
    · subst hm
      rw [List.getElem?_set_self (List.getElem?_eq_some_iff.mp k2).1, k2]
    · rw [List.getElem?_set_ne hm]
  rw [e]
  exact (ow.perm (perm_at h)).perm (perm_set h)
theorem en_nil {f : γ → Ent} : EN X es os (.List [] pos) (onx (([] : List γ).map f)) os := fun F σ H Q ow sl q =>
  we_of (pe_lst pa_u) (wa_of pa_nil ⟨by decide, fun p hp => q F _ p (Same.refl F) (ow.new hp fun G s => ⟨[], [], by
    show one p (.lst []) = ov (one p (.lst [])) (fun _ => none)
    funext a
    cases z : one p (.lst []) a with
    | none => rw [ov_none z]
    | some u => rw [ov_some z], .nil, List.pairwise_cons.mpr ⟨(fun _ z => nomatch z), .nil⟩, (fun _ z => nomatch z), rfl⟩)⟩)

/-! ### {k: v} -/
theorem en_disp1 {f : κ → Key} {k' : κ} {x' : β} (hi : (Kd.fl f).Inj) (hk : ∀ q, EX X es (q :: os) k (dat ((Kd.fl f).ek k')) (q :: os1)) (hv : ∀ q, EX X es (q :: os1) v (dat (enc x')) (q :: os2)) : EN X es os (.Dict [some k] [v] pos) (od (.fl f) (eM enc [(k', x')])) os2 := fun F σ H Q ow sl q =>
  we_of (pe_disp (pps_cons pe_u pe_u pps_nil) rfl rfl (by simp) (by simp)) fun p hp => by
    have o0 : Ow F ((p, od (.fl f) ([] : List (κ × PyData))) :: os) (upd H p (.dK [])) := ow.new hp (od_one (kd := .fl f) .nil)
    refine hk _ F σ _ _ o0 sl fun F1 H1 y e1 o1 c1 => hv _ F1 σ H1 _ o1 (sl.mono e1) fun F2 H2 u e2 o2 c2 => ?_
    obtain ⟨_, o, ho, _, kvs, rfl, dv⟩ := o2.atU uni_od
    cases dv
    refine ⟨ho, [(f k', u)], ?_, by simp, ?_⟩
    · rw [key_val (kd := .fl f) (c1.mono e2)]
      rfl
    · exact q F2 _ p (e1.trans e2) (o2.putU uni_od (od_one (kd := .fl f) (kvs := [(k', u)]) (.cons c2.now .nil)))
theorem en_disp1T {f : κ → List Key} {k' : κ} {x' : β} (B : Bd X N W G n) (hk : ∀ q, EX X es (q :: os) k (dat ((Kd.tu f).ek k')) (q :: os1)) (hv : ∀ q, EX X es (q :: os1) v (dat (enc x')) (q :: os2)) : EN X es os (.Dict [some k] [v] pos) (od (.tu f) (eM enc [(k', x')])) os2 := fun F σ H Q ow sl qq pins s I => by
  have hn := I.hok.fresh (Nat.le_refl s.heap.objs.size)
  have I1 := I.laid (a := s.heap.objs.size) (o := .dT []) (h' := s.heap.push { cls := .type "dict", data := .dict #[] }) (t' := s.toks) (fun _ _ q => Heap.get?_push_of_some _ q) (Nat.le_refl _) (dt_empty s.heap I.big)
  have o0 : Ow F ((s.heap.objs.size, od (.tu f) ([] : List (κ × PyData))) :: os) (upd H s.heap.objs.size (.dT [])) := ow.new hn (od_one (kd := .tu f) .nil)
  have hu : (tupleKind (mixKind X.prog X.w)).room X.A := by
    have := B.u1
    show X.A.units < cLine
    omega
  have run := (pps_cons (X := X) (pos := pos) (pe_u (e := k)) (pe_u (e := v)) pps_nil).run pins _ σ _ (fun ps H2 => ∃ F2 kv u, Same F F2 ∧ Ow F2 ((s.heap.objs.size, od (.tu f) ([] : List (κ × PyData))) :: os2) H2 ∧ ps = [(kv, u)] ∧ KeyV (.tu f) k' F2 kv ∧ Dq F2 u (enc x')) I1
    (hk _ F σ _ _ o0 sl fun F1 H1 y e1 o1 c1 => hv _ F1 σ H1 _ o1 (sl.mono e1) fun F2 H2 u e2 o2 c2 => ⟨F2, y, u, e1.trans e2, o2, rfl, key_val (c1.mono e2), c2.now⟩)
  refine wpAny_Dict_pairsH' (knd := tupleKind (mixKind X.prog X.w)) hu (pairs := pairTrees [some k] [v] X.env pos) (zip_pairTrees _ _ _ _ rfl rfl) (by simp [pairTrees]) (by simp [pairTrees]) (wpAny_mono run (fun vs s2 h => ?_) fun _ _ z => z)
  obtain ⟨ps, H2, I2, rel, F2, kv, u, e, o2, rfl, hkv, hd⟩ := h
  obtain ⟨b, rfl, hb⟩ := hkv
  obtain ⟨_, o, ho, _, kvs, rfl, dv⟩ := o2.atU uni_od
  cases dv
  cases rel with
  | cons r1 r2 =>
    cases r2
    obtain ⟨r1, r3⟩ := r1
    rename_i kw
    obtain ⟨w1, w2⟩ := kw
    obtain rfl : w1 = Value.ref b := r1
    obtain ⟨z, hs, xs, rel, dd⟩ := dt_of I2.hok ho
    cases rel
    have hbt : H2 b = some (.tup ((f k').map kV)) := o2.ex _ _ hb
    refine ⟨[(f k', b, w2)], ⟨rfl, rfl, key_of I2.hok hbt, trivial⟩, dd, fun h' tk dd' hs2 => ?_⟩
    refine ⟨.ref s.heap.objs.size, upd H2 s.heap.objs.size (.dT [(f k', u)]), ?_, rfl, ?_⟩
    · have he : ∃ q, h'.get? s.heap.objs.size = some q := let ⟨q, _, _, hq, _⟩ := dd'; ⟨q, hq⟩
      refine d_write I2 (by rw [ho]; exact True.intro) hs2 he ?_
      obtain ⟨o', es', ep', g1, g2, g3, g4, g5, g6⟩ := dd'
      refine ⟨by show 1 ≤ sizeLine; decide, hs, [(f k', b, w2)], .cons ⟨rfl, ?_, r3⟩ .nil, o', es', ep', g1, g2, g3, g4, g6⟩
      have : b ≠ s.heap.objs.size := fun z => by
        rw [z, ho] at hbt
        cases hbt
      rw [upd_ne this]
      exact hbt
    · exact qq F2 _ _ e (o2.putU uni_od (od_one (kd := .tu f) (kvs := [(k', u)]) (.cons hd .nil)))

/-! ### d.get(k, x), k may be None -/
theorem d_get2None {pins : List (Addr × Obj)} {σ : L2.St} {H : Hp} {s : Shared} {a : Addr} {kvs : List (Key × L2.V)} {d : L2.V} {r : Value} {A : Around} {E : Value → Shared → Prop} {Q : Value → Shared → Prop} (I : Inv X pins σ H s) (e : Rd H a (.dK kvs)) (rd : RelV d r) (h : ∀ s', Inv X pins σ H s' → Q r s') :
    wpAny (model X.prog X.w) A (call (.builtin "dict.get") [.ref a, .none, r]) Q E s := by
  obtain ⟨_, hd, vs, _, dd⟩ := dk_rd I.hok e
  obtain ⟨f, hm, hf⟩ := none_map dd
  refine call_meetsIn PySem.F.slot_dict_get dd.typeIs PySem.F.entry_dict_get (PySem.F.args_dict_get_3 _ _ _) (meets_dict_get_default (noneKind X.prog X.w) (k := none) a (show (noneKind X.prog X.w).is none .none = true from rfl) hd r) ⟨_, hm, ?_⟩
  rw [hf]
  exact h _ (I.tok _)
def tDGet2N (td ty tx : TE) : TE := fun σ H Q => td σ H fun x H1 => ∃ a, x = .ref a ∧ IsD H1 a ∧ ty σ H1 fun y H2 => tx σ H2 fun z H3 => (∃ o, DGet H3 a y o ∧ Q (o.getD z) H3) ∨ ∃ kvs, y = .non ∧ Rd H3 a (.dK kvs) ∧ Q z H3
theorem pe_dget2N {o e f : Expr} {td ty tx : TE} (hu : X.A.units + 1 < cLine) (ho : PE X o td) (he : PE X e ty) (hf : PE X f tx) (m : M2 X o "get" apos e f cpos) : PE X (.Call (.Attribute o "get" apos) [e, f] [] cpos) (tDGet2N td ty tx) := by
  refine ⟨fun pins s σ H Q I h => ?_⟩
  refine wpAny_Call_method m.base m.few m.line PySem.F.plainAttrs_dict PySem.F.slot_dict_get PySem.F.type_dict_get (thn (ho.run pins s σ H _ I h) fun u s1 ⟨x, H1, I1, rx, a, ex, d, q1⟩ => ?_)
  subst ex
  obtain rfl : u = Value.ref a := rx
  obtain ⟨t1, t2, _⟩ := isD_at I1 d
  refine ⟨t1, t2, ?_⟩
  rw [m.trees]
  refine Calls.callWith_builtin rfl (Calls.evalArgs_plain (Calls.spliced_cons (thn (he.run pins s1 σ H1 _ I1 q1) fun iv s2 ⟨y, H2, I2, ry, q2⟩ =>
    Calls.spliced_cons (thn (hf.run pins s2 σ H2 _ I2 q2) fun fv s3 ⟨z, H3, I3, rz, q3⟩ => Calls.spliced_nil ?_))))
  rcases q3 with ⟨ov, g, q3⟩ | ⟨kvs, ey, rd, q3⟩
  · exact d_get2 hu I3 g ry rz fun w' s4 I4 rw' => ⟨_, _, I4, rw', q3⟩
  · subst ey
    obtain rfl : iv = Value.none := ry
    exact d_get2None I3 rd rz fun s4 I4 => ⟨z, H3, I4, rz, q3⟩
theorem ex_dget2N [DecidableEq κ] {f : κ → Key} {w : List (κ × β)} {k : Option κ} {x : β} (hi : (Kd.fl f).Inj) (B : Bd X N W G n) (hr : RdD (.fl f) φ os1 (eM enc w)) (hr2 : RdD (.fl f) φ os3 (eM enc w)) (ha : EX X es os a φ os1) (hb : EX X es os1 b (dat (eO (Kd.fl f).ek k)) os2) (hc : EX X es os2 c (dat (enc x)) os3) (hbase : attributeBase a "get" X.env (eval a X.env) = eval a X.env := by rfl) (hline : (apos.endLine == cpos.line) = true := by rfl)
    (htr : backTo cpos (starEach [b, c] X.env) = [(false, eval b X.env), (false, eval c X.env)] := by rfl) : EX X es os (.Call (.Attribute a "get" apos) [b, c] [] cpos) (dat (enc (k.elim x fun k_ => (dGet w k_).getD x))) os3 := fun F σ H Q ow sl q =>
  we_of (pe_dget2N B.u1 pe_u pe_u pe_u ⟨hbase, by rw [htr]; rfl, hline, htr⟩) (ha F σ H _ ow sl fun F1 H1 v e1 o1 c1 => by
    obtain ⟨p, kvs, rfl, rd, dv⟩ := hr F1 H1 v o1 c1
    refine ⟨p, rfl, isD_of (kd := .fl f) rd, hb F1 σ H1 _ o1 (sl.mono e1) fun F2 H2 y e2 o2 c2 => hc F2 σ H2 _ o2 (sl.mono (e1.trans e2)) fun F3 H3 z e3 o3 c3 => ?_⟩
    obtain ⟨p', kvs', ep, rd', dv'⟩ := hr2 F3 H3 _ o3 ((c1.mono e2).mono e3)
    cases ep
    cases k with
    | none => exact .inr ⟨_, clv_none c2, rd', q F3 H3 _ ((e1.trans e2).trans e3) o3 c3⟩
    | some k =>
      refine .inl ⟨_, dget_of (kd := .fl f) hi o3.ex rd' (key_val (kd := .fl f) (k := k) (c2.mono e3)), q F3 H3 _ ((e1.trans e2).trans e3) o3 ?_⟩
      show Cl (dat (enc ((dGet w k).getD x))) F3 _
      cases h : dGet w k with
      | none =>
        rw [(dv_get k dv').2 (by rw [dGet_map, h]; rfl)]
        exact c3
      | some x =>
        obtain ⟨u, hu, hd⟩ := (dv_get k dv').1 (enc x) (by rw [dGet_map, h]; rfl)
        rw [hu]
        exact cl_dat hd)

/-! ### xs.pop(i) -/
def popI {α : Type} (xs : List α) (i : Int) : Option (α × List α) := if -(2 ^ 63) ≤ i ∧ i < 2 ^ 63 then (match seqIndex? i xs.length with
  | some k => (xs[k]?).map fun y => (y, xs.eraseIdx k)
  | none => none) else none
theorem dqall_erase {F : Hp} : ∀ {ds : List PyData} {vs : List L2.V} (i : Nat), DqAll F vs ds → DqAll F (vs.eraseIdx i) (ds.eraseIdx i)
  | _, _, _, .nil => .nil
  | _, _, 0, .cons h1 h2 => h2
  | _, _, i + 1, .cons h1 h2 => .cons h1 (dqall_erase i h2)
theorem map_eraseIdx {α β : Type} (f : α → β) : ∀ (xs : List α) (i : Nat), (xs.eraseIdx i).map f = (xs.map f).eraseIdx i
  | [], _ => rfl
  | x :: xs, 0 => rfl
  | x :: xs, i + 1 => by
    rw [List.eraseIdx_cons_succ, List.map_cons, List.map_cons, List.eraseIdx_cons_succ, map_eraseIdx f xs i]
theorem ex_popI {xs xs0 : List β} {z : Int} {r : β × List β} {q : Addr} (hr : popI xs z = some r) (ho : EX X es os a (own q) os) (h0 : os[j]? = some (q, ol (xs0.map enc))) (he : EX X es os e (dat (.int z)) os1) (hj : os1[j]? = some (q, ol (xs.map enc)))
    (hbase : attributeBase a "pop" X.env (eval a X.env) = eval a X.env := by rfl) (hline : (apos.endLine == cpos.line) = true := by rfl) (hs : starEach [e] X.env = (false, eval e X.env) :: starEach [] X.env := by rfl)
    (hfew : ((backTo cpos (starEach [e] X.env)).all (fun x => !x.1) && (backToKw cpos (keywordEach [] X.env)).all (fun x => x.1.isSome) && decide ([e].length + ([] : List Keyword).length + (if ([] : List Keyword).isEmpty then 0 else 1) < 30)) = true := by rfl)
    (hplain : (backTo cpos (starEach [] X.env)).any (·.1) = false := by rfl) : EX X es os (.Call (.Attribute a "pop" apos) [e] [] cpos) (dat (enc r.1)) (os1.set j (q, ol (r.2.map enc))) := fun F σ H Q ow sl qq => by
  unfold popI at hr
  split at hr
  · rename_i hl
    split at hr
    · rename_i k hk
      cases hy : xs[k]? with
      | none =>
        rw [hy] at hr
        cases hr
      | some y =>
        rw [hy] at hr
        cases hr
        refine we_of (pe_bm PySem.F.plainAttrs_list PySem.F.slot_list_pop PySem.F.type_list_pop mt_popAt pe_u pa_u hbase hfew hline hs hplain) (ho F σ H _ ow sl fun F1 H1 v e1 o1 c1 => ?_)
        obtain rfl : v = .ref q := c1.now
        obtain ⟨_, _, _, ty⟩ := ty_own (K := X.K) o1 h0
        refine ⟨ty, wa_of (pa_cons pe_u pa_nil hs) (he F1 σ H1 _ o1 (sl.mono e1) fun F2 H2 u e2 o2 c2 => ?_)⟩
        obtain ⟨vs, hp, hv, _⟩ := ty_own (K := X.K) o2 hj
        have hlen := dqall_len hv
        rw [List.length_map] at hlen
        obtain ⟨u', hu, hd⟩ := dqall_map hv hy
        refine ⟨q, vs, z, k, u', rfl, by rw [clv_int c2], hp, hl.1, hl.2, by rw [hlen]; exact hk, hu, ?_⟩
        have o3 := ow_set o2 hj (dqall_erase k hv)
        rw [← map_eraseIdx] at o3
        exact qq F2 _ u' (e1.trans e2) o3 (cl_dat hd)
    · cases hr
  · cases hr
/-- xs.extend(ys), ys data -/
theorem ex_extendD {q : Addr} {xs xs0 ys zs : List β} (ha : catO xs ys = some zs) (ho : EX X es os a (own q) os) (h0 : os[j]? = some (q, ol (xs0.map enc))) (he : EX X es os e (dat (.list (ys.map enc))) os1) (hj : os1[j]? = some (q, ol (xs.map enc)))
    (hbase : attributeBase a "extend" X.env (eval a X.env) = eval a X.env := by rfl) (hline : (apos.endLine == cpos.line) = true := by rfl) (hs : starEach [e] X.env = (false, eval e X.env) :: starEach [] X.env := by rfl)
    (hfew : ((backTo cpos (starEach [e] X.env)).all (fun x => !x.1) && (backToKw cpos (keywordEach [] X.env)).all (fun x => x.1.isSome) && decide ([e].length + ([] : List Keyword).length + (if ([] : List Keyword).isEmpty then 0 else 1) < 30)) = true := by rfl)
    (hplain : (backTo cpos (starEach [] X.env)).any (·.1) = false := by rfl) : EX X es os (.Call (.Attribute a "extend" apos) [e] [] cpos) (dat .none) (os1.set j (q, ol (zs.map enc))) := fun F σ H Q ow sl qq => by
  unfold catO at ha
  split at ha
  · rename_i hz
    cases ha
    refine we_of (pe_bm PySem.F.plainAttrs_list PySem.F.slot_list_extend PySem.F.type_list_extend mt_extend pe_u pa_u hbase hfew hline hs hplain) (ho F σ H _ ow sl fun F1 H1 v e1 o1 c1 => ?_)
    obtain rfl : v = .ref q := c1.now
    obtain ⟨_, _, _, ty⟩ := ty_own (K := X.K) o1 h0
    refine ⟨ty, wa_of (pa_cons pe_u pa_nil hs) (he F1 σ H1 _ o1 (sl.mono e1) fun F2 H2 r e2 o2 c2 => ?_)⟩
    obtain ⟨vs, hp, hv, _⟩ := ty_own (K := X.K) o2 hj
    obtain ⟨p2, us, rfl, hu, hus⟩ := dat_list o2 c2
    have l1 := dqall_len hv
    have l2 := dqall_len hus
    rw [List.length_map] at l1 l2
    have o3 := ow_set o2 hj (dqall_app hv hus)
    rw [← List.map_append] at o3
    exact ⟨q, p2, vs, us, rfl, rfl, hp, hu, by omega, qq F2 _ .non (e1.trans e2) o3 (cl_dat .non)⟩
  · cases ha
theorem rc_listKI {w : List (Int × β)} (hr : RdD kI φ os (eM enc w)) : RCN rListK [φ] os (ol ((w.map (·.1)).map PyData.int)) os := rc_listK (f := Sum.inl) hr
theorem rc_listKS {w : List (Str × β)} (hr : RdD kS φ os (eM enc w)) : RCN rListK [φ] os (ol ((w.map (·.1)).map PyData.str)) os := rc_listK (f := Sum.inr) hr
end
/-! ### list comprehensions over pairs -/
section
variable {X : Cx} {es : List Slot} {os os0 : Os} {N V G W : List Str} {k i j : Nat} {x y : Str} {pos tpos p1 p2 : Pos} {e : Expr} {α β S : Type} {scope : Scope} {elt iter : Expr} {ifs : List Expr} {xs : List α} {enc : β → PyData}
theorem lc_mk2 {c : Os → Prop} {d1 d2 : α → PyData} {kk : Nat} (f : S → α → Option (Option β × S)) (OS : S → Os → Os) (s0 : S) (ys : List β) (sf : S) (B : Bd X N W G k) (hi : N[i]? = some x) (hj : N[j]? = some y) (hij : i ≠ j) (hu1 : es[i]? = some un) (hu2 : es[j]? = some un) (hblk : blkC X.N X.env.scope scope [(x, i), (y, j)] = true)
    (ho1 : ownB scope X.env.scope x = true) (ho2 : ownB scope X.env.scope y = true) (hif : ifs.length ≤ 1)
    (hl : xs.length < sizeLine ∧ lcS f xs s0 = some (ys, sf)) (hx : IX X (.Tuple [.Name x p1, .Name y p2] kk tpos) es os iter xs (fun z => dat (.tuple [d1 z, d2 z])) c (OS s0 os0)) (hc : ∀ s tl, c (OS s tl)) (hperm : ∀ s q tl, (OS s (q :: tl)).Perm (q :: OS s tl))
    (hb : ∀ s z t tl, z ∈ xs → f s z = some t → ∃ b os1, ∀ X', Fam X scope X' → PTX X' ((es.set i (sl (dat (d1 z)))).set j (sl (dat (d2 z)))) (OS s tl) ifs b os1 ∧ (b = true → ∃ y, t.1 = some y ∧ EX X' ((es.set i (sl (dat (d1 z)))).set j (sl (dat (d2 z)))) os1 elt (dat (enc y)) (OS t.2 tl)) ∧ (b = false → t.1 = none ∧ os1 = OS t.2 tl)) :
    LcOk X es os (.Tuple [.Name x p1, .Name y p2] kk tpos) iter elt ifs scope [(x, i), (y, j)] xs (fun z => dat (.tuple [d1 z, d2 z])) c (gTup X.K 2 (gCons (gName i) (gCons (gName j) gNil))) (fun z es => (es.set i (sl (dat (d1 z)))).set j (sl (dat (d2 z)))) enc f OS s0 os0 ys sf where
  calm := B.calm
  nd := B.hN ▸ B.nd
  ok := blkOk_by hblk
  pg := fun X' hX => by
    have hK : X'.K = X.K := by
      obtain ⟨_, _, _, _, _, rfl⟩ := hX
      rfl
    have := pg_own2 (tpos := tpos) (kk := kk) (p1 := p1) (p2 := p2) hX B hi hj ho1 ho2
    rw [hK] at this
    exact this
  hv := fun m hm => by
    have e : m = i ∨ m = j := by simpa using hm
    rcases e with rfl | rfl
    · exact hu1
    · exact hu2
  hid := lc_id2 hij
  hg := fun x F σ H v Q os2 sl hw ow c q => lc_gpair hij x F σ H v Q os2 sl hw ow c q
  hif := hif
  hl := hl.2
  hz := hl.1
  hi := hx
  hc := hc
  hperm := hperm
  hb := hb
end
end Z
/-! Z, part Y: len(set(xs)) and more. -/
namespace Z
open PySem PySem.Spec PyProof.Rows L2

def lenSetO (ns : List Int) : Option Int := if ns.Nodup ∧ ns.length ≤ 4000 then some (ns.length : Int) else none
section
variable {X : Cx} {es es1 es2 : List Slot} {os os1 os2 os3 : Os} {F0 : Hp} {rest : List Stmt} {D : Ends} {N V G W : List Str} {n i j vi gi gj : Nat} {x y : Str} {p p2 q pos tpos apos cpos : Pos} {e a b c k v : Expr} {φ ψ : VP} {α κ β γ : Type} {enc : β → PyData}
theorem ex_lenSet {ns : List Int} {m : Int} (B : Bd X N W G n) (hj : G[gi]? = some "len") (hm : X.mg "len" = none) (hj2 : G[gj]? = some "set") (hm2 : X.mg "set" = none) (h : lenSetO ns = some m) (hr : RdL X φ os1 (ns.map PyData.int)) (ha : EX X es os a φ os1)
    (na : starEach [a] X.env = (false, eval a X.env) :: starEach [] X.env := by rfl) : EX X es os (.Call (.Name "len" p) [.Call (.Name "set" p2) [a] [] q] [] pos) (dat (.int m)) os1 := fun F σ H Q ow sl qq => by
  unfold lenSetO at h
  split at h
  · rename_i hl
    cases h
    refine we_of (RZ.pe_lenSetI (B.gl _ (List.mem_of_getElem? hj)).1 hm (B.gl _ (List.mem_of_getElem? hj2)).1 hm2 pe_u B.calm na) (ha F σ H _ ow sl fun F1 H1 v e1 o1 c1 => ?_)
    obtain ⟨l, vs, rfl, h1, h2⟩ := hr F1 H1 v o1 c1
    have ev := dqall_of_ints ns h2
    subst ev
    exact ⟨l, ns, rfl, h1, hl.1, hl.2, qq F1 H1 _ e1 o1 (cl_dat (.int _))⟩
  · cases h
/-- a comprehension stored into a name that is no plain local one is an ordinary store -/
theorem sw_no {elt : Expr} {gs : List Comprehension} {scope : Scope} {py : Pos} {l : Nat} {env : Env} (hy : (env.scope.names.lookup y == some .local) = false) : swapsWith (.ListComp elt gs scope pos) (some (.Name y py)) l env = pure false := by
  unfold swapsWith
  have ky : (env.kindOf y == some NameKind.local) = false := hy
  simp only [ky, Bool.and_false, Bool.false_and]
theorem sw_noL {elt : Expr} {gs : List Comprehension} {scope : Scope} {py : Pos} {l : Nat} {env : Env} (hy : (py.line == pos.line) = false) : swapsWith (.ListComp elt gs scope pos) (some (.Name y py)) l env = pure false := by
  unfold swapsWith
  have ky : (py.line == (Expr.ListComp elt gs scope pos).pos.line) = false := hy
  simp only [ky, Bool.and_false, Bool.false_and]
theorem sw_noD {elt elt2 : Expr} {gs : List Comprehension} {scope : Scope} {py : Pos} {l : Nat} {env : Env} (hy : (env.scope.names.lookup y == some .local) = false) : swapsWith (.DictComp elt elt2 gs scope pos) (some (.Name y py)) l env = pure false := by
  unfold swapsWith
  have ky : (env.kindOf y == some NameKind.local) = false := hy
  simp only [ky, Bool.and_false, Bool.false_and]
/-! ### the same with the entry at two places -/
theorem tx_din [DecidableEq κ] {kd : Kd κ} {w : List (κ × β)} {k : κ} (hi : kd.Inj) (B : Bd X N W G n) (hr : RdD kd φ os2 (eM enc w)) (ha : EX X es os a (dat (kd.ek k)) os1) (hb : EX X es os1 b φ os2) (hm : behindInMarks .In b = false := by rfl) : TX X es os (.Compare a [.In] [b] pos) (dGet w k).isSome os2 := fun F σ H Q ow sl q =>
  wt_of (pt_cmp (pc_din B.u1 pe_u pe_u) hm) (ha F σ H _ ow sl fun F1 H1 y e1 o1 c1 => hb F1 σ H1 _ o1 (sl.mono e1) fun F2 H2 v e2 o2 c2 => by
    obtain ⟨p, kvs, rfl, rd, dv⟩ := hr F2 H2 v o2 c2
    exact ⟨p, _, rfl, dget_of hi o2.ex rd (key_val (c1.mono e2)), _, rfl, by rw [dget_some (H := H2) (p := p) hi dv]; exact q F2 H2 (e1.trans e2) o2⟩)
theorem tx_dnotin [DecidableEq κ] {kd : Kd κ} {w : List (κ × β)} {k : κ} (hi : kd.Inj) (B : Bd X N W G n) (hr : RdD kd φ os2 (eM enc w)) (ha : EX X es os a (dat (kd.ek k)) os1) (hb : EX X es os1 b φ os2) (hm : behindInMarks .NotIn b = false := by rfl) : TX X es os (.Compare a [.NotIn] [b] pos) (!(dGet w k).isSome) os2 := fun F σ H Q ow sl q =>
  wt_of (pt_cmp (pc_dnotin B.u1 pe_u pe_u) hm) (ha F σ H _ ow sl fun F1 H1 y e1 o1 c1 => hb F1 σ H1 _ o1 (sl.mono e1) fun F2 H2 v e2 o2 c2 => by
    obtain ⟨p, kvs, rfl, rd, dv⟩ := hr F2 H2 v o2 c2
    exact ⟨p, _, rfl, dget_of hi o2.ex rd (key_val (c1.mono e2)), _, rfl, by rw [dget_some (H := H2) (p := p) hi dv]; exact q F2 H2 (e1.trans e2) o2⟩)
theorem ex_popI2 {m : Nat} {xs xs0 : List β} {z : Int} {r : β × List β} {q : Addr} (hr : popI xs z = some r) (ho : EX X es os a (own q) os) (h0 : os[m]? = some (q, ol (xs0.map enc))) (he : EX X es os e (dat (.int z)) os1) (hj : os1[j]? = some (q, ol (xs.map enc)))
    (hbase : attributeBase a "pop" X.env (eval a X.env) = eval a X.env := by rfl) (hline : (apos.endLine == cpos.line) = true := by rfl) (hs : starEach [e] X.env = (false, eval e X.env) :: starEach [] X.env := by rfl)
    (hfew : ((backTo cpos (starEach [e] X.env)).all (fun x => !x.1) && (backToKw cpos (keywordEach [] X.env)).all (fun x => x.1.isSome) && decide ([e].length + ([] : List Keyword).length + (if ([] : List Keyword).isEmpty then 0 else 1) < 30)) = true := by rfl)
    (hplain : (backTo cpos (starEach [] X.env)).any (·.1) = false := by rfl) : EX X es os (.Call (.Attribute a "pop" apos) [e] [] cpos) (dat (enc r.1)) (os1.set j (q, ol (r.2.map enc))) := fun F σ H Q ow sl qq => by
  unfold popI at hr
  split at hr
  · rename_i hl
    split at hr
    · rename_i k hk
      cases hy : xs[k]? with
      | none =>
        rw [hy] at hr
        cases hr
      | some y =>
        rw [hy] at hr
        cases hr
        refine we_of (pe_bm PySem.F.plainAttrs_list PySem.F.slot_list_pop PySem.F.type_list_pop mt_popAt pe_u pa_u hbase hfew hline hs hplain) (ho F σ H _ ow sl fun F1 H1 v e1 o1 c1 => ?_)
        obtain rfl : v = .ref q := c1.now
        obtain ⟨_, _, _, ty⟩ := ty_own (K := X.K) o1 h0
        refine ⟨ty, wa_of (pa_cons pe_u pa_nil hs) (he F1 σ H1 _ o1 (sl.mono e1) fun F2 H2 u e2 o2 c2 => ?_)⟩
        obtain ⟨vs, hp, hv, _⟩ := ty_own (K := X.K) o2 hj
        have hlen := dqall_len hv
        rw [List.length_map] at hlen
        obtain ⟨u', hu, hd⟩ := dqall_map hv hy
        refine ⟨q, vs, z, k, u', rfl, by rw [clv_int c2], hp, hl.1, hl.2, by rw [hlen]; exact hk, hu, ?_⟩
        have o3 := ow_set o2 hj (dqall_erase k hv)
        rw [← map_eraseIdx] at o3
        exact qq F2 _ u' (e1.trans e2) o3 (cl_dat hd)
    · cases hr
  · cases hr
end
end Z
/-! Z, part Z: a tuple with an owned list in it. -/
namespace Z
open PySem PySem.Spec PyProof.Rows L2

/-- a tuple of a datum and of the list at q -/
def tpo (d : PyData) (q : Addr) : VP := fun F v => ∃ a x, v = .ref a ∧ F a = some (.tup [x, .ref q]) ∧ Dq F x d
/-- the same as one owned thing -/
def tpE (d : PyData) (ds : List PyData) : Ent := fun p F h => ∃ q x, F p = some (.tup [x, .ref q]) ∧ Dq F x d ∧ ol ds q F h
theorem Ow.re {F H : Hp} {os : Os} {p q : Addr} {e e' : Ent} (h : Ow F ((q, e) :: os) H) (k : ∀ F' g, Same F F' → e q F' g → e' p F' g) : Ow F ((p, e') :: os) H := by
  obtain ⟨hs, a, b, c⟩ := h.ps
  cases a with
  | cons h1 h2 => exact ⟨h.ex, _, .cons (fun G g => k G _ g (h1 G g)) h2, b, c⟩
theorem Ow.opT {F H : Hp} {os : Os} {p : Addr} {d : PyData} {ds : List PyData} (h : Ow F ((p, tpE d ds) :: os) H) : ∃ q, Cl (tpo d q) F (.ref p) ∧ Ow F ((q, ol ds) :: os) H := by
  obtain ⟨k, h1, _, _, _, _⟩ := h.wr
  obtain ⟨q, x, e1, e2, e3⟩ := h1 F (Same.refl F)
  refine ⟨q, fun G g => ⟨p, x, rfl, g _ _ e1, dq_mono g _ _ e2⟩, h.re fun G w g => ?_⟩
  rintro ⟨q', x', a1, a2, a3⟩
  rw [g _ _ e1] at a1
  cases a1
  exact a3
section
variable {X : Cx} {es es1 es2 : List Slot} {os os1 os2 os3 : Os} {F0 : Hp} {rest : List Stmt} {D : Ends} {N V G W : List Str} {n i j k vi gi gj : Nat} {x y : Str} {p p2 q' pos pos' tpos apos cpos : Pos} {e a b c v : Expr} {φ ψ : VP} {q : Addr} {d : PyData} {ds ds' : List PyData}
theorem en_tpo {x1} (ha : EX X es os a (dat d) os1) (hb : EX X es os1 b (own q) os2) (hj : os2[j]? = some (q, ol ds)) (s1 : starEach [a, b] X.env = (false, eval a X.env) :: starEach [b] X.env := by rfl) (s2 : starEach [b] X.env = (false, eval b X.env) :: starEach [] X.env := by rfl) : EN X es os (.Tuple [a, b] x1 pos) (tpE d ds) (os2.eraseIdx j) := fun F σ H Q ow sl qq =>
  we_of (pe_tup pa_u) (ax_cons ha (ax_cons hb ax_nil s2) s1 F σ H _ ow sl fun F1 H1 vs e1 o1 c1 => by
    obtain ⟨u, w, rfl, h1, h2⟩ := cla2 c1
    refine ⟨by show 2 ≤ sizeLine; decide, fun p hp => ?_⟩
    obtain rfl : w = .ref q := h2.now
    have fp := o1.ex.free hp
    have o2 := (o1.perm (perm_at hj)).frozen (o := .tup [u, .ref q]) hp
    refine qq _ _ p (e1.trans (same_upd fp)) (o2.re fun G w g hg => ⟨q, u, g _ _ upd_same, dq_mono ((same_upd fp).trans g) _ _ h1.now, hg⟩))
theorem sx_asgP (B : Bd X N W G k) (T : Bt X V) (hi : N[i]? = some x) (hv : V[vi]? = some x) (he : EN X es os e (tpE d ds) os1) (hd : ds = ds') (h : ∀ q, SX X (es.set i (sl (tpo d q))) ((q, ol ds') :: os1) F0 rest D) (hs : swapsWith e (some (.Name x pos')) pos.line X.env = pure false := by rfl) :
    SX X es os F0 (.Assign [.Name x pos'] e pos :: rest) D := fun F σ H s ow sl =>
  wps_cons (ws_of (ps_set (B.hN ▸ B.nd) (B.hN ▸ hi) (T.loc x (List.mem_of_getElem? hv)) pe_u hs (.inl (T.fn x))) (he F σ H _ ow sl fun F1 H1 p e1 o1 => by
    subst hd
    obtain ⟨q, c, o2⟩ := o1.opT
    exact h q F1 _ H1 (s.trans e1) o2 ((sl.mono e1).put c)))
theorem ex_tpo1 (ha : EX X es os a (tpo d q) os1) (hb : EX X es os1 b (dat (.int 1)) os2) (hp : PlainIx b := by exact fun _ _ => rfl) : EX X es os (.Subscript a b pos) (own q) os2 := fun F σ H Q ow sl qq =>
  we_of (pe_ix L2.ix_tup pe_u pe_u hp) (ha F σ H _ ow sl fun F1 H1 x e1 o1 c1 => hb F1 σ H1 _ o1 (sl.mono e1) fun F2 H2 y e2 o2 c2 => by
    obtain ⟨p, u, rfl, hs, _⟩ := (c1.mono e2).now
    exact ⟨p, _, 1, .ref q, rfl, clv_int c2, .of (o2.ex _ _ hs), rfl, qq F2 H2 _ (e1.trans e2) o2 cl_own⟩)
theorem ex_tpo0 (ha : EX X es os a (tpo d q) os1) (hb : EX X es os1 b (dat (.int 0)) os2) (hp : PlainIx b := by exact fun _ _ => rfl) : EX X es os (.Subscript a b pos) (dat d) os2 := fun F σ H Q ow sl qq =>
  we_of (pe_ix L2.ix_tup pe_u pe_u hp) (ha F σ H _ ow sl fun F1 H1 x e1 o1 c1 => hb F1 σ H1 _ o1 (sl.mono e1) fun F2 H2 y e2 o2 c2 => by
    obtain ⟨p, u, rfl, hs, hd⟩ := (c1.mono e2).now
    exact ⟨p, _, 0, u, rfl, clv_int c2, .of (o2.ex _ _ hs), rfl, qq F2 H2 _ (e1.trans e2) o2 (cl_dat hd)⟩)
theorem rdx_tpo (m : Nat) (h : os[m]? = some (q, ol ds)) : RdX X (tpo d q) os (.tuple [d, .list ds]) := fun z F H v ow c => by
  obtain ⟨_, vs, ho, hv⟩ := (ow.perm (perm_at h)).atL
  obtain ⟨a, u, rfl, ha, hd⟩ := c.now
  have z' : d.hasDict = false ∧ PyData.hasDictAll ds = false := by simpa [PyData.hasDict, PyData.hasDictAll] using z
  exact .tup (.of (ow.ex _ _ ha)) (.cons (dq_dp _ _ _ z'.1 (dq_mono ow.ex _ _ hd)) (.cons (.lst (.of ho) (dqall_dp _ _ _ z'.2 (dqall_mono ow.ex _ _ hv))) .nil))
theorem rc_reprX {t : Str} (r : RdX X φ os d) (h : reprO d = some t) : RCX (rRepr X.K) [φ] os (dat (.str t)) os := fun F H vs Q ow c qq => by
  unfold reprO at h
  split at h
  · rename_i hl
    cases h
    obtain ⟨v, rfl, h⟩ := cla1 c
    exact ⟨v, d, rfl, r hl.2.1 F H v ow h, hl.1, hl.2.1, hl.2.2.1, hl.2.2.2, qq F H _ (Same.refl F) ow (cl_dat (.str _))⟩
  · cases h
end
theorem EX.post {X : Cx} {es : List Slot} {os os1 os2 : Os} {e : Expr} {φ : VP} (h : EX X es os e φ os1) (p : os1.Perm os2) : EX X es os e φ os2 := fun F σ H Q ow sl q => h F σ H Q ow sl fun F1 H1 v e1 o1 => q F1 H1 v e1 (o1.perm p)
theorem TX.post {X : Cx} {es : List Slot} {os os1 os2 : Os} {e : Expr} {t : Bool} (h : TX X es os e t os1) (p : os1.Perm os2) : TX X es os e t os2 := fun F σ H Q ow sl q => h F σ H Q ow sl fun F1 H1 e1 o1 => q F1 H1 e1 (o1.perm p)
theorem WX.post {X : Cx} {es : List Slot} {os os1 os2 : Os} {e : Expr} {t : Bool} (h : WX X es os e t os1) (p : os1.Perm os2) : WX X es os e t os2 := fun F σ H Q ow sl q => h F σ H Q ow sl fun F1 H1 e1 o1 => q F1 H1 e1 (o1.perm p)
theorem frb_tpE {d : PyData} {ds : List PyData} : Frb (tpE d ds) (.tuple [d, .list ds]) := fun p F os H Q ow k => by
  obtain ⟨q, c, o1⟩ := ow.opT
  refine frb_ol q F os H Q o1 fun F1 H1 s1 o2 dq => k F1 H1 s1 o2 ?_
  obtain ⟨a, x, e, h1, h2⟩ := (c.mono s1).now
  cases e
  exact .tup h1 (.cons h2 (.cons dq .nil))
/-- a product: one factor is small, or both are not too long -/
def mulW (i j : Int) : Option Int := if (-(2 ^ 64) < i ∧ i < 2 ^ 64) ∨ (-(2 ^ 64) < j ∧ j < 2 ^ 64) ∨ i.natAbs.log2 + j.natAbs.log2 < 1000000 then some (i * j) else none
theorem ex_mulW {X : Cx} {es : List Slot} {os os1 os2 : Os} {a b : Expr} {pos : Pos} {i j m : Int} (hm : mulW i j = some m) (ha : EX X es os a (dat (.int i)) os1) (hb : EX X es os1 b (dat (.int j)) os2) : EX X es os (.BinOp a .Mult b pos) (dat (.int m)) os2 := by
  unfold mulW at hm
  split at hm
  · rename_i h
    cases hm
    rcases h with h | h | h
    · exact ex_mulL h ha hb
    · exact ex_mulR h ha hb
    · exact ex_mul (if_pos h) ha hb
  · cases hm
theorem map_eO {α : Type} (e : α → PyData) (xs : List α) : List.map e xs = List.map (eO e) (List.map some xs) := by
  rw [List.map_map]
  rfl
end Z
/-! Z, part ZA: zip of two lists. -/
namespace Z
open PySem PySem.Spec PyProof.Rows L2
section
variable {X : Cx} {es : List Slot} {os os1 os2 os3 : Os} {N V G W : List Str} {k i vi gi j : Nat} {x : Str} {p pos : Pos} {e e2 e3 a : Expr} {φ ψ : VP} {n : Ent} {α β : Type}
theorem ix_zip {elts : List Expr} {kk : Nat} {tpos : Pos} {xs : List α} {enc : α → PyData} {ys : List β} {enc2 : β → PyData} {c : Os → Prop} (B : Bd X N W G k) (hj : G[gi]? = some "zip") (hm : X.mg "zip" = none) (he : EX X es os e φ os1) (he2 : EX X es os1 e2 ψ os2) (hc : ∀ o, c o → RdL X φ o (xs.map enc)) (hc2 : ∀ o, c o → RdL X ψ o (ys.map enc2)) (h0 : c os2)
    (hs : starEach [e, e2] X.env = (false, eval e X.env) :: starEach [e2] X.env := by rfl) (hs2 : starEach [e2] X.env = (false, eval e2 X.env) :: starEach [] X.env := by rfl) (hpl : (backTo pos (starEach [e2] X.env)).any (·.1) = false := by rfl) :
    IX X (.Tuple elts kk tpos) es os (.Call (.Name "zip" p) [e, e2] [] pos) (xs.zip ys) (fun z => dat (.tuple [enc z.1, enc2 z.2])) c os2 := fun F σ H R ow sl q =>
  wi_of (RZ.pi_zipA (B.gl _ (List.mem_of_getElem? hj)).1 hm pa_u hs hpl) (wa_of (pa_cons pe_u (pa_cons pe_u pa_nil hs2) hs) (he F σ H _ ow sl fun F1 H1 v e1 o1 c1 => he2 F1 σ H1 _ o1 (sl.mono e1) fun F2 H2 u e2 o2 c2 => by
    obtain ⟨a, vs, rfl, h1, h2⟩ := hc os2 h0 F2 H2 v o2 (c1.mono e2)
    obtain ⟨b, us, rfl, k1, k2⟩ := hc2 os2 h0 F2 H2 u o2 c2
    refine ⟨a, b, vs, us, rfl, .inl ⟨h1, k1, q F2 H2 _ (e1.trans e2) o2 fun F3 H3 os3 i s ow3 kc => ?_⟩⟩
    obtain ⟨a', vs', ea, g1, g2⟩ := hc os3 kc F3 H3 _ ow3 ((c1.mono e2).mono s)
    obtain ⟨b', us', eb, r1, r2⟩ := hc2 os3 kc F3 H3 _ ow3 (c2.mono s)
    cases ea
    cases eb
    have hl := dqall_len g2
    have hl2 := dqall_len r2
    rw [List.length_map] at hl hl2
    refine ⟨fun h => ⟨vs', us', g1, r1, by rw [List.length_zip] at h; omega⟩, fun x hx => ?_⟩
    obtain ⟨hx1, hx2⟩ := List.getElem?_zip_eq_some.mp hx
    obtain ⟨w1, hw1, hd1⟩ := dqall_map g2 hx1
    obtain ⟨w2, hw2, hd2⟩ := dqall_map r2 hx2
    refine ⟨⟨vs', us', w1, w2, g1, r1, hw1, hw2⟩, fun w H4 y => ?_⟩
    obtain ⟨T, y1, y2, rfl, hT, rfl, f1, f2⟩ := y
    have ew1 : vs'[i]? = some y1 := f1 vs' g1
    have ew2 : us'[i]? = some y2 := f2 us' r1
    rw [hw1] at ew1
    rw [hw2] at ew2
    cases ew1
    cases ew2
    have fT := ow3.ex.free hT
    exact ⟨_, same_upd fT, ow3.frozen hT, cl_dat (.tup upd_same (.cons (dq_mono (same_upd fT) _ _ hd1) (.cons (dq_mono (same_upd fT) _ _ hd2) .nil)))⟩))
end
end Z
/-! Z, part ZB: lists of owned things that are walked, handed to defs one by one; divmod. -/
namespace Z
open PySem PySem.Spec PyProof.Rows L2
/-- divmod: where C does it by itself -/
def divO (i j : Int) : Option (Int × Int) := if 0 < j ∧ Builtin.Int.intBits i ≤ Builtin.Int.intBits j + 4000 then some (i / j, i % j) else none
section
variable {X : Cx} {es es1 es2 : List Slot} {os os1 os2 os3 : Os} {F0 : Hp} {rest : List Stmt} {D : Ends} {N V G W : List Str} {n i j k vi gi gj : Nat} {x y : Str} {pos pos' tpos apos cpos pp : Pos} {p q : Addr} {e a b c v : Expr} {φ ψ : VP} {γ : Type} {f : γ → Ent} {ws : List γ} {d d' : γ} {z : Int} {qs : List Addr}
theorem rc_divmod {i j : Int} {t : Int × Int} (h : divO i j = some t) : RCX (fun xs H Q => ∃ i j, xs = [L2.V.int i, .int j] ∧ CDivP i j ∧ ∀ p, H p = none → Q (.ref p) (upd H p (.tup [.int (i / j), .int (i % j)]))) [dat (.int i), dat (.int j)] os (dat (.tuple [.int t.1, .int t.2])) os := fun F H vs Q ow c qq => by
  unfold divO at h
  split at h
  · rename_i hl
    cases h
    obtain ⟨v, u, rfl, h, h2⟩ := cla2 c
    refine ⟨i, j, by rw [clv_int h, clv_int h2], divp_ok hl.1 hl.2, fun p hp => ?_⟩
    have fp := ow.ex.free hp
    exact qq _ _ _ (same_upd fp) (ow.frozen hp) (cl_dat (.tup upd_same (.cons (.int _) (.cons (.int _) .nil))))
  · cases h
/-- one of a list of owned things, opened for a call -/
theorem Ow.sub {F H : Hp} (j : Nat) (h : os[j]? = some (p, onl qs (ws.map f))) (hk : idx ws z = some d) (ow : Ow F os H) : ∃ tl, qs.length = ws.length ∧ Ow F ((qa qs z, f d) :: (p, orf qs) :: (os.eraseIdx j ++ tl)) H ∧
    ∀ d' F' H', Ow F' ((qa qs z, f d') :: (p, orf qs) :: (os.eraseIdx j ++ tl)) H' → Ow F' (os.set j (p, onl qs ((setI ws z d').map f))) H' := by
  obtain ⟨o1, hl⟩ := (ow.perm (perm_at h)).opn
  rw [List.length_map] at hl
  obtain ⟨k1, k2⟩ := idx_at hk
  have hi : ixD ws.length z < ws.length := (List.getElem?_eq_some_iff.mp k2).1
  have hq : qs[ixD ws.length z]? = some (qa qs z) := by
    unfold qa
    rw [hl]
    exact getD_at (by rw [hl]; exact hi)
  have he : (ws.map f)[ixD ws.length z]? = some (f d) := by rw [List.getElem?_map, k2]; rfl
  have hz : (qs.zip (ws.map f))[ixD ws.length z]? = some (qa qs z, f d) := zip_at hq he
  have pz : ∀ e' : Ent, (qs.zip (ws.map f)).set (ixD ws.length z) (qa qs z, e') = qs.zip ((ws.map f).set (ixD ws.length z) e') := fun e' => zip_set hq
  have pm : ∀ e' : Ent, ((p, orf qs) :: (((qs.zip (ws.map f)).set (ixD ws.length z) (qa qs z, e')) ++ os.eraseIdx j)).Perm ((qa qs z, e') :: (p, orf qs) :: (os.eraseIdx j ++ (qs.zip (ws.map f)).eraseIdx (ixD ws.length z))) := fun e' => by
    have hs : ((qs.zip (ws.map f)).set (ixD ws.length z) (qa qs z, e')).Perm ((qa qs z, e') :: (qs.zip (ws.map f)).eraseIdx (ixD ws.length z)) := (perm_set hz).symm
    refine (List.Perm.cons _ (hs.append_right _)).trans ?_
    refine (List.Perm.swap _ _ _).trans (List.Perm.cons _ (List.Perm.cons _ List.perm_append_comm))
  refine ⟨(qs.zip (ws.map f)).eraseIdx (ixD ws.length z), hl, ?_, fun d' F' H' o' => ?_⟩
  · have := pm (f d)
    rw [show (qs.zip (ws.map f)).set (ixD ws.length z) (qa qs z, f d) = qs.zip (ws.map f) from by
      obtain ⟨q1, q2⟩ := List.getElem?_eq_some_iff.mp hz
      rw [← q2, List.set_getElem_self]] at this
    exact o1.perm this
  · have o2 := o'.perm (pm (f d')).symm
    rw [pz] at o2
    have o3 := o2.cls (by rw [List.length_set, List.length_map]; exact hl)
    have e5 : (ws.map f).set (ixD ws.length z) (f d') = (setI ws z d').map f := by
      unfold setI
      rw [List.map_set]
    rw [e5] at o3
    exact o3.perm (perm_set h)
theorem EX.sub (j : Nat) (h : os[j]? = some (p, onl qs (ws.map f))) (hk : idx ws z = some d) (k : ∀ tl, qs.length = ws.length → EX X es ((qa qs z, f d) :: (p, orf qs) :: (os.eraseIdx j ++ tl)) e φ ((qa qs z, f d') :: (p, orf qs) :: (os.eraseIdx j ++ tl))) : EX X es os e φ (os.set j (p, onl qs ((setI ws z d').map f))) := fun F σ H Q ow sl qq => by
  obtain ⟨tl, hl, o1, back⟩ := ow.sub j h hk
  exact k tl hl F σ H Q o1 sl fun F' H' v e' o' c' => qq F' H' v e' (back d' F' H' o') c'
/-- x[i] while it is opened -/
theorem ex_nst0 (j : Nat) (hl : qs.length = ws.length) (hk : idx ws z = some d) (h : os2[j]? = some (q, orf qs)) (ha : EX X es os a (own q) os1) (hb : EX X es os1 b (dat (.int z)) os2) (hp : PlainIx b := by exact fun _ _ => rfl) : EX X es os (.Subscript a b pos) (own (qa qs z)) os2 := fun F σ H Q ow sl qq =>
  we_of (pe_ix L2.ix_list pe_u pe_u hp) (ha F σ H _ ow sl fun F1 H1 x e1 o1 c1 => hb F1 σ H1 _ o1 (sl.mono e1) fun F2 H2 y e2 o2 c2 => by
    obtain rfl : x = .ref q := c1.now
    obtain ⟨_, o, h1, _, rfl⟩ := (o2.perm (perm_at h)).atU uni_orf
    obtain ⟨k1, k2⟩ := idx_at hk
    have hi : ixD ws.length z < ws.length := (List.getElem?_eq_some_iff.mp k2).1
    have hq : atI (qs.map L2.V.ref) z = some (.ref (qa qs z)) := by
      unfold atI
      rw [List.length_map, hl, k1]
      show (qs.map L2.V.ref)[ixD ws.length z]? = _
      rw [List.getElem?_map]
      unfold qa
      rw [hl, getD_at (d := (0 : Addr)) (by rw [hl]; exact hi)]
      rfl
    exact ⟨q, _, z, _, rfl, clv_int c2, .of h1, hq, qq F2 H2 _ (e1.trans e2) o2 cl_own⟩)
theorem gx_pairN {a b : Expr} {kk : Nat} {d1 : PyData} {q : Addr} {f g : List Slot → List Slot} (B : Bd X N W G k) (h1 : GX X a (dat d1) f) (h2 : GX X b (own q) g) (hn : (assignEach [a, b] X.env).length = 2 := by rfl) (hst : (assignEach [a, b] X.env).findIdx? (·.1) = none := by rfl)
    (hs : (assignEach [a, b] X.env).map (·.2) = assign a X.env :: (assignEach [b] X.env).map (·.2) := by rfl) (hs2 : (assignEach [b] X.env).map (·.2) = assign b X.env :: (assignEach [] X.env).map (·.2) := by rfl) :
    GX X (.Tuple [a, b] kk pos) (tpo d1 q) (fun es => g (f es)) := fun es os F σ H v Q ow sl c q => by
  obtain ⟨p, x, rfl, hp, k1⟩ := c.now
  refine wg_of (pg_tup (n := 2) B.calm (pgs_cons pg_u (pgs_cons pg_u pgs_nil hs2) hs) hn hst) ⟨p, _, rfl, .of (ow.ex _ _ hp), rfl, _, _, rfl, ?_⟩
  refine h1 es os F σ H _ _ ow sl (cl_dat k1) fun σ1 s1 => ⟨_, _, rfl, ?_⟩
  exact h2 _ os F σ1 H _ _ ow s1 cl_own fun σ2 s2 => ⟨rfl, q σ2 s2⟩
theorem rng_get {n i : Nat} {x : Int} (h : (range' 0 (n : Int))[i]? = some x) : x = (i : Int) ∧ i < n := by
  unfold range' at h
  obtain ⟨h1, h2⟩ := range_get h
  exact ⟨by omega, by omega⟩
theorem rng_none {n i : Nat} (h : (range' 0 (n : Int)).length ≤ i) : n ≤ i := by
  unfold range' at h
  rw [List.length_map, List.length_range] at h
  omega
/-- enumerate(a list of owned things) -/
theorem ix_enumN {elts : List Expr} {kk : Nat} (B : Bd X N W G k) (hj : G[gi]? = some "enumerate") (hm : X.mg "enumerate" = none) (j : Nat) (he : EX X es os e (own p) os1) (h : os1[j]? = some (p, onl qs (ws.map f))) (hs : starEach [e] X.env = [(false, eval e X.env)] := by rfl) :
    IX X (.Tuple elts kk tpos) es os (.Call (.Name "enumerate" pp) [e] [] pos) (range' 0 (ws.length : Int)) (fun x => tpo (.int x) (qa qs x)) (fun o => ∃ ws' : List γ, o[j]? = some (p, onl qs (ws'.map f))) os1 := fun F σ H R ow sl q =>
  wi_of (pi_enum (B.gl _ (List.mem_of_getElem? hj)).1 hm pa_u hs) (wa_of (pa_cons pe_u pa_nil hs) (he F σ H _ ow sl fun F1 H1 v e1 o1 c1 => by
    obtain rfl : v = .ref p := c1.now
    obtain ⟨h1, hl⟩ := nest_at j h o1
    refine ⟨p, qs.map .ref, rfl, .of h1, q F1 H1 _ e1 o1 fun F2 H2 os2 i s ow2 k2 => ?_⟩
    obtain ⟨ws', k2⟩ := k2
    obtain ⟨g1, _⟩ := nest_at j k2 ow2
    refine ⟨fun h => ⟨qs.map .ref, .of g1, by
      have := rng_none h
      rw [List.length_map]
      omega⟩, fun x hx => ?_⟩
    obtain ⟨rfl, hi⟩ := rng_get hx
    have hq : qs[i]? = some (qa qs (i : Int)) := by
      unfold qa
      have : ixD qs.length (i : Int) = i := by
        unfold ixD ixN
        rw [if_pos (by omega), if_pos (by omega)]
        show ((i : Int)).toNat = i
        omega
      rw [this]
      exact getD_at (by omega)
    have hu : (qs.map L2.V.ref)[i]? = some (.ref (qa qs (i : Int))) := by rw [List.getElem?_map, hq]; rfl
    refine ⟨⟨qs.map .ref, _, .of g1, hu⟩, fun w H3 y => ?_⟩
    obtain ⟨T, w2, rfl, hT, rfl, hy⟩ := y
    have ew : (qs.map L2.V.ref)[i]? = some w2 := hy _ (.of g1)
    rw [hu] at ew
    cases ew
    have fT := ow2.ex.free hT
    exact ⟨_, same_upd fT, ow2.frozen hT, fun G g => ⟨T, .int i, rfl, g _ _ upd_same, .int _⟩⟩))
theorem gx_five {a b c d e : Expr} {kk : Nat} {d1 d2 d3 d4 d5 : PyData} {f1 f2 f3 f4 f5 : List Slot → List Slot} (B : Bd X N W G k) (h1 : GX X a (dat d1) f1) (h2 : GX X b (dat d2) f2) (h3 : GX X c (dat d3) f3) (h4 : GX X d (dat d4) f4) (h5 : GX X e (dat d5) f5) (hn : (assignEach [a, b, c, d, e] X.env).length = 5 := by rfl) (hst : (assignEach [a, b, c, d, e] X.env).findIdx? (·.1) = none := by rfl)
    (hs0 : (assignEach [a, b, c, d, e] X.env).map (·.2) = assign a X.env :: (assignEach [b, c, d, e] X.env).map (·.2) := by rfl)
    (hs1 : (assignEach [b, c, d, e] X.env).map (·.2) = assign b X.env :: (assignEach [c, d, e] X.env).map (·.2) := by rfl)
    (hs2 : (assignEach [c, d, e] X.env).map (·.2) = assign c X.env :: (assignEach [d, e] X.env).map (·.2) := by rfl)
    (hs3 : (assignEach [d, e] X.env).map (·.2) = assign d X.env :: (assignEach [e] X.env).map (·.2) := by rfl)
    (hs4 : (assignEach [e] X.env).map (·.2) = assign e X.env :: (assignEach [] X.env).map (·.2) := by rfl)
    : GX X (.Tuple [a, b, c, d, e] kk pos) (dat (.tuple [d1, d2, d3, d4, d5])) (fun es => f5 (f4 (f3 (f2 (f1 es))))) := fun es os F σ H v Q ow sl c q => by
  obtain ⟨p, vs, rfl, hp, hv⟩ := rdt_dat F v c
  obtain ⟨v1, v2, v3, v4, v5, rfl, k1, k2, k3, k4, k5⟩ : ∃ v1 v2 v3 v4 v5, vs = [v1, v2, v3, v4, v5] ∧ Dq F v1 d1 ∧ Dq F v2 d2 ∧ Dq F v3 d3 ∧ Dq F v4 d4 ∧ Dq F v5 d5 := by
    cases hv with
    | cons k1 r => cases r with
      | cons k2 r => cases r with
        | cons k3 r => cases r with
          | cons k4 r => cases r with
            | cons k5 r => cases r; exact ⟨_, _, _, _, _, rfl, k1, k2, k3, k4, k5⟩
  refine wg_of (pg_tup (n := 5) B.calm (pgs_cons pg_u (pgs_cons pg_u (pgs_cons pg_u (pgs_cons pg_u (pgs_cons pg_u pgs_nil hs4) hs3) hs2) hs1) hs0) hn hst) ⟨p, _, rfl, .of (ow.ex _ _ hp), rfl, _, _, rfl, ?_⟩
  refine h1 _ os F σ H _ _ ow sl (cl_dat k1) fun σ1 s1 => ⟨_, _, rfl, ?_⟩
  refine h2 _ os F σ1 H _ _ ow s1 (cl_dat k2) fun σ2 s2 => ⟨_, _, rfl, ?_⟩
  refine h3 _ os F σ2 H _ _ ow s2 (cl_dat k3) fun σ3 s3 => ⟨_, _, rfl, ?_⟩
  refine h4 _ os F σ3 H _ _ ow s3 (cl_dat k4) fun σ4 s4 => ⟨_, _, rfl, ?_⟩
  exact h5 _ os F σ4 H _ _ ow s4 (cl_dat k5) fun σ5 s5 => ⟨rfl, q σ5 s5⟩
theorem tx_chain {op op' : CmpOp} {r r' : R2} {φ ψ χ : VP} {k k' : Bool} (ho : OpR X (compareOp op) r) (ho' : OpR X (compareOp op') r') (hr : R2X X r φ ψ os2 (dat (.bool k))) (hr' : R2X X r' ψ χ os3 (dat (.bool k'))) (h23 : k = false → os2 = os3)
    (ha : EX X es os a φ os1) (hb : EX X es os1 b ψ os2) (hc : k = true → EX X es os2 c χ os3) (hlm : lastMarks [op, op'] [b, c] = false := by rfl) : TX X es os (.Compare a [op, op'] [b, c] pos) (k && k') os3 := fun F σ H Q ow sl q =>
  wt_of (pt_chain ho ho' pe_u pe_u pe_u hlm) (ha F σ H _ ow sl fun F1 H1 x e1 o1 c1 => hb F1 σ H1 _ o1 (sl.mono e1) fun F2 H2 y e2 o2 c2 =>
    hr F2 H2 x y _ o2 (c1.mono e2) c2 fun F3 H3 v e3 o3 c3 => ⟨k, clv_bool c3, by
      have e := (e1.trans e2).trans e3
      cases k with
      | true =>
        rw [if_pos rfl]
        refine hc rfl F3 σ H3 _ o3 (sl.mono e) fun F4 H4 z e4 o4 c4 => ?_
        exact hr' F4 H4 y z _ o4 ((c2.mono e3).mono e4) c4 fun F5 H5 v e5 o5 c5 => ⟨k', clv_bool c5, by simpa using q F5 H5 ((e.trans e4).trans e5) o5⟩
      | false =>
        rw [if_neg Bool.false_ne_true]
        exact ⟨false, rfl, by simpa using q F3 H3 e (h23 rfl ▸ o3)⟩⟩)
theorem fam_K {X' : Cx} {scope : Scope} (h : Fam X scope X') : X'.K = X.K := by
  obtain ⟨_, _, _, _, _, rfl⟩ := h
  rfl
end
end Z
/-! Z, part ZC: promises of bodies whose statements are not looked at. -/
namespace Z
open PySem PySem.Spec PyProof.Rows L2
section
variable {P : Program} {w : World} {K : PySem.W.Frag} {mg : Str → Option Value} {base : Heap}
variable {α β : Type} {ps : α → List VP} {pre : α → Os} {m : α → Option β} {res : α → β → VP} {post : α → β → Os} {n : α → β → Ent} {x : Str} {st : Stmt} {f : Addr} {fd : FuncData} {N V Gs pn : List Str} {k nl : Nat}
theorem cal_ZQ {sts : List Stmt} (hst : defBody st = sts) (Fn : Fun K x x st f fd) (S : FnScope N pn (defScope st)) (nam : namB (defScope st) V Gs = true) (loc : V.all (locB (defScope st)) = true) (hmg : mg x = some (.ref f)) (hb : Binds K fd pn []) (hps : ∀ a, (ps a).length = pn.length) (hN : N.length = pn.length + nl)
    (body : ∀ (f : Addr) (cdv : Value) (A : Around) (outer : List Env) (s : Shared) (H : Hp) (E : XK) (a : α) (b : β) (F0 : Hp) (os : Os) (D : Ends), Bd (cxOf CX0 P w K mg base N x (defScope st) f cdv A outer s H E).nox N V Gs k → Bt (cxOf CX0 P w K mg base N x (defScope st) f cdv A outer s H E).nox V →
      m a = some b → RetZ F0 (post a b ++ os) (res a b) D → SX (cxOf CX0 P w K mg base N x (defScope st) f cdv A outer s H E).nox ((ps a).map sl ++ List.replicate nl un) (pre a ++ os) F0 sts D) : Cal P w K mg base (k + 1) x st pn (spZ ps pre m res post) := by
  subst hst
  exact cal_Z Fn S nam loc hmg hb hps hN body
theorem cal_NQ {sts : List Stmt} (hst : defBody st = sts) (Fn : Fun K x x st f fd) (S : FnScope N pn (defScope st)) (nam : namB (defScope st) V Gs = true) (loc : V.all (locB (defScope st)) = true) (hmg : mg x = some (.ref f)) (hb : Binds K fd pn []) (hps : ∀ a, (ps a).length = pn.length) (hN : N.length = pn.length + nl)
    (body : ∀ (f : Addr) (cdv : Value) (A : Around) (outer : List Env) (s : Shared) (H : Hp) (E : XK) (a : α) (b : β) (F0 : Hp) (os : Os) (D : Ends), Bd (cxOf CX0 P w K mg base N x (defScope st) f cdv A outer s H E).nox N V Gs k → Bt (cxOf CX0 P w K mg base N x (defScope st) f cdv A outer s H E).nox V →
      m a = some b → RetN F0 (post a b ++ os) (n a b) D → SX (cxOf CX0 P w K mg base N x (defScope st) f cdv A outer s H E).nox ((ps a).map sl ++ List.replicate nl un) (pre a ++ os) F0 sts D) : Cal P w K mg base (k + 1) x st pn (spN ps pre m n post) := by
  subst hst
  exact cal_N Fn S nam loc hmg hb hps hN body
end
end Z
/-! Y, part A: plain facts about the words of the mirrors. -/
namespace Z
open PySem PySem.Spec L2

theorem log2_small {n k : Nat} (h : n < 2 ^ k) (hk : 0 < k) : n.log2 < k := by
  by_cases h0 : n = 0
  · subst h0
    simpa using hk
  · exact (Nat.log2_lt h0).mpr h
theorem log2_int {i : Int} {k : Nat} (h0 : 0 ≤ i) (h : i < 2 ^ k) (hk : 0 < k) : i.natAbs.log2 < k := by
  refine log2_small ?_ hk
  have e : ((2 ^ k : Nat) : Int) = (2 : Int) ^ k := by norm_cast
  omega
theorem idx_of {α : Type} {xs : List α} {i : Int} {v : α} (h0 : 0 ≤ i) (h : xs[i.toNat]? = some v) : idx xs i = some v := by
  have hl := (List.getElem?_eq_some_iff.mp h).1
  unfold idx atI ixN
  rw [if_pos h0, if_pos (by omega)]
  exact h
theorem idx_last {α : Type} {xs : List α} {v : α} (h : xs[xs.length - 1]? = some v) : idx xs (-1) = some v := by
  have hl := (List.getElem?_eq_some_iff.mp h).1
  unfold idx atI ixN
  rw [if_neg (by omega), if_pos (by omega)]
  have e : ((-1 : Int) + (xs.length : Int)).toNat = xs.length - 1 := by omega
  show xs[((-1 : Int) + (xs.length : Int)).toNat]? = _
  rw [e]
  exact h
theorem rngO_ok {a b : Int} (h : -(2 ^ 62) ≤ a ∧ a < 2 ^ 62 ∧ -(2 ^ 62) ≤ b ∧ b < 2 ^ 62) : rngO a b = some (range' a b) := if_pos h
theorem mem_rng {a b x : Int} (h : x ∈ range' a b) : a ≤ x ∧ x < b := by
  unfold range' at h
  obtain ⟨i, hi, rfl⟩ := List.mem_map.mp h
  have := List.mem_range.mp hi
  omega
theorem lpR_go {α R S : Type} {f : S → α → Option (Step R S)} (P : S → Prop) : ∀ {xs : List α}, (∀ x ∈ xs, ∀ s, P s → ∃ s', f s x = some (.go s') ∧ P s') → ∀ {s0 : S}, P s0 → ∃ s', lpR f xs s0 = some (.inr s') ∧ P s'
  | [], _, s0, h0 => ⟨s0, rfl, h0⟩
  | x :: xs, h, s0, h0 => by
    obtain ⟨s1, e, h1⟩ := h x List.mem_cons_self s0 h0
    obtain ⟨s2, e2, h2⟩ := lpR_go P (fun y hy => h y (List.mem_cons_of_mem _ hy)) h1
    refine ⟨s2, ?_, h2⟩
    unfold lpR
    rw [e]
    exact e2
theorem lpR_goN {α R S : Type} {f : S → α → Option (Step R S)} : ∀ {xs : List α} (P : Nat → S → Prop), (∀ (i : Nat) (x : α) (s : S), xs[i]? = some x → P i s → ∃ s', f s x = some (.go s') ∧ P (i + 1) s') → ∀ {s0 : S}, P 0 s0 → ∃ s', lpR f xs s0 = some (.inr s') ∧ P xs.length s'
  | [], P, _, s0, h0 => ⟨s0, rfl, h0⟩
  | x :: xs, P, h, s0, h0 => by
    obtain ⟨s1, e, h1⟩ := h 0 x s0 rfl h0
    obtain ⟨s2, e2, h2⟩ := lpR_goN (xs := xs) (fun i => P (i + 1)) (fun i y s hy hs => h (i + 1) y s (by simpa using hy) hs) h1
    refine ⟨s2, ?_, h2⟩
    unfold lpR
    rw [e]
    exact e2
theorem lp_goN {α S : Type} {f : S → α → Option S} : ∀ {xs : List α} (P : Nat → S → Prop), (∀ (i : Nat) (x : α) (s : S), xs[i]? = some x → P i s → ∃ s', f s x = some s' ∧ P (i + 1) s') → ∀ {s0 : S}, P 0 s0 → ∃ s', lp f xs s0 = some s' ∧ P xs.length s'
  | [], P, _, s0, h0 => ⟨s0, rfl, h0⟩
  | x :: xs, P, h, s0, h0 => by
    obtain ⟨s1, e, h1⟩ := h 0 x s0 rfl h0
    obtain ⟨s2, e2, h2⟩ := lp_goN (xs := xs) (fun i => P (i + 1)) (fun i y s hy hs => h (i + 1) y s (by simpa using hy) hs) h1
    refine ⟨s2, ?_, h2⟩
    unfold lp
    rw [e]
    exact e2
theorem reprO_int (i : Int) : reprO (.int i) = strO i := by
  unfold reprO strO
  by_cases h : i.natAbs.log2 < 1920
  · rw [if_pos h, if_pos ⟨by simpa only [PyData.showable, decide_eq_true_eq] using h, by simp only [PyData.hasDict], by simp only [PyData.depth]; omega, rfl⟩]
    simp only [PyData.shown]
  · rw [if_neg h, if_neg]
    intro z
    exact h (by simpa only [PyData.showable, decide_eq_true_eq] using z.1)
theorem strO_ok {i : Int} (h : i.natAbs.log2 < 1920) : strO i = some (toString i) := if_pos h

/-! ### what the laws draw from -/
def springM (script : List Int) (k_ : Int) : Option (List Int) :=
  ((if (decide (k_ < (script.length : Int))) = true then ((idx script k_).bind fun t1 => some t1) else some (((53 * k_) + 11) + (script.length : Int)) : Option Int).bind fun s2 => ((lcT (fun (other3 : Int) => (other3 % 1000000000000000000000007)) script).bind fun t5 => ((some (((((absI s2) * 92821) + (7 * (if (decide (s2 < 0)) = true then 1 else 0))) + (t5.sum * 131071)) + (977 * k_))).bind fun mixed6 => some [(maxI 0 (s2 - 1000000000000000000)), (mixed6 % 1000000000000000000000000000057), 0])))
def dropM (w_spring_here : List Int) (many : Int) : Option (Int × List Int) :=
  ((idx w_spring_here 0).bind fun t1 => (if (decide (0 < t1)) = true then ((idx w_spring_here 0).bind fun t2 => (modO t2 many).bind fun t3 => ((idx w_spring_here 0).bind fun t4 => (fdivO t4 many).bind fun t5 => (setO w_spring_here 0 t5).bind fun t6 => some (t3, t6))) else ((idx w_spring_here 2).bind fun t7 => (setO w_spring_here 2 (t7 + 1)).bind fun t8 => ((idx t8 1).bind fun t9 => (idx t8 2).bind fun t10 => (powO (t9 + (161803399 * t10)) 3).bind fun t11 => ((idx t8 2).bind fun t12 => ((idx t8 2).bind fun t13 => (mulO ((t11 + (11 * t12)) % 10000000000000000000000000000033) (((t11 + (11 * t12)) % 10000000000000000000000000000033) + (5503 * t13))).bind fun t14 => ((modO ((t14 % 100000000000000000000000000319) / 12289) many).bind fun t15 => some (t15, t8))))))))
/-- three cells, of which so many draws were made at most -/
def SpOk (n : Nat) (w : List Int) : Prop := ∃ a b c : Int, w = [a, b, c] ∧ 0 ≤ a ∧ 0 ≤ b ∧ b < 2 ^ 101 ∧ 0 ≤ c ∧ c ≤ n
theorem SpOk.mono {n m : Nat} {w : List Int} (h : SpOk n w) (hm : n ≤ m) : SpOk m w := by
  obtain ⟨a, b, c, e, h1, h2, h3, h4, h5⟩ := h
  exact ⟨a, b, c, e, h1, h2, h3, h4, by omega⟩
theorem spring_ok {ns : List Int} {k : Int} (hl : ns.length < sizeLine) (h0 : 0 ≤ k) : ∃ w, springM ns k = some w ∧ SpOk 0 w := by
  unfold springM
  have h1 : ∃ s, (if (decide (k < (ns.length : Int))) = true then ((idx ns k).bind fun t1 => some t1) else some (((53 * k) + 11) + (ns.length : Int)) : Option Int) = some s := by
    by_cases hk : k < (ns.length : Int)
    · rw [if_pos (decide_eq_true hk)]
      have hk2 : k.toNat < ns.length := by omega
      exact ⟨ns[k.toNat], by rw [idx_of h0 (List.getElem?_eq_getElem hk2)]; rfl⟩
    · rw [if_neg (by simpa using hk)]
      exact ⟨_, rfl⟩
  obtain ⟨s, e⟩ := h1
  rw [e]
  show ∃ w, ((lcT (fun (other3 : Int) => (other3 % 1000000000000000000000007)) ns).bind fun t5 => _) = some w ∧ SpOk 0 w
  unfold lcT
  rw [if_pos hl]
  refine ⟨_, rfl, _, _, _, rfl, ?_, Int.emod_nonneg _ (by decide), ?_, Int.le_refl 0, Int.le_refl 0⟩
  · unfold maxI
    split <;> omega
  · refine Int.lt_trans (Int.emod_lt_of_pos _ (by decide)) (by decide)
theorem pow_cube {i : Int} (h0 : 0 ≤ i) (h : i < 2 ^ 103) : powO i 3 = some (i ^ 3) := by
  unfold powO
  rw [if_pos]
  · rfl
  refine ⟨by decide, ?_⟩
  have hb : Builtin.Int.intBits i ≤ 103 := by
    unfold Builtin.Int.intBits
    split
    · omega
    · have := log2_int h0 h (by decide)
      omega
  omega
theorem drop_ok {n : Nat} (hn : n < 2 ^ 60) {w : List Int} (h : SpOk n w) {many : Int} (h0 : 0 < many) (hb : many.natAbs.log2 < 9000) : ∃ v w', dropM w many = some (v, w') ∧ 0 ≤ v ∧ v < many ∧ SpOk (n + 1) w' := by
  obtain ⟨a, b, c, rfl, ha, hb0, hb1, hc0, hc1⟩ := h
  unfold dropM
  have i0 : idx [a, b, c] 0 = some a := rfl
  have i2 : idx [a, b, c] 2 = some c := rfl
  rw [i0]
  show ∃ v w', (if (decide (0 < a)) = true then _ else _) = some (v, w') ∧ 0 ≤ v ∧ v < many ∧ SpOk (n + 1) w'
  by_cases hp : 0 < a
  · rw [if_pos (decide_eq_true hp)]
    refine ⟨a % many, [a / many, b, c], ?_, Int.emod_nonneg _ (by omega), Int.emod_lt_of_pos _ h0, _, _, _, rfl, Int.ediv_nonneg ha (by omega), hb0, hb1, hc0, by omega⟩
    have m1 : modO a many = some (a % many) := if_pos h0
    have m2 : fdivO a many = some (a / many) := if_pos ⟨h0, hb⟩
    have m3 : setO [a, b, c] 0 (a / many) = some [a / many, b, c] := rfl
    show ((modO a many).bind fun t3 => ((some a).bind fun t4 => (fdivO t4 many).bind fun t5 => (setO [a, b, c] 0 t5).bind fun t6 => some (t3, t6))) = _
    rw [m1]
    show ((fdivO a many).bind fun t5 => (setO [a, b, c] 0 t5).bind fun t6 => some (a % many, t6)) = _
    rw [m2]
    show ((setO [a, b, c] 0 (a / many)).bind fun t6 => some (a % many, t6)) = _
    rw [m3]
    rfl
  · rw [if_neg (by simpa using hp), i2]
    have m1 : setO [a, b, c] 2 (c + 1) = some [a, b, c + 1] := rfl
    show ∃ v w', ((setO [a, b, c] 2 (c + 1)).bind fun t8 => _) = some (v, w') ∧ _
    rw [m1]
    have m2 : powO (b + (161803399 * (c + 1))) 3 = some ((b + (161803399 * (c + 1))) ^ 3) := pow_cube (by omega) (by omega)
    show ∃ v w', ((powO (b + (161803399 * (c + 1))) 3).bind fun t11 => _) = some (v, w') ∧ _
    rw [m2]
    generalize (b + (161803399 * (c + 1))) ^ 3 = t11
    have q0 : 0 ≤ (t11 + (11 * (c + 1))) % 10000000000000000000000000000033 := Int.emod_nonneg _ (by decide)
    have q1 : (t11 + (11 * (c + 1))) % 10000000000000000000000000000033 < 10000000000000000000000000000033 := Int.emod_lt_of_pos _ (by decide)
    show ∃ v w', ((mulO ((t11 + (11 * (c + 1))) % 10000000000000000000000000000033) (((t11 + (11 * (c + 1))) % 10000000000000000000000000000033) + (5503 * (c + 1)))).bind fun t14 => ((modO ((t14 % 100000000000000000000000000319) / 12289) many).bind fun t15 => some (t15, [a, b, c + 1]))) = some (v, w') ∧ _
    generalize (t11 + (11 * (c + 1))) % 10000000000000000000000000000033 = x at q0 q1
    have m3 : mulO x (x + 5503 * (c + 1)) = some (x * (x + 5503 * (c + 1))) := by
      refine if_pos ?_
      have e1 : x.natAbs.log2 < 105 := log2_int q0 (by omega) (by decide)
      have e2 : (x + 5503 * (c + 1)).natAbs.log2 < 106 := log2_int (by omega) (by omega) (by decide)
      omega
    rw [m3]
    refine ⟨((x * (x + 5503 * (c + 1))) % 100000000000000000000000000319) / 12289 % many, [a, b, c + 1], ?_, Int.emod_nonneg _ (by omega), Int.emod_lt_of_pos _ h0, _, _, _, rfl, ha, hb0, hb1, by omega, by omega⟩
    have m4 : modO (((x * (x + 5503 * (c + 1))) % 100000000000000000000000000319) / 12289) many = some (((x * (x + 5503 * (c + 1))) % 100000000000000000000000000319) / 12289 % many) := if_pos h0
    show ((modO (((x * (x + 5503 * (c + 1))) % 100000000000000000000000000319) / 12289) many).bind fun t15 => some (t15, [a, b, c + 1])) = _
    rw [m4]
    rfl
/-- draws of small bounds -/
theorem drop_small {n : Nat} (hn : n < 2 ^ 60) {w : List Int} (h : SpOk n w) {many : Int} (h0 : 0 < many) (hb : many < 2 ^ 64) : ∃ v w', dropM w many = some (v, w') ∧ 0 ≤ v ∧ v < many ∧ SpOk (n + 1) w' :=
  drop_ok hn h h0 (Nat.lt_trans (log2_int (by omega) hb (by decide)) (by decide))
end Z
/-! Y, part B: walks made straight; what is left when one thing and its opposite fall away. -/
namespace Z
open PySem PySem.Spec L2

/-! ### the plain words -/
/-- a step put on a pile -/
def psh : List Int → Int → List Int
  | [], x => [x]
  | y :: t, x => if y = -x then t else x :: y :: t
/-- no two opposite steps beside one another -/
def Gd : List Int → Prop
  | x :: y :: t => y ≠ -x ∧ Gd (y :: t)
  | _ => True
theorem gd_nil : Gd [] := trivial
def fl (s w : List Int) : List Int := w.foldl psh s
def red (w : List Int) : List Int := (fl [] w).reverse
def iv (w : List Int) : List Int := w.reverse.map fun x => -x
theorem gd_tail {x : Int} : ∀ {t : List Int}, Gd (x :: t) → Gd t
  | [], _ => trivial
  | _ :: _, h => h.2
theorem psh_gd {s : List Int} {x : Int} (h : Gd s) : Gd (psh s x) := by
  cases s with
  | nil => trivial
  | cons y t =>
    by_cases hy : y = -x
    · rw [show psh (y :: t) x = t from if_pos hy]
      exact gd_tail h
    · rw [show psh (y :: t) x = x :: y :: t from if_neg hy]
      exact ⟨hy, h⟩
theorem psh_inv {s : List Int} {x : Int} (h : Gd s) : psh (psh s x) (-x) = s := by
  cases s with
  | nil =>
    show (if x = -(-x) then [] else [-x, x]) = []
    rw [if_pos (by omega)]
  | cons y t =>
    by_cases hy : y = -x
    · have e : psh (y :: t) x = t := if_pos hy
      rw [e]
      cases t with
      | nil => show [-x] = [y]; rw [hy]
      | cons z t =>
        have e2 : psh (z :: t) (-x) = -x :: z :: t := if_neg (by have := h.1; omega)
        rw [e2, hy]
    · have e : psh (y :: t) x = x :: y :: t := if_neg hy
      rw [e]
      exact if_pos (by omega)
theorem fl_gd : ∀ {w s : List Int}, Gd s → Gd (fl s w)
  | [], _, h => h
  | _ :: w, _, h => fl_gd (w := w) (psh_gd h)
theorem fl_app (s u v : List Int) : fl s (u ++ v) = fl (fl s u) v := List.foldl_append
theorem gd_suf : ∀ {a b : List Int}, Gd (a ++ b) → Gd b
  | [], _, h => h
  | _ :: a, _, h => gd_suf (a := a) (gd_tail h)
theorem gd_pre : ∀ {a b : List Int}, Gd (a ++ b) → Gd a
  | [], _, _ => trivial
  | [_], _, _ => trivial
  | _ :: y :: a, _, h => ⟨h.1, gd_pre (a := y :: a) h.2⟩
theorem gd_join {x y : Int} {t : List Int} (hxy : x ≠ -y) (h2 : Gd (x :: t)) : ∀ {a : List Int}, Gd (a ++ [y]) → Gd (a ++ y :: x :: t)
  | [], _ => ⟨hxy, h2⟩
  | [_], h => ⟨h.1, hxy, h2⟩
  | _ :: b :: a, h => ⟨h.1, gd_join (a := b :: a) hxy h2 h.2⟩
theorem gd_rev : ∀ {w : List Int}, Gd w → Gd w.reverse
  | [], _ => trivial
  | [_], _ => trivial
  | x :: y :: t, h => by
    have ih := gd_rev (w := y :: t) h.2
    rw [List.reverse_cons] at ih
    rw [List.reverse_cons, List.reverse_cons, List.append_assoc]
    have := h.1
    exact gd_join (t := []) (by omega) trivial ih
theorem gd_neg : ∀ {w : List Int}, Gd w → Gd (w.map fun x => -x)
  | [], _ => trivial
  | [_], _ => trivial
  | x :: y :: t, h => ⟨by have := h.1; show -y ≠ -(-x); omega, gd_neg (w := y :: t) h.2⟩
theorem gd_iv {w : List Int} (h : Gd w) : Gd (iv w) := gd_neg (gd_rev h)
theorem fl_of_gd : ∀ {w s : List Int}, Gd (w.reverse ++ s) → fl s w = w.reverse ++ s
  | [], _, _ => rfl
  | x :: w, s, h => by
    rw [List.reverse_cons, List.append_assoc] at h
    have e : psh s x = x :: s := by
      have hs := gd_suf h
      cases s with
      | nil => rfl
      | cons y t => exact if_neg hs.1
    show fl (psh s x) w = _
    have h' : Gd (w.reverse ++ (x :: s)) := h
    rw [e, fl_of_gd (w := w) h', List.reverse_cons, List.append_assoc]
    rfl
theorem red_gd (w : List Int) : Gd (red w) := gd_rev (fl_gd gd_nil)
theorem red_of {w : List Int} (h : Gd w) : red w = w := by
  unfold red
  rw [fl_of_gd (s := []) (by rw [List.append_nil]; exact gd_rev h), List.append_nil, List.reverse_reverse]
theorem fl_nest : ∀ {w t s : List Int}, Gd s → Gd t → fl (fl s t.reverse) w = fl s (fl t w).reverse
  | [], _, _, _, _ => rfl
  | x :: w, t, s, hs, ht => by
    show fl (psh (fl s t.reverse) x) w = fl s (fl (psh t x) w).reverse
    rw [← fl_nest (w := w) hs (psh_gd (x := x) ht)]
    refine congrArg (fun z => fl z w) ?_
    cases t with
    | nil => rfl
    | cons y t =>
      by_cases hy : y = -x
      · have e : psh (y :: t) x = t := if_pos hy
        rw [e, List.reverse_cons, fl_app, hy]
        have := psh_inv (x := -x) (fl_gd (w := t.reverse) hs)
        rw [Int.neg_neg] at this
        exact this
      · have e : psh (y :: t) x = x :: y :: t := if_neg hy
        rw [e, List.reverse_cons (a := x), fl_app]
        rfl
theorem fl_red {s w : List Int} (hs : Gd s) : fl s w = fl s (red w) := fl_nest (t := []) hs gd_nil
theorem red_app (u v : List Int) : red (u ++ v) = red (red u ++ red v) := by
  have e1 := fl_red (w := v) (fl_gd (w := u) gd_nil)
  have e2 := fl_red (s := []) (w := u) gd_nil
  show (fl [] (u ++ v)).reverse = (fl [] (red u ++ red v)).reverse
  rw [fl_app, fl_app, e1, ← e2]
theorem red_red (u : List Int) : red (red u) = red u := red_of (red_gd u)
theorem red_appL (u v : List Int) : red (red u ++ v) = red (u ++ v) := by rw [red_app (red u), red_red, ← red_app]
theorem red_appR (u v : List Int) : red (u ++ red v) = red (u ++ v) := by rw [red_app u, red_red, ← red_app]
theorem iv_cons (x : Int) (w : List Int) : iv (x :: w) = iv w ++ [-x] := by
  unfold iv
  rw [List.reverse_cons, List.map_append]
  rfl
theorem fl_inv : ∀ {w s : List Int}, Gd s → fl s (w ++ iv w) = s
  | [], _, _ => rfl
  | x :: w, s, h => by
    rw [iv_cons]
    show fl (psh s x) (w ++ (iv w ++ [-x])) = s
    rw [← List.append_assoc, fl_app, fl_inv (psh_gd h)]
    exact psh_inv h
theorem red_inv (w : List Int) : red (w ++ iv w) = [] := by
  unfold red
  rw [fl_inv gd_nil]
  rfl
theorem iv_iv (w : List Int) : iv (iv w) = w := by
  unfold iv
  rw [← List.map_reverse, List.reverse_reverse, List.map_map]
  have : ((fun x : Int => -x) ∘ fun x : Int => -x) = id := by
    funext x
    show -(-x) = x
    omega
  rw [this, List.map_id]
theorem red_inv' (w : List Int) : red (iv w ++ w) = [] := by
  have := red_inv (iv w)
  rw [iv_iv] at this
  exact this
theorem red_pair (a b : List Int) (x : Int) : red (a ++ x :: -x :: b) = red (a ++ b) := by
  unfold red
  rw [fl_app, fl_app]
  show (fl (psh (psh (fl [] a) x) (-x)) b).reverse = _
  rw [psh_inv (fl_gd gd_nil)]
theorem psh_mem {P : Int → Prop} {s : List Int} {x : Int} (h : ∀ y ∈ s, P y) (hx : P x) : ∀ y ∈ psh s x, P y := by
  cases s with
  | nil =>
    intro y hy
    have : y = x := by simpa [psh] using hy
    exact this ▸ hx
  | cons z t =>
    by_cases hz : z = -x
    · rw [show psh (z :: t) x = t from if_pos hz]
      exact fun y hy => h y (List.mem_cons_of_mem _ hy)
    · rw [show psh (z :: t) x = x :: z :: t from if_neg hz]
      intro y hy
      rcases List.mem_cons.mp hy with rfl | hy
      · exact hx
      · exact h y hy
theorem fl_mem {P : Int → Prop} : ∀ {w s : List Int}, (∀ y ∈ s, P y) → (∀ y ∈ w, P y) → ∀ y ∈ fl s w, P y
  | [], _, h, _ => h
  | x :: w, _, h, h2 => fl_mem (w := w) (psh_mem h (h2 x List.mem_cons_self)) fun y hy => h2 y (List.mem_cons_of_mem _ hy)
theorem red_mem {P : Int → Prop} {w : List Int} (h : ∀ y ∈ w, P y) : ∀ y ∈ red w, P y := fun y hy =>
  fl_mem (s := []) (fun _ z => nomatch z) h y (List.mem_reverse.mp hy)
theorem psh_len (s : List Int) (x : Int) : (psh s x).length ≤ s.length + 1 := by
  cases s with
  | nil => exact Nat.le_refl _
  | cons y t =>
    by_cases hy : y = -x
    · rw [show psh (y :: t) x = t from if_pos hy, List.length_cons]
      omega
    · rw [show psh (y :: t) x = x :: y :: t from if_neg hy, List.length_cons, List.length_cons]
      exact Nat.le_refl _
theorem fl_len : ∀ (w s : List Int), (fl s w).length ≤ s.length + w.length
  | [], s => Nat.le_refl _
  | x :: w, s => by
    have h1 := fl_len w (psh s x)
    have h2 := psh_len s x
    show (fl (psh s x) w).length ≤ _
    rw [List.length_cons]
    omega
theorem red_len (w : List Int) : (red w).length ≤ w.length := by
  have := fl_len w []
  unfold red
  rw [List.length_reverse]
  simpa using this
theorem iv_len (w : List Int) : (iv w).length = w.length := by
  unfold iv
  rw [List.length_map, List.length_reverse]

/-! ### slices -/
theorem cut_to {α : Type} (xs : List α) {i : Int} (h : 0 ≤ i) : cut xs none (some i) = xs.take i.toNat := by
  obtain ⟨n, rfl⟩ := Int.eq_ofNat_of_zero_le h
  unfold cut
  show (xs.drop 0).take (HT.sIx xs.length xs.length (some (n : Int)) - 0) = _
  rw [HT.sIx_nat, Nat.sub_zero, List.drop_zero, Int.toNat_natCast]
  by_cases hn : n ≤ xs.length
  · rw [Nat.min_eq_left hn]
  · rw [Nat.min_eq_right (by omega), List.take_length, List.take_of_length_le (by omega)]
theorem cut_from {α : Type} (xs : List α) {i : Int} (h : 0 ≤ i) : cut xs (some i) none = xs.drop i.toNat := by
  obtain ⟨n, rfl⟩ := Int.eq_ofNat_of_zero_le h
  unfold cut
  show (xs.drop (HT.sIx xs.length 0 (some (n : Int)))).take (xs.length - HT.sIx xs.length 0 (some (n : Int))) = _
  rw [HT.sIx_nat, Int.toNat_natCast]
  by_cases hn : n ≤ xs.length
  · rw [Nat.min_eq_left hn, List.take_of_length_le (by rw [List.length_drop]; omega)]
  · rw [Nat.min_eq_right (by omega), List.drop_length, List.take_nil, List.drop_of_length_le (by omega)]

/-! ### straightened, as the program writes it -/
def straightM (walk : List Int) : Option (List Int) :=
  ((lp (fun (s1 : (List Int)) (step2 : Int) => ((if (decide (0 < (s1.length : Int))) = true then ((idx s1 (-1)).bind fun t6 => some (decide (t6 = (-step2)))) else some false).bind fun t7 => ((if t7 = true then ((popO s1).bind fun t8 => some t8.2) else ((appO s1 step2).bind fun t9 => some t9) : Option (List Int)).bind fun s10 => some s10))) walk ([])).bind fun f3 => some f3)
theorem last_rev {α : Type} (y : α) (t : List α) : idx (y :: t).reverse (-1) = some y := by
  refine idx_last ?_
  rw [List.length_reverse, List.reverse_cons, List.length_cons, Nat.add_sub_cancel, List.getElem?_append_right (by rw [List.length_reverse]; exact Nat.le_refl _), List.length_reverse, Nat.sub_self]
  rfl
theorem pop_rev {α : Type} (y : α) (t : List α) : popO (y :: t).reverse = some (y, t.reverse) := by
  unfold popO
  rw [List.reverse_cons, List.getLast?_append]
  simp
theorem app_ok {α : Type} {s : List α} {x : α} (h : s.length < sizeLine) : appO s x = some (s ++ [x]) := if_pos h
theorem straight_lp : ∀ (w t : List Int), t.length + w.length ≤ sizeLine → lp (fun (s1 : (List Int)) (step2 : Int) => ((if (decide (0 < (s1.length : Int))) = true then ((idx s1 (-1)).bind fun t6 => some (decide (t6 = (-step2)))) else some false).bind fun t7 => ((if t7 = true then ((popO s1).bind fun t8 => some t8.2) else ((appO s1 step2).bind fun t9 => some t9) : Option (List Int)).bind fun s10 => some s10))) w t.reverse = some (fl t w).reverse
  | [], _, _ => rfl
  | x :: w, t, h => by
    rw [List.length_cons] at h
    have h2 := psh_len t x
    have ih := straight_lp w (psh t x) (by omega)
    unfold lp
    refine Eq.trans (congrArg (fun z => Option.bind z _) (?_ : _ = some (psh t x).reverse)) ih
    cases t with
    | nil =>
      have : appO ([] : List Int) x = some [x] := app_ok (by decide)
      simp [this, psh]
    | cons y t =>
      have hpos : decide (0 < ((y :: t).reverse.length : Int)) = true := by
        rw [List.length_reverse, List.length_cons]
        exact decide_eq_true (by omega)
      rw [hpos, if_pos rfl, last_rev]
      by_cases hy : y = -x
      · have e : psh (y :: t) x = t := if_pos hy
        simp only [Option.bind_some, hy, decide_true, if_true]
        rw [← hy, pop_rev, e]
        rfl
      · have e : psh (y :: t) x = x :: y :: t := if_neg hy
        simp only [Option.bind_some, hy, decide_false, Bool.false_eq_true, if_false]
        rw [app_ok (by rw [List.length_reverse]; omega), e]
        simp
theorem straight_ok {w : List Int} (h : w.length ≤ sizeLine) : straightM w = some (red w) := by
  unfold straightM
  rw [show ([] : List Int) = ([] : List Int).reverse from rfl, straight_lp w [] (by simpa using h)]
  rfl
theorem lcT_some {α β : Type} (f : α → β) {xs : List α} (h : xs.length < sizeLine) : lcT f xs = some (xs.map f) := if_pos h
theorem mapO_some {α β : Type} {f : α → Option β} {g : α → β} : ∀ {xs : List α}, (∀ x ∈ xs, f x = some (g x)) → mapO f xs = some (xs.map g)
  | [], _ => rfl
  | x :: xs, h => by
    unfold mapO
    rw [h x List.mem_cons_self, mapO_some (xs := xs) fun y hy => h y (List.mem_cons_of_mem _ hy)]
    rfl
theorem lcO_some {α β : Type} {f : α → Option β} (g : α → β) {xs : List α} (hl : xs.length < sizeLine) (h : ∀ x ∈ xs, f x = some (g x)) : lcO f xs = some (xs.map g) := by
  unfold lcO
  rw [if_pos hl, mapO_some h]
theorem cat_ok {α : Type} {xs ys : List α} (h : xs.length + ys.length ≤ sizeLine) : catO xs ys = some (xs ++ ys) := if_pos h

/-! ### put behind one another, as the laws write it -/
def kk : List Int → List Int → Nat
  | x :: u, y :: v => if x = -y then kk u v + 1 else 0
  | _, _ => 0
theorem kk_nil (u : List Int) : kk u [] = 0 := by cases u <;> rfl
theorem kk_le : ∀ u v : List Int, kk u v ≤ u.length ∧ kk u v ≤ v.length
  | [], _ => ⟨Nat.zero_le _, Nat.zero_le _⟩
  | _ :: _, [] => ⟨Nat.zero_le _, Nat.zero_le _⟩
  | x :: u, y :: v => by
    have := kk_le u v
    unfold kk
    rw [List.length_cons, List.length_cons]
    split <;> omega
def jn (u v : List Int) : List Int := u.take (u.length - kk u.reverse v) ++ v.drop (kk u.reverse v)
theorem fl_kk : ∀ {v u : List Int}, Gd u → Gd v.reverse → fl u v = ((u.drop (kk u v)).reverse ++ v.drop (kk u v)).reverse
  | [], u, _, _ => by
    rw [kk_nil]
    simp [fl]
  | y :: v, [], _, hv => by
    show fl [] (y :: v) = _
    rw [fl_of_gd (s := []) (by rw [List.append_nil]; exact hv), List.append_nil]
    simp [kk]
  | y :: v, x :: u, hu, hv => by
    by_cases hx : x = -y
    · have e : kk (x :: u) (y :: v) = kk u v + 1 := if_pos hx
      have e2 : psh (x :: u) y = u := if_pos hx
      rw [List.reverse_cons] at hv
      rw [e]
      show fl (psh (x :: u) y) v = _
      rw [e2, fl_kk (v := v) (gd_tail hu) (gd_pre hv)]
      rfl
    · have e : kk (x :: u) (y :: v) = 0 := if_neg hx
      rw [e, fl_of_gd]
      · simp
      · rw [List.reverse_cons] at hv ⊢
        rw [List.append_assoc]
        exact gd_join hx hu hv
theorem jn_red {u v : List Int} (hu : Gd u) (hv : Gd v) : jn u v = red (u ++ v) := by
  unfold red jn
  rw [fl_app, fl_of_gd (s := []) (w := u) (by rw [List.append_nil]; exact gd_rev hu), List.append_nil, fl_kk (gd_rev hu) (gd_rev hv), List.reverse_reverse, List.drop_reverse, List.reverse_reverse]
def joinM (one other : List Int) : Option (List Int) :=
  ((wh (fun (s1 : Int) => ((if (decide (s1 < (one.length : Int))) = true then ((if (decide (s1 < (other.length : Int))) = true then ((idx one (((one.length : Int) - 1) - s1)).bind fun t3 => (idx other s1).bind fun t4 => some (decide (t3 = (-t4)))) else some false).bind fun t5 => some t5) else some false).bind fun t6 => some t6)) (fun (s1 : Int) => (some (Step.go (s1 + 1)) : Option (Step (List Int) Int))) 1000 0).bind fun f2o => Sum.elim (fun r10 => some r10) (fun f2 => ((catO (α := Int) (cut one none (some ((one.length : Int) - f2))) (cut other (some f2) none)).bind fun t9 => some t9)) f2o)
theorem join_test (one other : List Int) (s : Nat) : ((if (decide ((s : Int) < (one.length : Int))) = true then ((if (decide ((s : Int) < (other.length : Int))) = true then ((idx one (((one.length : Int) - 1) - (s : Int))).bind fun t3 => (idx other (s : Int)).bind fun t4 => some (decide (t3 = (-t4)))) else some false).bind fun t5 => some t5) else some false).bind fun t6 => some t6) = some (decide (0 < kk (one.reverse.drop s) (other.drop s))) := by
  by_cases h1 : s < one.length
  · rw [if_pos (decide_eq_true (by omega))]
    have h1r : s < one.reverse.length := by rw [List.length_reverse]; exact h1
    by_cases h2 : s < other.length
    · rw [if_pos (decide_eq_true (by omega))]
      have e1 : idx one (((one.length : Int) - 1) - (s : Int)) = some one.reverse[s] := by
        refine idx_of (by omega) ?_
        rw [show (((one.length : Int) - 1) - (s : Int)).toNat = one.length - 1 - s by omega, ← List.getElem?_reverse h1]
        exact List.getElem?_eq_getElem h1r
      have e2 : idx other (s : Int) = some other[s] := idx_of (by omega) (by rw [Int.toNat_natCast]; exact List.getElem?_eq_getElem h2)
      rw [e1, e2, List.drop_eq_getElem_cons h1r, List.drop_eq_getElem_cons h2]
      simp only [Option.bind_some]
      refine congrArg some ?_
      by_cases hx : one.reverse[s] = -other[s]
      · have e : kk (one.reverse[s] :: one.reverse.drop (s + 1)) (other[s] :: other.drop (s + 1)) = kk (one.reverse.drop (s + 1)) (other.drop (s + 1)) + 1 := if_pos hx
        rw [e, decide_eq_true hx, decide_eq_true (by omega)]
      · have e : kk (one.reverse[s] :: one.reverse.drop (s + 1)) (other[s] :: other.drop (s + 1)) = 0 := if_neg hx
        rw [e, decide_eq_false hx]
        rfl
    · rw [if_neg (by simpa using h2), List.drop_of_length_le (l := other) (by omega), kk_nil]
      rfl
  · rw [if_neg (by simpa using h1), List.drop_of_length_le (l := one.reverse) (by rw [List.length_reverse]; omega)]
    rfl
theorem join_wh (one other : List Int) : ∀ (n s : Nat), kk (one.reverse.drop s) (other.drop s) < n → wh (fun (s1 : Int) => ((if (decide (s1 < (one.length : Int))) = true then ((if (decide (s1 < (other.length : Int))) = true then ((idx one (((one.length : Int) - 1) - s1)).bind fun t3 => (idx other s1).bind fun t4 => some (decide (t3 = (-t4)))) else some false).bind fun t5 => some t5) else some false).bind fun t6 => some t6)) (fun (s1 : Int) => (some (Step.go (s1 + 1)) : Option (Step (List Int) Int))) n (s : Int) = some (.inr ((s + kk (one.reverse.drop s) (other.drop s) : Nat) : Int))
  | 0, _, h => absurd h (Nat.not_lt_zero _)
  | n + 1, s, h => by
    unfold wh
    rw [join_test]
    by_cases h0 : 0 < kk (one.reverse.drop s) (other.drop s)
    · simp only [Option.bind_some, decide_eq_true h0, if_true, Step.aft]
      have h1 : s < one.reverse.length := by
        have := (kk_le (one.reverse.drop s) (other.drop s)).1
        rw [List.length_drop] at this
        omega
      have h2 : s < other.length := by
        have := (kk_le (one.reverse.drop s) (other.drop s)).2
        rw [List.length_drop] at this
        omega
      have e : kk (one.reverse.drop s) (other.drop s) = kk (one.reverse.drop (s + 1)) (other.drop (s + 1)) + 1 := by
        rw [List.drop_eq_getElem_cons h1, List.drop_eq_getElem_cons h2] at h0 ⊢
        by_cases hx : one.reverse[s] = -other[s]
        · exact if_pos hx
        · have e0 : kk (one.reverse[s] :: one.reverse.drop (s + 1)) (other[s] :: other.drop (s + 1)) = 0 := if_neg hx
          rw [e0] at h0
          omega
      rw [e] at h ⊢
      have := join_wh one other n (s + 1) (by omega)
      rw [show ((s + 1 : Nat) : Int) = (s : Int) + 1 by omega] at this
      rw [this]
      refine congrArg (fun z : Nat => some (Sum.inr (z : Int))) ?_
      omega
    · have e : kk (one.reverse.drop s) (other.drop s) = 0 := by omega
      rw [e]
      rfl
theorem join_ok {one other : List Int} (h : other.length < 1000) (h2 : one.length + other.length ≤ sizeLine) : joinM one other = some (jn one other) := by
  unfold joinM
  have hk := kk_le one.reverse other
  have := join_wh one other 1000 0 (by simp only [List.drop_zero]; omega)
  rw [show ((0 : Nat) : Int) = 0 from rfl] at this
  rw [this]
  simp only [Option.bind_some, Sum.elim_inr, List.drop_zero, Nat.zero_add]
  rw [List.length_reverse] at hk
  rw [cut_to _ (by omega), cut_from _ (by omega), cat_ok]
  · unfold jn
    rw [Int.toNat_natCast, show (((one.length : Int) - (kk one.reverse other : Int))).toNat = one.length - kk one.reverse other by omega]
    rfl
  · rw [List.length_take, List.length_drop]
    omega
end Z
/-! Y, part C: the wells of the laws about walks, and the walks drawn of them. -/
namespace Z
open PySem PySem.Spec L2

def wellM (script : (List Int)) (k_ : Int) : Option (List Int) :=
  ((if (decide (k_ < (script.length : Int))) = true then ((idx script k_).bind fun t1 => some t1) else some ((11 * k_) + 6) : Option Int).bind fun s2 => ((lcT (fun (one3 : Int) => (one3 % 1000000000000000000000000103)) script).bind fun t5 => ((some ((((((absI s2) * 8929) + (61 * t5.sum)) + (2 * k_)) + (if (decide (s2 < 0)) = true then 1 else 0)) % 10000000000000000000000000000033)).bind fun seed6 => some [(maxI 0 (s2 - 1000000000000000000)), seed6, 0])))
def takeM (w_well_here : (List Int)) (many : Int) : Option (Int × (List Int)) :=
  ((idx w_well_here 0).bind fun t1 => (if (decide (0 < t1)) = true then ((idx w_well_here 0).bind fun t2 => (modO t2 many).bind fun t3 => ((idx w_well_here 0).bind fun t4 => (fdivO t4 many).bind fun t5 => (setO w_well_here 0 t5).bind fun t6 => some (t3, t6))) else ((idx w_well_here 2).bind fun t7 => (setO w_well_here 2 (t7 + 1)).bind fun t8 => ((idx t8 1).bind fun t9 => (idx t8 2).bind fun t10 => (powO (t9 + (314159 * t10)) 3).bind fun t11 => (idx t8 2).bind fun t12 => (some ((t11 + (2718281 * t12)) % 1000000000000000000000000000000073)).bind fun mixed13 => ((mulO mixed13 (mixed13 + 40503)).bind fun t15 => (modO ((t15 % 10000000000000000000000000000000193) / 10007) many).bind fun t16 => some (t16, t8))))))
def walkM (w_well_here : (List Int)) (letters : Int) (most : Int) : Option ((List Int) × (List Int)) :=
  ((takeM w_well_here 4).bind fun t1 => (takeM t1.2 (most + 1)).bind fun t2 => (takeM t2.2 6).bind fun t3 => (idx ([t2.1, most]) (if (decide (t3.1 = 0)) = true then 1 else 0)).bind fun t4 => ((rngO 0 t4).bind fun t5 => (lcE (β := Int) (fun (s7 : (List Int)) (turn6 : Int) => ((takeM s7 letters).bind fun t8 => (takeM t8.2 2).bind fun t9 => (mulO (1 + t8.1) (1 - (2 * t9.1))).bind fun t10 => some (some t10, t9.2))) t5 t3.2).bind fun t11 => ((if (decide (t1.1 = 1)) = true then ((takeM t11.2 4).bind fun t12 => (repO (cut t11.1 none (some (1 + t12.1))) t4).bind fun t13 => some ((cut t13 none (some t4)), t12.2)) else some (t11.1, t11.2) : Option ((List Int) × (List Int))).bind fun s14 => ((if (decide (t1.1 = 2)) = true then ((lcT (fun (step15 : Int) => (-step15)) ((cut s14.1 none (some (t4 / 3))).reverse)).bind fun t17 => (catO (α := Int) (cut s14.1 none (some (t4 - (t4 / 3)))) t17).bind fun t18 => some t18) else some s14.1 : Option (List Int)).bind fun s19 => ((if (decide (t1.1 = 3)) = true then ((lcT (fun (step20 : Int) => (absI step20)) s19).bind fun t22 => some t22) else some s19 : Option (List Int)).bind fun s23 => some (s23, s14.2))))))
/-- three cells, of which so many draws were made at most -/
def WeOk (n : Nat) (w : List Int) : Prop := ∃ a b c : Int, w = [a, b, c] ∧ 0 ≤ a ∧ 0 ≤ b ∧ b < 2 ^ 104 ∧ 0 ≤ c ∧ c ≤ n
theorem WeOk.mono {n m : Nat} {w : List Int} (h : WeOk n w) (hm : n ≤ m) : WeOk m w := by
  obtain ⟨a, b, c, e, h1, h2, h3, h4, h5⟩ := h
  exact ⟨a, b, c, e, h1, h2, h3, h4, by omega⟩
theorem well_ok {ns : List Int} {k : Int} (hl : ns.length < sizeLine) (h0 : 0 ≤ k) : ∃ w, wellM ns k = some w ∧ WeOk 0 w := by
  unfold wellM
  have h1 : ∃ s, (if (decide (k < (ns.length : Int))) = true then ((idx ns k).bind fun t1 => some t1) else some ((11 * k) + 6) : Option Int) = some s := by
    by_cases hk : k < (ns.length : Int)
    · rw [if_pos (decide_eq_true hk)]
      have hk2 : k.toNat < ns.length := by omega
      exact ⟨ns[k.toNat], by rw [idx_of h0 (List.getElem?_eq_getElem hk2)]; rfl⟩
    · rw [if_neg (by simpa using hk)]
      exact ⟨_, rfl⟩
  obtain ⟨s, e⟩ := h1
  rw [e]
  simp only [Option.bind_some, lcT_some _ hl]
  refine ⟨_, rfl, _, _, _, rfl, ?_, Int.emod_nonneg _ (by decide), ?_, Int.le_refl 0, Int.le_refl 0⟩
  · unfold maxI
    split <;> omega
  · exact Int.lt_trans (Int.emod_lt_of_pos _ (by decide)) (by decide)
theorem pow_three {i : Int} (h0 : 0 ≤ i) (h : i < 2 ^ 200) : powO i 3 = some (i ^ 3) := by
  unfold powO
  rw [if_pos]
  · rfl
  refine ⟨by decide, ?_⟩
  have hb : Builtin.Int.intBits i ≤ 200 := by
    unfold Builtin.Int.intBits
    split
    · omega
    · have := log2_int h0 h (by decide)
      omega
  omega
theorem take_big {n : Nat} (hn : n < 2 ^ 60) {w : List Int} (h : WeOk n w) {many : Int} (h0 : 0 < many) (hbl : many.natAbs.log2 < 9000) : ∃ v w', takeM w many = some (v, w') ∧ 0 ≤ v ∧ v < many ∧ WeOk (n + 1) w' := by
  obtain ⟨a, b, c, rfl, ha, hb0, hb1, hc0, hc1⟩ := h
  unfold takeM
  have i0 : idx [a, b, c] 0 = some a := rfl
  have i2 : idx [a, b, c] 2 = some c := rfl
  have j1 : idx [a, b, c + 1] 1 = some b := rfl
  have j2 : idx [a, b, c + 1] 2 = some (c + 1) := rfl
  have m0 : setO [a, b, c] 2 (c + 1) = some [a, b, c + 1] := rfl
  have m1 : modO a many = some (a % many) := if_pos h0
  have m2 : fdivO a many = some (a / many) := if_pos ⟨h0, hbl⟩
  have m3 : setO [a, b, c] 0 (a / many) = some [a / many, b, c] := rfl
  have m4 : powO (b + (314159 * (c + 1))) 3 = some ((b + (314159 * (c + 1))) ^ 3) := pow_three (by omega) (by omega)
  simp only [i0, i2, j1, j2, m0, m1, m2, m3, m4, Option.bind_some]
  by_cases hp : 0 < a
  · rw [if_pos (decide_eq_true hp)]
    exact ⟨a % many, [a / many, b, c], rfl, Int.emod_nonneg _ (by omega), Int.emod_lt_of_pos _ h0, _, _, _, rfl, Int.ediv_nonneg ha (by omega), hb0, hb1, hc0, by omega⟩
  · rw [if_neg (by simpa using hp)]
    generalize (b + (314159 * (c + 1))) ^ 3 = t11
    have q0 : 0 ≤ (t11 + (2718281 * (c + 1))) % 1000000000000000000000000000000073 := Int.emod_nonneg _ (by decide)
    have q1 : (t11 + (2718281 * (c + 1))) % 1000000000000000000000000000000073 < 1000000000000000000000000000000073 := Int.emod_lt_of_pos _ (by decide)
    generalize (t11 + (2718281 * (c + 1))) % 1000000000000000000000000000000073 = x at q0 q1
    have m5 : mulO x (x + 40503) = some (x * (x + 40503)) := by
      refine if_pos ?_
      have e1 : x.natAbs.log2 < 110 := log2_int q0 (by omega) (by decide)
      have e2 : (x + 40503).natAbs.log2 < 111 := log2_int (by omega) (by omega) (by decide)
      omega
    have m6 : modO (((x * (x + 40503)) % 10000000000000000000000000000000193) / 10007) many = some (((x * (x + 40503)) % 10000000000000000000000000000000193) / 10007 % many) := if_pos h0
    simp only [m5, m6, Option.bind_some]
    exact ⟨_, _, rfl, Int.emod_nonneg _ (by omega), Int.emod_lt_of_pos _ h0, _, _, _, rfl, ha, hb0, hb1, by omega, by omega⟩

theorem take_ok {n : Nat} (hn : n < 2 ^ 60) {w : List Int} (h : WeOk n w) {many : Int} (h0 : 0 < many) (hb : many < 2 ^ 64) : ∃ v w', takeM w many = some (v, w') ∧ 0 ≤ v ∧ v < many ∧ WeOk (n + 1) w' :=
  take_big hn h h0 (Nat.lt_trans (log2_int (by omega) hb (by decide)) (by decide))

/-! ### rules for what is walked -/
theorem lcS_goN {α β S : Type} {f : S → α → Option (Option β × S)} (Qy : β → Prop) : ∀ {xs : List α} (P : Nat → S → Prop), (∀ (i : Nat) (x : α) (s : S), xs[i]? = some x → P i s → ∃ y s', f s x = some (some y, s') ∧ Qy y ∧ P (i + 1) s') → ∀ {s0 : S}, P 0 s0 →
    ∃ ys s', lcS f xs s0 = some (ys, s') ∧ ys.length = xs.length ∧ (∀ y ∈ ys, Qy y) ∧ P xs.length s'
  | [], P, _, s0, h0 => ⟨[], s0, rfl, rfl, (fun _ z => nomatch z), h0⟩
  | x :: xs, P, h, s0, h0 => by
    obtain ⟨y, s1, e, hy, h1⟩ := h 0 x s0 rfl h0
    obtain ⟨ys, s2, e2, hl, hq, h2⟩ := lcS_goN Qy (xs := xs) (fun i => P (i + 1)) (fun i z s hz hs => h (i + 1) z s (by simpa using hz) hs) h1
    refine ⟨y :: ys, s2, ?_, by rw [List.length_cons, List.length_cons, hl], fun z hz => ?_, h2⟩
    · unfold lcS
      rw [e]
      show ((lcS f xs s1).bind _) = _
      rw [e2]
      rfl
    · rcases List.mem_cons.mp hz with rfl | hz
      · exact hy
      · exact hq z hz
theorem lcE_goN {α β S : Type} {f : S → α → Option (Option β × S)} (Qy : β → Prop) {xs : List α} (P : Nat → S → Prop) (hl : xs.length < sizeLine) (h : ∀ (i : Nat) (x : α) (s : S), xs[i]? = some x → P i s → ∃ y s', f s x = some (some y, s') ∧ Qy y ∧ P (i + 1) s') {s0 : S} (h0 : P 0 s0) :
    ∃ ys s', lcE f xs s0 = some (ys, s') ∧ ys.length = xs.length ∧ (∀ y ∈ ys, Qy y) ∧ P xs.length s' := by
  unfold lcE
  rw [if_pos hl]
  exact lcS_goN Qy P h h0
theorem lpR_mix {α R S : Type} {f : S → α → Option (Step R S)} (Rr : R → Prop) : ∀ {xs : List α} (P : Nat → S → Prop), (∀ (i : Nat) (x : α) (s : S), xs[i]? = some x → P i s → (∃ s', f s x = some (.go s') ∧ P (i + 1) s') ∨ ∃ r, f s x = some (.ret r) ∧ Rr r) → ∀ {s0 : S}, P 0 s0 →
    (∃ s', lpR f xs s0 = some (.inr s') ∧ P xs.length s') ∨ ∃ r, lpR f xs s0 = some (.inl r) ∧ Rr r
  | [], P, _, s0, h0 => .inl ⟨s0, rfl, h0⟩
  | x :: xs, P, h, s0, h0 => by
    rcases h 0 x s0 rfl h0 with ⟨s1, e, h1⟩ | ⟨r, e, hr⟩
    · rcases lpR_mix Rr (xs := xs) (fun i => P (i + 1)) (fun i y s hy hs => h (i + 1) y s (by simpa using hy) hs) h1 with ⟨s2, e2, h2⟩ | ⟨r, e2, hr⟩
      · exact .inl ⟨s2, by unfold lpR; rw [e]; exact e2, h2⟩
      · exact .inr ⟨r, by unfold lpR; rw [e]; exact e2, hr⟩
    · exact .inr ⟨r, by unfold lpR; rw [e]; rfl, hr⟩
theorem rng_len (a b : Int) : (range' a b).length = (b - a).toNat := by
  unfold range'
  rw [List.length_map, List.length_range]

/-! ### drawn walks -/
def Sok (L x : Int) : Prop := x ≠ 0 ∧ -L ≤ x ∧ x ≤ L
theorem Sok.mono {L M x : Int} (h : Sok L x) (hm : L ≤ M) : Sok M x := ⟨h.1, by have := h.2.1; omega, by have := h.2.2; omega⟩
theorem Sok.neg {L x : Int} (h : Sok L x) : Sok L (-x) := ⟨by have := h.1; omega, by have := h.2.2; omega, by have := h.2.1; omega⟩
theorem Sok.abs {L x : Int} (h : Sok L x) : Sok L (absI x) := by
  obtain ⟨h1, h2, h3⟩ := h
  unfold absI
  split <;> exact ⟨by omega, by omega, by omega⟩
theorem flat_len {α : Type} (xs : List α) : ∀ m : Nat, (List.replicate m xs).flatten.length = m * xs.length
  | 0 => by simp
  | m + 1 => by
    rw [List.replicate_succ, List.flatten_cons, List.length_append, flat_len xs m, Nat.add_mul]
    omega
theorem flat_mem {α : Type} {xs : List α} {x : α} {m : Nat} (h : x ∈ (List.replicate m xs).flatten) : x ∈ xs := by
  obtain ⟨l, hl, hx⟩ := List.mem_flatten.mp h
  exact (List.mem_replicate.mp hl).2 ▸ hx
theorem walk_ok {n : Nat} {L most : Int} (hn : n + 3000 < 2 ^ 60) {w : List Int} (h : WeOk n w) (h1 : 1 ≤ L) (h4 : L ≤ 4) (hm0 : 0 ≤ most) (hm1 : most ≤ 1000) :
    ∃ ws w', walkM w L most = some (ws, w') ∧ (∀ x ∈ ws, Sok L x) ∧ (ws.length : Int) ≤ most ∧ WeOk (n + 2100) w' := by
  unfold walkM
  obtain ⟨v1, w1, e1, a1, b1, k1⟩ := take_ok (by omega) h (many := 4) (by decide) (by decide)
  obtain ⟨v2, w2, e2, a2, b2, k2⟩ := take_ok (by omega) k1 (many := most + 1) (by omega) (by omega)
  obtain ⟨v3, w3, e3, a3, b3, k3⟩ := take_ok (by omega) k2 (many := 6) (by decide) (by decide)
  simp only [e1, e2, e3, Option.bind_some]
  obtain ⟨sz, es, s0, s1⟩ : ∃ sz, idx [v2, most] (if (decide (v3 = 0)) = true then 1 else 0) = some sz ∧ 0 ≤ sz ∧ sz ≤ most := by
    by_cases hv : v3 = 0
    · rw [if_pos (decide_eq_true hv)]
      exact ⟨most, rfl, hm0, Int.le_refl _⟩
    · rw [if_neg (by simpa using hv)]
      exact ⟨v2, rfl, a2, by omega⟩
  simp only [es, Option.bind_some, rngO_ok (show -(2 ^ 62) ≤ (0 : Int) ∧ (0 : Int) < 2 ^ 62 ∧ -(2 ^ 62) ≤ sz ∧ sz < 2 ^ 62 by omega)]
  have hlr : (range' 0 sz).length = sz.toNat := by rw [rng_len, Int.sub_zero]
  obtain ⟨ys, w4, e4, l4, q4, k4⟩ := lcE_goN (f := (fun (s7 : (List Int)) (turn6 : Int) => ((takeM s7 L).bind fun t8 => (takeM t8.2 2).bind fun t9 => (mulO (1 + t8.1) (1 - (2 * t9.1))).bind fun t10 => some (some t10, t9.2)))) (Sok L) (xs := range' 0 sz) (fun i s => WeOk (n + 3 + 2 * i) s) (by rw [hlr]; exact Nat.lt_of_le_of_lt (m := 1000) (by omega) (by decide)) (fun i x s hx hs => by
    have hi : i < sz.toNat := by
      have := (List.getElem?_eq_some_iff.mp hx).1
      omega
    obtain ⟨u1, x1, f1, c1, d1, g1⟩ := take_ok (by omega) hs (many := L) (by omega) (by omega)
    obtain ⟨u2, x2, f2, c2, d2, g2⟩ := take_ok (by omega) g1 (many := 2) (by decide) (by decide)
    have hu : u2 = 0 ∨ u2 = 1 := by omega
    have hmul : mulO (1 + u1) (1 - 2 * u2) = some ((1 + u1) * (1 - 2 * u2)) := by
      refine if_pos ?_
      have z1 : (1 + u1).natAbs.log2 < 3 := log2_int (by omega) (by omega) (by decide)
      have z2 : (1 - 2 * u2).natAbs.log2 < 2 := by
        rcases hu with rfl | rfl <;> decide
      omega
    refine ⟨(1 + u1) * (1 - 2 * u2), x2, ?_, ?_, ?_⟩
    · simp only [f1, f2, hmul, Option.bind_some]
    · rcases hu with rfl | rfl
      · exact ⟨by omega, by omega, by omega⟩
      · exact ⟨by omega, by omega, by omega⟩
    · exact g2.mono (by omega)) (s0 := w3) (k3.mono (by omega))
  simp only [e4, Option.bind_some]
  rw [hlr] at l4 k4
  have hw4 : WeOk (n + 2050) w4 := k4.mono (by omega)
  obtain ⟨zs, w5, e5, q5, l5, k5⟩ : ∃ zs w5, (if (decide (v1 = 1)) = true then ((takeM w4 4).bind fun t12 => (repO (cut ys none (some (1 + t12.1))) sz).bind fun t13 => some ((cut t13 none (some sz)), t12.2)) else some (ys, w4) : Option ((List Int) × (List Int))) = some (zs, w5) ∧ (∀ x ∈ zs, Sok L x) ∧ (zs.length : Int) ≤ sz ∧ WeOk (n + 2051) w5 := by
    by_cases hv : v1 = 1
    · rw [if_pos (decide_eq_true hv)]
      obtain ⟨u1, x1, f1, c1, d1, g1⟩ := take_ok (by omega) hw4 (many := 4) (by decide) (by decide)
      have hrep : repO (cut ys none (some (1 + u1))) sz = some (List.replicate sz.toNat (ys.take (1 + u1).toNat)).flatten := by
        rw [cut_to _ (by omega)]
        refine if_pos ⟨by omega, by omega, ?_⟩
        have z1 : (ys.take (1 + u1).toNat).length ≤ 4 := by rw [List.length_take]; omega
        have z2 : (ys.take (1 + u1).toNat).length * sz.toNat ≤ 4 * 1000 := Nat.mul_le_mul z1 (by omega)
        exact Nat.le_trans z2 (by decide)
      simp only [f1, hrep, Option.bind_some]
      refine ⟨_, _, rfl, fun x hx => ?_, ?_, g1⟩
      · rw [cut_to _ s0] at hx
        exact q4 x (List.mem_of_mem_take (flat_mem (List.mem_of_mem_take hx)))
      · rw [cut_to _ s0, List.length_take]
        omega
    · rw [if_neg (by simpa using hv)]
      exact ⟨_, _, rfl, q4, by omega, hw4.mono (by omega)⟩
  simp only [e5, Option.bind_some]
  have hz1000 : zs.length < sizeLine := Nat.lt_of_le_of_lt (show zs.length ≤ 1000 by omega) (by decide)
  obtain ⟨us, e6, q6, l6⟩ : ∃ us, (if (decide (v1 = 2)) = true then ((lcT (fun (step15 : Int) => (-step15)) ((cut zs none (some (sz / 3))).reverse)).bind fun t17 => (catO (α := Int) (cut zs none (some (sz - (sz / 3)))) t17).bind fun t18 => some t18) else some zs : Option (List Int)) = some us ∧ (∀ x ∈ us, Sok L x) ∧ (us.length : Int) ≤ sz := by
    by_cases hv : v1 = 2
    · rw [if_pos (decide_eq_true hv), cut_to _ (show 0 ≤ sz / 3 by omega), cut_to _ (show 0 ≤ sz - sz / 3 by omega), lcT_some _ (by rw [List.length_reverse, List.length_take]; omega)]
      simp only [Option.bind_some]
      rw [cat_ok (by rw [List.length_map, List.length_reverse, List.length_take, List.length_take]; exact Nat.le_trans (m := 2000) (by omega) (by decide))]
      refine ⟨_, rfl, fun x hx => ?_, ?_⟩
      · rcases List.mem_append.mp hx with hx | hx
        · exact q5 x (List.mem_of_mem_take hx)
        · obtain ⟨y, hy, rfl⟩ := List.mem_map.mp hx
          exact (q5 y (List.mem_of_mem_take (List.mem_reverse.mp hy))).neg
      · rw [List.length_append, List.length_map, List.length_reverse, List.length_take, List.length_take]
        omega
    · rw [if_neg (by simpa using hv)]
      exact ⟨_, rfl, q5, l5⟩
  simp only [e6, Option.bind_some]
  have hu1000 : us.length < sizeLine := Nat.lt_of_le_of_lt (show us.length ≤ 1000 by omega) (by decide)
  by_cases hv : v1 = 3
  · rw [if_pos (decide_eq_true hv), lcT_some _ hu1000]
    refine ⟨_, _, rfl, fun x hx => ?_, ?_, k5.mono (by omega)⟩
    · obtain ⟨y, hy, rfl⟩ := List.mem_map.mp hx
      exact (q6 y hy).abs
    · rw [List.length_map]
      omega
  · rw [if_neg (by simpa using hv)]
    exact ⟨_, _, rfl, q6, by omega, k5.mono (by omega)⟩
end Z
/-! Y, part D: the wells of the laws about petals and what follows them, and the walks drawn of them; texts of data. -/
namespace Z
open PySem PySem.Spec L2

theorem bindS {α β : Type} {m : Option α} {k : α → Option β} {a : α} {r : Option β} (h : m = some a) (h2 : k a = r) : m.bind k = r := by
  rw [h]
  exact h2
def wellC (script : (List Int)) (k_ : Int) : Option (List Int) :=
  ((if (decide (k_ < (script.length : Int))) = true then ((idx script k_).bind fun t1 => some t1) else some ((7 * k_) + 3)).bind fun t2 => ((lp (fun (s3 : Int) (x4 : (Int × Int)) => ((mulW x4.2 (x4.1 + 3)).bind fun t8 => (some (((s3 * 31) + t8) % 10000000000000000000000000000000000000121)).bind fun total9 => some total9)) (enum script) 0).bind fun f5 => some [(maxI 0 (t2 - 1000000000000000000)), ((((t2 * 8191) + f5) + (524287 * k_)) % 100000000000000000000000000000000000000011), 0]))
def takeC (w_well_here : (List Int)) (many : Int) : Option (Int × (List Int)) :=
  ((idx w_well_here 0).bind fun t1 => (if (decide (0 < t1)) = true then ((idx w_well_here 0).bind fun t2 => (modO t2 many).bind fun t3 => ((idx w_well_here 0).bind fun t4 => (fdivO t4 many).bind fun t5 => (setO w_well_here 0 t5).bind fun t6 => some (t3, t6))) else ((idx w_well_here 2).bind fun t7 => (setO w_well_here 2 (t7 + 1)).bind fun t8 => ((idx t8 1).bind fun t9 => (idx t8 2).bind fun t10 => (powO (t9 + (86028121 * t10)) 3).bind fun t11 => ((idx t8 2).bind fun t12 => (powO ((t11 % 10000000000000000000000000000000000000000057) + (6700417 * t12)) 2).bind fun t13 => (some ((t13 + (t11 % 10000000000000000000000000000000000000000057)) % 1000000000000000000000000000000000000000063)).bind fun mixed14 => ((modO (mixed14 / 999983) many).bind fun t16 => some (t16, t8)))))))
def stepsC (letters : Int) : Option (List Int) :=
  ((rngO 1 (letters + 1)).bind fun t1 => ((lp (fun (s2 : (List Int)) (letter3 : Int) => ((catO (α := Int) s2 ([letter3, (0 - letter3)])).bind fun t7 => some t7)) t1 ([] : (List Int))).bind fun f4 => some f4))
def walkC (w_well_here : (List Int)) (letters : Int) (most : Int) : Option ((List Int) × (List Int)) :=
  ((stepsC letters).bind fun t1 => ((takeC w_well_here 4).bind fun t3 => ((takeC t3.2 (most + 1)).bind fun t4 => (rngO 0 t4.1).bind fun t5 => ((lp (fun (s6 : ((List Int) × (List Int))) (turn7 : Int) => ((takeC s6.1 (t1.length : Int)).bind fun t11 => (idx t1 t11.1).bind fun t12 => ((if (!(decide (t3.1 = 0))) = true then ((if (!decide (s6.2 = ([] : (List Int)))) = true then ((idx s6.2 (-1)).bind fun t13 => some (decide (t13 = (0 - t12)))) else some false).bind fun t14 => some t14) else some false).bind fun t15 => ((if t15 = true then some (0 - t12) else some t12 : Option Int).bind fun s16 => ((appO s6.2 s16).bind fun t17 => some (t11.2, t17)))))) t5 (t4.2, ([] : (List Int)))).bind fun f8 => some (f8.2, f8.1)))))
def straightC (walk_here : (List Int)) : Option (List Int) :=
  ((lp (fun (s1 : (List Int)) (step2 : Int) => ((if (!decide (s1 = ([] : (List Int)))) = true then ((idx s1 (-1)).bind fun t6 => some (decide (t6 = (0 - step2)))) else some false).bind fun t7 => ((if t7 = true then ((popO s1).bind fun t8 => some t8.2) else ((appO s1 step2).bind fun t9 => some t9) : Option (List Int)).bind fun s10 => some s10))) walk_here ([] : (List Int))).bind fun f3 => some f3)
/-- three cells, of which so many draws were made at most -/
def WeC (n : Nat) (w : List Int) : Prop := ∃ a b c : Int, w = [a, b, c] ∧ 0 ≤ a ∧ 0 ≤ b ∧ b < 2 ^ 140 ∧ 0 ≤ c ∧ c ≤ n
theorem WeC.mono {n m : Nat} {w : List Int} (h : WeC n w) (hm : n ≤ m) : WeC m w := by
  obtain ⟨a, b, c, e, h1, h2, h3, h4, h5⟩ := h
  exact ⟨a, b, c, e, h1, h2, h3, h4, by omega⟩
theorem enum_get {α : Type} {xs : List α} {i : Nat} {x : Int × α} (h : (enum xs)[i]? = some x) : x.1 = (i : Int) ∧ xs[i]? = some x.2 := by
  unfold enum at h
  rw [List.getElem?_map, List.getElem?_zipIdx] at h
  cases e : xs[i]? with
  | none => rw [e] at h; cases h
  | some y =>
    rw [e] at h
    simp only [Option.map_some, Option.some.injEq] at h
    subst h
    exact ⟨by simp, rfl⟩
theorem mulW_small {i j : Int} (h : -(2 ^ 64) < j ∧ j < 2 ^ 64) : mulW i j = some (i * j) := if_pos (.inr (.inl h))
theorem cell_ok {ns : List Int} {k d : Int} (h0 : 0 ≤ k) : ∃ s, (if (decide (k < (ns.length : Int))) = true then ((idx ns k).bind fun t1 => some t1) else some d : Option Int) = some s := by
  by_cases hk : k < (ns.length : Int)
  · rw [if_pos (decide_eq_true hk)]
    have hk2 : k.toNat < ns.length := by omega
    exact ⟨ns[k.toNat], by rw [idx_of h0 (List.getElem?_eq_getElem hk2)]; rfl⟩
  · rw [if_neg (by simpa using hk)]
    exact ⟨_, rfl⟩
theorem wellC_ok {ns : List Int} {k : Int} (hl : ns.length < 2 ^ 62) (h0 : 0 ≤ k) : ∃ w, wellC ns k = some w ∧ WeC 0 w := by
  unfold wellC
  obtain ⟨s, e⟩ := cell_ok (ns := ns) (d := (7 * k) + 3) h0
  obtain ⟨f, e2, _⟩ := lp_goN (f := fun (s3 : Int) (x4 : (Int × Int)) => ((mulW x4.2 (x4.1 + 3)).bind fun t8 => (some (((s3 * 31) + t8) % 10000000000000000000000000000000000000121)).bind fun total9 => some total9)) (xs := enum ns) (fun _ _ => True) (fun i x s hx _ => by
    have h1 := (enum_get hx).1
    have h2 := (List.getElem?_eq_some_iff.mp (enum_get hx).2).1
    exact ⟨_, bindS (mulW_small (by omega)) rfl, trivial⟩) (s0 := 0) trivial
  refine ⟨_, bindS e (bindS e2 rfl), _, _, _, rfl, ?_, Int.emod_nonneg _ (by decide), ?_, Int.le_refl 0, Int.le_refl 0⟩
  · unfold maxI
    split <;> omega
  · exact Int.lt_trans (Int.emod_lt_of_pos _ (by decide)) (by decide)
theorem pow_two {i : Int} (h0 : 0 ≤ i) (h : i < 2 ^ 200) : powO i 2 = some (i ^ 2) := by
  unfold powO
  rw [if_pos]
  · rfl
  refine ⟨by decide, ?_⟩
  have hb : Builtin.Int.intBits i ≤ 200 := by
    unfold Builtin.Int.intBits
    split
    · omega
    · have := log2_int h0 h (by decide)
      omega
  omega
theorem takeC_big {n : Nat} (hn : n < 2 ^ 60) {w : List Int} (h : WeC n w) {many : Int} (h0 : 0 < many) (hbl : many.natAbs.log2 < 9000) : ∃ v w', takeC w many = some (v, w') ∧ 0 ≤ v ∧ v < many ∧ WeC (n + 1) w' := by
  obtain ⟨a, b, c, rfl, ha, hb0, hb1, hc0, hc1⟩ := h
  unfold takeC
  have i0 : idx [a, b, c] 0 = some a := rfl
  have i2 : idx [a, b, c] 2 = some c := rfl
  have j1 : idx [a, b, c + 1] 1 = some b := rfl
  have j2 : idx [a, b, c + 1] 2 = some (c + 1) := rfl
  have m0 : setO [a, b, c] 2 (c + 1) = some [a, b, c + 1] := rfl
  have m1 : modO a many = some (a % many) := if_pos h0
  have m2 : fdivO a many = some (a / many) := if_pos ⟨h0, hbl⟩
  have m3 : setO [a, b, c] 0 (a / many) = some [a / many, b, c] := rfl
  have m4 : powO (b + (86028121 * (c + 1))) 3 = some ((b + (86028121 * (c + 1))) ^ 3) := pow_three (by omega) (by omega)
  simp only [i0, i2, j1, j2, m0, m1, m2, m3, m4, Option.bind_some]
  by_cases hp : 0 < a
  · rw [if_pos (decide_eq_true hp)]
    exact ⟨a % many, [a / many, b, c], rfl, Int.emod_nonneg _ (by omega), Int.emod_lt_of_pos _ h0, _, _, _, rfl, Int.ediv_nonneg ha (by omega), hb0, hb1, hc0, by omega⟩
  · rw [if_neg (by simpa using hp)]
    generalize (b + (86028121 * (c + 1))) ^ 3 = t11
    have q0 : 0 ≤ t11 % 10000000000000000000000000000000000000000057 := Int.emod_nonneg _ (by decide)
    have q1 : t11 % 10000000000000000000000000000000000000000057 < 10000000000000000000000000000000000000000057 := Int.emod_lt_of_pos _ (by decide)
    generalize t11 % 10000000000000000000000000000000000000000057 = x at q0 q1
    have m5 : powO (x + (6700417 * (c + 1))) 2 = some ((x + (6700417 * (c + 1))) ^ 2) := pow_two (by omega) (by omega)
    have m6 : modO (((x + (6700417 * (c + 1))) ^ 2 + x) % 1000000000000000000000000000000000000000063 / 999983) many = some (((x + (6700417 * (c + 1))) ^ 2 + x) % 1000000000000000000000000000000000000000063 / 999983 % many) := if_pos h0
    simp only [m5, m6, Option.bind_some]
    exact ⟨_, _, rfl, Int.emod_nonneg _ (by omega), Int.emod_lt_of_pos _ h0, _, _, _, rfl, ha, hb0, hb1, by omega, by omega⟩
theorem takeC_ok {n : Nat} (hn : n < 2 ^ 60) {w : List Int} (h : WeC n w) {many : Int} (h0 : 0 < many) (hb : many < 2 ^ 64) : ∃ v w', takeC w many = some (v, w') ∧ 0 ≤ v ∧ v < many ∧ WeC (n + 1) w' :=
  takeC_big hn h h0 (Nat.lt_trans (log2_int (by omega) hb (by decide)) (by decide))

/-! ### drawn steps and walks -/
theorem stepsC_ok {L : Int} (h1 : 1 ≤ L) (h4 : L ≤ 4) : ∃ ss, stepsC L = some ss ∧ ss ≠ [] ∧ ss.length ≤ 8 ∧ ∀ x ∈ ss, Sok L x := by
  have : L = 1 ∨ L = 2 ∨ L = 3 ∨ L = 4 := by omega
  rcases this with rfl | rfl | rfl | rfl
  · exact ⟨[1, -1], by decide, by decide, by decide, by unfold Sok; decide⟩
  · exact ⟨[1, -1, 2, -2], by decide, by decide, by decide, by unfold Sok; decide⟩
  · exact ⟨[1, -1, 2, -2, 3, -3], by decide, by decide, by decide, by unfold Sok; decide⟩
  · exact ⟨[1, -1, 2, -2, 3, -3, 4, -4], by decide, by decide, by decide, by unfold Sok; decide⟩
theorem idx_mem {α : Type} {xs : List α} {i : Int} (h0 : 0 ≤ i) (h : i < xs.length) : ∃ x, idx xs i = some x ∧ x ∈ xs := by
  have hl : i.toNat < xs.length := by omega
  exact ⟨xs[i.toNat], idx_of h0 (List.getElem?_eq_getElem hl), List.getElem_mem hl⟩
theorem nonempty_last {α : Type} {xs : List α} (h : xs ≠ []) : ∃ x, idx xs (-1) = some x ∧ x ∈ xs := by
  have hp : 0 < xs.length := List.length_pos_iff.mpr h
  have hl : xs.length - 1 < xs.length := by omega
  exact ⟨xs[xs.length - 1], idx_last (List.getElem?_eq_getElem hl), List.getElem_mem hl⟩
theorem walkC_ok {n : Nat} {L most : Int} (hn : n + 3000 < 2 ^ 60) {w : List Int} (h : WeC n w) (h1 : 1 ≤ L) (h4 : L ≤ 4) (hm0 : 0 ≤ most) (hm1 : most ≤ 1000) :
    ∃ ws w', walkC w L most = some (ws, w') ∧ (∀ x ∈ ws, Sok L x) ∧ (ws.length : Int) ≤ most ∧ WeC (n + 1100) w' := by
  unfold walkC
  obtain ⟨ss, es, s1, s2, s3⟩ := stepsC_ok h1 h4
  obtain ⟨v1, w1, e1, a1, b1, k1⟩ := takeC_ok (by omega) h (many := 4) (by decide) (by decide)
  obtain ⟨v2, w2, e2, a2, b2, k2⟩ := takeC_ok (by omega) k1 (many := most + 1) (by omega) (by omega)
  have hlr : (range' 0 v2).length = v2.toNat := by rw [rng_len, Int.sub_zero]
  have hp : 0 < ss.length := List.length_pos_iff.mpr s1
  obtain ⟨s', e3, k3⟩ := lp_goN (f := (fun (s6 : ((List Int) × (List Int))) (turn7 : Int) => ((takeC s6.1 (ss.length : Int)).bind fun t11 => (idx ss t11.1).bind fun t12 => ((if (!(decide (v1 = 0))) = true then ((if (!decide (s6.2 = ([] : (List Int)))) = true then ((idx s6.2 (-1)).bind fun t13 => some (decide (t13 = (0 - t12)))) else some false).bind fun t14 => some t14) else some false).bind fun t15 => ((if t15 = true then some (0 - t12) else some t12 : Option Int).bind fun s16 => ((appO s6.2 s16).bind fun t17 => some (t11.2, t17))))))) (xs := range' 0 v2) (fun i s => WeC (n + 2 + i) s.1 ∧ s.2.length = i ∧ ∀ x ∈ s.2, Sok L x) (fun i x s hx hs => by
    have hi : i < v2.toNat := by
      have := (List.getElem?_eq_some_iff.mp hx).1
      omega
    obtain ⟨g1, g2, g3⟩ := hs
    obtain ⟨u1, x1, f1, c1, d1, g4⟩ := takeC_ok (by omega) g1 (many := (ss.length : Int)) (by omega) (by omega)
    obtain ⟨y, f2, g5⟩ := idx_mem c1 d1
    obtain ⟨b, f3⟩ : ∃ b, (if (!(decide (v1 = 0))) = true then ((if (!decide (s.2 = ([] : (List Int)))) = true then ((idx s.2 (-1)).bind fun t13 => some (decide (t13 = (0 - y)))) else some false).bind fun t14 => some t14) else some false : Option Bool) = some b := by
      by_cases hv : v1 = 0
      · exact ⟨false, if_neg (by simp [hv])⟩
      · rw [if_pos (by simp [hv])]
        by_cases hz : s.2 = []
        · exact ⟨false, by rw [if_neg (by simp [hz])]; rfl⟩
        · obtain ⟨z, ez, _⟩ := nonempty_last hz
          rw [if_pos (by simp [hz]), ez]
          exact ⟨_, rfl⟩
    obtain ⟨y', f4, g6⟩ : ∃ y', (if b = true then some (0 - y) else some y : Option Int) = some y' ∧ Sok L y' := by
      have := s3 y g5
      cases b
      · exact ⟨y, rfl, this⟩
      · exact ⟨0 - y, rfl, by have := this.neg; rwa [show (0 : Int) - y = -y by omega]⟩
    have f5 : appO s.2 y' = some (s.2 ++ [y']) := app_ok (by rw [g2]; exact Nat.lt_of_lt_of_le (show i < 1001 by omega) (by decide))
    refine ⟨_, bindS f1 (bindS f2 (bindS f3 (bindS f4 (bindS f5 rfl)))), g4.mono (by omega), by rw [List.length_append, g2]; rfl, fun z hz => ?_⟩
    rcases List.mem_append.mp hz with hz | hz
    · exact g3 z hz
    · exact List.mem_singleton.mp hz ▸ g6) (s0 := (w2, [])) ⟨k2.mono (by omega), rfl, (fun _ z => nomatch z)⟩
  rw [hlr] at k3
  refine ⟨_, _, bindS es (bindS e1 (bindS e2 (bindS (rngO_ok (show -(2 ^ 62) ≤ (0 : Int) ∧ (0 : Int) < 2 ^ 62 ∧ -(2 ^ 62) ≤ v2 ∧ v2 < 2 ^ 62 by omega)) (bindS e3 rfl)))), k3.2.2, by rw [k3.2.1]; omega, k3.1.mono (by omega)⟩

/-! ### straightened, as these laws write it -/
theorem straightC_lp : ∀ (w t : List Int), t.length + w.length ≤ sizeLine → lp (fun (s1 : (List Int)) (step2 : Int) => ((if (!decide (s1 = ([] : (List Int)))) = true then ((idx s1 (-1)).bind fun t6 => some (decide (t6 = (0 - step2)))) else some false).bind fun t7 => ((if t7 = true then ((popO s1).bind fun t8 => some t8.2) else ((appO s1 step2).bind fun t9 => some t9) : Option (List Int)).bind fun s10 => some s10))) w t.reverse = some (fl t w).reverse
  | [], _, _ => rfl
  | x :: w, t, h => by
    rw [List.length_cons] at h
    have h2 := psh_len t x
    have ih := straightC_lp w (psh t x) (by omega)
    unfold lp
    refine Eq.trans (congrArg (fun z => Option.bind z _) (?_ : _ = some (psh t x).reverse)) ih
    cases t with
    | nil =>
      have : appO ([] : List Int) x = some [x] := app_ok (by decide)
      simp [this, psh]
    | cons y t =>
      have hpos : (!decide ((y :: t).reverse = [])) = true := by simp
      rw [hpos, if_pos rfl, last_rev]
      by_cases hy : y = -x
      · have e : psh (y :: t) x = t := if_pos hy
        simp only [Option.bind_some, hy, show (-x : Int) = 0 - x by omega, decide_true, if_true]
        rw [show (0 : Int) - x = y by omega, pop_rev, e]
        rfl
      · have e : psh (y :: t) x = x :: y :: t := if_neg hy
        have hy' : ¬ y = 0 - x := by omega
        simp only [Option.bind_some, hy', decide_false, Bool.false_eq_true, if_false]
        rw [app_ok (by rw [List.length_reverse]; omega), e]
        simp
theorem straightC_ok {w : List Int} (h : w.length ≤ sizeLine) : straightC w = some (red w) := by
  unfold straightC
  exact bindS (straightC_lp w [] (by simpa using h)) rfl

/-! ### texts of data -/
theorem listText_le (ts : List Str) : (listText ts).length ≤ piled ts + 2 := by
  cases ts with
  | nil => decide
  | cons t r =>
    have h := textFrom_length_pos r 1 (("[" : Str) ++ (if (0 : Nat) > 0 then ", " else "" : String) ++ t) (Nat.succ_pos 0)
    have e : ((("[" : Str) ++ (if (0 : Nat) > 0 then ", " else "" : String) ++ t)).length = 1 + t.length := by
      rw [strLen_append, strLen_append]; rfl
    have hX : (listText (t :: r)).length = (textFrom 0 "[" (t :: r)).length + 1 := by
      show (textFrom 0 "[" (t :: r) ++ "]").length = _
      rw [strLen_append]; rfl
    have hY : (textFrom 0 "[" (t :: r)).length = (textFrom 1 (("[" : Str) ++ (if (0 : Nat) > 0 then ", " else "" : String) ++ t) r).length := rfl
    rw [hX, hY, h, e, piled_cons]; omega
theorem tupleText_le (ts : List Str) : (tupleText ts).length ≤ piled ts + 3 := by
  unfold tupleText
  rw [strLen_append, strLen_append]
  have e1 : ((("(" : String) : Str)).length = 1 := rfl
  have e3 : (((if ts.length == 1 then ",)" else ")" : String) : Str)).length ≤ 2 := by split <;> decide
  rw [e1]
  by_cases h : ts = []
  · subst h
    have : (Str.join ", " ([] : List Str)).length = 0 := rfl
    omega
  · have := join_length_add ts h
    omega
/-- what a datum needs so that its text can be asked for: no deeper than k, no longer than n -/
def Txt (k n : Nat) (d : PyData) : Prop := d.showable = true ∧ d.hasDict = false ∧ d.depth ≤ k ∧ d.shown.length ≤ n
theorem Txt.mono {k n k' n' : Nat} {d : PyData} (h : Txt k n d) (hk : k ≤ k') (hn : n ≤ n') : Txt k' n' d := ⟨h.1, h.2.1, Nat.le_trans h.2.2.1 hk, Nat.le_trans h.2.2.2 hn⟩
theorem Txt.repr {k n : Nat} {d : PyData} (h : Txt k n d) (hk : k ≤ 60) (hn : n ≤ sizeLine) : reprO d = some d.shown := if_pos ⟨h.1, h.2.1, Nat.le_trans h.2.2.1 hk, by
  unfold shortO
  rw [decide_eq_true (Nat.le_trans h.2.2.2 hn), Bool.or_true]⟩
theorem txt_int {i : Int} {k : Nat} (hk : 0 < k) (hk2 : k ≤ 1900) (h : i.natAbs < 2 ^ k) : Txt 0 (k + 1) (.int i) := by
  have hl := log2_small h hk
  refine ⟨by simp only [PyData.showable]; exact decide_eq_true (by omega), by simp only [PyData.hasDict], by simp only [PyData.depth]; omega, ?_⟩
  simp only [PyData.shown]
  have := int_text_length_le hk hl
  show (Str.ofString (toString i)).length ≤ k + 1
  rw [ofString_length]
  exact this
theorem txt_all {k n : Nat} : ∀ {ds : List PyData}, (∀ d ∈ ds, Txt k n d) → PyData.showableAll ds = true ∧ PyData.hasDictAll ds = false ∧ PyData.depthAll ds ≤ k ∧ piled (PyData.shownAll ds) ≤ ds.length * (n + 2)
  | [], _ => ⟨by simp only [PyData.showableAll], by simp only [PyData.hasDictAll], by simp only [PyData.depthAll]; omega, by simp [PyData.shownAll, piled]⟩
  | d :: ds, h => by
    obtain ⟨a1, a2, a3, a4⟩ := h d List.mem_cons_self
    obtain ⟨b1, b2, b3, b4⟩ := txt_all fun x hx => h x (List.mem_cons_of_mem _ hx)
    refine ⟨by simp only [PyData.showableAll, a1, b1, Bool.and_self], by simp only [PyData.hasDictAll, a2, b2, Bool.or_self], by simp only [PyData.depthAll]; omega, ?_⟩
    simp only [PyData.shownAll]
    rw [piled_cons, List.length_cons, Nat.add_mul]
    omega
theorem txt_list {k n : Nat} {ds : List PyData} (h : ∀ d ∈ ds, Txt k n d) : Txt (k + 1) (ds.length * (n + 2) + 2) (.list ds) := by
  obtain ⟨b1, b2, b3, b4⟩ := txt_all h
  refine ⟨by simp only [PyData.showable, b1], by simp only [PyData.hasDict, b2], by simp only [PyData.depth]; omega, ?_⟩
  simp only [PyData.shown]
  have := listText_le (PyData.shownAll ds)
  omega
theorem txt_tup {k n : Nat} {ds : List PyData} (h : ∀ d ∈ ds, Txt k n d) : Txt (k + 1) (ds.length * (n + 2) + 3) (.tuple ds) := by
  obtain ⟨b1, b2, b3, b4⟩ := txt_all h
  refine ⟨by simp only [PyData.showable, b1], by simp only [PyData.hasDict, b2], by simp only [PyData.depth]; omega, ?_⟩
  simp only [PyData.shown]
  have := tupleText_le (PyData.shownAll ds)
  omega
end Z
namespace Z
open PySem PySem.Spec L2
def Q_steps_of (letters : Int) : Option (List Int) :=
  ((rngO 1 (letters + 1)).bind fun t1 => ((lp (fun (s2 : (List Int)) (letter3 : Int) => ((catO (α := Int) s2 ([letter3, (-letter3)])).bind fun t7 => some t7)) t1 ([] : (List Int))).bind fun f4 => some f4))
def Q_is_integer (value : Int) : Option Bool :=
  some (true && true)
def Q_is_letters (value : Int) : Option Bool :=
  ((Q_is_integer value).bind fun t1 => some (t1 && (decide (1 ≤ value) && decide (value ≤ 4))))
def Q_is_a_row (value : (List Int)) (letters : Int) (rooms : Int) : Option Bool :=
  (if (false || (!decide ((value.length : Int) = letters))) = true then some false else ((lcO (β := Bool) (fun (room1 : Int) => ((Q_is_integer room1).bind fun t3 => some (t3 && (decide ((-1) ≤ room1) && decide (room1 < rooms))))) value).bind fun t4 => some (t4.all id)))
def Q_doors_of (rows : (List (List Int))) : Option (List (List (Int × Int))) :=
  ((lenO rows).bind fun z2 => (mapO (fun (row1 : (List Int)) => (some ([] : (List (Int × Int))) : Option (List (Int × Int)))) rows).bind fun t4 => ((lp (fun (s6 : (List (List (Int × Int)))) (x7 : (Int × (List Int))) => ((lp (fun (s11 : (List (List (Int × Int)))) (x12 : (Int × Int)) => ((if (decide (0 ≤ x12.2)) = true then ((idx s11 x7.1).bind fun t16 => (dPutO t16 (x12.1 + 1) x12.2).bind fun t17 => ((idx (setI s11 x7.1 t17) x12.2).bind fun t18 => (dPutO t18 ((-x12.1) - 1) x7.1).bind fun t19 => some (setI (setI s11 x7.1 t17) x12.2 t19))) else some s11 : Option (List (List (Int × Int)))).bind fun s20 => some s20)) (enum x7.2) s6).bind fun f13 => some f13)) (enum rows) t4).bind fun f8 => some f8))
def Q_is_one_way (rows : (List (List Int))) (letters : Int) : Option Bool :=
  ((rngO 0 letters).bind fun t1 => ((lpR (fun (s2 : Unit) (at_3 : Int) => (((lcG (β := Int) (fun (row7 : (List Int)) => ((idx row7 at_3).bind fun t9 => if (decide (0 ≤ t9)) = true then ((idx row7 at_3).bind fun t10 => some (some t10)) else some none)) rows).bind fun t11 => ((lenSetO t11).bind fun t12 => (if (decide (t12 < (t11.length : Int))) = true then some (Step.ret false) else some (Step.go ())))) : Option (Step Bool Unit))) t1 ()).bind fun f4o => Sum.elim (fun r14 => some r14) (fun f4 => some true) f4o))
def Q_first_order (letters : Int) (doors : (List (List (Int × Int)))) (home : Int) : Option (List Int) :=
  ((wh (fun (s3 : (Int × (List (Int × Bool)) × (List Int))) => some (decide (s3.1 < (s3.2.2.length : Int)))) (fun (s3 : (Int × (List (Int × Bool)) × (List Int))) => (((Q_steps_of letters).bind fun t7 => ((lp (fun (s8 : ((List (Int × Bool)) × (List Int))) (step9 : Int) => ((idx s8.2 s3.1).bind fun t13 => (idx doors t13).bind fun t14 => (match (dGet t14 step9) with | none => (some (s8.1, s8.2)) | some goal15 => ((if (true && (!(dGet s8.1 goal15).isSome)) = true then ((dPutO s8.1 goal15 true).bind fun t16 => ((appO s8.2 goal15).bind fun t17 => some (t16, t17))) else some (s8.1, s8.2) : Option ((List (Int × Bool)) × (List Int))).bind fun s18 => some (s18.1, s18.2))))) t7 (s3.2.1, s3.2.2)).bind fun f10 => some (Step.go ((s3.1 + 1), f10.1, f10.2)))) : Option (Step (List Int) (Int × (List (Int × Bool)) × (List Int))))) 1000 (0, [(home, true)], [home])).bind fun f4o => Sum.elim (fun r21 => none) (fun f4 => some f4.2.2) f4o)
def Q_is_a_web (value : (Int × (List (List Int)))) : Option Bool :=
  ((if false = true then some true else ((if (!decide (2 = 2)) = true then some true else ((Q_is_letters value.1).bind fun t1 => some (!t1))).bind fun t2 => some t2)).bind fun t3 => (if t3 = true then some false else (if (false || (decide ((value.2.length : Int) = 0))) = true then some false else ((lcO (β := Bool) (fun (row4 : (List Int)) => ((Q_is_a_row row4 value.1 (value.2.length : Int)).bind fun t6 => some t6)) value.2).bind fun t7 => (if (!(t7.all id)) = true then some true else ((Q_is_one_way value.2 value.1).bind fun t8 => some (!t8))).bind fun t9 => (if t9 = true then some false else ((Q_doors_of value.2).bind fun t10 => ((lcT (fun (steps11 : (List (Int × Int))) => (decide ((steps11.length : Int) < 2))) (cut t10 (some 1) none)).bind fun t13 => (if (t13.any id) = true then some false else ((Q_first_order value.1 t10 0).bind fun t14 => (rgO 0 (value.2.length : Int)).bind fun t15 => some (decide (t14 = t15)))))))))))
def Q_need_web (web : (Int × (List (List Int)))) : Option Unit :=
  ((Q_is_a_web web).bind fun t1 => (if (!t1) = true then none else some ()))
def Q_need_number (number : Int) (low : Int) (high : Unit) : Option Unit :=
  (if ((decide (number < low)) || false) = true then none else some ())
def P_pot (script : (List Int)) (k_ : Int) : Option (List Int) :=
  ((if (decide (k_ < (script.length : Int))) = true then ((idx script k_).bind fun t1 => some t1) else some ((29 * k_) + 3) : Option Int).bind fun s2 => ((lp (fun (s3 : Int) (other4 : Int) => ((some (((s3 * 7919) + (other4 % 10000000000000000000009)) % 100000000000000000000000067)).bind fun total8 => some total8)) script (script.length : Int)).bind fun f5 => some [(maxI 0 (s2 - 1000000000000000000)), ((((((absI s2) * 9973) + (2 * f5)) + (if (decide (s2 < 0)) = true then 1 else 0)) + k_) % 10000000000000000000000000331), 0]))
def P_draw (w_pot_here : (List Int)) (many : Int) : Option (Int × (List Int)) :=
  ((idx w_pot_here 0).bind fun t1 => (if (decide (0 < t1)) = true then ((idx w_pot_here 0).bind fun t2 => (modO t2 many).bind fun t3 => ((idx w_pot_here 0).bind fun t4 => (fdivO t4 many).bind fun t5 => (setO w_pot_here 0 t5).bind fun t6 => some (t3, t6))) else ((idx w_pot_here 2).bind fun t7 => (setO w_pot_here 2 (t7 + 1)).bind fun t8 => ((idx t8 1).bind fun t9 => (idx t8 2).bind fun t10 => (some (((t9 * 524287) + (t10 * 1442695040888963407)) % 10000000000000000000000000331)).bind fun mixed11 => ((mulW mixed11 mixed11).bind fun t13 => (idx t8 2).bind fun t14 => (idx t8 1).bind fun t15 => (some (((t13 + (7046029254386353131 * t14)) + t15) % 100000000000000000000000000319)).bind fun mixed16 => ((mulW mixed16 mixed16).bind fun t18 => ((modO (((t18 + 5) % 1000000000000000000000000000057) / 9001) many).bind fun t19 => some (t19, t8))))))))
def P_steps (letters : Int) : Option (List Int) :=
  ((rngO 1 (letters + 1)).bind fun t1 => ((lp (fun (s2 : (List Int)) (letter3 : Int) => ((catO (α := Int) s2 ([letter3, (-letter3)])).bind fun t7 => some t7)) t1 ([] : (List Int))).bind fun f4 => some f4))
def P_web (letters : Int) (doors_here : (List (List (Int × Int)))) : Option (Int × (List (List Int))) :=
  ((lenO doors_here).bind fun z2 => (mapO (fun (steps_here1 : (List (Int × Int))) => (some steps_here1 : Option (List (Int × Int)))) doors_here).bind fun t4 => ((rngO 0 (t4.length : Int)).bind fun t6 => ((lp (fun (s7 : (List (List (Int × Int)))) (turn8 : Int) => ((rngO 1 (s7.length : Int)).bind fun t12 => ((lp (fun (s13 : (List (List (Int × Int)))) (room14 : Int) => ((idx s13 room14).bind fun t18 => ((if (decide ((t18.length : Int) = 1)) = true then ((idx s13 room14).bind fun t19 => (idx (List.map Prod.fst t19) 0).bind fun t20 => ((idx s13 room14).bind fun t21 => (dPopO t21 t20).bind fun t22 => ((idx (setI s13 room14 t22.2) t22.1).bind fun t23 => (dPopO t23 (-t20)).bind fun t24 => some (setI (setI s13 room14 t22.2) t22.1 t24.2)))) else some s13 : Option (List (List (Int × Int)))).bind fun s25 => some s25))) t12 s7).bind fun f15 => some f15))) t6 t4).bind fun f9 => ((wh (fun (s30 : (Int × (List Int))) => some (decide (s30.1 < (s30.2.length : Int)))) (fun (s30 : (Int × (List Int))) => (((P_steps letters).bind fun t34 => ((lp (fun (s35 : (List Int)) (step36 : Int) => ((idx s35 s30.1).bind fun t40 => (idx f9 t40).bind fun t41 => ((if ((decide (0 ≤ ((dGet t41 step36).getD (-1)))) && (!s35.contains ((dGet t41 step36).getD (-1)))) = true then ((appO s35 ((dGet t41 step36).getD (-1))).bind fun t42 => some t42) else some s35 : Option (List Int)).bind fun s43 => some s43))) t34 s30.2).bind fun f37 => some (Step.go ((s30.1 + 1), f37)))) : Option (Step (Int × (List (List Int))) (Int × (List Int))))) 1000 (0, [0])).bind fun f31o => Sum.elim (fun r64 => none) (fun f31 => ((lp (fun (s46 : (List (List Int))) (room47 : Int) => ((rngO 1 (letters + 1)).bind fun t51 => (lcO (β := Int) (fun (letter52 : Int) => ((idx f9 room47).bind fun t54 => some ((dGet t54 letter52).getD (-1)))) t51).bind fun t55 => ((lcO (β := Int) (fun (goal56 : Int) => ((if (decide (0 ≤ goal56)) = true then ((ixOf f31.2 goal56).bind fun t58 => some ((t58 : Nat) : Int)) else some (-1)).bind fun t59 => some t59)) t55).bind fun t60 => (appO s46 t60).bind fun t61 => some t61))) f31.2 ([] : (List (List Int)))).bind fun f48 => some (letters, f48))) f31o))))
def P_doors (web_here : (Int × (List (List Int)))) : Option (List (List (Int × Int))) :=
  ((lenO web_here.2).bind fun z2 => (mapO (fun (row1 : (List Int)) => (some ([] : (List (Int × Int))) : Option (List (Int × Int)))) web_here.2).bind fun t4 => ((rngO 0 (t4.length : Int)).bind fun t6 => ((lp (fun (s7 : (List (List (Int × Int)))) (room8 : Int) => ((rngO 0 web_here.1).bind fun t12 => ((lp (fun (s13 : (List (List (Int × Int)))) (at_14 : Int) => ((idx web_here.2 room8).bind fun t18 => (idx t18 at_14).bind fun t19 => ((if (decide (0 ≤ t19)) = true then ((idx s13 room8).bind fun t20 => (dPutO t20 (at_14 + 1) t19).bind fun t21 => ((idx (setI s13 room8 t21) t19).bind fun t22 => (dPutO t22 ((-at_14) - 1) room8).bind fun t23 => some (setI (setI s13 room8 t21) t19 t23))) else some s13 : Option (List (List (Int × Int)))).bind fun s24 => some s24))) t12 s7).bind fun f15 => some f15))) t6 t4).bind fun f9 => some f9)))
def P_straight (w_pot_here : (List Int)) (letters : Int) (size : Int) : Option ((List Int) × (List Int)) :=
  ((rngO 0 size).bind fun t1 => ((lp (fun (s2 : ((List Int) × (List Int))) (turn3 : Int) => ((P_steps letters).bind fun t7 => (lcG (β := Int) (fun (step8 : Int) => ((if (decide (s2.1 = ([] : (List Int)))) = true then some true else ((idx s2.1 (-1)).bind fun t10 => some (!decide (step8 = (-t10))))).bind fun t11 => if t11 = true then some (some step8) else some none)) t7).bind fun t12 => ((P_draw s2.2 (t12.length : Int)).bind fun t13 => (idx t12 t13.1).bind fun t14 => (appO s2.1 t14).bind fun t15 => some (t15, t13.2)))) t1 (([] : (List Int)), w_pot_here)).bind fun f4 => some (f4.1, f4.2)))
def P_tables (w_pot_here : (List Int)) (letters : Int) (count : Int) (gaps : Int) : Option ((List (List (Int × Int))) × (List Int)) :=
  ((rngO 0 count).bind fun t1 => (lenO t1).bind fun z3 => (mapO (fun (room2 : Int) => (some ([] : (List (Int × Int))) : Option (List (Int × Int)))) t1).bind fun t5 => ((rngO 1 (letters + 1)).bind fun t7 => ((lp (fun (s8 : ((List (List (Int × Int))) × (List Int))) (letter9 : Int) => ((rgO 0 count).bind fun t13 => ((rngO 0 count).bind fun t14 => ((lp (fun (s15 : ((List Int) × (List (List (Int × Int))) × (List Int))) (room16 : Int) => ((P_draw s15.2.2 (s15.1.length : Int)).bind fun t20 => (popI s15.1 t20.1).bind fun t21 => ((if (decide (gaps = 0)) = true then some (true, t20.2) else ((P_draw t20.2 gaps).bind fun t22 => some ((decide (0 < t22.1)), t22.2))).bind fun t23 => ((if t23.1 = true then ((idx s15.2.1 room16).bind fun t24 => (dPutO t24 letter9 t21.1).bind fun t25 => ((idx (setI s15.2.1 room16 t25) t21.1).bind fun t26 => (dPutO t26 (-letter9) room16).bind fun t27 => some (setI (setI s15.2.1 room16 t25) t21.1 t27))) else some s15.2.1 : Option (List (List (Int × Int)))).bind fun s28 => some (t21.2, s28, t23.2))))) t14 (t13, s8.1, s8.2)).bind fun f17 => some (f17.2.1, f17.2.2))))) t7 (t5, w_pot_here)).bind fun f10 => some (f10.1, f10.2))))
def P_rings (walks : (List (List Int))) : Option (List (List (Int × Int))) :=
  ((lp (fun (s2 : (Int × (List (Tri Int Int Int)))) (walk3 : (List Int)) => ((rngO 0 ((walk3.length : Int) - 1)).bind fun t7 => (lcT (fun (k_8 : Int) => (s2.1 + k_8)) t7).bind fun t10 => (catO (α := Int) ([0]) t10).bind fun t11 => (catO (α := Int) t11 ([0])).bind fun t12 => ((rngO 0 (walk3.length : Int)).bind fun t13 => ((lp (fun (s14 : (List (Tri Int Int Int))) (k_15 : Int) => ((idx t12 k_15).bind fun t19 => (idx walk3 k_15).bind fun t20 => (idx t12 (k_15 + 1)).bind fun t21 => (appO s14 (Tri.mk t19 t20 t21)).bind fun t22 => ((idx t12 (k_15 + 1)).bind fun t23 => (idx walk3 k_15).bind fun t24 => (idx t12 k_15).bind fun t25 => (appO t22 (Tri.mk t23 (-t24) t25)).bind fun t26 => some t26))) t13 s2.2).bind fun f16 => some (((s2.1 + (walk3.length : Int)) - 1), f16))))) walks (1, ([] : (List (Tri Int Int Int))))).bind fun f4 => ((rgO 0 f4.1).bind fun t30 => ((rngO 0 f4.1).bind fun t33 => ((lp (fun (s34 : ((List Int) × (List (List (Int × Int))))) (turn35 : Int) => ((rngO 0 f4.1).bind fun t39 => (lenO t39).bind fun z41 => (mapO (fun (room40 : Int) => (some ([] : (List (Int × Int))) : Option (List (Int × Int)))) t39).bind fun t43 => ((lp (fun (s45 : ((List Int) × (List (List (Int × Int))))) (x46 : (Tri Int Int Int)) => ((idx s45.1 x46.a).bind fun t50 => (idx s45.1 x46.c).bind fun t51 => ((idx s45.2 t50).bind fun t52 => (dSetO t52 x46.b t51).bind fun t53 => ((if (!decide (t53.1 = t51)) = true then ((lcT (fun (head54 : Int) => (if (decide (head54 = (maxI t53.1 t51))) = true then (minI t53.1 t51) else head54)) s45.1).bind fun t56 => some t56) else some s45.1 : Option (List Int)).bind fun s57 => some (s57, (setI s45.2 t50 t53.2)))))) f4.2 (s34.1, t43)).bind fun f47 => some (f47.1, f47.2)))) t33 (t30, ([] : (List (List (Int × Int)))))).bind fun f36 => some f36.2))))
def P_drawn (w_pot_here : (List Int)) (most : Int) (top : Int) : Option ((Int × (List (List Int))) × (List Int)) :=
  ((P_draw w_pot_here top).bind fun t1 => ((P_draw t1.2 9).bind fun t2 => (if (decide (t2.1 = 0)) = true then ((repT ([(-1)]) (1 + t1.1)).bind fun t3 => some (((1 + t1.1), [t3]), t2.2)) else (if (decide (t2.1 < 5)) = true then ((P_draw t2.2 3).bind fun t5 => (rngO 0 (1 + t5.1)).bind fun t6 => ((lp (fun (s7 : (Int × (List Int) × (List (List Int)))) (turn8 : Int) => ((if (decide (0 < s7.1)) = true then ((P_draw s7.2.1 s7.1).bind fun t12 => ((P_straight t12.2 (1 + t1.1) (1 + t12.1)).bind fun t13 => (appO s7.2.2 t13.1).bind fun t14 => some ((s7.1 - (1 + t12.1)), t13.2, t14))) else some (s7.1, s7.2.1, s7.2.2) : Option (Int × (List Int) × (List (List Int)))).bind fun s15 => some (s15.1, s15.2.1, s15.2.2))) t6 (most, t5.2, ([] : (List (List Int))))).bind fun f9 => ((P_rings f9.2.2).bind fun t17 => (P_web (1 + t1.1) t17).bind fun t18 => some (t18, f9.2.1)))) else ((P_draw t2.2 5).bind fun t20 => (idx ([0, 0, 2, 3, 6]) t20.1).bind fun t21 => ((P_draw t20.2 most).bind fun t22 => (P_tables t22.2 (1 + t1.1) (1 + t22.1) t21).bind fun t23 => (P_web (1 + t1.1) t23.1).bind fun t24 => some (t24, t23.2)))))))
/-! ### draws -/
theorem bndX {α β : Type} {m : Option α} {k : α → Option β} {a : α} {P : β → Prop} (h : m = some a) (h2 : ∃ r, k a = some r ∧ P r) : ∃ r, m.bind k = some r ∧ P r := by
  rw [h]
  exact h2
theorem sizeL : sizeLine = 16777216 := by decide
/-- three cells, of which so many draws were made at most -/
def Pot (n : Nat) (w : List Int) : Prop := ∃ a b c : Int, w = [a, b, c] ∧ 0 ≤ a ∧ 0 ≤ b ∧ b < 2 ^ 100 ∧ 0 ≤ c ∧ c ≤ n
theorem Pot.mono {n m : Nat} {w : List Int} (h : Pot n w) (hm : n ≤ m) : Pot m w := by
  obtain ⟨a, b, c, e, h1, h2, h3, h4, h5⟩ := h
  exact ⟨a, b, c, e, h1, h2, h3, h4, by omega⟩
theorem pot_ok {ns : List Int} {k : Int} (h0 : 0 ≤ k) : ∃ w, P_pot ns k = some w ∧ Pot 0 w := by
  unfold P_pot
  obtain ⟨s, e⟩ := cell_ok (ns := ns) (d := (29 * k) + 3) h0
  obtain ⟨f, e2, _⟩ := lp_goN (f := fun (s3 : Int) (other4 : Int) => ((some (((s3 * 7919) + (other4 % 10000000000000000000009)) % 100000000000000000000000067)).bind fun total8 => some total8)) (xs := ns) (fun _ _ => True) (fun i x s _ _ => ⟨_, rfl, trivial⟩) (s0 := (ns.length : Int)) trivial
  refine ⟨_, bindS e (bindS e2 rfl), _, _, _, rfl, ?_, Int.emod_nonneg _ (by decide), ?_, Int.le_refl 0, Int.le_refl 0⟩
  · unfold maxI
    split <;> omega
  · exact Int.lt_trans (Int.emod_lt_of_pos _ (by decide)) (by decide)
theorem mulW_sq {x y : Int} (h0 : 0 ≤ x) (h1 : x < 2 ^ 110) (k0 : 0 ≤ y) (k1 : y < 2 ^ 110) : mulW x y = some (x * y) := by
  refine if_pos (.inr (.inr ?_))
  have e1 : x.natAbs.log2 < 110 := log2_int h0 (by omega) (by decide)
  have e2 : y.natAbs.log2 < 110 := log2_int k0 (by omega) (by decide)
  omega
theorem draw_big {n : Nat} {w : List Int} (h : Pot n w) {many : Int} (h0 : 0 < many) (hbl : many.natAbs.log2 < 9000) : ∃ v w', P_draw w many = some (v, w') ∧ 0 ≤ v ∧ v < many ∧ Pot (n + 1) w' := by
  obtain ⟨a, b, c, rfl, ha, hb0, hb1, hc0, hc1⟩ := h
  unfold P_draw
  have i0 : idx [a, b, c] 0 = some a := rfl
  have i2 : idx [a, b, c] 2 = some c := rfl
  have j1 : idx [a, b, c + 1] 1 = some b := rfl
  have j2 : idx [a, b, c + 1] 2 = some (c + 1) := rfl
  have m0 : setO [a, b, c] 2 (c + 1) = some [a, b, c + 1] := rfl
  have m1 : modO a many = some (a % many) := if_pos h0
  have m2 : fdivO a many = some (a / many) := if_pos ⟨h0, hbl⟩
  have m3 : setO [a, b, c] 0 (a / many) = some [a / many, b, c] := rfl
  by_cases hp : 0 < a
  · exact ⟨a % many, [a / many, b, c], bindS i0 ((if_pos (decide_eq_true hp)).trans (bindS i0 (bindS m1 (bindS i0 (bindS m2 (bindS m3 rfl)))))), Int.emod_nonneg _ (by omega), Int.emod_lt_of_pos _ h0, _, _, _, rfl, Int.ediv_nonneg ha (by omega), hb0, hb1, hc0, by omega⟩
  · refine ⟨_, [a, b, c + 1], bindS i0 ((if_neg (by simpa using hp)).trans (bindS i2 (bindS m0 (bindS j1 (bindS j2 (bindS rfl (bindS (mulW_sq ?_ ?_ ?_ ?_) (bindS j2 (bindS j1 (bindS rfl (bindS (mulW_sq ?_ ?_ ?_ ?_) (bindS (if_pos h0) rfl)))))))))))), Int.emod_nonneg _ (by omega), Int.emod_lt_of_pos _ h0, _, _, _, rfl, ha, hb0, hb1, by omega, by omega⟩
    all_goals first | exact Int.emod_nonneg _ (by decide) | exact Int.lt_trans (Int.emod_lt_of_pos _ (by decide)) (by decide)
theorem draw_ok {n : Nat} {w : List Int} (h : Pot n w) {many : Int} (h0 : 0 < many) (hb : many < 2 ^ 64) : ∃ v w', P_draw w many = some (v, w') ∧ 0 ≤ v ∧ v < many ∧ Pot (n + 1) w' :=
  draw_big h h0 (Nat.lt_trans (log2_int (by omega) hb (by decide)) (by decide))
/-! ### steps in their order -/
def stL (L : Int) : List Int := (range' 1 (L + 1)).flatMap fun l => [l, -l]
theorem four {P : Int → Prop} {L : Int} (h1 : 1 ≤ L) (h4 : L ≤ 4) (a : P 1) (b : P 2) (c : P 3) (d : P 4) : P L := by
  have : L = 1 ∨ L = 2 ∨ L = 3 ∨ L = 4 := by omega
  rcases this with rfl | rfl | rfl | rfl <;> assumption
theorem steps_ok' {L : Int} (h1 : 1 ≤ L) (h4 : L ≤ 4) : P_steps L = some (stL L) := four (P := fun L => P_steps L = some (stL L)) h1 h4 (by decide) (by decide) (by decide) (by decide)
theorem steps_of_ok {L : Int} (h1 : 1 ≤ L) (h4 : L ≤ 4) : Q_steps_of L = some (stL L) := steps_ok' h1 h4
theorem mem_stL {L s : Int} : s ∈ stL L ↔ Sok L s := by
  unfold stL Sok
  rw [List.mem_flatMap]
  constructor
  · rintro ⟨l, hl, hs⟩
    have := mem_rng hl
    simp only [List.mem_cons, List.not_mem_nil, or_false] at hs
    omega
  · intro h
    refine ⟨(s.natAbs : Int), ?_, ?_⟩
    · unfold range'
      refine List.mem_map.mpr ⟨s.natAbs - 1, List.mem_range.mpr (by omega), by omega⟩
    · simp only [List.mem_cons, List.not_mem_nil, or_false]
      omega
theorem stL_nd {L : Int} (h1 : 1 ≤ L) (h4 : L ≤ 4) : (stL L).Nodup := four (P := fun L => (stL L).Nodup) h1 h4 (by decide) (by decide) (by decide) (by decide)
theorem stL_len {L : Int} (h1 : 1 ≤ L) (h4 : L ≤ 4) : (stL L).length ≤ 8 := four (P := fun L => (stL L).length ≤ 8) h1 h4 (by decide) (by decide) (by decide) (by decide)
theorem nodup_le {α : Type} [DecidableEq α] : ∀ (l k : List α), l.Nodup → (∀ x ∈ l, x ∈ k) → l.length ≤ k.length
  | [], _, _, _ => Nat.zero_le _
  | x :: l, k, h, hs => by
    have hx := hs x List.mem_cons_self
    have h2 := List.nodup_cons.mp h
    have := nodup_le l (k.erase x) h2.2 (fun y hy => (List.mem_erase_of_ne (fun e => h2.1 (by rw [← e]; exact hy))).mpr (hs y (List.mem_cons_of_mem _ hy)))
    rw [List.length_erase_of_mem hx] at this
    have := List.length_pos_of_mem hx
    rw [List.length_cons]
    omega
/-! ### tables -/
section
variable {κ β : Type} [DecidableEq κ]
theorem dGet_nil (k : κ) : dGet ([] : List (κ × β)) k = none := rfl
theorem dGet_cons (p : κ × β) (d : List (κ × β)) (k : κ) : dGet (p :: d) k = if p.1 = k then some p.2 else dGet d k := by
  unfold dGet
  rw [List.find?_cons]
  by_cases h : p.1 = k
  · simp [h]
  · simp [h]
theorem dGet_mem : ∀ {d : List (κ × β)} {k : κ} {v : β}, dGet d k = some v → (k, v) ∈ d
  | [], _, _, h => by cases h
  | p :: d, k, v, h => by
    rw [dGet_cons] at h
    by_cases e : p.1 = k
    · rw [if_pos e] at h
      cases h
      subst e
      exact List.mem_cons_self
    · rw [if_neg e] at h
      exact List.mem_cons_of_mem _ (dGet_mem h)
theorem mem_dGet : ∀ {d : List (κ × β)} {k : κ} {v : β}, (d.map Prod.fst).Nodup → (k, v) ∈ d → dGet d k = some v
  | [], _, _, _, h => by cases h
  | p :: d, k, v, hn, h => by
    rw [dGet_cons]
    rw [List.map_cons, List.nodup_cons] at hn
    rcases List.mem_cons.mp h with h | h
    · subst h
      rw [if_pos rfl]
    · rw [if_neg (fun e => hn.1 (by rw [e]; exact List.mem_map.mpr ⟨_, h, rfl⟩))]
      exact mem_dGet hn.2 h
theorem dGet_key_mem {d : List (κ × β)} {k : κ} : (dGet d k).isSome = true ↔ k ∈ d.map Prod.fst := by
  constructor
  · intro h
    obtain ⟨v, hv⟩ := Option.isSome_iff_exists.mp h
    exact List.mem_map.mpr ⟨_, dGet_mem hv, rfl⟩
  · intro h
    induction d with
    | nil => cases h
    | cons p d ih =>
      rw [dGet_cons]
      by_cases e : p.1 = k
      · rw [if_pos e]; rfl
      · rw [if_neg e]
        rw [List.map_cons] at h
        rcases List.mem_cons.mp h with h | h
        · exact absurd h.symm e
        · exact ih h
theorem dGet_set (k : κ) (v : β) (k' : κ) : ∀ d : List (κ × β), dGet (d.map fun kv => if kv.1 = k then (kv.1, v) else kv) k' = if k = k' then (dGet d k).map (fun _ => v) else dGet d k'
  | [] => by by_cases h : k = k' <;> simp [h, dGet_nil]
  | p :: d => by
    rw [List.map_cons, dGet_cons, dGet_set k v k' d, dGet_cons, dGet_cons]
    by_cases h1 : p.1 = k
    · by_cases h2 : k = k'
      · subst h2; simp [h1]
      · have h3 : ¬ p.1 = k' := fun e => h2 (h1.symm.trans e)
        simp [h1, h2]
    · by_cases h2 : k = k'
      · subst h2; simp [h1]
      · simp [h1, h2]
theorem dGet_snoc (k : κ) (v : β) (k' : κ) : ∀ d : List (κ × β), dGet (d ++ [(k, v)]) k' = (dGet d k').or (if k = k' then some v else none)
  | [] => by rw [List.nil_append, dGet_cons]; rfl
  | p :: d => by
    rw [List.cons_append, dGet_cons, dGet_cons, dGet_snoc k v k' d]
    by_cases h : p.1 = k' <;> simp [h]
theorem any_key (d : List (κ × β)) (k : κ) : (d.any fun kv => decide (kv.1 = k)) = (dGet d k).isSome := by
  induction d with
  | nil => rfl
  | cons p d ih =>
    rw [List.any_cons, dGet_cons, ih]
    by_cases h : p.1 = k <;> simp [h]
theorem dGet_put (d : List (κ × β)) (k : κ) (v : β) (k' : κ) : dGet (dPut d k v) k' = if k = k' then some v else dGet d k' := by
  unfold dPut
  rw [any_key]
  by_cases h : (dGet d k).isSome = true
  · rw [if_pos h, dGet_set]
    obtain ⟨w, hw⟩ := Option.isSome_iff_exists.mp h
    rw [hw]
    rfl
  · rw [if_neg h, dGet_snoc]
    by_cases e : k = k'
    · subst e
      have : dGet d k = none := by simpa using h
      simp [this]
    · simp [e]
theorem dPut_keys (d : List (κ × β)) (k : κ) (v : β) : (dPut d k v).map Prod.fst = if (dGet d k).isSome = true then d.map Prod.fst else d.map Prod.fst ++ [k] := by
  unfold dPut
  rw [any_key]
  by_cases h : (dGet d k).isSome = true
  · rw [if_pos h, if_pos h, List.map_map]
    refine List.map_congr_left fun p _ => ?_
    show (if p.1 = k then (p.1, v) else p).1 = p.1
    split <;> rfl
  · rw [if_neg h, if_neg h, List.map_append]
    rfl
theorem dPut_nd {d : List (κ × β)} (h : (d.map Prod.fst).Nodup) (k : κ) (v : β) : ((dPut d k v).map Prod.fst).Nodup := by
  rw [dPut_keys]
  split
  · exact h
  · rename_i hn
    rw [List.nodup_append]
    refine ⟨h, by simp, fun a ha b hb => ?_⟩
    rw [List.mem_singleton.mp hb]
    exact fun e => hn (dGet_key_mem.mpr (e ▸ ha))
theorem dDel_nd {d : List (κ × β)} (h : (d.map Prod.fst).Nodup) (k : κ) : ((dDel d k).map Prod.fst).Nodup := by
  unfold dDel
  exact h.sublist (List.Sublist.map _ List.filter_sublist)
theorem dGet_del (k k' : κ) : ∀ d : List (κ × β), dGet (dDel d k) k' = if k = k' then none else dGet d k'
  | [] => by by_cases h : k = k' <;> simp [h, dDel, dGet_nil]
  | p :: d => by
    have ih := dGet_del k k' d
    unfold dDel at ih ⊢
    rw [List.filter_cons]
    by_cases h : p.1 = k
    · simp only [h, ne_eq, not_true_eq_false, decide_false, Bool.false_eq_true, if_false]
      rw [ih, dGet_cons, h]
      by_cases e : k = k' <;> simp [e]
    · have : decide (p.1 ≠ k) = true := by simp [h]
      rw [if_pos this, dGet_cons, ih, dGet_cons]
      by_cases e : k = k'
      · subst e; simp [h]
      · simp [e]
theorem putO_ok {d : List (κ × β)} {k : κ} {v : β} (h : d.length < sizeLine) : dPutO d k v = some (dPut d k v) := if_pos h
end
/-! ### doors -/
abbrev Dd := List (List (Int × Int))
def row (D : Dd) (a : Int) : List (Int × Int) := D.getD a.toNat []
def go (D : Dd) (a s : Int) : Option Int := dGet (row D a) s
theorem getD_set' {α : Type} (l : List α) (i j : Nat) (x d : α) (h : i < l.length) : (l.set i x).getD j d = if i = j then x else l.getD j d := by
  rw [List.getD_eq_getElem?_getD, List.getElem?_set, List.getD_eq_getElem?_getD]
  by_cases e : i = j
  · rw [if_pos e, if_pos e, if_pos h]; rfl
  · rw [if_neg e, if_neg e]
theorem setI_nn {α : Type} {xs : List α} {a : Int} (h0 : 0 ≤ a) (h : a < xs.length) (x : α) : setI xs a x = xs.set a.toNat x := by
  unfold setI ixD ixN
  rw [if_pos h0, if_pos (by omega)]
  rfl
theorem idx_row {D : Dd} {a : Int} (h0 : 0 ≤ a) (h : a < D.length) : idx D a = some (row D a) := by
  have hl : a.toNat < D.length := by omega
  refine idx_of h0 ?_
  unfold row
  rw [List.getD_eq_getElem?_getD, List.getElem?_eq_getElem hl]
  rfl
theorem row_set {D : Dd} {a b : Int} (h0 : 0 ≤ a) (h : a < D.length) (hb : 0 ≤ b) (d : List (Int × Int)) : row (setI D a d) b = if a = b then d else row D b := by
  unfold row
  rw [setI_nn h0 h, getD_set' _ _ _ _ _ (by omega)]
  by_cases e : a = b
  · rw [if_pos e, if_pos (by omega)]
  · rw [if_neg e, if_neg (by omega)]
theorem row_mem {D : Dd} {a : Int} (h0 : 0 ≤ a) (h : a < D.length) : row D a ∈ D := by
  have hl : a.toNat < D.length := by omega
  unfold row
  rw [List.getD_eq_getElem?_getD, List.getElem?_eq_getElem hl]
  exact List.getElem_mem hl
theorem go_lt {D : Dd} {a s b : Int} (h0 : 0 ≤ a) (h : go D a s = some b) : a < D.length := by
  refine Int.not_le.mp fun hn => ?_
  unfold go row at h
  rw [List.getD_eq_getElem?_getD, List.getElem?_eq_none_iff.mpr (by omega)] at h
  cases h
def putD (D : Dd) (a s b : Int) : Dd := setI (setI D a (dPut (row D a) s b)) b (dPut (row (setI D a (dPut (row D a) s b)) b) (-s) a)
def delD (D : Dd) (a s b : Int) : Dd := setI (setI D a (dDel (row D a) s)) b (dDel (row (setI D a (dDel (row D a) s)) b) (-s))
theorem putD_len (D : Dd) (a s b : Int) : (putD D a s b).length = D.length := by unfold putD; rw [setI_len, setI_len]
theorem delD_len (D : Dd) (a s b : Int) : (delD D a s b).length = D.length := by unfold delD; rw [setI_len, setI_len]
section
variable {D : Dd} {a b s : Int} (a0 : 0 ≤ a) (a1 : a < D.length) (b0 : 0 ≤ b) (b1 : b < D.length) (hs : s ≠ 0)
include a0 a1 b0 b1 hs
theorem go_put {x : Int} (hx : 0 ≤ x) (t : Int) : go (putD D a s b) x t = if x = b ∧ t = -s then some a else if x = a ∧ t = s then some b else go D x t := by
  unfold go putD
  rw [row_set b0 (by rw [setI_len]; exact b1) hx]
  by_cases hb : b = x
  · subst hb
    rw [if_pos rfl, dGet_put]
    by_cases ht : -s = t
    · rw [if_pos ht, if_pos ⟨rfl, ht.symm⟩]
    · rw [if_neg ht, if_neg (fun z => ht z.2.symm), row_set a0 a1 b0]
      by_cases ha : a = b
      · subst ha
        rw [if_pos rfl, dGet_put]
        by_cases e : s = t
        · rw [if_pos e, if_pos ⟨rfl, e.symm⟩]
        · rw [if_neg e, if_neg (fun z => e z.2.symm)]
      · rw [if_neg ha, if_neg (fun z => ha z.1.symm)]
  · rw [if_neg hb, if_neg (fun z => hb z.1.symm), row_set a0 a1 hx]
    by_cases ha : a = x
    · subst ha
      rw [if_pos rfl, dGet_put]
      by_cases e : s = t
      · rw [if_pos e, if_pos ⟨rfl, e.symm⟩]
      · rw [if_neg e, if_neg (fun z => e z.2.symm)]
    · rw [if_neg ha, if_neg (fun z => ha z.1.symm)]
theorem go_del {x : Int} (hx : 0 ≤ x) (t : Int) : go (delD D a s b) x t = if (x = b ∧ t = -s) ∨ (x = a ∧ t = s) then none else go D x t := by
  unfold go delD
  rw [row_set b0 (by rw [setI_len]; exact b1) hx]
  by_cases hb : b = x
  · subst hb
    rw [if_pos rfl, dGet_del]
    by_cases ht : -s = t
    · rw [if_pos ht, if_pos (.inl ⟨rfl, ht.symm⟩)]
    · rw [if_neg ht, row_set a0 a1 b0]
      by_cases ha : a = b
      · subst ha
        rw [if_pos rfl, dGet_del]
        by_cases e : s = t
        · rw [if_pos e, if_pos (.inr ⟨rfl, e.symm⟩)]
        · rw [if_neg e, if_neg (by rintro (z | z); exact ht z.2.symm; exact e z.2.symm)]
      · rw [if_neg ha, if_neg (by rintro (z | z); exact ht z.2.symm; exact ha z.1.symm)]
  · rw [if_neg hb, row_set a0 a1 hx]
    by_cases ha : a = x
    · subst ha
      rw [if_pos rfl, dGet_del]
      by_cases e : s = t
      · rw [if_pos e, if_pos (.inr ⟨rfl, e.symm⟩)]
      · rw [if_neg e, if_neg (by rintro (z | z); exact hb z.1.symm; exact e z.2.symm)]
    · rw [if_neg ha, if_neg (by rintro (z | z); exact hb z.1.symm; exact ha z.1.symm)]
end
/-- doors that lead there and back -/
structure Dr (L : Int) (n : Nat) (D : Dd) : Prop where
  len : D.length = n
  nd : ∀ d ∈ D, (d.map Prod.fst).Nodup
  ok : ∀ a s b, 0 ≤ a → go D a s = some b → 0 ≤ b ∧ b < n ∧ Sok L s ∧ go D b (-s) = some a
theorem Dr.nil (L : Int) (n : Nat) {D : Dd} (h : D = List.replicate n []) : Dr L n D := by
  subst h
  refine ⟨List.length_replicate, fun d hd => ?_, fun a s b h0 h => ?_⟩
  · rw [(List.mem_replicate.mp hd).2]
    simp
  · have hr : row (List.replicate n []) a = [] := by
      unfold row
      rw [List.getD_eq_getElem?_getD, List.getElem?_replicate]
      split <;> rfl
    unfold go at h
    rw [hr] at h
    cases h
theorem Dr.put {L : Int} {n : Nat} {D : Dd} (h : Dr L n D) {a s b : Int} (a0 : 0 ≤ a) (a1 : a < n) (b0 : 0 ≤ b) (b1 : b < n) (hs : Sok L s) (f1 : go D a s = none) (f2 : go D b (-s) = none) : Dr L n (putD D a s b) := by
  have a1' : a < D.length := by rw [h.len]; exact a1
  have b1' : b < D.length := by rw [h.len]; exact b1
  have hz := hs.1
  refine ⟨by rw [putD_len]; exact h.len, fun d hd => ?_, fun x t y hx hy => ?_⟩
  · unfold putD at hd
    rcases List.mem_or_eq_of_mem_set hd with hd | rfl
    · rcases List.mem_or_eq_of_mem_set hd with hd | rfl
      · exact h.nd d hd
      · exact dPut_nd (h.nd _ (row_mem a0 a1')) _ _
    · refine dPut_nd ?_ _ _
      rw [row_set a0 a1' b0]
      split
      · exact dPut_nd (h.nd _ (row_mem a0 a1')) _ _
      · exact h.nd _ (row_mem b0 b1')
  · rw [go_put a0 a1' b0 b1' hz hx] at hy
    by_cases e1 : x = b ∧ t = -s
    · rw [if_pos e1] at hy
      cases hy
      refine ⟨a0, a1, by rw [e1.2]; exact hs.neg, ?_⟩
      rw [go_put a0 a1' b0 b1' hz a0, if_neg (fun z => by omega), if_pos ⟨rfl, by omega⟩, e1.1]
    · rw [if_neg e1] at hy
      by_cases e2 : x = a ∧ t = s
      · rw [if_pos e2] at hy
        cases hy
        refine ⟨b0, b1, by rw [e2.2]; exact hs, ?_⟩
        rw [go_put a0 a1' b0 b1' hz b0, if_pos ⟨rfl, by omega⟩, e2.1]
      · rw [if_neg e2] at hy
        obtain ⟨y0, y1, ht, hb⟩ := h.ok x t y hx hy
        refine ⟨y0, y1, ht, ?_⟩
        rw [go_put a0 a1' b0 b1' hz y0, if_neg, if_neg]
        · exact hb
        · rintro ⟨rfl, e⟩
          rw [e, f1] at hb
          cases hb
        · rintro ⟨rfl, e⟩
          rw [e, f2] at hb
          cases hb
theorem Dr.del {L : Int} {n : Nat} {D : Dd} (h : Dr L n D) {a s b : Int} (a0 : 0 ≤ a) (f : go D a s = some b) : Dr L n (delD D a s b) := by
  obtain ⟨b0, b1, hs, g⟩ := h.ok a s b a0 f
  have a1' : a < D.length := go_lt a0 f
  have b1' : b < D.length := by rw [h.len]; exact b1
  have hz := hs.1
  refine ⟨by rw [delD_len]; exact h.len, fun d hd => ?_, fun x t y hx hy => ?_⟩
  · unfold delD at hd
    rcases List.mem_or_eq_of_mem_set hd with hd | rfl
    · rcases List.mem_or_eq_of_mem_set hd with hd | rfl
      · exact h.nd d hd
      · exact dDel_nd (h.nd _ (row_mem a0 a1')) _
    · refine dDel_nd ?_ _
      rw [row_set a0 a1' b0]
      split
      · exact dDel_nd (h.nd _ (row_mem a0 a1')) _
      · exact h.nd _ (row_mem b0 b1')
  · rw [go_del a0 a1' b0 b1' hz hx] at hy
    split at hy
    · cases hy
    · rename_i hn
      obtain ⟨y0, y1, ht, hb⟩ := h.ok x t y hx hy
      refine ⟨y0, y1, ht, ?_⟩
      rw [go_del a0 a1' b0 b1' hz y0, if_neg]
      · exact hb
      · rintro (⟨rfl, e⟩ | ⟨rfl, e⟩)
        · have e' : t = s := by omega
          subst e'
          rw [g] at hb
          cases hb
          exact hn (.inr ⟨rfl, rfl⟩)
        · have e' : t = -s := by omega
          subst e'
          rw [e, f] at hb
          cases hb
          exact hn (.inl ⟨rfl, rfl⟩)
theorem eightL : ∀ s : Int, Sok 4 s → s ∈ [1, -1, 2, -2, 3, -3, 4, (-4 : Int)] := fun s h => by
  obtain ⟨h1, h2, h3⟩ := h
  simp only [List.mem_cons, List.not_mem_nil, or_false]
  omega
theorem Dr.small {L : Int} {n : Nat} {D : Dd} (h : Dr L n D) (h4 : L ≤ 4) {a : Int} (a0 : 0 ≤ a) : (row D a).length ≤ 8 := by
  by_cases ha : a < D.length
  · have hn := h.nd _ (row_mem a0 ha)
    have := nodup_le ((row D a).map Prod.fst) [1, -1, 2, -2, 3, -3, 4, (-4 : Int)] hn fun k hk => by
      obtain ⟨p, hp, rfl⟩ := List.mem_map.mp hk
      obtain ⟨k, v⟩ := p
      have hg : go D a k = some v := mem_dGet hn hp
      exact eightL _ ((h.ok a k v a0 hg).2.2.1.mono h4)
    rw [List.length_map] at this
    exact this
  · unfold row
    rw [List.getD_eq_getElem?_getD, List.getElem?_eq_none_iff.mpr (by omega)]
    exact Nat.zero_le _
theorem Dr.rowok {L : Int} {n : Nat} {D : Dd} (h : Dr L n D) {a : Int} (a0 : 0 ≤ a) : ((row D a).map Prod.fst).Nodup := by
  by_cases ha : a < D.length
  · exact h.nd _ (row_mem a0 ha)
  · unfold row
    rw [List.getD_eq_getElem?_getD, List.getElem?_eq_none_iff.mpr (by omega)]
    exact List.nodup_nil
/-- both ends of a way are laid -/
theorem put_run {L : Int} {n : Nat} {D : Dd} (h : Dr L n D) (h4 : L ≤ 4) {a b k k2 : Int} (a0 : 0 ≤ a) (a1 : a < n) (b0 : 0 ≤ b) (b1 : b < n) (hk : k2 = -k) :
    ((idx D a).bind fun t16 => (dPutO t16 k b).bind fun t17 => ((idx (setI D a t17) b).bind fun t18 => (dPutO t18 k2 a).bind fun t19 => some (setI (setI D a t17) b t19))) = some (putD D a k b) := by
  subst hk
  have a1' : a < D.length := by rw [h.len]; exact a1
  have b1' : b < D.length := by rw [h.len]; exact b1
  have s1 := h.small h4 a0
  have s2 := h.small h4 b0
  have s3 := dput_len (row D a) k b
  refine bindS (idx_row a0 a1') (bindS (putO_ok (by rw [sizeL]; omega)) (bindS (idx_row b0 (by rw [setI_len]; exact b1')) (bindS (putO_ok ?_) rfl)))
  rw [row_set a0 a1' b0, sizeL]
  split <;> omega
end Z
namespace Z
open PySem PySem.Spec L2
/-! ### loops, towards what is wanted of them -/
theorem lpX {α S β : Type} {f : S → α → Option S} {xs : List α} {s0 : S} {k : S → Option β} {Q : β → Prop} (P : Nat → S → Prop) (h0 : P 0 s0) (step : ∀ (i : Nat) (x : α) (s : S), xs[i]? = some x → P i s → ∃ s', f s x = some s' ∧ P (i + 1) s') (hk : ∀ s, P xs.length s → ∃ r, k s = some r ∧ Q r) : ∃ r, (lp f xs s0).bind k = some r ∧ Q r := by
  obtain ⟨s, e, h⟩ := lp_goN P step h0
  rw [e]
  exact hk s h
theorem lpRX {α R S β : Type} {f : S → α → Option (Step R S)} {xs : List α} {s0 : S} {k : Sum R S → Option β} {Q : β → Prop} (P : Nat → S → Prop) (h0 : P 0 s0) (step : ∀ (i : Nat) (x : α) (s : S), xs[i]? = some x → P i s → ∃ s', f s x = some (.go s') ∧ P (i + 1) s') (hk : ∀ s, P xs.length s → ∃ r, k (.inr s) = some r ∧ Q r) : ∃ r, (lpR f xs s0).bind k = some r ∧ Q r := by
  obtain ⟨s, e, h⟩ := lpR_goN P step h0
  rw [e]
  exact hk s h
theorem whX {R S β : Type} {c : S → Option Bool} {f : S → Option (Step R S)} {k : Sum R S → Option β} {Q : β → Prop} (P : S → Prop) (μ : S → Nat) {n : Nat} {s0 : S} (h0 : P s0) (hn : μ s0 < n) (step : ∀ s, P s → c s = some false ∨ (c s = some true ∧ ∃ s', f s = some (.go s') ∧ P s' ∧ μ s' < μ s)) (hk : ∀ s, P s → c s = some false → ∃ r, k (.inr s) = some r ∧ Q r) : ∃ r, (wh c f n s0).bind k = some r ∧ Q r := by
  have : ∃ s, wh c f n s0 = some (.inr s) ∧ P s ∧ c s = some false := by
    induction n generalizing s0 with
    | zero => exact absurd hn (Nat.not_lt_zero _)
    | succ n ih =>
      unfold wh
      rcases step s0 h0 with e | ⟨e, s', e2, h2, h3⟩
      · exact ⟨s0, bindS e (if_neg (by simp)), h0, e⟩
      · obtain ⟨s, h4, h5⟩ := ih h2 (by omega)
        exact ⟨s, bindS e ((if_pos rfl).trans (bindS e2 h4)), h5⟩
  obtain ⟨s, e, h, h2⟩ := this
  rw [e]
  exact hk s h h2
/-- a loop that comes to rest -/
theorem settle {α S : Type} {f : S → α → Option S} (P : Nat → S → Prop) (Q : S → Prop) (step : ∀ k s, P k s → ∃ s', (∀ x, f s x = some s') ∧ (((∀ x, f s' x = some s') ∧ Q s') ∨ ∃ k', k' < k ∧ P k' s')) : ∀ (xs : List α) (k : Nat) (s : S), P k s → k < xs.length → ∃ s', lp f xs s = some s' ∧ Q s'
  | [], k, _, _, h => absurd h (Nat.not_lt_zero _)
  | x :: xs, k, s, hp, h => by
    obtain ⟨s', e, h2⟩ := step k s hp
    unfold lp
    rw [e x]
    show ∃ s'', lp f xs s' = some s'' ∧ _
    rcases h2 with ⟨h3, h4⟩ | ⟨k', h3, h4⟩
    · have stay : ∀ ys : List α, lp f ys s' = some s' := fun ys => by
        induction ys with
        | nil => rfl
        | cons y ys ih =>
          unfold lp
          rw [h3 y]
          exact ih
      exact ⟨s', stay xs, h4⟩
    · exact settle P Q step xs k' s' h4 (by rw [List.length_cons] at h; omega)
theorem mapG_some {α β : Type} {f : α → Option (Option β)} {g : α → Option β} : ∀ {xs : List α}, (∀ x ∈ xs, f x = some (g x)) → mapG f xs = some (xs.filterMap g)
  | [], _ => rfl
  | x :: xs, h => by
    unfold mapG
    rw [h x List.mem_cons_self, mapG_some fun y hy => h y (List.mem_cons_of_mem _ hy)]
    cases hg : g x <;> simp [hg]
theorem lcG_some {α β : Type} {f : α → Option (Option β)} (g : α → Option β) {xs : List α} (hl : xs.length < sizeLine) (h : ∀ x ∈ xs, f x = some (g x)) : lcG f xs = some (xs.filterMap g) := by
  unfold lcG
  rw [if_pos hl]
  exact mapG_some h
theorem gd_snoc {w : List Int} {x : Int} (h : Gd w) (hx : ∀ y, w.getLast? = some y → x ≠ -y) : Gd (w ++ [x]) := by
  rcases List.eq_nil_or_concat w with rfl | ⟨v, y, rfl⟩
  · exact trivial
  · rw [List.concat_eq_append] at h hx ⊢
    rw [List.append_assoc]
    exact gd_join (t := []) (hx y (by simp)) trivial h
theorem rngAt {a b x : Int} {i : Nat} (h : (range' a b)[i]? = some x) : x = a + i ∧ i < (b - a).toNat := by
  unfold range' at h
  rw [List.getElem?_map] at h
  cases e : (List.range (b - a).toNat)[i]? with
  | none => rw [e] at h; cases h
  | some y =>
    rw [e] at h
    obtain ⟨h1, h2⟩ := List.getElem?_eq_some_iff.mp e
    rw [List.getElem_range] at h2
    rw [List.length_range] at h1
    subst h2
    cases h
    exact ⟨rfl, h1⟩
theorem idx_get {α : Type} {xs : List α} {v : Int} (h0 : 0 ≤ v) (h : v < xs.length) : ∃ x, idx xs v = some x ∧ xs[v.toNat]? = some x := by
  have hl : v.toNat < xs.length := by omega
  exact ⟨xs[v.toNat], idx_of h0 (List.getElem?_eq_getElem hl), List.getElem?_eq_getElem hl⟩
/-! ### a straight walk, drawn -/
theorem straightP_ok {n : Nat} {L size : Int} {w : List Int} (h : Pot n w) (h1 : 1 ≤ L) (h4 : L ≤ 4) (s0 : 0 ≤ size) (s1 : size ≤ 1000) : ∃ r, P_straight w L size = some r ∧ (r.1.length = size.toNat ∧ (∀ x ∈ r.1, Sok L x) ∧ Gd r.1 ∧ Pot (n + size.toNat) r.2) := by
  unfold P_straight
  refine bndX (rngO_ok (by omega)) ?_
  have hlr : (range' 0 size).length = size.toNat := by rw [rng_len, Int.sub_zero]
  have l8 := stL_len h1 h4
  refine lpX (fun i s => s.1.length = i ∧ (∀ x ∈ s.1, Sok L x) ∧ Gd s.1 ∧ Pot (n + i) s.2) ⟨rfl, (fun _ z => nomatch z), trivial, h⟩ (fun i x s hx hs => ?_) (fun s hs => ⟨_, rfl, by rw [hlr] at hs; exact hs⟩)
  have hi : i < size.toNat := by
    have := (List.getElem?_eq_some_iff.mp hx).1
    omega
  obtain ⟨found, pot⟩ := s
  obtain ⟨g1, g2, g3, g4⟩ := hs
  have g1 : found.length = i := g1
  have g2 : ∀ x ∈ found, Sok L x := g2
  have g3 : Gd found := g3
  have g4 : Pot (n + i) pot := g4
  have menu : ∃ m : List Int, lcG (β := Int) (fun (step8 : Int) => ((if (decide (found = ([] : (List Int)))) = true then some true else ((idx found (-1)).bind fun t10 => some (!decide (step8 = (-t10))))).bind fun t11 => if t11 = true then some (some step8) else some none)) (stL L) = some m ∧ m ≠ [] ∧ m.length ≤ 8 ∧ ∀ x ∈ m, Sok L x ∧ ∀ y, found.getLast? = some y → x ≠ -y := by
    rcases List.eq_nil_or_concat found with rfl | ⟨v, y, hv⟩
    · refine ⟨_, lcG_some (fun x => some x) (by rw [sizeL]; omega) (fun x hx => rfl), ?_, ?_, ?_⟩
      · rw [List.filterMap_some]
        exact fun z => by
          have : (1 : Int) ∈ stL L := mem_stL.mpr ⟨by decide, by omega, by omega⟩
          rw [z] at this
          cases this
      · rw [List.filterMap_some]; exact l8
      · rw [List.filterMap_some]
        exact fun x hx => ⟨mem_stL.mp hx, fun y hy => by cases hy⟩
    · rw [List.concat_eq_append] at hv
      have hy : Sok L y := g2 y (by rw [hv]; simp)
      have hlast : idx found (-1) = some y := idx_last (by rw [hv]; simp)
      have hne : found ≠ [] := by rw [hv]; simp
      refine ⟨_, lcG_some (fun x => if x = -y then none else some x) (by rw [sizeL]; omega) (fun x hx => ?_), ?_, ?_, ?_⟩
      · rw [if_neg (by simpa using hne)]
        refine bindS (bindS hlast rfl) ?_
        by_cases e : x = -y
        · rw [if_pos e, if_neg (by simp [e])]
        · rw [if_neg e, if_pos (by simp [e])]
      · intro z
        have : y ∈ (stL L).filterMap fun x => if x = -y then none else some x := List.mem_filterMap.mpr ⟨y, mem_stL.mpr hy, if_neg (by have := hy.1; omega)⟩
        rw [z] at this
        cases this
      · exact Nat.le_trans (List.length_filterMap_le _ _) l8
      · intro x hx
        obtain ⟨a, ha, hb⟩ := List.mem_filterMap.mp hx
        split at hb
        · cases hb
        · rename_i hne2
          cases hb
          refine ⟨mem_stL.mp ha, fun z hz => ?_⟩
          rw [hv] at hz
          simp at hz
          rw [← hz]
          exact hne2
  obtain ⟨m, em, m1, m2, m3⟩ := menu
  have mp := List.length_pos_iff.mpr m1
  obtain ⟨v, p', ev, v0, v1, kv⟩ := draw_ok g4 (many := (m.length : Int)) (by omega) (by omega)
  obtain ⟨y, ey, my⟩ := idx_mem v0 v1
  refine ⟨(found ++ [y], p'), bindS (steps_ok' h1 h4) (bindS em (bindS ev (bindS ey (bindS (app_ok (by rw [g1, sizeL]; omega)) rfl)))), by show (found ++ [y]).length = _; rw [List.length_append, g1]; rfl, fun z hz => ?_, gd_snoc g3 (m3 y my).2, kv⟩
  rcases List.mem_append.mp hz with hz | hz
  · exact g2 z hz
  · exact List.mem_singleton.mp hz ▸ (m3 y my).1
/-! ### doors by drawn tables -/
theorem erase_out {α : Type} {l : List α} {v : Nat} {g : α} (hn : l.Nodup) (h : l[v]? = some g) : g ∉ l.eraseIdx v ∧ (l.eraseIdx v).Nodup ∧ (∀ x ∈ l.eraseIdx v, x ∈ l) ∧ (l.eraseIdx v).length + 1 = l.length := by
  have hv := (List.getElem?_eq_some_iff.mp h).1
  have e : l = l.take v ++ g :: l.drop (v + 1) := by
    have := (List.getElem?_eq_some_iff.mp h).2
    rw [← this, List.getElem_cons_drop, List.take_append_drop]
  have e2 : l.eraseIdx v = l.take v ++ l.drop (v + 1) := List.eraseIdx_eq_take_drop_succ _ _
  refine ⟨?_, hn.sublist (List.eraseIdx_sublist _ _), fun x hx => (List.eraseIdx_sublist _ _).subset hx, ?_⟩
  · rw [e2]
    rw [e, List.nodup_append] at hn
    obtain ⟨_, h2, h3⟩ := hn
    rw [List.nodup_cons] at h2
    intro hm
    rcases List.mem_append.mp hm with hm | hm
    · exact h3 g hm g List.mem_cons_self rfl
    · exact h2.1 hm
  · rw [List.length_eraseIdx_of_lt hv]; omega
theorem popI_ok {α : Type} {xs : List α} {v : Int} (h0 : 0 ≤ v) (h : v < xs.length) (hb : v < 2 ^ 63) : ∃ g, popI xs v = some (g, xs.eraseIdx v.toNat) ∧ xs[v.toNat]? = some g := by
  have hl : v.toNat < xs.length := by omega
  refine ⟨xs[v.toNat], ?_, List.getElem?_eq_getElem hl⟩
  unfold popI
  rw [if_pos (by omega)]
  have : seqIndex? v xs.length = some v.toNat := by
    unfold seqIndex?
    simp
    omega
  rw [this]
  show (xs[v.toNat]?).map _ = _
  rw [List.getElem?_eq_getElem hl]
  rfl
theorem empties {α : Type} {xs : List α} (h : xs.length < sizeLine) : ((lenO xs).bind fun (z : Unit) => mapO (fun (_ : α) => (some ([] : List (Int × Int)) : Option (List (Int × Int)))) xs) = some (List.replicate xs.length []) := by
  refine bindS (a := ()) (if_pos h) ?_
  rw [mapO_some (g := fun _ => ([] : List (Int × Int))) (fun _ _ => rfl), List.map_const']
theorem tables_ok {n : Nat} {L count gaps : Int} {w : List Int} (h : Pot n w) (h1 : 1 ≤ L) (h4 : L ≤ 4) (c0 : 0 ≤ count) (c1 : count ≤ 60) (p0 : 0 ≤ gaps) (p1 : gaps ≤ 100) : ∃ r, P_tables w L count gaps = some r ∧ (Dr L count.toNat r.1 ∧ Pot (n + 1000) r.2) := by
  have hlc : (range' 0 count).length = count.toNat := by rw [rng_len, Int.sub_zero]
  unfold P_tables
  refine bndX (rngO_ok (by omega)) ?_
  have he := empties (xs := range' 0 count) (by rw [hlc, sizeL]; omega)
  rw [hlc] at he
  obtain ⟨_, e1, he⟩ := Option.bind_eq_some_iff.mp he
  refine bndX e1 (bndX he (bndX (rngO_ok (by omega)) ?_))
  have hll : (range' 1 (L + 1)).length = L.toNat := by rw [rng_len]; omega
  refine lpX (fun i s => Dr L count.toNat s.1 ∧ (∀ a t b, 0 ≤ a → go s.1 a t = some b → t.natAbs ≤ i) ∧ Pot (n + 120 * i) s.2) ⟨Dr.nil _ _ rfl, fun a t b _ hg => ?_, h⟩ (fun i x s hx hs => ?_) (fun s hs => ?_)
  · obtain ⟨_, _, _, g⟩ := (Dr.nil L count.toNat (D := List.replicate count.toNat []) rfl).ok a t b (by assumption) hg
    have hr : row (List.replicate count.toNat []) a = [] := by
      unfold row
      rw [List.getD_eq_getElem?_getD, List.getElem?_replicate]
      split <;> rfl
    unfold go at hg
    rw [hr] at hg
    cases hg
  · obtain ⟨D, pot⟩ := s
    obtain ⟨g1, g2, g3⟩ := hs
    have g1 : Dr L count.toNat D := g1
    have g2 : ∀ a t b, 0 ≤ a → go D a t = some b → t.natAbs ≤ i := g2
    have g3 : Pot (n + 120 * i) pot := g3
    obtain ⟨rfl, hi⟩ := rngAt hx
    have hi4 : i < 4 := by omega
    refine bndX (if_pos ⟨by omega, by omega, by omega, by omega, by omega⟩) (bndX (rngO_ok (by omega)) ?_)
    refine lpX (fun r s => Dr L count.toNat s.2.1 ∧ (∀ a t b, 0 ≤ a → go s.2.1 a t = some b → t.natAbs ≤ i + 1) ∧ (∀ a b, 0 ≤ a → go s.2.1 a (1 + i) = some b → a < r ∧ b ∉ s.1) ∧ s.1.Nodup ∧ (∀ x ∈ s.1, 0 ≤ x ∧ x < count) ∧ s.1.length + r = count.toNat ∧ Pot (n + 120 * i + 2 * r) s.2.2)
      ⟨g1, fun a t b ha hg => Nat.le_succ_of_le (g2 a t b ha hg), fun a b ha hg => ?_, ?_, fun x hx => mem_rng hx, hlc, g3⟩ (fun r x s hx hs => ?_) (fun s hs => ⟨_, rfl, hs.1, hs.2.1, ?_⟩)
    · have := g2 a _ b ha hg
      omega
    · unfold range'
      refine List.Pairwise.map _ (fun a b hab => ?_) List.nodup_range
      show 0 + (a : Int) ≠ 0 + (b : Int)
      omega
    · obtain ⟨left, E, q⟩ := s
      obtain ⟨k1, k2, k3, k4, k5, k6, k7⟩ := hs
      have k1 : Dr L count.toNat E := k1
      have k2 : ∀ a t b, 0 ≤ a → go E a t = some b → t.natAbs ≤ i + 1 := k2
      have k3 : ∀ a b, 0 ≤ a → go E a (1 + i) = some b → a < r ∧ b ∉ left := k3
      have k4 : left.Nodup := k4
      have k5 : ∀ x ∈ left, 0 ≤ x ∧ x < count := k5
      have k6 : left.length + r = count.toNat := k6
      have k7 : Pot (n + 120 * i + 2 * r) q := k7
      obtain ⟨rfl, hr⟩ := rngAt hx
      have hr' : r < count.toNat := by omega
      have er : (0 : Int) + (r : Int) = (r : Int) := Int.zero_add _
      rw [er]
      obtain ⟨v, q2, e2, v0, v1, kq⟩ := draw_ok k7 (many := (left.length : Int)) (by omega) (by omega)
      obtain ⟨g, e3, hg⟩ := popI_ok v0 v1 (by omega)
      obtain ⟨o1, o2, o3, o4⟩ := erase_out k4 hg
      have gm : g ∈ left := List.mem_of_getElem? hg
      have gb := k5 g gm
      generalize left.eraseIdx v.toNat = left2 at e3 o1 o2 o3 o4
      obtain ⟨b, q3, e4, kq3⟩ : ∃ b q3, (if (decide (gaps = 0)) = true then some (true, q2) else ((P_draw q2 gaps).bind fun t22 => some ((decide (0 < t22.1)), t22.2)) : Option (Bool × List Int)) = some (b, q3) ∧ Pot (n + 120 * i + 2 * (r + 1)) q3 := by
        by_cases hz : gaps = 0
        · exact ⟨true, q2, if_pos (decide_eq_true hz), kq.mono (by omega)⟩
        · obtain ⟨u, q3, e5, _, _, kq3⟩ := draw_ok kq (many := gaps) (by omega) (by omega)
          exact ⟨_, q3, (if_neg (by simpa using hz)).trans (bindS e5 rfl), kq3.mono (by omega)⟩
      have f1 : go E r (1 + i) = none := by
        cases hgo : go E r (1 + i) with
        | none => rfl
        | some y => exact absurd (k3 r y (by omega) hgo).1 (by omega)
      have f2 : go E g (-(1 + (i : Int))) = none := by
        cases hgo : go E g (-(1 + (i : Int))) with
        | none => rfl
        | some y =>
          obtain ⟨y0, y1, _, hb⟩ := k1.ok g _ y gb.1 hgo
          rw [Int.neg_neg] at hb
          exact absurd gm (k3 y g y0 hb).2
      have hs : Sok L (1 + (i : Int)) := ⟨by omega, by omega, by omega⟩
      have hbr : ∃ E2, (if b = true then ((idx E (r : Int)).bind fun t24 => (dPutO t24 (1 + (i : Int)) g).bind fun t25 => ((idx (setI E (r : Int) t25) g).bind fun t26 => (dPutO t26 (-(1 + (i : Int))) (r : Int)).bind fun t27 => some (setI (setI E (r : Int) t25) g t27))) else some E : Option Dd) = some E2 ∧ Dr L count.toNat E2 ∧ (∀ a t b, 0 ≤ a → go E2 a t = some b → t.natAbs ≤ i + 1) ∧ (∀ a b, 0 ≤ a → go E2 a (1 + i) = some b → a < (r : Int) + 1 ∧ b ∉ left2) := by
        cases b with
        | false =>
          refine ⟨E, if_neg (by simp), k1, k2, fun a b ha hgo => ?_⟩
          obtain ⟨z1, z2⟩ := k3 a b ha hgo
          exact ⟨by omega, fun z => z2 (o3 b z)⟩
        | true =>
          have a1' : (r : Int) < E.length := by rw [k1.len]; omega
          have b1' : g < E.length := by rw [k1.len]; omega
          refine ⟨_, (if_pos rfl).trans (put_run k1 h4 (by omega) (by omega) gb.1 (by omega) rfl), k1.put (by omega) (by omega) gb.1 (by omega) hs f1 f2, fun a t b ha hgo => ?_, fun a b ha hgo => ?_⟩
          · rw [go_put (by omega) a1' gb.1 b1' hs.1 ha] at hgo
            split at hgo
            · rename_i z; rw [z.2]; omega
            · split at hgo
              · rename_i z; rw [z.2]; omega
              · exact k2 a t b ha hgo
          · rw [go_put (by omega) a1' gb.1 b1' hs.1 ha] at hgo
            split at hgo
            · rename_i z; omega
            · split at hgo
              · rename_i z
                cases hgo
                exact ⟨by omega, o1⟩
              · obtain ⟨z1, z2⟩ := k3 a b ha hgo
                exact ⟨by omega, fun z => z2 (o3 b z)⟩
      obtain ⟨E2, e5, j1, j2, j3⟩ := hbr
      refine ⟨(left2, E2, q3), bindS e2 (bindS e3 (bindS e4 (bindS e5 rfl))), j1, j2, fun a b ha hgo => ?_, o2, fun x hx => k5 x (o3 x hx), by show left2.length + (r + 1) = _; omega, kq3⟩
      obtain ⟨z1, z2⟩ := j3 a b ha hgo
      exact ⟨by omega, z2⟩
    · have := hs.2.2.2.2.2.2
      rw [hlc] at this
      exact this.mono (by omega)
  · refine ⟨_, rfl, hs.1, ?_⟩
    have := hs.2.2
    rw [hll] at this
    exact this.mono (by omega)
end Z
namespace Z
open PySem PySem.Spec L2
/-! ### doors by rings that are folded -/
theorem small_of {d : List (Int × Int)} (hn : (d.map Prod.fst).Nodup) (h : ∀ k v, dGet d k = some v → Sok 4 k) : d.length ≤ 8 := by
  have := nodup_le (d.map Prod.fst) [1, -1, 2, -2, 3, -3, 4, (-4 : Int)] hn fun k hk => by
    obtain ⟨v, hv⟩ := Option.isSome_iff_exists.mp (dGet_key_mem.mpr hk)
    exact eightL _ (h k v hv)
  rw [List.length_map] at this
  exact this
theorem go_set {D : Dd} {a x t : Int} {d : List (Int × Int)} (a0 : 0 ≤ a) (a1 : a < D.length) (hx : 0 ≤ x) : go (setI D a d) x t = if a = x then dGet d t else go D x t := by
  unfold go
  rw [row_set a0 a1 hx]
  split <;> rfl
/-- ways laid there and back -/
def WyR (L c : Int) (W : List (Tri Int Int Int)) : Prop := ∀ t ∈ W, 0 ≤ t.a ∧ t.a < c ∧ 0 ≤ t.c ∧ t.c < c ∧ Sok L t.b ∧ Tri.mk t.c (-t.b) t.a ∈ W
theorem WyR.mono {L c d : Int} {W : List (Tri Int Int Int)} (h : WyR L c W) (hc : c ≤ d) : WyR L d W := fun t ht => by
  obtain ⟨a, b, e, f, g, i⟩ := h t ht
  exact ⟨a, by omega, e, by omega, g, i⟩
theorem WyR.app {L c : Int} {W : List (Tri Int Int Int)} (h : WyR L c W) {a s b : Int} (a0 : 0 ≤ a) (a1 : a < c) (b0 : 0 ≤ b) (b1 : b < c) (hs : Sok L s) : WyR L c (W ++ [Tri.mk a s b] ++ [Tri.mk b (-s) a]) := fun t ht => by
  rcases List.mem_append.mp ht with ht | ht
  · rcases List.mem_append.mp ht with ht | ht
    · obtain ⟨h1, h2, h3, h4, h5, h6⟩ := h t ht
      exact ⟨h1, h2, h3, h4, h5, List.mem_append_left _ (List.mem_append_left _ h6)⟩
    · rw [List.mem_singleton.mp ht]
      exact ⟨a0, a1, b0, b1, hs, List.mem_append_right _ (List.mem_singleton.mpr rfl)⟩
  · rw [List.mem_singleton.mp ht]
    refine ⟨b0, b1, a0, a1, hs.neg, List.mem_append_left _ (List.mem_append_right _ ?_)⟩
    show Tri.mk a (- -s) b ∈ _
    rw [Int.neg_neg]
    exact List.mem_singleton.mpr rfl
def waysP (walks : List (List Int)) : Option (Int × List (Tri Int Int Int)) :=
  (lp (fun (s2 : (Int × (List (Tri Int Int Int)))) (walk3 : (List Int)) => ((rngO 0 ((walk3.length : Int) - 1)).bind fun t7 => (lcT (fun (k_8 : Int) => (s2.1 + k_8)) t7).bind fun t10 => (catO (α := Int) ([0]) t10).bind fun t11 => (catO (α := Int) t11 ([0])).bind fun t12 => ((rngO 0 (walk3.length : Int)).bind fun t13 => ((lp (fun (s14 : (List (Tri Int Int Int))) (k_15 : Int) => ((idx t12 k_15).bind fun t19 => (idx walk3 k_15).bind fun t20 => (idx t12 (k_15 + 1)).bind fun t21 => (appO s14 (Tri.mk t19 t20 t21)).bind fun t22 => ((idx t12 (k_15 + 1)).bind fun t23 => (idx walk3 k_15).bind fun t24 => (idx t12 k_15).bind fun t25 => (appO t22 (Tri.mk t23 (-t24) t25)).bind fun t26 => some t26))) t13 s2.2).bind fun f16 => some (((s2.1 + (walk3.length : Int)) - 1), f16))))) walks (1, ([] : (List (Tri Int Int Int)))))
theorem waysP_ok {L : Int} {walks : List (List Int)} (hw : ∀ u ∈ walks, 1 ≤ u.length ∧ u.length ≤ 60 ∧ ∀ x ∈ u, Sok L x) (hn : walks.length ≤ 20) : ∃ r, waysP walks = some r ∧ (WyR L r.1 r.2 ∧ 1 ≤ r.1 ∧ r.1 ≤ 1 + 60 * walks.length ∧ r.2.length ≤ 120 * walks.length) := by
  unfold waysP
  have := lp_goN (xs := walks) (f := (fun (s2 : (Int × (List (Tri Int Int Int)))) (walk3 : (List Int)) => ((rngO 0 ((walk3.length : Int) - 1)).bind fun t7 => (lcT (fun (k_8 : Int) => (s2.1 + k_8)) t7).bind fun t10 => (catO (α := Int) ([0]) t10).bind fun t11 => (catO (α := Int) t11 ([0])).bind fun t12 => ((rngO 0 (walk3.length : Int)).bind fun t13 => ((lp (fun (s14 : (List (Tri Int Int Int))) (k_15 : Int) => ((idx t12 k_15).bind fun t19 => (idx walk3 k_15).bind fun t20 => (idx t12 (k_15 + 1)).bind fun t21 => (appO s14 (Tri.mk t19 t20 t21)).bind fun t22 => ((idx t12 (k_15 + 1)).bind fun t23 => (idx walk3 k_15).bind fun t24 => (idx t12 k_15).bind fun t25 => (appO t22 (Tri.mk t23 (-t24) t25)).bind fun t26 => some t26))) t13 s2.2).bind fun f16 => some (((s2.1 + (walk3.length : Int)) - 1), f16))))))
    (fun i s => WyR L s.1 s.2 ∧ 1 ≤ s.1 ∧ s.1 ≤ 1 + 60 * (i : Int) ∧ s.2.length ≤ 120 * i) (fun i u s hx hs => by
      have hi : i < walks.length := (List.getElem?_eq_some_iff.mp hx).1
      obtain ⟨c, W⟩ := s
      obtain ⟨g1, g2, g3, g4⟩ := hs
      have g1 : WyR L c W := g1
      have g2 : 1 ≤ c := g2
      have g3 : c ≤ 1 + 60 * (i : Int) := g3
      have g4 : W.length ≤ 120 * i := g4
      obtain ⟨u1, u2, u3⟩ := hw u (List.mem_of_getElem? hx)
      have hlr : (range' 0 ((u.length : Int) - 1)).length = u.length - 1 := by rw [rng_len]; omega
      generalize hR : [0] ++ (range' 0 ((u.length : Int) - 1)).map (fun k => c + k) ++ [(0 : Int)] = R
      have Rl : R.length = u.length + 1 := by
        rw [← hR, List.length_append, List.length_append, List.length_map, hlr]
        show 1 + (u.length - 1) + 1 = _
        omega
      have Rm : ∀ x ∈ R, 0 ≤ x ∧ x < c + u.length - 1 := fun x hx => by
        rw [← hR] at hx
        rcases List.mem_append.mp hx with hx | hx
        · rcases List.mem_append.mp hx with hx | hx
          · rw [List.mem_singleton.mp hx]; omega
          · obtain ⟨k, hk, rfl⟩ := List.mem_map.mp hx
            have := mem_rng hk
            omega
        · rw [List.mem_singleton.mp hx]; omega
      refine bndX (rngO_ok (by omega)) (bndX (lcT_some _ (by rw [hlr, sizeL]; omega)) (bndX (cat_ok (by rw [List.length_map, hlr, sizeL]; show 1 + _ ≤ _; omega)) (bndX (cat_ok (by rw [List.length_append, List.length_map, hlr, sizeL]; show 1 + _ + 1 ≤ _; omega)) (bndX (rngO_ok (by omega)) ?_))))
      rw [hR]
      have hlu : (range' 0 (u.length : Int)).length = u.length := by rw [rng_len]; omega
      refine lpX (fun k (W' : List (Tri Int Int Int)) => WyR L (c + u.length - 1) W' ∧ W'.length = W.length + 2 * k) ⟨g1.mono (by omega), rfl⟩ (fun k x W' hx hs => ?_) (fun W' hs => ⟨_, rfl, ?_⟩)
      · obtain ⟨rfl, hk⟩ := rngAt hx
        have ek : (0 : Int) + (k : Int) = (k : Int) := Int.zero_add _
        rw [ek]
        have hk' : k < u.length := by omega
        obtain ⟨x1, e1, m1⟩ := idx_mem (xs := R) (i := (k : Int)) (by omega) (by omega)
        obtain ⟨x2, e2, m2⟩ := idx_mem (xs := R) (i := (k : Int) + 1) (by omega) (by omega)
        obtain ⟨t, e3, m3⟩ := idx_mem (xs := u) (i := (k : Int)) (by omega) (by omega)
        have b1 := Rm x1 m1
        have b2 := Rm x2 m2
        refine ⟨_, bindS e1 (bindS e3 (bindS e2 (bindS (app_ok (by rw [hs.2, sizeL]; omega)) (bindS e2 (bindS e3 (bindS e1 (bindS (app_ok (by rw [List.length_append, hs.2, sizeL]; show _ + 1 < _; omega)) rfl))))))), hs.1.app b1.1 b1.2 b2.1 b2.2 (u3 t m3), ?_⟩
        rw [List.length_append, List.length_append, hs.2]
        show W.length + 2 * k + 1 + 1 = _
        omega
      · obtain ⟨h1, h2⟩ := hs
        rw [hlu] at h2
        refine ⟨h1, ?_, ?_, ?_⟩
        · show 1 ≤ c + (u.length : Int) - 1
          omega
        · show c + (u.length : Int) - 1 ≤ 1 + 60 * ((i + 1 : Nat) : Int)
          omega
        · show W'.length ≤ 120 * (i + 1)
          omega) (s0 := (1, [])) ⟨(fun _ z => nomatch z), by decide, by decide, by decide⟩
  obtain ⟨s, e, h1, h2, h3, h4⟩ := this
  exact ⟨s, e, h1, h2, h3, h4⟩
def turnP (c : Int) (W : List (Tri Int Int Int)) (h : List Int) : Option (List Int × Dd) :=
  ((rngO 0 c).bind fun t39 => (lenO t39).bind fun z41 => (mapO (fun (room40 : Int) => (some ([] : (List (Int × Int))) : Option (List (Int × Int)))) t39).bind fun t43 => ((lp (fun (s45 : ((List Int) × (List (List (Int × Int))))) (x46 : (Tri Int Int Int)) => ((idx s45.1 x46.a).bind fun t50 => (idx s45.1 x46.c).bind fun t51 => ((idx s45.2 t50).bind fun t52 => (dSetO t52 x46.b t51).bind fun t53 => ((if (!decide (t53.1 = t51)) = true then ((lcT (fun (head54 : Int) => (if (decide (head54 = (maxI t53.1 t51))) = true then (minI t53.1 t51) else head54)) s45.1).bind fun t56 => some t56) else some s45.1 : Option (List Int)).bind fun s57 => some (s57, (setI s45.2 t50 t53.2)))))) W (h, t43)).bind fun f47 => some (f47.1, f47.2)))
theorem mm {z y : Int} : (maxI z y = z ∧ minI z y = y ∧ y ≤ z) ∨ (maxI z y = y ∧ minI z y = z ∧ z ≤ y) := by
  unfold maxI minI
  by_cases h : z < y
  · right
    refine ⟨?_, ?_, by omega⟩ <;> (repeat' split) <;> omega
  · left
    refine ⟨?_, ?_, by omega⟩ <;> (repeat' split) <;> omega
/-- what is so within a turn -/
structure TurnI (L : Int) (m k : Nat) (W : List (Tri Int Int Int)) (h0 : List Int) (i : Nat) (s : List Int × Dd) : Prop where
  hl : s.1.length = m
  hb : ∀ x ∈ s.1, 0 ≤ x ∧ x < m
  dl : s.2.length = m
  nd : ∀ d ∈ s.2, (d.map Prod.fst).Nodup
  go : ∀ a t b, 0 ≤ a → go s.2 a t = some b → 0 ≤ b ∧ b < m ∧ Sok L t
  st : (s.1 = h0 ∧ ∀ x t y, 0 ≤ x → (Z.go s.2 x t = some y ↔ ∃ j w, j < i ∧ W[j]? = some w ∧ w.b = t ∧ h0[w.a.toNat]? = some x ∧ h0[w.c.toNat]? = some y)) ∨ ∃ S : List Int, S.length ≤ k ∧ ∀ x ∈ s.1, x ∈ S
theorem turn_step {L : Int} {m k : Nat} {W : List (Tri Int Int Int)} {h0 : List Int} (h4 : L ≤ 4) (hm : m ≤ 2000) (hW : WyR L m W) (hS : ∃ S : List Int, S.length ≤ k + 1 ∧ ∀ x ∈ h0, x ∈ S) {i : Nat} {w : Tri Int Int Int} {h : List Int} {D : Dd} (hw : W[i]? = some w) (I : TurnI L m k W h0 i (h, D)) :
    ∃ s', ((idx h w.a).bind fun t50 => (idx h w.c).bind fun t51 => ((idx D t50).bind fun t52 => (dSetO t52 w.b t51).bind fun t53 => ((if (!decide (t53.1 = t51)) = true then ((lcT (fun (head54 : Int) => (if (decide (head54 = (maxI t53.1 t51))) = true then (minI t53.1 t51) else head54)) h).bind fun t56 => some t56) else some h : Option (List Int)).bind fun s57 => some (s57, (setI D t50 t53.2))))) = some s' ∧ TurnI L m k W h0 (i + 1) s' := by
  obtain ⟨a0, a1, c0, c1, hs, _⟩ := hW w (List.mem_of_getElem? hw)
  have hl : h.length = m := I.hl
  have dl : D.length = m := I.dl
  obtain ⟨x, ex, gx⟩ := idx_get (xs := h) a0 (by omega)
  obtain ⟨y, ey, gy⟩ := idx_get (xs := h) c0 (by omega)
  have bx := I.hb x (List.mem_of_getElem? gx)
  have my : y ∈ h := List.mem_of_getElem? gy
  have by' := I.hb y my
  have x1 : x < D.length := by rw [dl]; exact bx.2
  have er := idx_row bx.1 x1
  have rnd : ((row D x).map Prod.fst).Nodup := I.nd _ (row_mem bx.1 x1)
  have rsm : (row D x).length ≤ 8 := small_of rnd fun t v hv => ((I.go x t v bx.1 hv).2.2).mono h4
  cases hg : dGet (row D x) w.b with
  | none =>
    have ed : dSetO (row D x) w.b y = some (y, dPut (row D x) w.b y) := by
      unfold dSetO
      rw [if_pos (by rw [sizeL]; omega), hg]
    refine ⟨(h, setI D x (dPut (row D x) w.b y)), bindS ex (bindS ey (bindS er (bindS ed (bindS (a := h) (if_neg (by simp)) rfl)))), ?_⟩
    have gs : ∀ X t, 0 ≤ X → go (setI D x (dPut (row D x) w.b y)) X t = if X = x ∧ t = w.b then some y else go D X t := fun X t hX => by
      rw [go_set bx.1 x1 hX]
      by_cases e : x = X
      · subst e
        rw [if_pos rfl, dGet_put]
        by_cases e2 : w.b = t
        · rw [if_pos e2, if_pos ⟨rfl, e2.symm⟩]
        · rw [if_neg e2, if_neg (fun z => e2 z.2.symm)]
          rfl
      · rw [if_neg e, if_neg (fun z => e z.1.symm)]
    refine ⟨hl, I.hb, by show (setI _ _ _).length = m; rw [setI_len]; exact dl, fun d hd => ?_, fun a t b ha hgo => ?_, ?_⟩
    · rcases List.mem_or_eq_of_mem_set hd with hd | rfl
      · exact I.nd d hd
      · exact dPut_nd rnd _ _
    · have hgo : go (setI D x (dPut (row D x) w.b y)) a t = some b := hgo
      rw [gs a t ha] at hgo
      split at hgo
      · rename_i z
        cases hgo
        exact ⟨by'.1, by'.2, by rw [z.2]; exact hs⟩
      · exact I.go a t b ha hgo
    · rcases I.st with ⟨q1, q2⟩ | q
      · have q1 : h = h0 := q1
        subst q1
        refine .inl ⟨rfl, fun X t Y hX => ?_⟩
        show go (setI D x (dPut (row D x) w.b y)) X t = some Y ↔ _
        rw [gs X t hX]
        constructor
        · intro hgo
          split at hgo
          · rename_i z
            cases hgo
            exact ⟨i, w, Nat.lt_succ_self i, hw, z.2.symm, by rw [z.1]; exact gx, gy⟩
          · obtain ⟨j, v, hj, r⟩ := (q2 X t Y hX).mp hgo
            exact ⟨j, v, by omega, r⟩
        · rintro ⟨j, v, hj, hv, r1, r2, r3⟩
          by_cases e : j = i
          · subst e
            rw [hw] at hv
            cases hv
            rw [gx] at r2
            rw [gy] at r3
            cases r2
            cases r3
            rw [if_pos ⟨rfl, r1.symm⟩]
          · have := (q2 X t Y hX).mpr ⟨j, v, by omega, hv, r1, r2, r3⟩
            have this : go D X t = some Y := this
            rw [if_neg, this]
            rintro ⟨rfl, rfl⟩
            unfold go at this
            rw [hg] at this
            cases this
      · exact .inr q
  | some z =>
    have hgo : go D x w.b = some z := hg
    have ed : dSetO (row D x) w.b y = some (z, row D x) := by
      unfold dSetO
      rw [if_pos (by rw [sizeL]; omega), hg]
    have gs : ∀ X t, 0 ≤ X → go (setI D x (row D x)) X t = go D X t := fun X t hX => by
      rw [go_set bx.1 x1 hX]
      by_cases e : x = X
      · subst e; rw [if_pos rfl]; rfl
      · rw [if_neg e]
    have nd2 : ∀ d ∈ setI D x (row D x), (d.map Prod.fst).Nodup := fun d hd => by
      rcases List.mem_or_eq_of_mem_set hd with hd | rfl
      · exact I.nd d hd
      · exact rnd
    have dl2 : (setI D x (row D x)).length = m := by rw [setI_len]; exact dl
    have go2 : ∀ a t b, 0 ≤ a → go (setI D x (row D x)) a t = some b → 0 ≤ b ∧ b < m ∧ Sok L t := fun a t b ha hh => I.go a t b ha (by rw [gs a t ha] at hh; exact hh)
    have bz := I.go x _ z bx.1 hgo
    by_cases hzy : z = y
    · subst hzy
      refine ⟨(h, setI D x (row D x)), bindS ex (bindS ey (bindS er (bindS ed (bindS (a := h) (if_neg (by simp)) rfl)))), hl, I.hb, dl2, nd2, go2, ?_⟩
      rcases I.st with ⟨q1, q2⟩ | q
      · have q1 : h = h0 := q1
        subst q1
        refine .inl ⟨rfl, fun X t Y hX => ?_⟩
        show go (setI D x (row D x)) X t = some Y ↔ _
        rw [gs X t hX]
        constructor
        · intro hh
          obtain ⟨j, v, hj, r⟩ := (q2 X t Y hX).mp hh
          exact ⟨j, v, by omega, r⟩
        · rintro ⟨j, v, hj, hv, r1, r2, r3⟩
          by_cases e : j = i
          · subst e
            rw [hw] at hv
            cases hv
            rw [gx] at r2
            rw [gy] at r3
            cases r2
            cases r3
            rw [← r1]
            exact hgo
          · exact (q2 X t Y hX).mpr ⟨j, v, by omega, hv, r1, r2, r3⟩
      · exact .inr q
    · have hlo : 0 ≤ minI z y ∧ minI z y < m := by
        rcases mm (z := z) (y := y) with ⟨_, e, _⟩ | ⟨_, e, _⟩ <;> rw [e]
        · exact by'
        · exact ⟨bz.1, bz.2.1⟩
      refine ⟨(h.map (fun (head54 : Int) => (if (decide (head54 = (maxI z y))) = true then (minI z y) else head54)), setI D x (row D x)), bindS ex (bindS ey (bindS er (bindS ed (bindS ((if_pos (by simp [hzy])).trans (bindS (lcT_some _ (by rw [hl, sizeL]; omega)) rfl)) rfl)))), ?_, ?_, dl2, nd2, go2, .inr ?_⟩
      · show (h.map _).length = m
        rw [List.length_map]; exact hl
      · intro v hv
        obtain ⟨u, hu, rfl⟩ := List.mem_map.mp hv
        by_cases e : u = maxI z y
        · rw [if_pos (decide_eq_true e)]; exact hlo
        · rw [if_neg (by simpa using e)]; exact I.hb u hu
      · rcases I.st with ⟨q1, q2⟩ | ⟨S, q1, q2⟩
        · have q1 : h = h0 := q1
          subst q1
          obtain ⟨j, v, _, _, _, _, r3⟩ := (q2 x _ z bx.1).mp hgo
          have mz : z ∈ h := List.mem_of_getElem? r3
          obtain ⟨S, s1, s2⟩ := hS
          have mhi : maxI z y ∈ S := by
            rcases mm (z := z) (y := y) with ⟨e, _, _⟩ | ⟨e, _, _⟩ <;> rw [e]
            · exact s2 z mz
            · exact s2 y my
          have mlo : minI z y ∈ S := by
            rcases mm (z := z) (y := y) with ⟨_, e, _⟩ | ⟨_, e, _⟩ <;> rw [e]
            · exact s2 y my
            · exact s2 z mz
          have hne : minI z y ≠ maxI z y := by
            rcases mm (z := z) (y := y) with ⟨e1, e2, _⟩ | ⟨e1, e2, _⟩ <;> rw [e1, e2]
            · exact fun e => hzy e.symm
            · exact hzy
          refine ⟨S.erase (maxI z y), ?_, fun v hv => ?_⟩
          · rw [List.length_erase_of_mem mhi]
            omega
          · obtain ⟨u, hu, rfl⟩ := List.mem_map.mp hv
            by_cases e : u = maxI z y
            · rw [if_pos (decide_eq_true e)]; exact (List.mem_erase_of_ne hne).mpr mlo
            · rw [if_neg (by simpa using e)]; exact (List.mem_erase_of_ne e).mpr (s2 u hu)
        · refine ⟨S.map (fun (head54 : Int) => (if (decide (head54 = (maxI z y))) = true then (minI z y) else head54)), by rw [List.length_map]; exact q1, fun v hv => ?_⟩
          obtain ⟨u, hu, rfl⟩ := List.mem_map.mp hv
          exact List.mem_map.mpr ⟨u, q2 u hu, rfl⟩
theorem turn_ok {L : Int} {m k : Nat} {W : List (Tri Int Int Int)} {h0 : List Int} (h4 : L ≤ 4) (hm : m ≤ 2000) (hm0 : 0 < m) (hW : WyR L m W) (hl : h0.length = m) (hb : ∀ x ∈ h0, 0 ≤ x ∧ x < m) (hS : ∃ S : List Int, S.length ≤ k + 1 ∧ ∀ x ∈ h0, x ∈ S) :
    ∃ s', turnP m W h0 = some s' ∧ ((s'.1 = h0 ∧ Dr L m s'.2) ∨ (s'.1.length = m ∧ (∀ x ∈ s'.1, 0 ≤ x ∧ x < m) ∧ ∃ S : List Int, S.length ≤ k ∧ ∀ x ∈ s'.1, x ∈ S)) := by
  unfold turnP
  have hlc : (range' 0 (m : Int)).length = m := by rw [rng_len]; omega
  have he := empties (xs := range' 0 (m : Int)) (by rw [hlc, sizeL]; omega)
  rw [hlc] at he
  obtain ⟨_, e1, he⟩ := Option.bind_eq_some_iff.mp he
  refine bndX (rngO_ok (by omega)) (bndX e1 (bndX he ?_))
  have D0 := Dr.nil L m (D := List.replicate m []) rfl
  have z0 : ∀ a t, go (List.replicate m []) a t = none := fun a t => by
    unfold go row
    rw [List.getD_eq_getElem?_getD, List.getElem?_replicate]
    split <;> rfl
  refine lpX (fun i s => TurnI L m k W h0 i s) ⟨hl, hb, D0.len, D0.nd, fun a t b _ hg => ?_, .inl ⟨rfl, fun x t y _ => ?_⟩⟩ (fun i w s hw I => turn_step h4 hm hW hS hw I) (fun s I => ⟨_, rfl, ?_⟩)
  · have hg : go (List.replicate m []) a t = some b := hg
    rw [z0] at hg
    cases hg
  · show go (List.replicate m []) x t = some y ↔ _
    rw [z0]
    constructor
    · intro h; cases h
    · rintro ⟨j, _, hj, _⟩
      exact absurd hj (Nat.not_lt_zero _)
  · obtain ⟨h, D⟩ := s
    rcases I.st with ⟨q1, q2⟩ | q
    · refine .inl ⟨q1, I.dl, I.nd, fun a t b ha hgo => ?_⟩
      obtain ⟨b0, b1, hs⟩ := I.go a t b ha hgo
      refine ⟨b0, b1, hs, ?_⟩
      obtain ⟨j, w, _, hw, r1, r2, r3⟩ := (q2 a t b ha).mp hgo
      obtain ⟨_, _, _, _, _, hr⟩ := hW w (List.mem_of_getElem? hw)
      obtain ⟨j', hj'⟩ := List.mem_iff_getElem?.mp hr
      exact (q2 b (-t) a b0).mpr ⟨j', _, (List.getElem?_eq_some_iff.mp hj').1, hj', by rw [← r1], r3, r2⟩
    · exact .inr ⟨I.hl, I.hb, q⟩
theorem rings_ok {L : Int} {walks : List (List Int)} (h4 : L ≤ 4) (hw : ∀ u ∈ walks, 1 ≤ u.length ∧ u.length ≤ 60 ∧ ∀ x ∈ u, Sok L x) (hn : walks.length ≤ 20) : ∃ r, P_rings walks = some r ∧ ∃ m, 1 ≤ m ∧ m ≤ 1 + 60 * walks.length ∧ Dr L m r := by
  obtain ⟨⟨c, W⟩, e1, w1, w2, w3, w4⟩ := waysP_ok hw hn
  have w1 : WyR L c W := w1
  have w2 : 1 ≤ c := w2
  have w3 : c ≤ 1 + 60 * (walks.length : Int) := w3
  obtain ⟨m, rfl⟩ : ∃ m : Nat, c = m := ⟨c.toNat, by omega⟩
  have hm : 1 ≤ m ∧ m ≤ 1 + 60 * walks.length := by omega
  unfold P_rings
  refine bndX e1 (bndX (a := range' 0 (m : Int)) (if_pos ⟨by omega, by omega, by omega, by omega, by omega⟩) (bndX (rngO_ok (by omega)) ?_))
  have hlc : (range' 0 (m : Int)).length = m := by rw [rng_len]; omega
  obtain ⟨s, e2, q⟩ := settle (f := fun (s : List Int × Dd) (_ : Int) => turnP m W s.1) (fun k s => s.1.length = m ∧ (∀ x ∈ s.1, 0 ≤ x ∧ x < m) ∧ ∃ S : List Int, S.length ≤ k + 1 ∧ ∀ x ∈ s.1, x ∈ S) (fun s => Dr L m s.2) (fun k s hp => by
    obtain ⟨p1, p2, p3⟩ := hp
    obtain ⟨s', e, h⟩ := turn_ok h4 (by omega) hm.1 w1 p1 p2 p3
    refine ⟨s', fun _ => e, ?_⟩
    rcases h with ⟨h1, h2⟩ | ⟨h1, h2, S, h3, h5⟩
    · exact .inl ⟨fun _ => by rw [h1]; exact e, h2⟩
    · refine .inr ?_
      cases hk : k with
      | zero =>
        rw [hk] at h3
        have hz : S = [] := List.eq_nil_of_length_eq_zero (by omega)
        have hlen : 0 < s'.1.length := by rw [h1]; exact hm.1
        have := h5 _ (List.getElem_mem hlen)
        rw [hz] at this
        cases this
      | succ k' =>
        rw [hk] at h3
        exact ⟨k', Nat.lt_succ_self _, h1, h2, S, h3, h5⟩) (range' 0 (m : Int)) (m - 1) (range' 0 (m : Int), []) ⟨hlc, fun x hx => mem_rng hx, range' 0 (m : Int), by rw [hlc]; omega, fun x hx => hx⟩ (by rw [hlc]; omega)
  exact bndX e2 ⟨_, rfl, m, hm.1, hm.2, q⟩
end Z
namespace Z
open PySem PySem.Spec L2
/-! ### rooms in the order of their first ways -/
def vis (o : List Int) (g : Int) : List Int := if g ∈ o then o else o ++ [g]
def visA (o gs : List Int) : List Int := gs.foldl vis o
def ord (nb : Int → List Int) : Nat → List Int
  | 0 => [0]
  | i + 1 => match (ord nb i)[i]? with
    | some a => visA (ord nb i) (nb a)
    | none => ord nb i
def nbr (L : Int) (D : Dd) (a : Int) : List Int := (stL L).filterMap (go D a)
theorem visA_cons (o : List Int) (g : Int) (gs : List Int) : visA o (g :: gs) = visA (vis o g) gs := rfl
theorem vis_ext (o : List Int) (g : Int) : ∃ t, vis o g = o ++ t := by
  unfold vis
  split
  · exact ⟨[], (List.append_nil _).symm⟩
  · exact ⟨_, rfl⟩
theorem visA_ext : ∀ (gs o : List Int), ∃ t, visA o gs = o ++ t
  | [], o => ⟨[], (List.append_nil _).symm⟩
  | g :: gs, o => by
    obtain ⟨t1, e1⟩ := vis_ext o g
    obtain ⟨t2, e2⟩ := visA_ext gs (vis o g)
    exact ⟨t1 ++ t2, by rw [visA_cons, e2, e1, List.append_assoc]⟩
theorem vis_mem {o : List Int} {g x : Int} : x ∈ vis o g ↔ x ∈ o ∨ x = g := by
  unfold vis
  split
  · rename_i h
    exact ⟨.inl, fun z => z.elim id fun e => e ▸ h⟩
  · rw [List.mem_append, List.mem_singleton]
theorem visA_mem {x : Int} : ∀ {gs o : List Int}, x ∈ visA o gs ↔ x ∈ o ∨ x ∈ gs
  | [], o => by show x ∈ o ↔ _; simp
  | g :: gs, o => by
    rw [visA_cons, visA_mem, vis_mem, List.mem_cons]
    constructor
    · rintro ((h | h) | h)
      · exact .inl h
      · exact .inr (.inl h)
      · exact .inr (.inr h)
    · rintro (h | h | h)
      · exact .inl (.inl h)
      · exact .inl (.inr h)
      · exact .inr h
theorem vis_nd {o : List Int} (h : o.Nodup) (g : Int) : (vis o g).Nodup := by
  unfold vis
  split
  · exact h
  · rename_i hg
    rw [List.nodup_append]
    refine ⟨h, by simp, fun a ha b hb => ?_⟩
    rw [List.mem_singleton.mp hb]
    exact fun e => hg (e ▸ ha)
theorem visA_nd : ∀ {gs o : List Int}, o.Nodup → (visA o gs).Nodup
  | [], _, h => h
  | g :: gs, _, h => visA_nd (gs := gs) (vis_nd h g)
theorem visA_len : ∀ (gs o : List Int), (visA o gs).length ≤ o.length + gs.length
  | [], o => Nat.le_refl _
  | g :: gs, o => by
    have h1 := visA_len gs (vis o g)
    have h2 : (vis o g).length ≤ o.length + 1 := by
      unfold vis
      split
      · omega
      · rw [List.length_append]; exact Nat.le_refl _
    rw [visA_cons, List.length_cons]
    omega
section
variable {nb : Int → List Int} {n : Nat} (hn : 1 ≤ n) (hb : ∀ a : Int, 0 ≤ a → a < n → ∀ g ∈ nb a, 0 ≤ g ∧ g < n)
include hn hb
theorem ord_in : ∀ i, (∀ x ∈ ord nb i, 0 ≤ x ∧ x < n) ∧ (ord nb i).Nodup
  | 0 => ⟨fun x hx => by rw [List.mem_singleton.mp hx]; omega, by simp [ord]⟩
  | i + 1 => by
    obtain ⟨h1, h2⟩ := ord_in i
    unfold ord
    cases e : (ord nb i)[i]? with
    | none => exact ⟨h1, h2⟩
    | some a =>
      refine ⟨fun x hx => ?_, visA_nd h2⟩
      rcases visA_mem.mp hx with hx | hx
      · exact h1 x hx
      · obtain ⟨a0, a1⟩ := h1 a (List.mem_of_getElem? e)
        exact hb a a0 a1 x hx
theorem ord_len (i : Nat) : (ord nb i).length ≤ n := by
  obtain ⟨h1, h2⟩ := ord_in hn hb i
  have := nodup_le (ord nb i) (range' 0 (n : Int)) h2 fun x hx => by
    have := h1 x hx
    unfold range'
    exact List.mem_map.mpr ⟨x.toNat, List.mem_range.mpr (by omega), by omega⟩
  rw [rng_len] at this
  omega
end
theorem ord_ext (nb : Int → List Int) (i : Nat) : ∃ t, ord nb (i + 1) = ord nb i ++ t := by
  show ∃ t, (match (ord nb i)[i]? with | some a => visA (ord nb i) (nb a) | none => ord nb i) = ord nb i ++ t
  cases (ord nb i)[i]? with
  | none => exact ⟨[], (List.append_nil _).symm⟩
  | some a => exact visA_ext _ _
theorem ord_pre (nb : Int → List Int) (i : Nat) : ∀ d, ∃ t, ord nb (i + d) = ord nb i ++ t
  | 0 => ⟨[], (List.append_nil _).symm⟩
  | d + 1 => by
    obtain ⟨t1, e1⟩ := ord_pre nb i d
    obtain ⟨t2, e2⟩ := ord_ext nb (i + d)
    exact ⟨t1 ++ t2, by rw [← Nat.add_assoc, e2, e1, List.append_assoc]⟩
theorem ord_done {nb : Int → List Int} {i : Nat} (h : (ord nb i).length ≤ i) : ∀ d, ord nb (i + d) = ord nb i
  | 0 => rfl
  | d + 1 => by
    have ih := ord_done h d
    show (match (ord nb (i + d))[i + d]? with | some a => visA (ord nb (i + d)) (nb a) | none => ord nb (i + d)) = _
    rw [ih, List.getElem?_eq_none_iff.mpr (by omega)]
section
variable {nb : Int → List Int} {n : Nat} (hn : 1 ≤ n) (hb : ∀ a : Int, 0 ≤ a → a < n → ∀ g ∈ nb a, 0 ≤ g ∧ g < n)
include hn hb
theorem ord_end {i : Nat} (hi : i ≤ n) (h : (ord nb i).length ≤ i) : ord nb i = ord nb n := by
  have := ord_done h (n - i)
  rw [show i + (n - i) = n by omega] at this
  exact this.symm
theorem ord_more (d : Nat) : ord nb (n + d) = ord nb n := ord_done (ord_len hn hb n) d
/-- what is at the place i was there when it was come to -/
theorem ord_at {i : Nat} {a : Int} (h : (ord nb n)[i]? = some a) : i < n ∧ (ord nb i)[i]? = some a ∧ ∀ g ∈ nb a, g ∈ ord nb n := by
  have hi := (List.getElem?_eq_some_iff.mp h).1
  have hl := ord_len hn hb n
  have hin : i < n := by omega
  obtain ⟨t, e⟩ := ord_pre nb i (n - i)
  rw [show i + (n - i) = n by omega] at e
  have h2 : (ord nb i)[i]? = some a := by
    by_cases hl2 : i < (ord nb i).length
    · rw [e, List.getElem?_append_left hl2] at h
      exact h
    · have := ord_end hn hb (Nat.le_of_lt hin) (Nat.not_lt.mp hl2)
      rw [← this] at hi
      exact absurd hi hl2
  refine ⟨hin, h2, fun g hg => ?_⟩
  obtain ⟨t, e⟩ := ord_pre nb (i + 1) (n - (i + 1))
  rw [show i + 1 + (n - (i + 1)) = n by omega] at e
  rw [e]
  refine List.mem_append_left _ ?_
  show g ∈ (match (ord nb i)[i]? with | some a => visA (ord nb i) (nb a) | none => ord nb i)
  rw [h2]
  exact visA_mem.mpr (.inr hg)
end
theorem ord_from (nb : Int → List Int) : ∀ i, ∀ x ∈ ord nb i, x = 0 ∨ ∃ a ∈ ord nb i, x ∈ nb a
  | 0, x, hx => .inl (List.mem_singleton.mp hx)
  | i + 1, x, hx => by
    have ih := ord_from nb i
    obtain ⟨t, e⟩ := ord_ext nb i
    have old : x ∈ ord nb i → x = 0 ∨ ∃ a ∈ ord nb (i + 1), x ∈ nb a := fun h => (ih x h).imp id fun ⟨a, ha, hx⟩ => ⟨a, by rw [e]; exact List.mem_append_left _ ha, hx⟩
    have hx' : x ∈ (match (ord nb i)[i]? with | some a => visA (ord nb i) (nb a) | none => ord nb i) := hx
    cases ha : (ord nb i)[i]? with
    | none =>
      rw [ha] at hx'
      exact old hx'
    | some a =>
      rw [ha] at hx'
      rcases visA_mem.mp hx' with h | h
      · exact old h
      · exact .inr ⟨a, by rw [e]; exact List.mem_append_left _ (List.mem_of_getElem? ha), h⟩
theorem ord_head (nb : Int → List Int) : ∀ i, (ord nb i)[0]? = some 0
  | 0 => rfl
  | i + 1 => by
    obtain ⟨t, e⟩ := ord_ext nb i
    have ih := ord_head nb i
    have hl := (List.getElem?_eq_some_iff.mp ih).1
    rw [e, List.getElem?_append_left hl]
    exact ih
/-! other names -/
section
variable {φ : Int → Int} {m : Nat} (inj : ∀ x y : Int, 0 ≤ x → x < m → 0 ≤ y → y < m → φ x = φ y → x = y)
include inj
theorem vis_map {o : List Int} {g : Int} (ho : ∀ x ∈ o, 0 ≤ x ∧ x < m) (hg : 0 ≤ g ∧ g < m) : vis (o.map φ) (φ g) = (vis o g).map φ := by
  unfold vis
  by_cases h : g ∈ o
  · rw [if_pos h, if_pos (List.mem_map.mpr ⟨g, h, rfl⟩)]
  · rw [if_neg h, if_neg, List.map_append]
    · rfl
    · intro hm
      obtain ⟨y, hy, e⟩ := List.mem_map.mp hm
      have := ho y hy
      exact h (inj y g this.1 this.2 hg.1 hg.2 e ▸ hy)
theorem visA_map : ∀ {gs o : List Int}, (∀ x ∈ o, 0 ≤ x ∧ x < m) → (∀ x ∈ gs, 0 ≤ x ∧ x < m) → visA (o.map φ) (gs.map φ) = (visA o gs).map φ
  | [], _, _, _ => rfl
  | g :: gs, o, ho, hg => by
    rw [List.map_cons, visA_cons, visA_cons, vis_map inj ho (hg g List.mem_cons_self)]
    exact visA_map (fun x hx => (vis_mem.mp hx).elim (ho x) fun e => e ▸ hg g List.mem_cons_self) fun x hx => hg x (List.mem_cons_of_mem _ hx)
theorem ord_map {nb nb' : Int → List Int} (hm : 1 ≤ m) (hb : ∀ a : Int, 0 ≤ a → a < m → ∀ g ∈ nb' a, 0 ≤ g ∧ g < m) (h0 : φ 0 = 0) (hh : ∀ a : Int, 0 ≤ a → a < m → nb (φ a) = (nb' a).map φ) : ∀ i, ord nb i = (ord nb' i).map φ
  | 0 => by show [(0 : Int)] = [φ 0]; rw [h0]
  | i + 1 => by
    have ih := ord_map hm hb h0 hh i
    obtain ⟨h1, _⟩ := ord_in hm hb i
    unfold ord
    rw [ih, List.getElem?_map]
    cases e : (ord nb' i)[i]? with
    | none => rfl
    | some a =>
      obtain ⟨a0, a1⟩ := h1 a (List.mem_of_getElem? e)
      show visA ((ord nb' i).map φ) (nb (φ a)) = _
      rw [hh a a0 a1]
      exact visA_map inj h1 (hb a a0 a1)
theorem map_inj : ∀ {u v : List Int}, (∀ x ∈ u, 0 ≤ x ∧ x < m) → (∀ x ∈ v, 0 ≤ x ∧ x < m) → u.map φ = v.map φ → u = v
  | [], [], _, _, _ => rfl
  | [], _ :: _, _, _, h => by cases h
  | _ :: _, [], _, _, h => by cases h
  | x :: u, y :: v, hu, hv, h => by
    rw [List.map_cons, List.map_cons] at h
    obtain ⟨h1, h2⟩ := List.cons.inj h
    have a := hu x List.mem_cons_self
    have b := hv y List.mem_cons_self
    rw [inj x y a.1 a.2 b.1 b.2 h1, map_inj (fun z hz => hu z (List.mem_cons_of_mem _ hz)) (fun z hz => hv z (List.mem_cons_of_mem _ hz)) h2]
end
/-! ### idle ends are cut off -/
theorem row_nil {D : Dd} {a : Int} (h : ∀ t, go D a t = none) : row D a = [] := by
  cases e : row D a with
  | nil => rfl
  | cons p d =>
    have := h p.1
    unfold go at this
    rw [e, dGet_cons, if_pos rfl] at this
    cases this
theorem row_some {D : Dd} {a : Int} (h : row D a ≠ []) : ∃ t b, go D a t = some b := by
  cases e : row D a with
  | nil => exact absurd e h
  | cons p d => exact ⟨p.1, p.2, by unfold go; rw [e, dGet_cons, if_pos rfl]⟩
def trimP (D : Dd) : Option Dd :=
  ((rngO 1 (D.length : Int)).bind fun t12 => ((lp (fun (s13 : (List (List (Int × Int)))) (room14 : Int) => ((idx s13 room14).bind fun t18 => ((if (decide ((t18.length : Int) = 1)) = true then ((idx s13 room14).bind fun t19 => (idx (List.map Prod.fst t19) 0).bind fun t20 => ((idx s13 room14).bind fun t21 => (dPopO t21 t20).bind fun t22 => ((idx (setI s13 room14 t22.2) t22.1).bind fun t23 => (dPopO t23 (-t20)).bind fun t24 => some (setI (setI s13 room14 t22.2) t22.1 t24.2)))) else some s13 : Option (List (List (Int × Int)))).bind fun s25 => some s25))) t12 D).bind fun f15 => some f15))
theorem pop_run {L : Int} {n : Nat} {D : Dd} (h : Dr L n D) {a k b : Int} (a0 : 0 ≤ a) (a1 : a < n) (hr : row D a = [(k, b)]) :
    ((idx D a).bind fun t19 => (idx (List.map Prod.fst t19) 0).bind fun t20 => ((idx D a).bind fun t21 => (dPopO t21 t20).bind fun t22 => ((idx (setI D a t22.2) t22.1).bind fun t23 => (dPopO t23 (-t20)).bind fun t24 => some (setI (setI D a t22.2) t22.1 t24.2)))) = some (delD D a k b) ∧ go D a k = some b ∧ ∀ t, t ≠ k → go D a t = none := by
  have a1' : a < D.length := by rw [h.len]; exact a1
  have g1 : go D a k = some b := by unfold go; rw [hr, dGet_cons, if_pos rfl]
  have g2 : ∀ t, t ≠ k → go D a t = none := fun t ht => by unfold go; rw [hr, dGet_cons, if_neg (fun e => ht e.symm)]; rfl
  obtain ⟨b0, b1, hs, g3⟩ := h.ok a k b a0 g1
  have b1' : b < D.length := by rw [h.len]; exact b1
  refine ⟨?_, g1, g2⟩
  have ei := idx_row a0 a1'
  refine bindS ei (bindS (a := k) (by rw [hr]; rfl) (bindS ei (bindS (a := (b, dDel (row D a) k)) ?_ (bindS (idx_row b0 (by rw [setI_len]; exact b1')) (bindS (a := (a, dDel (row (setI D a (dDel (row D a) k)) b) (-k))) ?_ rfl)))))
  · unfold dPopO
    rw [show dGet (row D a) k = some b from g1]
    rfl
  · unfold dPopO
    have : dGet (row (setI D a (dDel (row D a) k)) b) (-k) = some a := by
      rw [row_set a0 a1' b0]
      by_cases e : a = b
      · subst e
        rw [if_pos rfl, dGet_del, if_neg (by have := hs.1; omega)]
        exact g3
      · rw [if_neg e]
        exact g3
    rw [this]
    rfl
theorem trim_ok {L : Int} {n k : Nat} {D : Dd} (hn : n ≤ 100000) (h : Dr L n D) (hS : ∃ S : List Int, S.length ≤ k ∧ ∀ a : Int, 1 ≤ a → a < n → row D a ≠ [] → a ∈ S) :
    ∃ D', trimP D = some D' ∧ ((D' = D ∧ ∀ a : Int, 1 ≤ a → a < n → (row D a).length ≠ 1) ∨ (Dr L n D' ∧ ∃ S : List Int, S.length + 1 ≤ k ∧ ∀ a : Int, 1 ≤ a → a < n → row D' a ≠ [] → a ∈ S)) := by
  unfold trimP
  rw [h.len]
  have hlr : (range' 1 (n : Int)).length = n - 1 := by rw [rng_len]; omega
  refine bndX (rngO_ok (by omega)) ?_
  refine lpX (fun i E => Dr L n E ∧ ((E = D ∧ ∀ a : Int, 1 ≤ a → a < 1 + (i : Int) → (row D a).length ≠ 1) ∨ ∃ S : List Int, S.length + 1 ≤ k ∧ ∀ a : Int, 1 ≤ a → a < n → row E a ≠ [] → a ∈ S)) ⟨h, .inl ⟨rfl, fun a h1 h2 => by omega⟩⟩ (fun i x E hx hE => ?_) (fun E hE => ⟨E, rfl, ?_⟩)
  · obtain ⟨rfl, hi⟩ := rngAt hx
    obtain ⟨d1, d2⟩ := hE
    have a0 : (0 : Int) ≤ 1 + (i : Int) := by omega
    have a1 : 1 + (i : Int) < n := by omega
    have ei := idx_row (D := E) a0 (by rw [d1.len]; exact a1)
    by_cases hl : (row E (1 + (i : Int))).length = 1
    · obtain ⟨⟨kk, b⟩, hr⟩ := List.length_eq_one_iff.mp hl
      obtain ⟨e1, g1, g2⟩ := pop_run d1 a0 a1 hr
      have d3 := d1.del a0 g1
      obtain ⟨b0, b1, hs, _⟩ := d1.ok _ _ _ a0 g1
      have gd := fun {x : Int} (hx : 0 ≤ x) (t : Int) => go_del a0 (by rw [d1.len]; exact a1) b0 (by rw [d1.len]; exact b1) hs.1 (x := x) hx t
      have shrink : ∀ x, 0 ≤ x → row (delD E (1 + (i : Int)) kk b) x ≠ [] → row E x ≠ [] := fun x hx hne => by
        obtain ⟨t, y, hg⟩ := row_some hne
        rw [gd hx] at hg
        split at hg
        · cases hg
        · intro z
          unfold go at hg
          rw [z] at hg
          cases hg
      have gone : row (delD E (1 + (i : Int)) kk b) (1 + (i : Int)) = [] := row_nil fun t => by
        rw [gd a0]
        by_cases e : t = kk
        · rw [if_pos (.inr ⟨rfl, e⟩)]
        · split
          · rfl
          · exact g2 t e
      refine ⟨_, bindS ei (bindS ((if_pos (decide_eq_true (by omega))).trans e1) rfl), d3, .inr ?_⟩
      rcases d2 with ⟨q1, q2⟩ | ⟨S, s1, s2⟩
      · subst q1
        obtain ⟨S, s1, s2⟩ := hS
        have hm : (1 + (i : Int)) ∈ S := s2 _ (by omega) a1 (by rw [hr]; exact List.cons_ne_nil _ _)
        have hp := List.length_pos_of_mem hm
        refine ⟨S.erase (1 + (i : Int)), by rw [List.length_erase_of_mem hm]; omega, fun a b1 b2 hne => ?_⟩
        have : a ≠ 1 + (i : Int) := fun e => hne (by rw [e]; exact gone)
        exact (List.mem_erase_of_ne this).mpr (s2 a b1 b2 (shrink a (by omega) hne))
      · exact ⟨S, s1, fun a b1 b2 hne => s2 a b1 b2 (shrink a (by omega) hne)⟩
    · refine ⟨E, bindS ei (bindS (if_neg (by simp only [decide_eq_true_eq]; omega)) rfl), d1, ?_⟩
      rcases d2 with ⟨q1, q2⟩ | q
      · subst q1
        refine .inl ⟨rfl, fun a b1 b2 => ?_⟩
        by_cases e : a = 1 + (i : Int)
        · rw [e]; exact hl
        · exact q2 a b1 (by omega)
      · exact .inr q
  · obtain ⟨d1, d2⟩ := hE
    rcases d2 with ⟨q1, q2⟩ | q
    · refine .inl ⟨q1, fun a b1 b2 => q2 a b1 ?_⟩
      rw [hlr]
      omega
    · exact .inr ⟨d1, q⟩
theorem trims_ok {L : Int} {n : Nat} {D : Dd} (hn : 1 ≤ n) (hn2 : n ≤ 100000) (h : Dr L n D) : ∃ D', lp (fun (s7 : Dd) (_ : Int) => trimP s7) (range' 0 (n : Int)) D = some D' ∧ Dr L n D' ∧ ∀ a : Int, 1 ≤ a → a < n → (row D' a).length ≠ 1 := by
  refine settle (fun k E => Dr L n E ∧ ∃ S : List Int, S.length ≤ k ∧ ∀ a : Int, 1 ≤ a → a < n → row E a ≠ [] → a ∈ S) (fun E => Dr L n E ∧ ∀ a : Int, 1 ≤ a → a < n → (row E a).length ≠ 1) (fun k E hE => ?_) (range' 0 (n : Int)) (n - 1) D ⟨h, range' 1 (n : Int), by rw [rng_len]; omega, fun a h1 h2 _ => ?_⟩ (by rw [rng_len]; omega)
  · obtain ⟨h1, h2⟩ := hE
    obtain ⟨E', e, q⟩ := trim_ok hn2 h1 h2
    refine ⟨E', fun _ => e, ?_⟩
    rcases q with ⟨rfl, q⟩ | ⟨q1, S, q2, q3⟩
    · exact .inl ⟨fun _ => e, h1, q⟩
    · exact .inr ⟨k - 1, by omega, q1, S, by omega, q3⟩
  · unfold range'
    exact List.mem_map.mpr ⟨(a - 1).toNat, List.mem_range.mpr (by omega), by omega⟩
end Z
namespace Z
open PySem PySem.Spec L2
/-! ### rows and doors -/
def cell (rows : List (List Int)) (a l : Int) : Int := (rows.getD a.toNat []).getD l.toNat (-1)
theorem cell_idx {rows : List (List Int)} {r : List Int} {a l : Int} (a0 : 0 ≤ a) (hr : rows[a.toNat]? = some r) (l0 : 0 ≤ l) (h : l < r.length) : idx r l = some (cell rows a l) := by
  refine idx_of l0 ?_
  unfold cell
  rw [List.getD_eq_getElem?_getD (l := rows), hr]
  show r[l.toNat]? = some (r.getD l.toNat (-1))
  rw [List.getD_eq_getElem?_getD, List.getElem?_eq_getElem (by omega)]
  rfl
theorem cell_out {rows : List (List Int)} {a l : Int} (h : rows.length ≤ a.toNat ∨ ∀ r, rows[a.toNat]? = some r → r.length ≤ l.toNat) : cell rows a l = -1 := by
  unfold cell
  rw [List.getD_eq_getElem?_getD, List.getD_eq_getElem?_getD]
  rcases h with h | h
  · rw [List.getElem?_eq_none_iff.mpr h]
    rfl
  · cases e : rows[a.toNat]? with
    | none => rfl
    | some r =>
      show (r[l.toNat]?).getD (-1) = -1
      rw [List.getElem?_eq_none_iff.mpr (h r e)]
      rfl
/-- rows in their bounds -/
structure Reg (L : Int) (rows : List (List Int)) : Prop where
  l1 : 1 ≤ L
  l4 : L ≤ 4
  rl : ∀ r ∈ rows, r.length = L.toNat
  rb : ∀ r ∈ rows, ∀ x ∈ r, -1 ≤ x ∧ x < rows.length
  one : ∀ a b l k : Int, 0 ≤ a → 0 ≤ b → 0 ≤ k → cell rows a l = k → cell rows b l = k → a = b
theorem Reg.bd {L : Int} {rows : List (List Int)} (h : Reg L rows) (a l : Int) : cell rows a l < rows.length ∨ cell rows a l = -1 := by
  cases e : rows[a.toNat]? with
  | none => exact .inr (cell_out (.inl (List.getElem?_eq_none_iff.mp e)))
  | some r =>
    by_cases hl : l.toNat < r.length
    · refine .inl ?_
      have hm := List.mem_of_getElem? e
      have : cell rows a l = r[l.toNat] := by
        unfold cell
        rw [List.getD_eq_getElem?_getD (l := rows), e]
        show r.getD l.toNat (-1) = _
        rw [List.getD_eq_getElem?_getD, List.getElem?_eq_getElem hl]
        rfl
      rw [this]
      exact (h.rb r hm _ (List.getElem_mem hl)).2
    · exact .inr (cell_out (.inr fun r' hr' => by rw [e] at hr'; cases hr'; omega))
structure Lay (L : Int) (rows : List (List Int)) (r c : Nat) (D : Dd) : Prop where
  dr : Dr L rows.length D
  rep : ∀ x l y, 0 ≤ x → 0 < l → (go D x l = some y ↔ 0 ≤ y ∧ cell rows x (l - 1) = y ∧ (x < r ∨ (x = r ∧ l - 1 < c)))
theorem Lay.step {L : Int} {rows : List (List Int)} (R : Reg L rows) {r c : Nat} {D : Dd} (h : Lay L rows r c D) (hr : r < rows.length) (hc : c < L.toNat) {a k k2 g : Int} (ea : a = r) (ek : k = (c : Int) + 1) (ek2 : k2 = -k) (eg : g = cell rows r c) :
    ∃ D', (if (decide (0 ≤ g)) = true then ((idx D a).bind fun t16 => (dPutO t16 k g).bind fun t17 => ((idx (setI D a t17) g).bind fun t18 => (dPutO t18 k2 a).bind fun t19 => some (setI (setI D a t17) g t19))) else some D : Option Dd) = some D' ∧ Lay L rows r (c + 1) D' := by
  subst ea ek
  by_cases hg : 0 ≤ g
  · have g1 : g < rows.length := by
      rcases R.bd (r : Int) (c : Int) with h | h
      · rw [eg]; exact h
      · omega
    have a1 : (r : Int) < rows.length := by omega
    have hs : Sok L ((c : Int) + 1) := ⟨by omega, by omega, by omega⟩
    have f1 : go D r ((c : Int) + 1) = none := by
      cases e : go D r ((c : Int) + 1) with
      | none => rfl
      | some y =>
        have := (h.rep r _ y (by omega) (by omega)).mp e
        omega
    have f2 : go D g (-((c : Int) + 1)) = none := by
      cases e : go D g (-((c : Int) + 1)) with
      | none => rfl
      | some y =>
        obtain ⟨y0, _, _, hb⟩ := h.dr.ok g _ y hg e
        rw [Int.neg_neg] at hb
        obtain ⟨_, h2, h3⟩ := (h.rep y _ g y0 (by omega)).mp hb
        have h2' : cell rows y (c : Int) = g := by rw [← h2]; congr 1; omega
        have := R.one y r c g y0 (by omega) hg h2' eg.symm
        omega
    refine ⟨_, (if_pos (decide_eq_true hg)).trans (put_run h.dr R.l4 (by omega) a1 hg g1 ek2), h.dr.put (by omega) a1 hg g1 hs f1 f2, fun x l y hx hl => ?_⟩
    rw [go_put (by omega) (by rw [h.dr.len]; exact a1) hg (by rw [h.dr.len]; exact g1) hs.1 hx, if_neg (fun z => by omega)]
    by_cases e : x = (r : Int) ∧ l = (c : Int) + 1
    · rw [if_pos e]
      obtain ⟨rfl, rfl⟩ := e
      have ec : (c : Int) + 1 - 1 = c := by omega
      rw [ec, ← eg]
      constructor
      · intro z; cases z; exact ⟨hg, rfl, by omega⟩
      · rintro ⟨_, z, _⟩; rw [z]
    · rw [if_neg e, h.rep x l y hx hl]
      constructor
      · rintro ⟨z1, z2, z3⟩; exact ⟨z1, z2, by omega⟩
      · rintro ⟨z1, z2, z3⟩; exact ⟨z1, z2, by omega⟩
  · refine ⟨D, if_neg (by simpa using hg), h.dr, fun x l y hx hl => ?_⟩
    rw [h.rep x l y hx hl]
    constructor
    · rintro ⟨z1, z2, z3⟩; exact ⟨z1, z2, by omega⟩
    · rintro ⟨z1, z2, z3⟩
      refine ⟨z1, z2, ?_⟩
      by_cases e : x = (r : Int) ∧ l - 1 = c
      · rw [e.1, e.2, ← eg] at z2
        omega
      · omega
theorem Lay.row {L : Int} {rows : List (List Int)} (R : Reg L rows) {r : Nat} {D : Dd} (h : Lay L rows r L.toNat D) : Lay L rows (r + 1) 0 D := by
  refine ⟨h.dr, fun x l y hx hl => ?_⟩
  rw [h.rep x l y hx hl]
  constructor
  · rintro ⟨z1, z2, z3⟩; exact ⟨z1, z2, by omega⟩
  · rintro ⟨z1, z2, z3⟩
    refine ⟨z1, z2, ?_⟩
    by_cases e : l - 1 < L.toNat
    · omega
    · have : cell rows x (l - 1) = -1 := cell_out (.inr fun r' hr' => by rw [R.rl r' (List.mem_of_getElem? hr')]; omega)
      omega
theorem Lay.all {L : Int} {rows : List (List Int)} {D : Dd} (h : Lay L rows rows.length 0 D) (x l y : Int) (hx : 0 ≤ x) (hl : 0 < l) : go D x l = some y ↔ 0 ≤ y ∧ cell rows x (l - 1) = y := by
  rw [h.rep x l y hx hl]
  constructor
  · rintro ⟨z1, z2, _⟩; exact ⟨z1, z2⟩
  · rintro ⟨z1, z2⟩
    refine ⟨z1, z2, ?_⟩
    by_cases e : x < rows.length
    · exact .inl e
    · have : cell rows x (l - 1) = -1 := cell_out (.inl (by omega))
      omega
theorem Lay.nil {L : Int} {rows : List (List Int)} : Lay L rows 0 0 (List.replicate rows.length []) := by
  have hd := Dr.nil L rows.length (D := List.replicate rows.length []) rfl
  refine ⟨hd, fun x l y hx hl => ?_⟩
  have hr : Z.row (List.replicate rows.length []) x = [] := by
    unfold Z.row
    rw [List.getD_eq_getElem?_getD, List.getElem?_replicate]
    split <;> rfl
  unfold go
  rw [hr]
  constructor
  · intro z; cases z
  · rintro ⟨_, _, z⟩; omega
/-- what doors_of and the law's doors have of rows -/
def Rep (L : Int) (rows : List (List Int)) (D : Dd) : Prop := Dr L rows.length D ∧ ∀ x l y : Int, 0 ≤ x → 0 < l → (go D x l = some y ↔ 0 ≤ y ∧ cell rows x (l - 1) = y)
theorem doors_of_ok {L : Int} {rows : List (List Int)} (R : Reg L rows) (hn : rows.length ≤ 100000) : ∃ D, Q_doors_of rows = some D ∧ Rep L rows D := by
  unfold Q_doors_of
  have he := empties (xs := rows) (by rw [sizeL]; omega)
  obtain ⟨_, e1, he⟩ := Option.bind_eq_some_iff.mp he
  refine bndX e1 (bndX he ?_)
  have hl : (enum rows).length = rows.length := by unfold enum; rw [List.length_map, List.length_zipIdx]
  refine lpX (fun i D => Lay L rows i 0 D) Lay.nil (fun i x D hx hD => ?_) (fun D hD => ⟨D, rfl, ?_, ?_⟩)
  · obtain ⟨h1, h2⟩ := enum_get hx
    have hi := (List.getElem?_eq_some_iff.mp h2).1
    have hrl := R.rl x.2 (List.mem_of_getElem? h2)
    have hl2 : (enum x.2).length = L.toNat := by unfold enum; rw [List.length_map, List.length_zipIdx, hrl]
    obtain ⟨D', e, q⟩ := lp_goN (xs := enum x.2) (f := (fun (s11 : (List (List (Int × Int)))) (x12 : (Int × Int)) => ((if (decide (0 ≤ x12.2)) = true then ((idx s11 x.1).bind fun t16 => (dPutO t16 (x12.1 + 1) x12.2).bind fun t17 => ((idx (setI s11 x.1 t17) x12.2).bind fun t18 => (dPutO t18 ((-x12.1) - 1) x.1).bind fun t19 => some (setI (setI s11 x.1 t17) x12.2 t19))) else some s11 : Option (List (List (Int × Int)))).bind fun s20 => some s20))) (fun c D => Lay L rows i c D) (fun c y E hy hE => by
      obtain ⟨k1, k2⟩ := enum_get hy
      have hc := (List.getElem?_eq_some_iff.mp k2).1
      have eg : y.2 = cell rows (i : Int) (c : Int) := by
        have := cell_idx (rows := rows) (a := (i : Int)) (l := (c : Int)) (by omega) (by rw [Int.toNat_natCast]; exact h2) (by omega) (by omega)
        rw [idx_of (by omega) (by rw [Int.toNat_natCast]; exact k2)] at this
        exact Option.some.inj this
      obtain ⟨E', e, hE'⟩ := hE.step R hi (by omega) (a := x.1) (k := y.1 + 1) (k2 := (-y.1) - 1) (g := y.2) h1 (by rw [k1]) (by omega) eg
      exact ⟨E', bindS e rfl, hE'⟩) (s0 := D) hD
    rw [hl2] at q
    exact ⟨D', bindS e rfl, q.row R⟩
  · exact hD.dr
  · rw [hl] at hD
    exact hD.all
theorem doorsP_ok {L : Int} {rows : List (List Int)} (R : Reg L rows) (hn : rows.length ≤ 100000) : ∃ D, P_doors (L, rows) = some D ∧ Rep L rows D := by
  unfold P_doors
  have l1 := R.l1
  have l4 := R.l4
  have he := empties (xs := rows) (by rw [sizeL]; omega)
  obtain ⟨_, e1, he⟩ := Option.bind_eq_some_iff.mp he
  refine bndX e1 (bndX he (bndX (rngO_ok (by rw [List.length_replicate]; omega)) ?_))
  have hl : (range' 0 ((List.replicate rows.length ([] : List (Int × Int))).length : Int)).length = rows.length := by rw [rng_len, List.length_replicate]; omega
  refine lpX (fun i D => Lay L rows i 0 D) Lay.nil (fun i x D hx hD => ?_) (fun D hD => ⟨D, rfl, ?_, ?_⟩)
  · obtain ⟨rfl, hi⟩ := rngAt hx
    rw [List.length_replicate] at hi
    have hi' : i < rows.length := by omega
    have ei : (0 : Int) + (i : Int) = i := Int.zero_add _
    rw [ei]
    refine bndX (rngO_ok (by omega)) ?_
    have hl2 : (range' 0 L).length = L.toNat := by rw [rng_len]; omega
    refine lpX (fun c D => Lay L rows i c D) hD (fun c y E hy hE => ?_) (fun E hE => ⟨E, rfl, ?_⟩)
    · obtain ⟨rfl, hc⟩ := rngAt hy
      have ec : (0 : Int) + (c : Int) = c := Int.zero_add _
      rw [ec]
      have hr : rows[(i : Int).toNat]? = some rows[i] := by rw [Int.toNat_natCast]; exact List.getElem?_eq_getElem hi'
      have eg := cell_idx (rows := rows) (a := (i : Int)) (l := (c : Int)) (by omega) hr (by omega) (by rw [R.rl _ (List.getElem_mem hi')]; omega)
      obtain ⟨E', e, hE'⟩ := hE.step R hi' (by omega) (a := (i : Int)) (k := (c : Int) + 1) (k2 := (-(c : Int)) - 1) (g := cell rows i c) rfl rfl (by omega) rfl
      exact ⟨E', bindS (idx_of (by omega) hr) (bindS eg (bindS e rfl)), hE'⟩
    · rw [hl2] at hE
      exact hE.row R
  · exact hD.dr
  · rw [hl] at hD
    exact hD.all
/-! ### webs -/
structure Web (L : Int) (rows : List (List Int)) (D : Dd) : Prop where
  reg : Reg L rows
  n1 : 1 ≤ rows.length
  n9 : rows.length ≤ 900
  dof : Q_doors_of rows = some D
  rep : Rep L rows D
  deg : ∀ a : Int, 1 ≤ a → a < rows.length → ∃ s t, s ≠ t ∧ (go D a s).isSome = true ∧ (go D a t).isSome = true
  bfs : ord (nbr L D) rows.length = range' 0 (rows.length : Int)
theorem Dr.nbr {L : Int} {n : Nat} {D : Dd} (h : Dr L n D) : ∀ a : Int, 0 ≤ a → a < n → ∀ g ∈ Z.nbr L D a, 0 ≤ g ∧ g < n := fun a a0 _ g hg => by
  obtain ⟨t, _, e⟩ := List.mem_filterMap.mp hg
  obtain ⟨b0, b1, _⟩ := h.ok a t g a0 e
  exact ⟨b0, b1⟩
theorem two_keys {d : List (Int × Int)} (hn : (d.map Prod.fst).Nodup) {s t : Int} (hst : s ≠ t) (h1 : (dGet d s).isSome = true) (h2 : (dGet d t).isSome = true) : 2 ≤ d.length := by
  have := nodup_le [s, t] (d.map Prod.fst) (by simp [hst]) fun x hx => by
    rcases List.mem_cons.mp hx with rfl | hx
    · exact dGet_key_mem.mp h1
    · rw [List.mem_singleton.mp hx]
      exact dGet_key_mem.mp h2
  rw [List.length_map] at this
  exact this
theorem keys_two {d : List (Int × Int)} (hn : (d.map Prod.fst).Nodup) (h : 2 ≤ d.length) : ∃ s t, s ≠ t ∧ (dGet d s).isSome = true ∧ (dGet d t).isSome = true := by
  match d, h with
  | p :: q :: d, _ =>
    rw [List.map_cons, List.map_cons, List.nodup_cons] at hn
    refine ⟨p.1, q.1, fun e => hn.1 (by rw [e]; exact List.mem_cons_self), ?_, ?_⟩
    · exact dGet_key_mem.mpr List.mem_cons_self
    · exact dGet_key_mem.mpr (List.mem_cons_of_mem _ List.mem_cons_self)
/-! ### the program's looks at a web -/
theorem letters_okW {L : Int} (h1 : 1 ≤ L) (h4 : L ≤ 4) : Q_is_letters L = some true := by
  unfold Q_is_letters Q_is_integer
  simp [h1, h4]
theorem a_row_ok {L : Int} {rows : List (List Int)} (R : Reg L rows) {r : List Int} (hr : r ∈ rows) : Q_is_a_row r L (rows.length : Int) = some true := by
  have hl := R.rl r hr
  have l1 := R.l1
  have l4 := R.l4
  unfold Q_is_a_row
  rw [if_neg (by simp [hl]; omega), lcO_some (fun _ => true) (by rw [hl, sizeL]; omega) (fun x hx => by
    have hb := R.rb r hr x hx
    unfold Q_is_integer
    simp [hb.1, hb.2])]
  simp
theorem one_way_ok {L : Int} {rows : List (List Int)} (R : Reg L rows) (hn : rows.length ≤ 900) : Q_is_one_way rows L = some true := by
  have l1 := R.l1
  have l4 := R.l4
  have key : ∃ r, Q_is_one_way rows L = some r ∧ r = true := by
    unfold Q_is_one_way
    refine bndX (rngO_ok (by omega)) (lpRX (fun _ _ => True) trivial (fun i x s hx _ => ?_) (fun s _ => ⟨_, rfl, rfl⟩))
    obtain ⟨rfl, hi⟩ := rngAt hx
    have ei : (0 : Int) + (i : Int) = i := Int.zero_add _
    rw [ei]
    have hg := lcG_some (f := (fun (row7 : (List Int)) => ((idx row7 (i : Int)).bind fun t9 => if (decide (0 ≤ t9)) = true then ((idx row7 (i : Int)).bind fun t10 => some (some t10)) else some none))) (xs := rows) (fun r => if 0 ≤ r.getD i (-1) then some (r.getD i (-1)) else none) (by rw [sizeL]; omega) (fun r hr => by
      have hlr := R.rl r hr
      have e : idx r (i : Int) = some (r.getD i (-1)) := by
        refine idx_of (by omega) ?_
        rw [Int.toNat_natCast, List.getD_eq_getElem?_getD, List.getElem?_eq_getElem (by omega)]
        rfl
      refine bindS e ?_
      by_cases h : 0 ≤ r.getD i (-1)
      · rw [if_pos (decide_eq_true h), if_pos h]
        exact bindS e rfl
      · rw [if_neg (by simpa using h), if_neg h])
    have hnd : (rows.filterMap fun r => if 0 ≤ r.getD i (-1) then some (r.getD i (-1)) else none).Nodup := by
      unfold List.Nodup
      rw [List.pairwise_filterMap, List.pairwise_iff_getElem]
      intro a b ha hb hab x hx y hy exy
      subst exy
      have h1 : ∀ j (hj : j < rows.length) z, (if 0 ≤ rows[j].getD i (-1) then some (rows[j].getD i (-1)) else none) = some z → cell rows (j : Int) (i : Int) = z ∧ 0 ≤ z := fun j hj z hz => by
        split at hz
        · rename_i h0
          cases hz
          refine ⟨?_, h0⟩
          unfold cell
          rw [List.getD_eq_getElem?_getD (l := rows), Int.toNat_natCast, List.getElem?_eq_getElem hj, Int.toNat_natCast]
          rfl
        · cases hz
      obtain ⟨p1, p2⟩ := h1 a ha x hx
      obtain ⟨q1, _⟩ := h1 b hb x hy
      have := R.one (a : Int) (b : Int) (i : Int) x (by omega) (by omega) p2 p1 q1
      omega
    have hll : (rows.filterMap fun r => if 0 ≤ r.getD i (-1) then some (r.getD i (-1)) else none).length ≤ rows.length := List.length_filterMap_le _ _
    refine ⟨(), bindS hg (bindS (if_pos ⟨hnd, by omega⟩) (if_neg (by simp))), trivial⟩
  obtain ⟨r, e, rfl⟩ := key
  exact e
/-- the pairs that were met, as they stand beside the rooms in order -/
def Met (met : List (Int × Bool)) (o : List Int) : Prop := (∀ g, (dGet met g).isSome = true ↔ g ∈ o) ∧ met.length ≤ o.length
theorem prog_vis {D : Dd} {a : Int} {i : Nat} (a0 : 0 ≤ a) (a1 : a < D.length) : ∀ (ss o : List Int) (met : List (Int × Bool)), o[i]? = some a → o.length + ss.length ≤ 10000 → Met met o →
    ∃ met', lp (fun (s8 : ((List (Int × Bool)) × (List Int))) (step9 : Int) => ((idx s8.2 (i : Int)).bind fun t13 => (idx D t13).bind fun t14 => (match (dGet t14 step9) with | none => (some (s8.1, s8.2)) | some goal15 => ((if (true && (!(dGet s8.1 goal15).isSome)) = true then ((dPutO s8.1 goal15 true).bind fun t16 => ((appO s8.2 goal15).bind fun t17 => some (t16, t17))) else some (s8.1, s8.2) : Option ((List (Int × Bool)) × (List Int))).bind fun s18 => some (s18.1, s18.2))))) ss (met, o) = some (met', visA o (ss.filterMap (go D a))) ∧ Met met' (visA o (ss.filterMap (go D a)))
  | [], o, met, _, _, hM => ⟨met, rfl, hM⟩
  | s :: ss, o, met, ho, hl, hM => by
    rw [List.length_cons] at hl
    unfold lp
    have e1 : idx o (i : Int) = some a := idx_of (by omega) (by rw [Int.toNat_natCast]; exact ho)
    have e2 := idx_row a0 a1
    cases hg : go D a s with
    | none =>
      rw [List.filterMap_cons_none hg]
      obtain ⟨met', e, q⟩ := prog_vis a0 a1 ss o met ho (by omega) hM
      refine ⟨met', ?_, q⟩
      refine bindS (a := (met, o)) (bindS e1 (bindS e2 ?_)) e
      have hg' : dGet (row D a) s = none := hg
      rw [hg']
    | some g =>
      rw [List.filterMap_cons_some hg, visA_cons]
      have hg' : dGet (row D a) s = some g := hg
      by_cases hm : g ∈ o
      · have hv : vis o g = o := if_pos hm
        rw [hv]
        obtain ⟨met', e, q⟩ := prog_vis a0 a1 ss o met ho (by omega) hM
        refine ⟨met', ?_, q⟩
        refine bindS (a := (met, o)) (bindS e1 (bindS e2 ?_)) e
        rw [hg']
        have : (dGet met g).isSome = true := (hM.1 g).mpr hm
        exact bindS (if_neg (by simp [this])) rfl
      · have hv : vis o g = o ++ [g] := if_neg hm
        rw [hv]
        have hi := (List.getElem?_eq_some_iff.mp ho).1
        have hnone : (dGet met g).isSome = false := by
          cases h : (dGet met g).isSome with
          | false => rfl
          | true => exact absurd ((hM.1 g).mp h) hm
        have hM2 : Met (dPut met g true) (o ++ [g]) := by
          refine ⟨fun x => ?_, ?_⟩
          · rw [dGet_put, List.mem_append, List.mem_singleton]
            by_cases e : g = x
            · subst e; simp
            · rw [if_neg e, hM.1 x]
              exact ⟨.inl, fun z => z.elim id fun z => absurd z.symm e⟩
          · have := dput_len met g true
            have := hM.2
            rw [List.length_append]
            show _ ≤ o.length + 1
            omega
        obtain ⟨met', e, q⟩ := prog_vis a0 a1 ss (o ++ [g]) (dPut met g true) (by rw [List.getElem?_append_left hi]; exact ho) (by rw [List.length_append]; show o.length + 1 + _ ≤ _; omega) hM2
        refine ⟨met', ?_, q⟩
        refine bindS (a := (dPut met g true, o ++ [g])) (bindS e1 (bindS e2 ?_)) e
        rw [hg']
        have hm2 := hM.2
        exact bindS ((if_pos (by simp [hnone])).trans (bindS (putO_ok (by show met.length < _; rw [sizeL]; omega)) (bindS (app_ok (by show o.length < _; rw [sizeL]; omega)) rfl))) rfl
theorem first_order_ok {L : Int} {n : Nat} {D : Dd} (h : Dr L n D) (h1 : 1 ≤ L) (h4 : L ≤ 4) (n1 : 1 ≤ n) (n9 : n ≤ 900) : Q_first_order L D 0 = some (ord (nbr L D) n) := by
  have hnb := h.nbr
  have key : ∃ r, Q_first_order L D 0 = some r ∧ r = ord (nbr L D) n := by
    unfold Q_first_order
    refine whX (fun (s3 : (Int × (List (Int × Bool)) × (List Int))) => ∃ i : Nat, i ≤ n ∧ s3.1 = (i : Int) ∧ s3.2.2 = ord (nbr L D) i ∧ Met s3.2.1 (ord (nbr L D) i)) (fun s3 => (n - s3.1).toNat) ⟨0, Nat.zero_le _, rfl, rfl, fun g => ?_, Nat.le_refl _⟩ (by show ((n : Int) - 0).toNat < 1000; omega) (fun s3 hs => ?_) (fun s3 hs hc => ⟨_, rfl, ?_⟩)
    · show (dGet [((0 : Int), true)] g).isSome = true ↔ g ∈ [(0 : Int)]
      rw [dGet_cons, List.mem_singleton]
      by_cases e : (0 : Int) = g
      · subst e; simp
      · rw [if_neg e]
        exact ⟨(fun z => by cases z), fun z => absurd z.symm e⟩
    · obtain ⟨at_, met, o⟩ := s3
      obtain ⟨i, hi, rfl, rfl, hM⟩ := hs
      by_cases hc : i < (ord (nbr L D) i).length
      · refine .inr ⟨congrArg some (decide_eq_true (by show (i : Int) < ((ord (nbr L D) i).length : Int); omega)), ?_⟩
        have hl := ord_len n1 hnb i
        obtain ⟨a, ha⟩ : ∃ a, (ord (nbr L D) i)[i]? = some a := ⟨_, List.getElem?_eq_getElem hc⟩
        obtain ⟨a0, a1⟩ := (ord_in n1 hnb i).1 a (List.mem_of_getElem? ha)
        have l8 := stL_len h1 h4
        obtain ⟨met', e, q⟩ := prog_vis a0 (by rw [h.len]; exact a1) (stL L) (ord (nbr L D) i) met ha (by omega) hM
        have ho : ord (nbr L D) (i + 1) = visA (ord (nbr L D) i) ((stL L).filterMap (go D a)) := by
          show (match (ord (nbr L D) i)[i]? with | some a => visA (ord (nbr L D) i) (nbr L D a) | none => ord (nbr L D) i) = _
          rw [ha]
          rfl
        refine ⟨((i : Int) + 1, met', visA (ord (nbr L D) i) ((stL L).filterMap (go D a))), bindS (steps_of_ok h1 h4) (bindS e rfl), ⟨i + 1, by omega, rfl, ho.symm, by rw [ho]; exact q⟩, ?_⟩
        show ((n : Int) - ((i : Int) + 1)).toNat < ((n : Int) - (i : Int)).toNat
        omega
      · exact .inl (congrArg some (decide_eq_false (by show ¬ (i : Int) < ((ord (nbr L D) i).length : Int); omega)))
    · obtain ⟨at_, met, o⟩ := s3
      obtain ⟨i, hi, rfl, rfl, hM⟩ := hs
      have hc' : decide ((i : Int) < ((ord (nbr L D) i).length : Int)) = false := Option.some.inj hc
      rw [decide_eq_false_iff_not] at hc'
      exact ord_end n1 hnb hi (by omega)
  obtain ⟨r, e, rfl⟩ := key
  exact e
theorem is_a_web_ok {L : Int} {rows : List (List Int)} {D : Dd} (W : Web L rows D) : Q_is_a_web (L, rows) = some true := by
  have R := W.reg
  have n1 := W.n1
  have n9 := W.n9
  have dr := W.rep.1
  unfold Q_is_a_web
  refine bindS (a := false) ((if_neg (by simp)).trans (bindS (a := false) ((if_neg (by simp)).trans (bindS (letters_okW R.l1 R.l4) rfl)) rfl)) ?_
  refine (if_neg (by simp)).trans ((if_neg (by simp only [Bool.false_or, decide_eq_true_eq]; omega)).trans ?_)
  refine bindS (lcO_some (fun _ => true) (by show rows.length < _; rw [sizeL]; omega) (fun r hr => bindS (a_row_ok R hr) rfl)) ?_
  refine bindS (a := false) ((if_neg (by simp)).trans (bindS (one_way_ok R n9) rfl)) ((if_neg (by simp)).trans ?_)
  refine bindS W.dof ?_
  have hcut : cut D (some 1) none = D.drop 1 := cut_from _ (by decide)
  rw [hcut]
  refine bindS (lcT_some _ (by rw [List.length_drop, dr.len, sizeL]; omega)) ?_
  refine (if_neg ?_).trans ?_
  · simp only [List.any_map, List.any_eq_true, Function.comp, id, decide_eq_true_eq]
    rintro ⟨d, hd, hlt⟩
    obtain ⟨j, hj⟩ := List.mem_iff_getElem?.mp hd
    rw [List.getElem?_drop] at hj
    have hjl := (List.getElem?_eq_some_iff.mp hj).1
    rw [dr.len] at hjl
    have e : row D ((1 + j : Nat) : Int) = d := by
      unfold row
      rw [Int.toNat_natCast, List.getD_eq_getElem?_getD, hj]
      rfl
    obtain ⟨s, t, h1, h2, h3⟩ := W.deg ((1 + j : Nat) : Int) (by omega) (by omega)
    have := two_keys (dr.rowok (a := ((1 + j : Nat) : Int)) (by omega)) h1 h2 h3
    rw [e] at this
    omega
  · refine bindS (first_order_ok dr R.l1 R.l4 n1 n9) (bindS (a := range' 0 (rows.length : Int)) (if_pos ⟨by decide, by decide, by show -(2 ^ 62) ≤ (rows.length : Int); omega, by show (rows.length : Int) < 2 ^ 62; omega, by show ((rows.length : Int) - 0).toNat ≤ 2 ^ 24; omega⟩) ?_)
    rw [W.bfs]
    simp
theorem need_web_ok {L : Int} {rows : List (List Int)} {D : Dd} (W : Web L rows D) : Q_need_web (L, rows) = some () := by
  unfold Q_need_web
  exact bindS (is_a_web_ok W) (if_neg (by simp))
end Z
namespace Z
open PySem PySem.Spec L2
/-! ### the law's web of doors -/
theorem ixOf_some : ∀ {xs : List Int} {y : Int}, y ∈ xs → ∃ k, ixOf xs y = some k
  | x :: xs, y, h => by
    unfold ixOf
    by_cases e : x = y
    · exact ⟨0, if_pos e⟩
    · obtain ⟨k, hk⟩ := ixOf_some ((List.mem_cons.mp h).resolve_left fun z => e z.symm)
      exact ⟨k + 1, by rw [if_neg e, hk]; rfl⟩
theorem law_vis {D : Dd} {a : Int} {i : Nat} (hp : ∀ t b, go D a t = some b → 0 ≤ b) (a0 : 0 ≤ a) (a1 : a < D.length) : ∀ (ss o : List Int), o[i]? = some a → o.length + ss.length ≤ 10000 → lp (fun (s35 : List Int) (step36 : Int) => ((idx s35 (i : Int)).bind fun t40 => (idx D t40).bind fun t41 => ((if ((decide (0 ≤ ((dGet t41 step36).getD (-1)))) && (!s35.contains ((dGet t41 step36).getD (-1)))) = true then ((appO s35 ((dGet t41 step36).getD (-1))).bind fun t42 => some t42) else some s35 : Option (List Int)).bind fun s43 => some s43))) ss o = some (visA o (ss.filterMap (go D a)))
  | [], o, _, _ => rfl
  | s :: ss, o, ho, hl => by
    rw [List.length_cons] at hl
    unfold lp
    have e1 : idx o (i : Int) = some a := idx_of (by omega) (by rw [Int.toNat_natCast]; exact ho)
    have e2 := idx_row a0 a1
    have hi := (List.getElem?_eq_some_iff.mp ho).1
    cases hg : go D a s with
    | none =>
      rw [List.filterMap_cons_none hg]
      have hg' : dGet (row D a) s = none := hg
      refine bindS (a := o) (bindS e1 (bindS e2 (bindS (a := o) ?_ rfl))) (law_vis hp a0 a1 ss o ho (by omega))
      rw [hg']
      exact if_neg (by simp)
    | some g =>
      rw [List.filterMap_cons_some hg, visA_cons]
      have hg' : dGet (row D a) s = some g := hg
      have h0 := hp s g hg
      by_cases hm : g ∈ o
      · have hv : vis o g = o := if_pos hm
        rw [hv]
        refine bindS (a := o) (bindS e1 (bindS e2 (bindS (a := o) ?_ rfl))) (law_vis hp a0 a1 ss o ho (by omega))
        rw [hg']
        exact if_neg (by simp [hm])
      · have hv : vis o g = o ++ [g] := if_neg hm
        rw [hv]
        refine bindS (a := o ++ [g]) (bindS e1 (bindS e2 (bindS (a := o ++ [g]) ?_ rfl))) (law_vis hp a0 a1 ss (o ++ [g]) (by rw [List.getElem?_append_left hi]; exact ho) (by rw [List.length_append]; show o.length + 1 + _ ≤ _; omega))
        rw [hg']
        exact (if_pos (by simp [hm, h0])).trans (bindS (app_ok (by rw [sizeL]; omega)) rfl)
def cellF (D : Dd) (O : List Int) (a l : Int) : Int := match go D a l with
  | none => -1
  | some g => (((ixOf O g).getD 0 : Nat) : Int)
theorem rowF_run {L : Int} {n : Nat} {D : Dd} {O : List Int} (h : Dr L n D) (h1 : 1 ≤ L) (h4 : L ≤ 4) {a : Int} (a0 : 0 ≤ a) (a1 : a < n) (hc : ∀ l g, go D a l = some g → g ∈ O) {s : List (List Int)} (hs : s.length ≤ 10000) :
    ((rngO 1 (L + 1)).bind fun t51 => (lcO (β := Int) (fun (letter52 : Int) => ((idx D a).bind fun t54 => some ((dGet t54 letter52).getD (-1)))) t51).bind fun t55 => ((lcO (β := Int) (fun (goal56 : Int) => ((if (decide (0 ≤ goal56)) = true then ((ixOf O goal56).bind fun t58 => some ((t58 : Nat) : Int)) else some (-1)).bind fun t59 => some t59)) t55).bind fun t60 => (appO s t60).bind fun t61 => some t61)) = some (s ++ [(range' 1 (L + 1)).map (cellF D O a)]) := by
  have hlr : (range' 1 (L + 1)).length ≤ 4 := by rw [rng_len]; omega
  refine bindS (rngO_ok (by omega)) (bindS (lcO_some (fun l => (go D a l).getD (-1)) (by rw [sizeL]; omega) (fun l _ => bindS (idx_row a0 (by rw [h.len]; exact a1)) rfl)) (bindS (lcO_some (fun x => if 0 ≤ x then (((ixOf O x).getD 0 : Nat) : Int) else -1) (by rw [List.length_map, sizeL]; omega) (fun x hx => ?_)) (bindS (app_ok (by rw [sizeL]; omega)) ?_)))
  · obtain ⟨l, hl, rfl⟩ := List.mem_map.mp hx
    cases hg : go D a l with
    | none => rfl
    | some g =>
      obtain ⟨g0, _⟩ := h.ok a l g a0 hg
      obtain ⟨k, hk⟩ := ixOf_some (hc l g hg)
      show ((if (decide (0 ≤ g)) = true then _ else _ : Option Int).bind _) = some (if 0 ≤ g then _ else _)
      rw [if_pos g0, if_pos (decide_eq_true g0)]
      refine bindS (bindS hk rfl) ?_
      show some ((k : Nat) : Int) = some (((ixOf O g).getD 0 : Nat) : Int)
      rw [hk]
      rfl
  · rw [List.map_map]
    refine congrArg (fun z => some (s ++ [z])) (List.map_congr_left fun l _ => ?_)
    show (if 0 ≤ (go D a l).getD (-1) then (((ixOf O ((go D a l).getD (-1))).getD 0 : Nat) : Int) else -1) = cellF D O a l
    unfold cellF
    cases hg : go D a l with
    | none => rfl
    | some g =>
      obtain ⟨g0, _⟩ := h.ok a l g a0 hg
      exact if_pos g0
/-- doors whose rooms have no idle ends make a web -/
theorem web_of_doors {L : Int} {n : Nat} {D : Dd} (h : Dr L n D) (h1 : 1 ≤ L) (h4 : L ≤ 4) (n1 : 1 ≤ n) (n9 : n ≤ 900) (ht : ∀ a : Int, 1 ≤ a → a < n → (row D a).length ≠ 1) :
    ∃ E, Web L ((ord (nbr L D) n).map fun a => (range' 1 (L + 1)).map (cellF D (ord (nbr L D) n) a)) E := by
  have hnb := h.nbr
  obtain ⟨o1, o2⟩ := ord_in n1 hnb n
  have o3 := ord_len n1 hnb n
  have o4 := ord_head (nbr L D) n
  have o5 : ∀ i a, (ord (nbr L D) n)[i]? = some a → ∀ g ∈ nbr L D a, g ∈ ord (nbr L D) n := fun i a hi => (ord_at n1 hnb hi).2.2
  have o6 := ord_from (nbr L D) n
  have o7 := ord_more n1 hnb
  generalize hO : ord (nbr L D) n = O at o1 o2 o3 o4 o5 o6 o7
  have m1 : 1 ≤ O.length := (List.getElem?_eq_some_iff.mp o4).1
  have clos : ∀ a ∈ O, ∀ l g, go D a l = some g → g ∈ O := fun a ha l g hg => by
    obtain ⟨i, hi⟩ := List.mem_iff_getElem?.mp ha
    exact o5 i a hi g (List.mem_filterMap.mpr ⟨l, mem_stL.mpr (h.ok a l g (o1 a ha).1 hg).2.2.1, hg⟩)
  generalize hrows : (O.map fun a => (range' 1 (L + 1)).map (cellF D O a)) = rows
  have hlen : rows.length = O.length := by rw [← hrows, List.length_map]
  -- names
  generalize hφ : (fun (j : Int) => O.getD j.toNat 0) = φ
  have hφj : ∀ j : Int, φ j = O.getD j.toNat 0 := fun j => by rw [← hφ]
  have φat : ∀ j : Int, 0 ≤ j → j < O.length → O[j.toNat]? = some (φ j) := fun j j0 j1 => by
    have hj : j.toNat < O.length := by omega
    rw [hφj, List.getD_eq_getElem?_getD, List.getElem?_eq_getElem hj]
    rfl
  have φmem : ∀ j : Int, 0 ≤ j → j < O.length → φ j ∈ O := fun j j0 j1 => List.mem_of_getElem? (φat j j0 j1)
  have inj : ∀ x y : Int, 0 ≤ x → x < O.length → 0 ≤ y → y < O.length → φ x = φ y → x = y := fun x y x0 x1 y0 y1 e => by
    have a := φat x x0 x1
    have b := φat y y0 y1
    rw [← e] at b
    have := (List.getElem?_inj (by omega) o2).mp (a.trans b.symm)
    omega
  have φix : ∀ g ∈ O, ∃ k : Nat, k < O.length ∧ ixOf O g = some k ∧ φ (k : Int) = g := fun g hg => by
    obtain ⟨k, hk⟩ := ixOf_some hg
    obtain ⟨q, _⟩ := ixOf_spec hk
    have hk2 := (List.getElem?_eq_some_iff.mp q).1
    refine ⟨k, hk2, hk, ?_⟩
    have := φat (k : Int) (by omega) (by omega)
    rw [Int.toNat_natCast, q] at this
    exact (Option.some.inj this).symm
  have φ0 : φ 0 = 0 := by
    have := φat 0 (by omega) (by omega)
    rw [show (0 : Int).toNat = 0 from rfl, o4] at this
    exact (Option.some.inj this).symm
  have cellE : ∀ a l : Int, 0 ≤ a → a < O.length → 0 ≤ l → l < L → cell rows a l = cellF D O (φ a) (l + 1) := fun a l a0 a1 l0 l1 => by
    have hr : rows[a.toNat]? = some ((range' 1 (L + 1)).map (cellF D O (φ a))) := by
      rw [← hrows, List.getElem?_map, φat a a0 a1]
      rfl
    unfold cell
    rw [List.getD_eq_getElem?_getD (l := rows), hr]
    show ((range' 1 (L + 1)).map (cellF D O (φ a))).getD l.toNat (-1) = _
    unfold range'
    rw [List.getD_eq_getElem?_getD, List.getElem?_map, List.getElem?_map, List.getElem?_range (by omega)]
    show cellF D O (φ a) (1 + (l.toNat : Int)) = _
    congr 1
    omega
  have cellO : ∀ a l : Int, 0 ≤ a → (O.length ≤ a ∨ L ≤ l) → cell rows a l = -1 := fun a l a0 hh => by
    refine cell_out ?_
    rcases hh with hh | hh
    · exact .inl (by omega)
    · refine .inr fun r hr => ?_
      rw [← hrows, List.getElem?_map] at hr
      cases e : O[a.toNat]? with
      | none => rw [e] at hr; cases hr
      | some x =>
        rw [e] at hr
        cases hr
        rw [List.length_map, rng_len]
        omega
  have cellI : ∀ a l k : Int, 0 ≤ a → 0 ≤ l → 0 ≤ k → (cell rows a l = k ↔ a < O.length ∧ k < O.length ∧ go D (φ a) (l + 1) = some (φ k)) := fun a l k a0 l0 k0 => by
    by_cases ha : a < O.length
    · by_cases hl : l < L
      · rw [cellE a l a0 ha l0 hl]
        unfold cellF
        cases hg : go D (φ a) (l + 1) with
        | none =>
          refine ⟨fun z => ?_, fun z => by cases z.2.2⟩
          have z : (-1 : Int) = k := z
          omega
        | some g =>
          obtain ⟨j, j1, j2, j3⟩ := φix g (clos _ (φmem a a0 ha) _ g hg)
          show (((ixOf O g).getD 0 : Nat) : Int) = k ↔ _
          rw [j2]
          show (j : Int) = k ↔ _
          constructor
          · rintro rfl
            exact ⟨ha, by omega, by rw [j3]⟩
          · rintro ⟨_, z1, z2⟩
            refine inj _ _ (by omega) (by omega) k0 z1 ?_
            rw [j3]
            exact Option.some.inj z2
      · rw [cellO a l a0 (.inr (by omega))]
        refine ⟨fun z => by omega, fun z => ?_⟩
        have := (h.ok _ _ _ (o1 _ (φmem a a0 ha)).1 z.2.2).2.2.1.2.2
        omega
    · rw [cellO a l a0 (.inl (by omega))]
      exact ⟨fun z => by omega, fun z => by omega⟩
  have R : Reg L rows := by
    refine ⟨h1, h4, fun r hr => ?_, fun r hr x hx => ?_, fun a b l k a0 b0 k0 ea eb => ?_⟩
    · rw [← hrows] at hr
      obtain ⟨a, _, rfl⟩ := List.mem_map.mp hr
      rw [List.length_map, rng_len]
      omega
    · rw [← hrows] at hr
      obtain ⟨a, ha, rfl⟩ := List.mem_map.mp hr
      obtain ⟨l, _, rfl⟩ := List.mem_map.mp hx
      unfold cellF
      cases hg : go D a l with
      | none => exact ⟨by show (-1 : Int) ≤ -1; omega, by show (-1 : Int) < _; omega⟩
      | some g =>
        obtain ⟨j, j1, j2, j3⟩ := φix g (clos a ha _ g hg)
        show -1 ≤ (((ixOf O g).getD 0 : Nat) : Int) ∧ (((ixOf O g).getD 0 : Nat) : Int) < _
        rw [j2, hlen]
        show -1 ≤ (j : Int) ∧ (j : Int) < _
        omega
    · by_cases l0 : 0 ≤ l
      · obtain ⟨a1, k1, ga⟩ := (cellI a l k a0 l0 k0).mp ea
        obtain ⟨b1, _, gb⟩ := (cellI b l k b0 l0 k0).mp eb
        have p1 := (h.ok _ _ _ (o1 _ (φmem a a0 a1)).1 ga).2.2.2
        have p2 := (h.ok _ _ _ (o1 _ (φmem b b0 b1)).1 gb).2.2.2
        rw [p1] at p2
        exact inj a b a0 a1 b0 b1 (Option.some.inj p2)
      · have e0 : cell rows a l = cell rows a 0 := by unfold cell; rw [show l.toNat = (0 : Int).toNat by omega]
        have e1 : cell rows b l = cell rows b 0 := by unfold cell; rw [show l.toNat = (0 : Int).toNat by omega]
        obtain ⟨a1, k1, ga⟩ := (cellI a 0 k a0 (by omega) k0).mp (e0 ▸ ea)
        obtain ⟨b1, _, gb⟩ := (cellI b 0 k b0 (by omega) k0).mp (e1 ▸ eb)
        have p1 := (h.ok _ _ _ (o1 _ (φmem a a0 a1)).1 ga).2.2.2
        have p2 := (h.ok _ _ _ (o1 _ (φmem b b0 b1)).1 gb).2.2.2
        rw [p1] at p2
        exact inj a b a0 a1 b0 b1 (Option.some.inj p2)
  obtain ⟨E, eE, dE, rE⟩ := doors_of_ok R (by omega)
  rw [hlen] at dE
  have gpos : ∀ a s b : Int, 0 ≤ a → 0 < s → (go E a s = some b ↔ 0 ≤ b ∧ a < O.length ∧ b < O.length ∧ go D (φ a) s = some (φ b)) := fun a s b a0 s0 => by
    rw [rE a s b a0 s0]
    constructor
    · rintro ⟨z1, z2⟩
      obtain ⟨q1, q2, q3⟩ := (cellI a (s - 1) b a0 (by omega) z1).mp z2
      rw [show s - 1 + 1 = s by omega] at q3
      exact ⟨z1, q1, q2, q3⟩
    · rintro ⟨z1, q1, q2, q3⟩
      exact ⟨z1, (cellI a (s - 1) b a0 (by omega) z1).mpr ⟨q1, q2, by rw [show s - 1 + 1 = s by omega]; exact q3⟩⟩
  have gall : ∀ a s b : Int, 0 ≤ a → (go E a s = some b ↔ 0 ≤ b ∧ a < O.length ∧ b < O.length ∧ go D (φ a) s = some (φ b)) := fun a s b a0 => by
    by_cases s0 : 0 < s
    · exact gpos a s b a0 s0
    · constructor
      · intro hg
        obtain ⟨b0, b1, hs, hb⟩ := dE.ok a s b a0 hg
        have hz := hs.1
        obtain ⟨_, q1, q2, q3⟩ := (gpos b (-s) a b0 (by omega)).mp hb
        have := (h.ok _ _ _ (o1 _ (φmem b b0 q1)).1 q3).2.2.2
        rw [Int.neg_neg] at this
        exact ⟨b0, q2, q1, this⟩
      · rintro ⟨b0, q1, q2, q3⟩
        obtain ⟨_, _, hs, p⟩ := h.ok _ _ _ (o1 _ (φmem a a0 q1)).1 q3
        have hz := hs.1
        have := (gpos b (-s) a b0 (by omega)).mpr ⟨a0, q2, q1, p⟩
        have := (dE.ok b (-s) a b0 this).2.2.2
        rw [Int.neg_neg] at this
        exact this
  have gsome : ∀ a s g : Int, 0 ≤ a → a < O.length → go D (φ a) s = some g → ∃ b, go E a s = some b ∧ φ b = g := fun a s g a0 a1 hg => by
    obtain ⟨j, j1, j2, j3⟩ := φix g (clos _ (φmem a a0 a1) _ g hg)
    exact ⟨(j : Int), (gall a s j a0).mpr ⟨by omega, a1, by omega, by rw [j3]; exact hg⟩, j3⟩
  refine ⟨E, R, by rw [hlen]; exact m1, by rw [hlen]; omega, eE, ⟨by rw [hlen]; exact dE, rE⟩, fun a a1 a2 => ?_, ?_⟩
  · rw [hlen] at a2
    have a0 : 0 ≤ a := by omega
    have hm := φmem a a0 a2
    have hne : φ a ≠ 0 := fun e => by
      have := inj a 0 a0 a2 (by omega) (by omega) (by rw [e, φ0])
      omega
    obtain ⟨f0, f1⟩ := o1 _ hm
    have hrow : row D (φ a) ≠ [] := by
      rcases o6 _ hm with e | ⟨x, hx, hg⟩
      · exact absurd e hne
      · obtain ⟨t, _, hg⟩ := List.mem_filterMap.mp hg
        have := (h.ok x t _ (o1 x hx).1 hg).2.2.2
        intro z
        unfold go at this
        rw [z] at this
        cases this
    have h2 : 2 ≤ (row D (φ a)).length := by
      have := List.length_pos_iff.mpr hrow
      have := ht (φ a) (by omega) f1
      omega
    obtain ⟨s, t, hst, hs, ht2⟩ := keys_two (h.rowok f0) h2
    obtain ⟨gs, hgs⟩ := Option.isSome_iff_exists.mp hs
    obtain ⟨gt, hgt⟩ := Option.isSome_iff_exists.mp ht2
    obtain ⟨bs, e1, _⟩ := gsome a s gs a0 a2 hgs
    obtain ⟨bt, e2, _⟩ := gsome a t gt a0 a2 hgt
    exact ⟨s, t, hst, by rw [e1]; rfl, by rw [e2]; rfl⟩
  · rw [hlen]
    have hnE := dE.nbr
    have hmap := ord_map inj (nb := nbr L D) (nb' := nbr L E) m1 hnE φ0 (fun a a0 a1 => by
      unfold nbr
      rw [List.map_filterMap]
      congr 1
      funext s
      cases hg : go D (φ a) s with
      | none =>
        cases hE : go E a s with
        | none => rfl
        | some b =>
          have := ((gall a s b a0).mp hE).2.2.2
          rw [hg] at this
          cases this
      | some g =>
        obtain ⟨b, e1, e2⟩ := gsome a s g a0 a1 hg
        rw [e1]
        show some g = some (φ b)
        rw [e2])
    have hO2 : O = (ord (nbr L E) O.length).map φ := by
      have h3 := hmap n
      rw [hO] at h3
      have h5 := ord_more m1 hnE (n - O.length)
      rw [show O.length + (n - O.length) = n by omega] at h5
      rw [h5] at h3
      exact h3
    have hO3 : O = (range' 0 (O.length : Int)).map φ := by
      refine List.ext_getElem? fun i => ?_
      unfold range'
      rw [List.map_map, List.getElem?_map]
      by_cases hi : i < O.length
      · rw [List.getElem?_range (by omega)]
        have := φat (i : Int) (by omega) (by omega)
        rw [Int.toNat_natCast] at this
        rw [this]
        show some (φ i) = some (φ (0 + (i : Int)))
        rw [Int.zero_add]
      · rw [List.getElem?_eq_none_iff.mpr (by omega), List.getElem?_eq_none_iff.mpr (by rw [List.length_range]; omega)]
        rfl
    refine map_inj inj (ord_in m1 hnE _).1 (fun x hx => mem_rng hx) ?_
    rw [← hO2]
    exact hO3
end Z
namespace Z
open PySem PySem.Spec L2
theorem webP_ok {L : Int} {n : Nat} {D : Dd} (h : Dr L n D) (h1 : 1 ≤ L) (h4 : L ≤ 4) (n1 : 1 ≤ n) (n9 : n ≤ 900) : ∃ r, P_web L D = some r ∧ (r.1 = L ∧ r.2.length ≤ n ∧ ∃ E, Web L r.2 E) := by
  unfold P_web
  have hlD := h.len
  refine bndX (a := ()) (if_pos (by rw [hlD, sizeL]; omega)) (bndX (a := D) ?_ (bndX (rngO_ok (by omega)) ?_))
  · rw [mapO_some (g := fun x => x) (fun x _ => rfl), List.map_id']
  obtain ⟨D', e1, d1, ht⟩ := trims_ok n1 (by omega) h
  rw [hlD]
  refine bndX (show lp _ _ _ = some D' from e1) ?_
  have hnb := d1.nbr
  refine whX (fun (s : Int × List Int) => ∃ i : Nat, i ≤ n ∧ s.1 = (i : Int) ∧ s.2 = ord (nbr L D') i) (fun s => (n - s.1).toNat) ⟨0, Nat.zero_le _, rfl, rfl⟩ (by show ((n : Int) - 0).toNat < 1000; omega) (fun s hs => ?_) (fun s hs hc => ?_)
  · obtain ⟨at_, o⟩ := s
    obtain ⟨i, hi, rfl, rfl⟩ := hs
    by_cases hc : i < (ord (nbr L D') i).length
    · refine .inr ⟨congrArg some (decide_eq_true (by show (i : Int) < ((ord (nbr L D') i).length : Int); omega)), ?_⟩
      have hl := ord_len n1 hnb i
      obtain ⟨a, ha⟩ : ∃ a, (ord (nbr L D') i)[i]? = some a := ⟨_, List.getElem?_eq_getElem hc⟩
      obtain ⟨a0, a1⟩ := (ord_in n1 hnb i).1 a (List.mem_of_getElem? ha)
      have l8 := stL_len h1 h4
      have e := law_vis (D := D') (a := a) (i := i) (fun t b hg => (d1.ok a t b a0 hg).1) a0 (by rw [d1.len]; exact a1) (stL L) (ord (nbr L D') i) ha (by omega)
      have ho : ord (nbr L D') (i + 1) = visA (ord (nbr L D') i) ((stL L).filterMap (go D' a)) := by
        show (match (ord (nbr L D') i)[i]? with | some a => visA (ord (nbr L D') i) (nbr L D' a) | none => ord (nbr L D') i) = _
        rw [ha]
        rfl
      refine ⟨((i : Int) + 1, visA (ord (nbr L D') i) ((stL L).filterMap (go D' a))), bindS (steps_ok' h1 h4) (bindS e rfl), ⟨i + 1, by omega, rfl, ho.symm⟩, ?_⟩
      show ((n : Int) - ((i : Int) + 1)).toNat < ((n : Int) - (i : Int)).toNat
      omega
    · exact .inl (congrArg some (decide_eq_false (by show ¬ (i : Int) < ((ord (nbr L D') i).length : Int); omega)))
  · obtain ⟨at_, o⟩ := s
    obtain ⟨i, hi, rfl, rfl⟩ := hs
    have hc' : decide ((i : Int) < ((ord (nbr L D') i).length : Int)) = false := Option.some.inj hc
    rw [decide_eq_false_iff_not] at hc'
    have he := ord_end n1 hnb hi (by omega)
    obtain ⟨o1, o2⟩ := ord_in n1 hnb n
    have ol := ord_len n1 hnb n
    show ∃ r, (lp _ (ord (nbr L D') i) []).bind _ = some r ∧ _
    rw [he]
    refine lpX (fun i s => s = ((ord (nbr L D') n).take i).map fun a => (range' 1 (L + 1)).map (cellF D' (ord (nbr L D') n) a)) rfl (fun i a s ha hs => ?_) (fun s hs => ⟨_, rfl, rfl, ?_, ?_⟩)
    · subst hs
      have hm := List.mem_of_getElem? ha
      have hia := (List.getElem?_eq_some_iff.mp ha).1
      obtain ⟨a0, a1⟩ := o1 a hm
      refine ⟨_, rowF_run d1 h1 h4 a0 a1 (fun l g hg => ?_) (by rw [List.length_map, List.length_take]; omega), ?_⟩
      · obtain ⟨j, hj⟩ := List.mem_iff_getElem?.mp hm
        exact (ord_at n1 hnb hj).2.2 g (List.mem_filterMap.mpr ⟨l, mem_stL.mpr (d1.ok a l g a0 hg).2.2.1, hg⟩)
      · show _ = (List.take (i + 1) _).map _
        rw [List.take_succ, ha, List.map_append]
        rfl
    · show s.length ≤ n
      rw [hs, List.length_map, List.length_take]
      omega
    · show ∃ E, Web L s E
      rw [hs, List.take_length]
      exact web_of_doors d1 h1 h4 n1 n9 ht
/-- the web of no walk -/
theorem web_none {L : Int} (h1 : 1 ≤ L) (h4 : L ≤ 4) : ∃ E, Web L [List.replicate L.toNat (-1)] E := by
  have h0 := Dr.nil L 1 (D := [[]]) rfl
  obtain ⟨E, hE⟩ := web_of_doors h0 h1 h4 (Nat.le_refl 1) (by decide) (fun a a1 a2 => by omega)
  have e : ((ord (nbr L [[]]) 1).map fun a => (range' 1 (L + 1)).map (cellF [[]] (ord (nbr L [[]]) 1) a)) = [List.replicate L.toNat (-1)] := four (P := fun L => ((ord (nbr L [[]]) 1).map fun a => (range' 1 (L + 1)).map (cellF [[]] (ord (nbr L [[]]) 1) a)) = [List.replicate L.toNat (-1)]) h1 h4 (by decide) (by decide) (by decide) (by decide)
  rw [e] at hE
  exact ⟨E, hE⟩
/-- a drawn web -/
theorem drawnP_ok {n : Nat} {most top : Int} {w : List Int} (h : Pot n w) (m1 : 1 ≤ most) (m2 : most ≤ 60) (t1 : 1 ≤ top) (t4 : top ≤ 4) : ∃ r, P_drawn w most top = some r ∧ ((∃ E, Web r.1.1 r.1.2 E) ∧ r.1.1 ≤ top ∧ r.1.2.length ≤ 200 ∧ Pot (n + 2000) r.2) := by
  unfold P_drawn
  obtain ⟨v1, w1, e1, a1, b1, k1⟩ := draw_ok h (many := top) (by omega) (by omega)
  obtain ⟨v2, w2, e2, a2, b2, k2⟩ := draw_ok k1 (many := 9) (by decide) (by decide)
  have l1 : 1 ≤ 1 + v1 := by omega
  have l4 : 1 + v1 ≤ 4 := by omega
  refine bndX e1 (bndX e2 ?_)
  by_cases c1 : v2 = 0
  · obtain ⟨E, hE⟩ := web_none l1 l4
    have er : repT ([(-1 : Int)]) (1 + v1) = some (List.replicate (1 + v1).toNat (-1)) := by
      unfold repT
      rw [if_pos ⟨by omega, by omega, by decide⟩]
      congr 1
      generalize (1 + v1).toNat = m
      induction m with
      | zero => rfl
      | succ m ih => rw [List.replicate_succ, List.flatten_cons, ih]; rfl
    refine ⟨_, (if_pos (decide_eq_true c1)).trans (bindS er rfl), ⟨E, hE⟩, by show 1 + v1 ≤ top; omega, by show (1 : Nat) ≤ 200; decide, k2.mono (by omega)⟩
  obtain ⟨v3, w3, e3, a3, b3, k3⟩ := draw_ok k2 (many := 3) (by decide) (by decide)
  obtain ⟨v5, w5, e5, a5, b5, k5⟩ := draw_ok k2 (many := 5) (by decide) (by decide)
  have n1 : ¬ decide (v2 = 0) = true := by simpa using c1
  by_cases c2 : v2 < 5
  · have hlr : (range' 0 (1 + v3)).length = (1 + v3).toNat := by rw [rng_len, Int.sub_zero]
    have key : ∃ r, ((P_draw w2 3).bind fun t5 => (rngO 0 (1 + t5.1)).bind fun t6 => ((lp (fun (s7 : (Int × (List Int) × (List (List Int)))) (turn8 : Int) => ((if (decide (0 < s7.1)) = true then ((P_draw s7.2.1 s7.1).bind fun t12 => ((P_straight t12.2 (1 + v1) (1 + t12.1)).bind fun t13 => (appO s7.2.2 t13.1).bind fun t14 => some ((s7.1 - (1 + t12.1)), t13.2, t14))) else some (s7.1, s7.2.1, s7.2.2) : Option (Int × (List Int) × (List (List Int)))).bind fun s15 => some (s15.1, s15.2.1, s15.2.2))) t6 (most, t5.2, ([] : (List (List Int))))).bind fun f9 => ((P_rings f9.2.2).bind fun t17 => (P_web (1 + v1) t17).bind fun t18 => some (t18, f9.2.1)))) = some r ∧ ((∃ E, Web r.1.1 r.1.2 E) ∧ r.1.1 ≤ top ∧ r.1.2.length ≤ 200 ∧ Pot (n + 2000) r.2) := by
      refine bndX e3 (bndX (rngO_ok (by omega)) ?_)
      refine lpX (fun i (s : Int × List Int × List (List Int)) => 0 ≤ s.1 ∧ s.1 ≤ most ∧ Pot (n + 10 + 100 * i) s.2.1 ∧ s.2.2.length ≤ i ∧ ∀ u ∈ s.2.2, 1 ≤ u.length ∧ u.length ≤ 60 ∧ ∀ x ∈ u, Sok (1 + v1) x) ⟨by show 0 ≤ most; omega, Int.le_refl _, k3.mono (by omega), Nat.le_refl _, (fun _ z => nomatch z)⟩ (fun i x s hx hs => ?_) (fun s hs => ?_)
      · have hi : i < (range' 0 (1 + v3)).length := (List.getElem?_eq_some_iff.mp hx).1
        rw [hlr] at hi
        obtain ⟨left, pot, ws⟩ := s
        obtain ⟨g1, g2, g3, g4, g5⟩ := hs
        have g1 : 0 ≤ left := g1
        have g2 : left ≤ most := g2
        have g3 : Pot (n + 10 + 100 * i) pot := g3
        have g4 : ws.length ≤ i := g4
        have g5 : ∀ u ∈ ws, 1 ≤ u.length ∧ u.length ≤ 60 ∧ ∀ x ∈ u, Sok (1 + v1) x := g5
        by_cases hp : 0 < left
        · obtain ⟨v6, w6, e6, a6, b6, k6⟩ := draw_ok g3 (many := left) hp (by omega)
          obtain ⟨⟨u, w7⟩, e7, u1, u2, u3, k7⟩ := straightP_ok k6 l1 l4 (size := 1 + v6) (by omega) (by omega)
          have u1 : u.length = (1 + v6).toNat := u1
          refine ⟨_, bindS ((if_pos (decide_eq_true hp)).trans (bindS e6 (bindS e7 (bindS (app_ok (by show ws.length < _; rw [sizeL]; omega)) rfl)))) rfl, by show 0 ≤ left - (1 + v6); omega, by show left - (1 + v6) ≤ most; omega, k7.mono (by omega), ?_, fun t ht => ?_⟩
          · show (ws ++ [u]).length ≤ i + 1
            rw [List.length_append]
            exact Nat.succ_le_succ g4
          · rcases List.mem_append.mp ht with ht | ht
            · exact g5 t ht
            · rw [List.mem_singleton.mp ht]
              exact ⟨by omega, by omega, u2⟩
        · exact ⟨_, bindS (if_neg (by simpa using hp)) rfl, g1, g2, g3.mono (by omega), Nat.le_succ_of_le g4, g5⟩
      · obtain ⟨left, pot, ws⟩ := s
        obtain ⟨_, _, g3, g4, g5⟩ := hs
        rw [hlr] at g3 g4
        have g4 : ws.length ≤ (1 + v3).toNat := g4
        obtain ⟨D, eD, m, m1, m2, hD⟩ := rings_ok l4 g5 (by show ws.length ≤ 20; omega)
        have m2 : m ≤ 1 + 60 * ws.length := m2
        obtain ⟨⟨L', rows⟩, eW, q1, q2, E, qE⟩ := webP_ok hD l1 l4 m1 (by omega)
        have q1 : L' = 1 + v1 := q1
        subst q1
        exact bndX eD (bndX eW ⟨_, rfl, ⟨E, qE⟩, by show 1 + v1 ≤ top; omega, by show rows.length ≤ 200; have : rows.length ≤ m := q2; omega, g3.mono (by omega)⟩)
    obtain ⟨r, e, q⟩ := key
    exact ⟨r, (if_neg n1).trans ((if_pos (decide_eq_true c2)).trans e), q⟩
  · obtain ⟨v7, e7, hv7⟩ := idx_mem (xs := [0, 0, 2, 3, (6 : Int)]) a5 (by show v5 < ((5 : Nat) : Int); omega)
    have g7 : 0 ≤ v7 ∧ v7 ≤ 6 := by
      simp only [List.mem_cons, List.not_mem_nil, or_false] at hv7
      omega
    obtain ⟨v8, w8, e8, a8, b8, k8⟩ := draw_ok k5 (many := most) (by omega) (by omega)
    obtain ⟨⟨D, w9⟩, e9, hD, k9⟩ := tables_ok k8 l1 l4 (count := 1 + v8) (gaps := v7) (by omega) (by omega) g7.1 (by omega)
    obtain ⟨⟨L', rows⟩, eW, q1, q2, E, qE⟩ := webP_ok hD l1 l4 (by omega) (by omega)
    have q1 : L' = 1 + v1 := q1
    subst q1
    refine ⟨_, (if_neg n1).trans ((if_neg (by simpa using c2)).trans (bindS e5 (bindS e7 (bindS e8 (bindS e9 (bindS eW rfl)))))), ⟨E, qE⟩, by show 1 + v1 ≤ top; omega, by show rows.length ≤ 200; have : rows.length ≤ (1 + v8).toNat := q2; omega, k9.mono (by omega)⟩
end Z
namespace Z
open PySem PySem.Spec L2
/-! ### sums over doors -/
theorem sum_upd {K : List Int} {h h' : Int → Int} {k c : Int} (hn : K.Nodup) (hk : k ∈ K) (he : ∀ t ∈ K, t ≠ k → h t = h' t) (hc : h k = h' k + c) : (K.map h).sum = (K.map h').sum + c := by
  induction K with
  | nil => cases hk
  | cons x K ih =>
    rw [List.nodup_cons] at hn
    rw [List.map_cons, List.map_cons, List.sum_cons, List.sum_cons]
    by_cases e : x = k
    · subst e
      have : K.map h = K.map h' := List.map_congr_left fun t ht => he t (List.mem_cons_of_mem _ ht) fun z => hn.1 (z ▸ ht)
      rw [this, hc]
      omega
    · have hk2 : k ∈ K := (List.mem_cons.mp hk).resolve_left fun z => e z.symm
      rw [ih hn.2 hk2 (fun t ht => he t (List.mem_cons_of_mem _ ht)), he x List.mem_cons_self e]
      omega
theorem sum_row {K : List Int} (hK : K.Nodup) (f : Int → Int → Int) : ∀ {d : List (Int × Int)}, (d.map Prod.fst).Nodup → (∀ k ∈ d.map Prod.fst, k ∈ K) → (d.map fun p => f p.1 p.2).sum = (K.map fun t => match dGet d t with | some b => f t b | none => 0).sum
  | [], _, _ => by
    have : (K.map fun t => match dGet ([] : List (Int × Int)) t with | some b => f t b | none => 0) = K.map fun _ => (0 : Int) := List.map_congr_left fun _ _ => rfl
    rw [this]
    have : ∀ l : List Int, (l.map fun _ => (0 : Int)).sum = 0 := fun l => by induction l with
      | nil => rfl
      | cons x l ih => rw [List.map_cons, List.sum_cons, ih]; rfl
    rw [this]
    rfl
  | p :: d, hn, hs => by
    rw [List.map_cons, List.nodup_cons] at hn
    have hp : p.1 ∈ K := hs p.1 (by rw [List.map_cons]; exact List.mem_cons_self)
    have hnone : dGet d p.1 = none := by
      cases e : dGet d p.1 with
      | none => rfl
      | some v => exact absurd (dGet_key_mem.mp (by rw [e]; rfl)) hn.1
    rw [List.map_cons, List.sum_cons, sum_row hK f hn.2 (fun k hk => hs k (by rw [List.map_cons]; exact List.mem_cons_of_mem _ hk))]
    refine (Int.add_comm _ _).trans (sum_upd hK hp (fun t _ ht => ?_) ?_).symm
    · rw [dGet_cons, if_neg (fun z => ht z.symm)]
    · rw [dGet_cons, if_pos rfl, hnone]
      show f p.1 p.2 = 0 + f p.1 p.2
      omega
/-- one step further: over all steps but the one back -/
def opA (L : Int) (D : Dd) (g : Int → Int → Int) (a s : Int) : Int := ((stL L).map fun t => match go D a t with
  | some b => if t = -s then 0 else g b t
  | none => 0).sum
def iterA (L : Int) (D : Dd) : Nat → (Int → Int → Int) → Int → Int → Int
  | 0, g => g
  | i + 1, g => opA L D (iterA L D i g)
theorem iterA_in (L : Int) (D : Dd) : ∀ (i : Nat) (g : Int → Int → Int), iterA L D i (opA L D g) = opA L D (iterA L D i g)
  | 0, _ => rfl
  | i + 1, g => by
    show opA L D (iterA L D i (opA L D g)) = _
    rw [iterA_in L D i g]
    rfl
def homeF : Int → Int → Int := fun b _ => if b = 0 then 1 else 0
theorem Dr.keys {L : Int} {n : Nat} {D : Dd} (h : Dr L n D) {a : Int} (a0 : 0 ≤ a) : ∀ k ∈ (row D a).map Prod.fst, k ∈ stL L := fun k hk => by
  obtain ⟨v, hv⟩ := Option.isSome_iff_exists.mp (dGet_key_mem.mpr hk)
  exact mem_stL.mpr (h.ok a k v a0 hv).2.2.1
theorem opA_congr {L : Int} {n : Nat} {D E : Dd} (h : Dr L n D) (he : ∀ a t, 0 ≤ a → go D a t = go E a t) {f g : Int → Int → Int} (hfg : ∀ b t, 0 ≤ b → f b t = g b t) {a s : Int} (a0 : 0 ≤ a) : opA L D f a s = opA L E g a s := by
  unfold opA
  refine congrArg List.sum (List.map_congr_left fun t _ => ?_)
  rw [← he a t a0]
  cases e : go D a t with
  | none => rfl
  | some b =>
    show (if t = -s then 0 else f b t) = (if t = -s then 0 else g b t)
    rw [hfg b t (h.ok a t b a0 e).1]
theorem iterA_congr {L : Int} {n : Nat} {D E : Dd} (h : Dr L n D) (he : ∀ a t, 0 ≤ a → go D a t = go E a t) (g : Int → Int → Int) : ∀ (i : Nat) (a s : Int), 0 ≤ a → iterA L D i g a s = iterA L E i g a s
  | 0, _, _, _ => rfl
  | i + 1, a, s, a0 => opA_congr h he (fun b t b0 => iterA_congr h he g i b t b0) a0
theorem rep_eq {L : Int} {rows : List (List Int)} {D E : Dd} (h : Rep L rows D) (k : Rep L rows E) : ∀ a t, 0 ≤ a → go D a t = go E a t := by
  have one : ∀ {D E : Dd}, Rep L rows D → Rep L rows E → ∀ a t b, 0 ≤ a → go D a t = some b → go E a t = some b := fun {D E} h k a t b a0 hg => by
    by_cases t0 : 0 < t
    · exact (k.2 a t b a0 t0).mpr ((h.2 a t b a0 t0).mp hg)
    · obtain ⟨b0, b1, hs, hb⟩ := h.1.ok a t b a0 hg
      have hz := hs.1
      have := (k.2 b (-t) a b0 (by omega)).mpr ((h.2 b (-t) a b0 (by omega)).mp hb)
      have := (k.1.ok b (-t) a b0 this).2.2.2
      rw [Int.neg_neg] at this
      exact this
  intro a t a0
  cases e : go D a t with
  | some b => exact (one h k a t b a0 e).symm
  | none =>
    cases e2 : go E a t with
    | none => rfl
    | some b =>
      rw [one k h a t b a0 e2] at e
      cases e
/-- all steps of a room but the one back, as a difference -/
theorem opA_diff {L : Int} {n : Nat} {D : Dd} (h : Dr L n D) (h1 : 1 ≤ L) (h4 : L ≤ 4) {a s c : Int} (a0 : 0 ≤ a) (hg : go D a (-s) = some c) (g : Int → Int → Int) : ((row D a).map fun p => g p.2 p.1).sum - g c (-s) = opA L D g a s := by
  have hs := (h.ok a (-s) c a0 hg).2.2.1
  rw [sum_row (stL_nd h1 h4) (fun t b => g b t) (h.rowok a0) (h.keys a0)]
  unfold opA
  have := sum_upd (K := stL L) (h := fun t => match dGet (row D a) t with | some b => g b t | none => 0) (h' := fun t => match go D a t with | some b => if t = -s then 0 else g b t | none => 0) (k := -s) (c := g c (-s)) (stL_nd h1 h4) (mem_stL.mpr hs) (fun t _ ht => by
    show (match go D a t with | some b => g b t | none => 0) = (match go D a t with | some b => if t = -s then 0 else g b t | none => 0)
    cases go D a t with
    | none => rfl
    | some b => exact (if_neg ht).symm) (by
    show (match go D a (-s) with | some b => g b (-s) | none => 0) = (match go D a (-s) with | some b => if -s = -s then 0 else g b (-s) | none => 0) + _
    rw [hg]
    show g c (-s) = (if -s = -s then 0 else g c (-s)) + g c (-s)
    rw [if_pos rfl]
    omega)
  omega
theorem opA_all {L : Int} {n : Nat} {D : Dd} (h : Dr L n D) (h1 : 1 ≤ L) (h4 : L ≤ 4) {a : Int} (a0 : 0 ≤ a) (g : Int → Int → Int) : ((row D a).map fun p => g p.2 p.1).sum = opA L D g a 0 := by
  rw [sum_row (stL_nd h1 h4) (fun t b => g b t) (h.rowok a0) (h.keys a0)]
  unfold opA
  refine congrArg List.sum (List.map_congr_left fun t ht => ?_)
  have hz := (mem_stL.mp ht).1
  show (match go D a t with | some b => g b t | none => 0) = _
  cases go D a t with
  | none => rfl
  | some b => exact (if_neg (by omega)).symm
/-! ### new tables of old ones -/
theorem dcS_fresh {α κ β : Type} [DecidableEq κ] {m : α → Option (Option (κ × β))} {k : α → κ} {f : α → β} : ∀ {xs : List α} {w : List (κ × β)}, (∀ x ∈ xs, m x = some (some (k x, f x))) → (xs.map k).Nodup → (∀ x ∈ xs, (dGet w (k x)).isSome = false) → dcS m xs w = some (w ++ xs.map fun x => (k x, f x))
  | [], w, _, _, _ => by show some w = some (w ++ []); rw [List.append_nil]
  | x :: xs, w, hm, hn, hw => by
    rw [List.map_cons, List.nodup_cons] at hn
    unfold dcS
    rw [hm x List.mem_cons_self]
    show dcS m xs (dPut w (k x) (f x)) = _
    have hf := hw x List.mem_cons_self
    have hp : dPut w (k x) (f x) = w ++ [(k x, f x)] := by
      unfold dPut
      rw [any_key, if_neg (by rw [hf]; exact Bool.false_ne_true)]
    rw [dcS_fresh (fun y hy => hm y (List.mem_cons_of_mem _ hy)) hn.2 (fun y hy => ?_), hp, List.append_assoc]
    · rfl
    · rw [dGet_put, if_neg (fun z => hn.1 (by rw [z]; exact List.mem_map.mpr ⟨y, hy, rfl⟩))]
      exact hw y (List.mem_cons_of_mem _ hy)
/-! ### weighted sums of a table -/
def sumG (w : List ((Int × Int) × Int)) (g : Int → Int → Int) : Int := (w.map fun p => p.2 * g p.1.1 p.1.2).sum
theorem set_id {κ β : Type} [DecidableEq κ] {k : κ} {v : β} : ∀ {w : List (κ × β)}, k ∉ w.map Prod.fst → (w.map fun kv => if kv.1 = k then (kv.1, v) else kv) = w
  | [], _ => rfl
  | p :: w, h => by
    rw [List.map_cons] at h ⊢
    rw [if_neg (fun e => h (by rw [e]; exact List.mem_cons_self)), set_id fun z => h (List.mem_cons_of_mem _ z)]
theorem sumG_set {g : Int → Int → Int} {k : Int × Int} {v : Int} : ∀ {w : List ((Int × Int) × Int)}, (w.map Prod.fst).Nodup → ∀ {o}, dGet w k = some o → sumG (w.map fun kv => if kv.1 = k then (kv.1, v) else kv) g = sumG w g + (v - o) * g k.1 k.2
  | [], _, _, h => by cases h
  | p :: w, hn, o, h => by
    rw [List.map_cons, List.nodup_cons] at hn
    rw [dGet_cons] at h
    unfold sumG
    rw [List.map_cons, List.map_cons, List.map_cons, List.sum_cons, List.sum_cons]
    by_cases e : p.1 = k
    · rw [if_pos e] at h
      cases h
      rw [if_pos e, set_id (fun z => hn.1 (by rw [e]; exact z)), e, Int.sub_mul]
      show v * g k.1 k.2 + _ = _
      omega
    · rw [if_neg e] at h
      have ih := sumG_set (g := g) (v := v) hn.2 h
      unfold sumG at ih
      rw [if_neg e, ih]
      omega
theorem sumG_put {g : Int → Int → Int} {k : Int × Int} {c : Int} {w : List ((Int × Int) × Int)} (hn : (w.map Prod.fst).Nodup) : sumG (dPut w k ((dGet w k).getD 0 + c)) g = sumG w g + c * g k.1 k.2 := by
  unfold dPut
  rw [any_key]
  cases e : dGet w k with
  | none =>
    rw [if_neg (by simp)]
    unfold sumG
    rw [List.map_append, List.sum_append]
    show _ + ((0 + c) * g k.1 k.2 + 0) = _
    rw [Int.zero_add, Int.add_zero]
  | some o =>
    rw [if_pos (by simp), sumG_set hn e]
    show _ + (o + c - o) * g k.1 k.2 = _
    rw [show o + c - o = c by omega]
theorem pairs_len {α β : Type} (E : List β) : ∀ l : List α, (l.flatMap fun b => E.map fun e => (b, e)).length = l.length * E.length
  | [] => by simp
  | x :: l => by
    rw [List.flatMap_cons, List.length_append, List.length_map, pairs_len E l, List.length_cons, Nat.add_mul, Nat.one_mul]
    omega
/-- the places of such a table -/
def PlOk (n : Nat) (w : List ((Int × Int) × Int)) : Prop := (w.map Prod.fst).Nodup ∧ ∀ k ∈ w.map Prod.fst, 0 ≤ k.1 ∧ k.1 < n ∧ -4 ≤ k.2 ∧ k.2 ≤ 4
theorem PlOk.len {n : Nat} {w : List ((Int × Int) × Int)} (h : PlOk n w) : w.length ≤ n * 9 := by
  have := nodup_le (w.map Prod.fst) ((range' 0 (n : Int)).flatMap fun b => [0, 1, -1, 2, -2, 3, -3, 4, (-4 : Int)].map fun e => (b, e)) h.1 fun k hk => by
    obtain ⟨h1, h2, h3, h4⟩ := h.2 k hk
    refine List.mem_flatMap.mpr ⟨k.1, ?_, List.mem_map.mpr ⟨k.2, ?_, rfl⟩⟩
    · unfold range'
      exact List.mem_map.mpr ⟨k.1.toNat, List.mem_range.mpr (by omega), by omega⟩
    · simp only [List.mem_cons, List.not_mem_nil, or_false]
      omega
  rw [List.length_map, pairs_len, rng_len] at this
  simp only [List.length_cons, List.length_nil] at this
  omega
theorem PlOk.put {n : Nat} {w : List ((Int × Int) × Int)} (h : PlOk n w) {k : Int × Int} (v : Int) (hk : 0 ≤ k.1 ∧ k.1 < n ∧ -4 ≤ k.2 ∧ k.2 ≤ 4) : PlOk n (dPut w k v) := by
  refine ⟨dPut_nd h.1 k v, fun x hx => ?_⟩
  rw [dPut_keys] at hx
  split at hx
  · exact h.2 x hx
  · rcases List.mem_append.mp hx with hx | hx
    · exact h.2 x hx
    · rw [List.mem_singleton.mp hx]; exact hk
def P_numbers (doors_here : (List (List (Int × Int)))) (most : Int) : Option (List Int) :=
  ((rngO 0 most).bind fun t2 => ((lp (fun (s3 : ((List ((Int × Int) × Int)) × (List Int))) (length4 : Int) => ((lp (fun (s8 : (List ((Int × Int) × Int))) (x9 : (Int × Int)) => ((idx doors_here x9.1).bind fun t13 => ((lp (fun (s14 : (List ((Int × Int) × Int))) (step15 : Int) => ((if (!decide (step15 = (-x9.2))) = true then ((idx doors_here x9.1).bind fun t19 => (dGet t19 step15).bind fun t20 => ((dGet s3.1 (x9.1, x9.2)).bind fun t21 => (dPutO s14 (t20, step15) (((dGet s14 (t20, step15)).getD 0) + t21)).bind fun t22 => some t22)) else some s14 : Option (List ((Int × Int) × Int))).bind fun s23 => some s23)) (List.map Prod.fst t13) s8).bind fun f16 => some f16))) (List.map Prod.fst s3.1) ([] : (List ((Int × Int) × Int)))).bind fun f10 => ((lcG (β := Int) (fun (place27 : (Int × Int)) => if (decide (place27.1 = 0)) = true then ((dGet f10 place27).bind fun t29 => some (some t29)) else some none) (List.map Prod.fst f10)).bind fun t30 => (appO s3.2 t30.sum).bind fun t31 => some (f10, t31)))) t2 ([((0, 0), 1)], [1])).bind fun f5 => some f5.2))
def numA (L : Int) (D : Dd) (j : Nat) : Int := iterA L D j homeF 0 0
theorem inner_ok {L : Int} {n : Nat} {D : Dd} (h : Dr L n D) (h4 : L ≤ 4) (hn : n ≤ 1000) {T : List ((Int × Int) × Int)} {a s c : Int} (a0 : 0 ≤ a) (a1 : a < n) (hT : dGet T (a, s) = some c) : ∀ (ks : List Int) (w : List ((Int × Int) × Int)), PlOk n w → (∀ t ∈ ks, (go D a t).isSome = true) →
    ∃ w', lp (fun (s14 : (List ((Int × Int) × Int))) (step15 : Int) => ((if (!decide (step15 = (-s))) = true then ((idx D a).bind fun t19 => (dGet t19 step15).bind fun t20 => ((dGet T (a, s)).bind fun t21 => (dPutO s14 (t20, step15) (((dGet s14 (t20, step15)).getD 0) + t21)).bind fun t22 => some t22)) else some s14 : Option (List ((Int × Int) × Int))).bind fun s23 => some s23)) ks w = some w' ∧ PlOk n w' ∧ ∀ g, sumG w' g = sumG w g + c * (ks.map fun t => match go D a t with | some b => if t = -s then 0 else g b t | none => 0).sum
  | [], w, hw, _ => ⟨w, rfl, hw, fun g => by show sumG w g = sumG w g + c * 0; omega⟩
  | t :: ks, w, hw, hk => by
    obtain ⟨b, hb⟩ := Option.isSome_iff_exists.mp (hk t List.mem_cons_self)
    obtain ⟨b0, b1, hs, _⟩ := h.ok a t b a0 hb
    have h4' := hs.mono h4
    unfold lp
    by_cases e : t = -s
    · obtain ⟨w', e1, h1, h2⟩ := inner_ok h h4 hn a0 a1 hT ks w hw (fun u hu => hk u (List.mem_cons_of_mem _ hu))
      refine ⟨w', bindS (bindS (if_neg (by simp [e])) rfl) e1, h1, fun g => ?_⟩
      rw [h2 g, List.map_cons, List.sum_cons, hb]
      show _ = sumG w g + c * ((if t = -s then 0 else g b t) + _)
      rw [if_pos e, Int.zero_add]
    · have hw2 : PlOk n (dPut w (b, t) ((dGet w (b, t)).getD 0 + c)) := hw.put _ ⟨b0, b1, h4'.2.1, h4'.2.2⟩
      obtain ⟨w', e1, h1, h2⟩ := inner_ok h h4 hn a0 a1 hT ks _ hw2 (fun u hu => hk u (List.mem_cons_of_mem _ hu))
      have hl := hw.len
      refine ⟨w', bindS (bindS ((if_pos (by simp [e])).trans (bindS (idx_row a0 (by rw [h.len]; exact a1)) (bindS hb (bindS hT (bindS (putO_ok (by rw [sizeL]; omega)) rfl))))) rfl) e1, h1, fun g => ?_⟩
      rw [h2 g, sumG_put hw.1, List.map_cons, List.sum_cons, hb]
      show sumG w g + c * g b t + _ = sumG w g + c * ((if t = -s then 0 else g b t) + _)
      rw [if_neg e, Int.mul_add]
      omega
theorem opA_keys {L : Int} {n : Nat} {D : Dd} (h : Dr L n D) (h1 : 1 ≤ L) (h4 : L ≤ 4) {a s : Int} (a0 : 0 ≤ a) (g : Int → Int → Int) : (((row D a).map Prod.fst).map fun t => match go D a t with | some b => if t = -s then 0 else g b t | none => 0).sum = opA L D g a s := by
  have hn := h.rowok a0
  unfold opA
  have := sum_row (stL_nd h1 h4) (fun t b => if t = -s then 0 else g b t) hn (h.keys a0)
  rw [List.map_map]
  refine Eq.trans (congrArg List.sum (List.map_congr_left fun p hp => ?_)) this
  show (match go D a p.1 with | some b => if p.1 = -s then 0 else g b p.1 | none => 0) = _
  have : go D a p.1 = some p.2 := mem_dGet hn hp
  rw [this]
theorem home_sum {n : Nat} {w : List ((Int × Int) × Int)} (hw : PlOk n w) : ∀ (v : List ((Int × Int) × Int)), (∀ p ∈ v, p ∈ w) → ∃ u, mapG (fun (place27 : (Int × Int)) => if (decide (place27.1 = 0)) = true then ((dGet w place27).bind fun t29 => some (some t29)) else some none) (List.map Prod.fst v) = some u ∧ u.sum = sumG v homeF
  | [], _ => ⟨[], rfl, rfl⟩
  | p :: v, h => by
    obtain ⟨u, e, q⟩ := home_sum hw v fun x hx => h x (List.mem_cons_of_mem _ hx)
    have hp : dGet w p.1 = some p.2 := mem_dGet hw.1 (h p List.mem_cons_self)
    unfold sumG at q ⊢
    rw [List.map_cons, List.map_cons, List.sum_cons]
    unfold mapG
    by_cases hz : p.1.1 = 0
    · refine ⟨p.2 :: u, bindS (a := some p.2) ((if_pos (decide_eq_true hz)).trans (bindS hp rfl)) (bindS e rfl), ?_⟩
      rw [List.sum_cons, q]
      unfold homeF
      rw [if_pos hz, Int.mul_one]
    · refine ⟨u, bindS (a := none) (if_neg (by simpa using hz)) (bindS e rfl), ?_⟩
      rw [q]
      unfold homeF
      rw [if_neg hz, Int.mul_zero, Int.zero_add]
theorem numbers_ok {L : Int} {n : Nat} {D : Dd} (h : Dr L n D) (h1 : 1 ≤ L) (h4 : L ≤ 4) (n1 : 1 ≤ n) (hn : n ≤ 1000) {most : Int} (m0 : 0 ≤ most) (m1 : most ≤ 100000) : P_numbers D most = some ((List.range (most.toNat + 1)).map (numA L D)) := by
  have key : ∃ r, P_numbers D most = some r ∧ r = (List.range (most.toNat + 1)).map (numA L D) := by
    unfold P_numbers
    have hlr : (range' 0 most).length = most.toNat := by rw [rng_len, Int.sub_zero]
    refine bndX (rngO_ok (by omega)) (lpX (fun i (s : (List ((Int × Int) × Int)) × (List Int)) => PlOk n s.1 ∧ (∀ g, sumG s.1 g = iterA L D i g 0 0) ∧ s.2 = (List.range (i + 1)).map (numA L D)) ⟨⟨by simp, fun k hk => ?_⟩, fun g => ?_, rfl⟩ (fun i x s hx hs => ?_) (fun s hs => ⟨_, rfl, by rw [hs.2.2, hlr]⟩))
    · rw [List.mem_singleton.mp hk]
      exact ⟨by decide, by show (0 : Int) < n; omega, by decide, by decide⟩
    · show 1 * g 0 0 + 0 = g 0 0
      omega
    · have hi : i < most.toNat := by
        have := (List.getElem?_eq_some_iff.mp hx).1
        omega
      obtain ⟨T, f⟩ := s
      obtain ⟨g1, g2, g3⟩ := hs
      have g1 : PlOk n T := g1
      have g2 : ∀ g, sumG T g = iterA L D i g 0 0 := g2
      have g3 : f = (List.range (i + 1)).map (numA L D) := g3
      obtain ⟨w, ew, hw1, hw2⟩ := lp_goN (xs := List.map Prod.fst T) (f := (fun (s8 : (List ((Int × Int) × Int))) (x9 : (Int × Int)) => ((idx D x9.1).bind fun t13 => ((lp (fun (s14 : (List ((Int × Int) × Int))) (step15 : Int) => ((if (!decide (step15 = (-x9.2))) = true then ((idx D x9.1).bind fun t19 => (dGet t19 step15).bind fun t20 => ((dGet T (x9.1, x9.2)).bind fun t21 => (dPutO s14 (t20, step15) (((dGet s14 (t20, step15)).getD 0) + t21)).bind fun t22 => some t22)) else some s14 : Option (List ((Int × Int) × Int))).bind fun s23 => some s23)) (List.map Prod.fst t13) s8).bind fun f16 => some f16)))) (fun j w => PlOk n w ∧ ∀ g, sumG w g = sumG (T.take j) (opA L D g)) (fun j x w hx hw => by
        rw [List.getElem?_map] at hx
        cases hp : T[j]? with
        | none => rw [hp] at hx; cases hx
        | some p =>
          rw [hp] at hx
          have hx : p.1 = x := Option.some.inj hx
          subst hx
          have hm := List.mem_of_getElem? hp
          have hk := g1.2 p.1 (List.mem_map.mpr ⟨p, hm, rfl⟩)
          have hT : dGet T (p.1.1, p.1.2) = some p.2 := mem_dGet g1.1 hm
          obtain ⟨w', e, q1, q2⟩ := inner_ok h h4 hn hk.1 hk.2.1 hT ((row D p.1.1).map Prod.fst) w hw.1 (fun t ht => dGet_key_mem.mpr ht)
          refine ⟨w', bindS (idx_row hk.1 (by rw [h.len]; exact hk.2.1)) (bindS e rfl), q1, fun g => ?_⟩
          rw [q2 g, opA_keys h h1 h4 hk.1, hw.2 g, List.take_succ, hp]
          unfold sumG
          rw [List.map_append, List.sum_append]
          show _ = _ + (p.2 * opA L D g p.1.1 p.1.2 + 0)
          rw [Int.add_zero]) (s0 := []) ⟨⟨List.nodup_nil, fun _ hk => by cases hk⟩, fun g => rfl⟩
      rw [List.length_map, List.take_length] at hw2
      have hl := hw1.len
      obtain ⟨u, eu, qu⟩ := home_sum hw1 w fun _ hp => hp
      refine ⟨_, bindS ew (bindS (show lcG _ _ = some u from (if_pos (by rw [List.length_map, sizeL]; omega)).trans eu) (bindS (app_ok (by show f.length < _; rw [g3, List.length_map, List.length_range, sizeL]; omega)) rfl)), hw1, fun g => ?_, ?_⟩
      · show sumG w g = iterA L D (i + 1) g 0 0
        rw [hw2 g, g2, iterA_in]
        rfl
      · show f ++ [u.sum] = _
        rw [qu, hw2, g2, g3, List.range_succ (n := i + 1), List.map_append]
        refine congrArg (fun z => _ ++ [z]) ?_
        rw [iterA_in]
        rfl
  obtain ⟨r, e, rfl⟩ := key
  exact e
end Z
namespace Z
open PySem PySem.Spec L2
def Q_first_level (doors : (List (List (Int × Int)))) : Option (List (List (Int × Int))) :=
  ((lcO (β := (List (Int × Int))) (fun (steps1 : (List (Int × Int))) => ((lenO steps1).bind fun z4 => (dcS (fun (x3 : (Int × Int)) => (some (some (x3.1, (if (decide (x3.2 = 0)) = true then 1 else 0))) : Option (Option (Int × Int)))) steps1 []).bind fun t6 => some t6)) doors).bind fun t7 => some t7)
def Q_next_level (doors : (List (List (Int × Int)))) (level : (List (List (Int × Int)))) : Option (List (List (Int × Int))) :=
  ((lcT (fun (numbers1 : (List (Int × Int))) => (List.map Prod.snd numbers1).sum) level).bind fun t3 => ((lcO (β := (List (Int × Int))) (fun (steps4 : (List (Int × Int))) => ((lenO steps4).bind fun z10 => (dcS (fun (x6 : (Int × Int)) => (((idx t3 x6.2).bind fun t7 => (idx level x6.2).bind fun t8 => (dGet t8 (-x6.1)).bind fun t9 => some (some (x6.1, (t7 - t9)))) : Option (Option (Int × Int)))) steps4 []).bind fun t12 => some t12)) doors).bind fun t13 => some t13))
def Q_members_by_length (web : (Int × (List (List Int)))) (length : Int) : Option (List Int) :=
  ((Q_doors_of web.2).bind fun t1 => ((Q_first_level t1).bind fun t3 => ((rngO 0 length).bind fun t4 => ((lp (fun (s5 : ((List (List (Int × Int))) × (List Int))) (turn6 : Int) => ((idx s5.1 0).bind fun t10 => (appO s5.2 ((List.map Prod.snd t10).sum)).bind fun t11 => ((Q_next_level t1 s5.1).bind fun t12 => some (t12, t11)))) t4 (t3, [1])).bind fun f7 => some f7.2))))
def Q_members_of_length (web : (Int × (List (List Int)))) (length : Int) : Option Int :=
  ((Q_need_web web).bind fun t1 => ((Q_need_number length 0 ()).bind fun t2 => ((Q_members_by_length web length).bind fun t3 => (idx t3 length).bind fun t4 => some t4)))
def Q_members_to (web : (Int × (List (List Int)))) (length : Int) : Option Int :=
  ((Q_need_web web).bind fun t1 => ((Q_need_number length 0 ()).bind fun t2 => ((Q_members_by_length web length).bind fun t3 => some t3.sum)))
theorem lpRY {α R S β : Type} {f : S → α → Option (Step R S)} {xs : List α} {s0 : S} {k : Sum R S → Option β} {Q : β → Prop} (P : Nat → S → Prop) (h0 : P 0 s0) (step : ∀ (i : Nat) (x : α) (s : S), xs[i]? = some x → P i s → ∃ r, f s x = some r ∧ ∃ s', r = .go s' ∧ P (i + 1) s') (hk : ∀ s, P xs.length s → ∃ r, k (.inr s) = some r ∧ Q r) : ∃ r, (lpR f xs s0).bind k = some r ∧ Q r :=
  lpRX P h0 (fun i x s hx hs => by
    obtain ⟨r, e, s', rfl, h⟩ := step i x s hx hs
    exact ⟨s', e, h⟩) hk
/-! ### members, counted by the program -/
theorem row_of {D : Dd} {d : List (Int × Int)} (h : d ∈ D) : ∃ a : Int, 0 ≤ a ∧ a < D.length ∧ row D a = d := by
  obtain ⟨i, hi⟩ := List.mem_iff_getElem?.mp h
  have hl := (List.getElem?_eq_some_iff.mp hi).1
  refine ⟨(i : Int), by omega, by omega, ?_⟩
  unfold row
  rw [Int.toNat_natCast, List.getD_eq_getElem?_getD, hi]
  rfl
theorem dGet_mapK {κ β γ : Type} [DecidableEq κ] (f : κ → β → γ) (k : κ) : ∀ d : List (κ × β), dGet (d.map fun p => (p.1, f p.1 p.2)) k = (dGet d k).map (f k)
  | [] => rfl
  | p :: d => by
    rw [List.map_cons, dGet_cons, dGet_cons, dGet_mapK f k d]
    by_cases e : p.1 = k
    · rw [if_pos e, if_pos e, ← e]; rfl
    · rw [if_neg e, if_neg e]
def lvl (L : Int) (D : Dd) (j : Nat) : Dd := D.map fun d => d.map fun p => (p.1, iterA L D j homeF p.2 p.1)
theorem first_level_ok {L : Int} {n : Nat} {D : Dd} (h : Dr L n D) (h4 : L ≤ 4) (hn : n ≤ 10000) : Q_first_level D = some (lvl L D 0) := by
  unfold Q_first_level
  refine bindS (lcO_some (fun d => d.map fun p => (p.1, iterA L D 0 homeF p.2 p.1)) (by rw [h.len, sizeL]; omega) (fun d hd => ?_)) rfl
  obtain ⟨a, a0, a1, rfl⟩ := row_of hd
  have hs := h.small h4 a0
  refine bindS (a := ()) (if_pos (by rw [sizeL]; omega)) (bindS (dcS_fresh (k := Prod.fst) (f := fun p => iterA L D 0 homeF p.2 p.1) (fun p hp => ?_) (h.rowok a0) (fun _ _ => rfl)) rfl)
  show some (some (p.1, if decide (p.2 = 0) = true then 1 else 0)) = some (some (p.1, if p.2 = 0 then 1 else 0))
  by_cases e : p.2 = 0
  · rw [if_pos e, if_pos (decide_eq_true e)]
  · rw [if_neg e, if_neg (by simpa using e)]
theorem lvl_row {L : Int} {D : Dd} {j : Nat} {b : Int} (b0 : 0 ≤ b) (b1 : b < D.length) : idx (lvl L D j) b = some ((row D b).map fun p => (p.1, iterA L D j homeF p.2 p.1)) := by
  refine idx_of b0 ?_
  unfold lvl row
  have hb : b.toNat < D.length := by omega
  rw [List.getElem?_map, List.getD_eq_getElem?_getD, List.getElem?_eq_getElem hb]
  rfl
theorem next_level_ok {L : Int} {n : Nat} {D : Dd} (h : Dr L n D) (h1 : 1 ≤ L) (h4 : L ≤ 4) (hn : n ≤ 10000) (j : Nat) : Q_next_level D (lvl L D j) = some (lvl L D (j + 1)) := by
  unfold Q_next_level
  have hll : (lvl L D j).length = n := by unfold lvl; rw [List.length_map, h.len]
  refine bindS (lcT_some _ (by rw [hll, sizeL]; omega)) (bindS (lcO_some (fun d => d.map fun p => (p.1, iterA L D (j + 1) homeF p.2 p.1)) (by rw [h.len, sizeL]; omega) (fun d hd => ?_)) rfl)
  obtain ⟨a, a0, a1, rfl⟩ := row_of hd
  have hs := h.small h4 a0
  have hrn := h.rowok a0
  refine bindS (a := ()) (if_pos (by rw [sizeL]; omega)) (bindS (dcS_fresh (k := Prod.fst) (f := fun p => iterA L D (j + 1) homeF p.2 p.1) (fun p hp => ?_) hrn (fun _ _ => rfl)) rfl)
  have hg : go D a p.1 = some p.2 := mem_dGet hrn hp
  obtain ⟨b0, b1, hs', hb⟩ := h.ok a p.1 p.2 a0 hg
  have b1' : p.2 < D.length := by rw [h.len]; exact b1
  have e1 : idx ((lvl L D j).map fun (numbers1 : List (Int × Int)) => (List.map Prod.snd numbers1).sum) p.2 = some ((row D p.2).map fun q => iterA L D j homeF q.2 q.1).sum := by
    refine idx_of b0 ?_
    have := lvl_row (L := L) (j := j) b0 b1'
    unfold lvl at this ⊢
    unfold row
    have hb' : p.2.toNat < D.length := by omega
    rw [List.getElem?_map, List.getElem?_map, List.getD_eq_getElem?_getD, List.getElem?_eq_getElem hb']
    show some ((D[p.2.toNat].map _).map Prod.snd).sum = _
    rw [List.map_map]
    rfl
  have e2 : dGet ((row D p.2).map fun q => (q.1, iterA L D j homeF q.2 q.1)) (-p.1) = some (iterA L D j homeF a (-p.1)) := by
    rw [dGet_mapK (fun k b => iterA L D j homeF b k), show dGet (row D p.2) (-p.1) = some a from hb]
    rfl
  refine bindS e1 (bindS (lvl_row b0 b1') (bindS e2 ?_))
  rw [opA_diff h h1 h4 b0 hb]
  rfl
theorem members_by_ok {L : Int} {rows : List (List Int)} {D : Dd} (W : Web L rows D) {len : Int} (l0 : 0 ≤ len) (l1 : len ≤ 100000) : Q_members_by_length (L, rows) len = some ((List.range (len.toNat + 1)).map (numA L D)) := by
  have h := W.rep.1
  have n9 := W.n9
  have n1 := W.n1
  have h1 := W.reg.l1
  have h4 := W.reg.l4
  have key : ∃ r, Q_members_by_length (L, rows) len = some r ∧ r = (List.range (len.toNat + 1)).map (numA L D) := by
    unfold Q_members_by_length
    have hlr : (range' 0 len).length = len.toNat := by rw [rng_len, Int.sub_zero]
    refine bndX W.dof (bndX (first_level_ok h h4 (by omega)) (bndX (rngO_ok (by omega)) ?_))
    refine lpX (fun i (s : Dd × List Int) => s.1 = lvl L D i ∧ s.2 = (List.range (i + 1)).map (numA L D)) ⟨rfl, rfl⟩ (fun i x s hx hs => ?_) (fun s hs => ⟨_, rfl, by rw [hs.2, hlr]⟩)
    have hi : i < len.toNat := by
      have := (List.getElem?_eq_some_iff.mp hx).1
      omega
    obtain ⟨lv, f⟩ := s
    obtain ⟨g1, g2⟩ := hs
    have g1 : lv = lvl L D i := g1
    have g2 : f = (List.range (i + 1)).map (numA L D) := g2
    subst g1
    have g2 : f = (List.range (i + 1)).map (numA L D) := g2
    have e1 := lvl_row (L := L) (D := D) (j := i) (b := 0) (Int.le_refl 0) (by rw [h.len]; omega)
    refine ⟨(lvl L D (i + 1), f ++ [numA L D (i + 1)]), bindS e1 (bindS (a := f ++ [numA L D (i + 1)]) ?_ (bindS (next_level_ok h h1 h4 (by omega) i) rfl)), rfl, ?_⟩
    · have : (List.map Prod.snd ((row D 0).map fun p => (p.1, iterA L D i homeF p.2 p.1))).sum = numA L D (i + 1) := by
        rw [List.map_map]
        exact opA_all h h1 h4 (Int.le_refl 0) _
      rw [this]
      exact app_ok (by show f.length < _; rw [g2, List.length_map, List.length_range, sizeL]; omega)
    · rw [g2, List.range_succ (n := i + 1), List.map_append]
      rfl
  obtain ⟨r, e, rfl⟩ := key
  exact e
theorem number_okW {x lo : Int} (h : lo ≤ x) : Q_need_number x lo () = some () := by
  unfold Q_need_number
  exact if_neg (by simp; omega)
theorem members_of_ok {L : Int} {rows : List (List Int)} {D : Dd} (W : Web L rows D) {len : Int} (l0 : 0 ≤ len) (l1 : len ≤ 100000) : Q_members_of_length (L, rows) len = some (numA L D len.toNat) := by
  unfold Q_members_of_length
  refine bindS (need_web_ok W) (bindS (number_okW l0) (bindS (members_by_ok W l0 l1) (bindS (idx_of l0 ?_) rfl)))
  rw [List.getElem?_map, List.getElem?_range (by omega)]
  rfl
theorem members_to_ok {L : Int} {rows : List (List Int)} {D : Dd} (W : Web L rows D) {len : Int} (l0 : 0 ≤ len) (l1 : len ≤ 100000) : Q_members_to (L, rows) len = some ((List.range (len.toNat + 1)).map (numA L D)).sum := by
  unfold Q_members_to
  exact bindS (need_web_ok W) (bindS (number_okW l0) (bindS (members_by_ok W l0 l1) rfl))
end Z
namespace L18
open PySem PySem.Spec L2 Z
/-- steps_of -/
def m_p_steps_of (letters : Int) : Option (List Int) :=
  ((rngO 1 (letters + 1)).bind fun t1 => ((lp (fun (s2 : (List Int)) (letter3 : Int) => ((catO (α := Int) s2 ([letter3, (-letter3)])).bind fun t7 => some t7)) t1 ([] : (List Int))).bind fun f4 => some f4))
/-- is_integer -/
def m_p_is_integer (value : Int) : Option Bool :=
  some (true && true)
/-- is_letters -/
def m_p_is_letters (value : Int) : Option Bool :=
  ((m_p_is_integer value).bind fun t1 => some (t1 && (decide (1 ≤ value) && decide (value ≤ 4))))
/-- is_a_row -/
def m_p_is_a_row (value : (List Int)) (letters : Int) (rooms : Int) : Option Bool :=
  (if (false || (!decide ((value.length : Int) = letters))) = true then some false else ((lcO (β := Bool) (fun (room1 : Int) => ((m_p_is_integer room1).bind fun t3 => some (t3 && (decide ((-1) ≤ room1) && decide (room1 < rooms))))) value).bind fun t4 => some (t4.all id)))
/-- doors_of -/
def m_p_doors_of (rows : (List (List Int))) : Option (List (List (Int × Int))) :=
  ((lenO rows).bind fun z2 => (mapO (fun (row1 : (List Int)) => (some ([] : (List (Int × Int))) : Option (List (Int × Int)))) rows).bind fun t4 => ((lp (fun (s6 : (List (List (Int × Int)))) (x7 : (Int × (List Int))) => ((lp (fun (s11 : (List (List (Int × Int)))) (x12 : (Int × Int)) => ((if (decide (0 ≤ x12.2)) = true then ((idx s11 x7.1).bind fun t16 => (dPutO t16 (x12.1 + 1) x12.2).bind fun t17 => ((idx (setI s11 x7.1 t17) x12.2).bind fun t18 => (dPutO t18 ((-x12.1) - 1) x7.1).bind fun t19 => some (setI (setI s11 x7.1 t17) x12.2 t19))) else some s11 : Option (List (List (Int × Int)))).bind fun s20 => some s20)) (enum x7.2) s6).bind fun f13 => some f13)) (enum rows) t4).bind fun f8 => some f8))
/-- is_one_way -/
def m_p_is_one_way (rows : (List (List Int))) (letters : Int) : Option Bool :=
  ((rngO 0 letters).bind fun t1 => ((lpR (fun (s2 : Unit) (at_3 : Int) => (((lcG (β := Int) (fun (row7 : (List Int)) => ((idx row7 at_3).bind fun t9 => if (decide (0 ≤ t9)) = true then ((idx row7 at_3).bind fun t10 => some (some t10)) else some none)) rows).bind fun t11 => ((lenSetO t11).bind fun t12 => (if (decide (t12 < (t11.length : Int))) = true then some (Step.ret false) else some (Step.go ())))) : Option (Step Bool Unit))) t1 ()).bind fun f4o => Sum.elim (fun r14 => some r14) (fun f4 => some true) f4o))
/-- first_order -/
def m_p_first_order (letters : Int) (doors : (List (List (Int × Int)))) (home : Int) : Option (List Int) :=
  ((wh (fun (s3 : (Int × (List (Int × Bool)) × (List Int))) => some (decide (s3.1 < (s3.2.2.length : Int)))) (fun (s3 : (Int × (List (Int × Bool)) × (List Int))) => (((m_p_steps_of letters).bind fun t7 => ((lp (fun (s8 : ((List (Int × Bool)) × (List Int))) (step9 : Int) => ((idx s8.2 s3.1).bind fun t13 => (idx doors t13).bind fun t14 => (match (dGet t14 step9) with | none => (some (s8.1, s8.2)) | some goal15 => ((if (true && (!(dGet s8.1 goal15).isSome)) = true then ((dPutO s8.1 goal15 true).bind fun t16 => ((appO s8.2 goal15).bind fun t17 => some (t16, t17))) else some (s8.1, s8.2) : Option ((List (Int × Bool)) × (List Int))).bind fun s18 => some (s18.1, s18.2))))) t7 (s3.2.1, s3.2.2)).bind fun f10 => some (Step.go ((s3.1 + 1), f10.1, f10.2)))) : Option (Step (List Int) (Int × (List (Int × Bool)) × (List Int))))) 1000 (0, [(home, true)], [home])).bind fun f4o => Sum.elim (fun r21 => none) (fun f4 => some f4.2.2) f4o)
/-- is_a_web -/
def m_p_is_a_web (value : (Int × (List (List Int)))) : Option Bool :=
  ((if false = true then some true else ((if (!decide (2 = 2)) = true then some true else ((m_p_is_letters value.1).bind fun t1 => some (!t1))).bind fun t2 => some t2)).bind fun t3 => (if t3 = true then some false else (if (false || (decide ((value.2.length : Int) = 0))) = true then some false else ((lcO (β := Bool) (fun (row4 : (List Int)) => ((m_p_is_a_row row4 value.1 (value.2.length : Int)).bind fun t6 => some t6)) value.2).bind fun t7 => (if (!(t7.all id)) = true then some true else ((m_p_is_one_way value.2 value.1).bind fun t8 => some (!t8))).bind fun t9 => (if t9 = true then some false else ((m_p_doors_of value.2).bind fun t10 => ((lcT (fun (steps11 : (List (Int × Int))) => (decide ((steps11.length : Int) < 2))) (cut t10 (some 1) none)).bind fun t13 => (if (t13.any id) = true then some false else ((m_p_first_order value.1 t10 0).bind fun t14 => (rgO 0 (value.2.length : Int)).bind fun t15 => some (decide (t14 = t15)))))))))))
/-- need_web -/
def m_p_need_web (web : (Int × (List (List Int)))) : Option Unit :=
  ((m_p_is_a_web web).bind fun t1 => (if (!t1) = true then none else some ()))
/-- need_number -/
def m_p_need_number (number : Int) (low : Int) (high : Unit) : Option Unit :=
  (if ((decide (number < low)) || false) = true then none else some ())
/-- first_level -/
def m_p_first_level (doors : (List (List (Int × Int)))) : Option (List (List (Int × Int))) :=
  ((lcO (β := (List (Int × Int))) (fun (steps1 : (List (Int × Int))) => ((lenO steps1).bind fun z4 => (dcS (fun (x3 : (Int × Int)) => (some (some (x3.1, (if (decide (x3.2 = 0)) = true then 1 else 0))) : Option (Option (Int × Int)))) steps1 []).bind fun t6 => some t6)) doors).bind fun t7 => some t7)
/-- next_level -/
def m_p_next_level (doors : (List (List (Int × Int)))) (level : (List (List (Int × Int)))) : Option (List (List (Int × Int))) :=
  ((lcT (fun (numbers1 : (List (Int × Int))) => (List.map Prod.snd numbers1).sum) level).bind fun t3 => ((lcO (β := (List (Int × Int))) (fun (steps4 : (List (Int × Int))) => ((lenO steps4).bind fun z10 => (dcS (fun (x6 : (Int × Int)) => (((idx t3 x6.2).bind fun t7 => (idx level x6.2).bind fun t8 => (dGet t8 (-x6.1)).bind fun t9 => some (some (x6.1, (t7 - t9)))) : Option (Option (Int × Int)))) steps4 []).bind fun t12 => some t12)) doors).bind fun t13 => some t13))
/-- members_by_length -/
def m_p_members_by_length (web : (Int × (List (List Int)))) (length : Int) : Option (List Int) :=
  ((m_p_doors_of web.2).bind fun t1 => ((m_p_first_level t1).bind fun t3 => ((rngO 0 length).bind fun t4 => ((lp (fun (s5 : ((List (List (Int × Int))) × (List Int))) (turn6 : Int) => ((idx s5.1 0).bind fun t10 => (appO s5.2 ((List.map Prod.snd t10).sum)).bind fun t11 => ((m_p_next_level t1 s5.1).bind fun t12 => some (t12, t11)))) t4 (t3, [1])).bind fun f7 => some f7.2))))
/-- members_of_length -/
def m_p_members_of_length (web : (Int × (List (List Int)))) (length : Int) : Option Int :=
  ((m_p_need_web web).bind fun t1 => ((m_p_need_number length 0 ()).bind fun t2 => ((m_p_members_by_length web length).bind fun t3 => (idx t3 length).bind fun t4 => some t4)))
/-- members_to -/
def m_p_members_to (web : (Int × (List (List Int)))) (length : Int) : Option Int :=
  ((m_p_need_web web).bind fun t1 => ((m_p_need_number length 0 ()).bind fun t2 => ((m_p_members_by_length web length).bind fun t3 => some t3.sum)))
/-- _law_pot -/
def m_l_pot (script : (List Int)) (k_ : Int) : Option (List Int) :=
  ((if (decide (k_ < (script.length : Int))) = true then ((idx script k_).bind fun t1 => some t1) else some ((29 * k_) + 3) : Option Int).bind fun s2 => ((lp (fun (s3 : Int) (other4 : Int) => ((some (((s3 * 7919) + (other4 % 10000000000000000000009)) % 100000000000000000000000067)).bind fun total8 => some total8)) script (script.length : Int)).bind fun f5 => some [(maxI 0 (s2 - 1000000000000000000)), ((((((absI s2) * 9973) + (2 * f5)) + (if (decide (s2 < 0)) = true then 1 else 0)) + k_) % 10000000000000000000000000331), 0]))
/-- _law_draw -/
def m_l_draw (w_pot_here : (List Int)) (many : Int) : Option (Int × (List Int)) :=
  ((idx w_pot_here 0).bind fun t1 => (if (decide (0 < t1)) = true then ((idx w_pot_here 0).bind fun t2 => (modO t2 many).bind fun t3 => ((idx w_pot_here 0).bind fun t4 => (fdivO t4 many).bind fun t5 => (setO w_pot_here 0 t5).bind fun t6 => some (t3, t6))) else ((idx w_pot_here 2).bind fun t7 => (setO w_pot_here 2 (t7 + 1)).bind fun t8 => ((idx t8 1).bind fun t9 => (idx t8 2).bind fun t10 => (some (((t9 * 524287) + (t10 * 1442695040888963407)) % 10000000000000000000000000331)).bind fun mixed11 => ((mulW mixed11 mixed11).bind fun t13 => (idx t8 2).bind fun t14 => (idx t8 1).bind fun t15 => (some (((t13 + (7046029254386353131 * t14)) + t15) % 100000000000000000000000000319)).bind fun mixed16 => ((mulW mixed16 mixed16).bind fun t18 => ((modO (((t18 + 5) % 1000000000000000000000000000057) / 9001) many).bind fun t19 => some (t19, t8))))))))
/-- _law_steps -/
def m_l_steps (letters : Int) : Option (List Int) :=
  ((rngO 1 (letters + 1)).bind fun t1 => ((lp (fun (s2 : (List Int)) (letter3 : Int) => ((catO (α := Int) s2 ([letter3, (-letter3)])).bind fun t7 => some t7)) t1 ([] : (List Int))).bind fun f4 => some f4))
/-- _law_web -/
def m_l_web (letters : Int) (doors_here : (List (List (Int × Int)))) : Option (Int × (List (List Int))) :=
  ((lenO doors_here).bind fun z2 => (mapO (fun (steps_here1 : (List (Int × Int))) => (some steps_here1 : Option (List (Int × Int)))) doors_here).bind fun t4 => ((rngO 0 (t4.length : Int)).bind fun t6 => ((lp (fun (s7 : (List (List (Int × Int)))) (turn8 : Int) => ((rngO 1 (s7.length : Int)).bind fun t12 => ((lp (fun (s13 : (List (List (Int × Int)))) (room14 : Int) => ((idx s13 room14).bind fun t18 => ((if (decide ((t18.length : Int) = 1)) = true then ((idx s13 room14).bind fun t19 => (idx (List.map Prod.fst t19) 0).bind fun t20 => ((idx s13 room14).bind fun t21 => (dPopO t21 t20).bind fun t22 => ((idx (setI s13 room14 t22.2) t22.1).bind fun t23 => (dPopO t23 (-t20)).bind fun t24 => some (setI (setI s13 room14 t22.2) t22.1 t24.2)))) else some s13 : Option (List (List (Int × Int)))).bind fun s25 => some s25))) t12 s7).bind fun f15 => some f15))) t6 t4).bind fun f9 => ((wh (fun (s30 : (Int × (List Int))) => some (decide (s30.1 < (s30.2.length : Int)))) (fun (s30 : (Int × (List Int))) => (((m_l_steps letters).bind fun t34 => ((lp (fun (s35 : (List Int)) (step36 : Int) => ((idx s35 s30.1).bind fun t40 => (idx f9 t40).bind fun t41 => ((if ((decide (0 ≤ ((dGet t41 step36).getD (-1)))) && (!s35.contains ((dGet t41 step36).getD (-1)))) = true then ((appO s35 ((dGet t41 step36).getD (-1))).bind fun t42 => some t42) else some s35 : Option (List Int)).bind fun s43 => some s43))) t34 s30.2).bind fun f37 => some (Step.go ((s30.1 + 1), f37)))) : Option (Step (Int × (List (List Int))) (Int × (List Int))))) 1000 (0, [0])).bind fun f31o => Sum.elim (fun r64 => none) (fun f31 => ((lp (fun (s46 : (List (List Int))) (room47 : Int) => ((rngO 1 (letters + 1)).bind fun t51 => (lcO (β := Int) (fun (letter52 : Int) => ((idx f9 room47).bind fun t54 => some ((dGet t54 letter52).getD (-1)))) t51).bind fun t55 => ((lcO (β := Int) (fun (goal56 : Int) => ((if (decide (0 ≤ goal56)) = true then ((ixOf f31.2 goal56).bind fun t58 => some ((t58 : Nat) : Int)) else some (-1)).bind fun t59 => some t59)) t55).bind fun t60 => (appO s46 t60).bind fun t61 => some t61))) f31.2 ([] : (List (List Int)))).bind fun f48 => some (letters, f48))) f31o))))
/-- _law_doors -/
def m_l_doors (web_here : (Int × (List (List Int)))) : Option (List (List (Int × Int))) :=
  ((lenO web_here.2).bind fun z2 => (mapO (fun (row1 : (List Int)) => (some ([] : (List (Int × Int))) : Option (List (Int × Int)))) web_here.2).bind fun t4 => ((rngO 0 (t4.length : Int)).bind fun t6 => ((lp (fun (s7 : (List (List (Int × Int)))) (room8 : Int) => ((rngO 0 web_here.1).bind fun t12 => ((lp (fun (s13 : (List (List (Int × Int)))) (at_14 : Int) => ((idx web_here.2 room8).bind fun t18 => (idx t18 at_14).bind fun t19 => ((if (decide (0 ≤ t19)) = true then ((idx s13 room8).bind fun t20 => (dPutO t20 (at_14 + 1) t19).bind fun t21 => ((idx (setI s13 room8 t21) t19).bind fun t22 => (dPutO t22 ((-at_14) - 1) room8).bind fun t23 => some (setI (setI s13 room8 t21) t19 t23))) else some s13 : Option (List (List (Int × Int)))).bind fun s24 => some s24))) t12 s7).bind fun f15 => some f15))) t6 t4).bind fun f9 => some f9)))
/-- _law_straight -/
def m_l_straight (w_pot_here : (List Int)) (letters : Int) (size : Int) : Option ((List Int) × (List Int)) :=
  ((rngO 0 size).bind fun t1 => ((lp (fun (s2 : ((List Int) × (List Int))) (turn3 : Int) => ((m_l_steps letters).bind fun t7 => (lcG (β := Int) (fun (step8 : Int) => ((if (decide (s2.1 = ([] : (List Int)))) = true then some true else ((idx s2.1 (-1)).bind fun t10 => some (!decide (step8 = (-t10))))).bind fun t11 => if t11 = true then some (some step8) else some none)) t7).bind fun t12 => ((m_l_draw s2.2 (t12.length : Int)).bind fun t13 => (idx t12 t13.1).bind fun t14 => (appO s2.1 t14).bind fun t15 => some (t15, t13.2)))) t1 (([] : (List Int)), w_pot_here)).bind fun f4 => some (f4.1, f4.2)))
/-- _law_tables -/
def m_l_tables (w_pot_here : (List Int)) (letters : Int) (count : Int) (gaps : Int) : Option ((List (List (Int × Int))) × (List Int)) :=
  ((rngO 0 count).bind fun t1 => (lenO t1).bind fun z3 => (mapO (fun (room2 : Int) => (some ([] : (List (Int × Int))) : Option (List (Int × Int)))) t1).bind fun t5 => ((rngO 1 (letters + 1)).bind fun t7 => ((lp (fun (s8 : ((List (List (Int × Int))) × (List Int))) (letter9 : Int) => ((rgO 0 count).bind fun t13 => ((rngO 0 count).bind fun t14 => ((lp (fun (s15 : ((List Int) × (List (List (Int × Int))) × (List Int))) (room16 : Int) => ((m_l_draw s15.2.2 (s15.1.length : Int)).bind fun t20 => (popI s15.1 t20.1).bind fun t21 => ((if (decide (gaps = 0)) = true then some (true, t20.2) else ((m_l_draw t20.2 gaps).bind fun t22 => some ((decide (0 < t22.1)), t22.2))).bind fun t23 => ((if t23.1 = true then ((idx s15.2.1 room16).bind fun t24 => (dPutO t24 letter9 t21.1).bind fun t25 => ((idx (setI s15.2.1 room16 t25) t21.1).bind fun t26 => (dPutO t26 (-letter9) room16).bind fun t27 => some (setI (setI s15.2.1 room16 t25) t21.1 t27))) else some s15.2.1 : Option (List (List (Int × Int)))).bind fun s28 => some (t21.2, s28, t23.2))))) t14 (t13, s8.1, s8.2)).bind fun f17 => some (f17.2.1, f17.2.2))))) t7 (t5, w_pot_here)).bind fun f10 => some (f10.1, f10.2))))
/-- _law_rings -/
def m_l_rings (walks : (List (List Int))) : Option (List (List (Int × Int))) :=
  ((lp (fun (s2 : (Int × (List (Tri Int Int Int)))) (walk3 : (List Int)) => ((rngO 0 ((walk3.length : Int) - 1)).bind fun t7 => (lcT (fun (k_8 : Int) => (s2.1 + k_8)) t7).bind fun t10 => (catO (α := Int) ([0]) t10).bind fun t11 => (catO (α := Int) t11 ([0])).bind fun t12 => ((rngO 0 (walk3.length : Int)).bind fun t13 => ((lp (fun (s14 : (List (Tri Int Int Int))) (k_15 : Int) => ((idx t12 k_15).bind fun t19 => (idx walk3 k_15).bind fun t20 => (idx t12 (k_15 + 1)).bind fun t21 => (appO s14 (Tri.mk t19 t20 t21)).bind fun t22 => ((idx t12 (k_15 + 1)).bind fun t23 => (idx walk3 k_15).bind fun t24 => (idx t12 k_15).bind fun t25 => (appO t22 (Tri.mk t23 (-t24) t25)).bind fun t26 => some t26))) t13 s2.2).bind fun f16 => some (((s2.1 + (walk3.length : Int)) - 1), f16))))) walks (1, ([] : (List (Tri Int Int Int))))).bind fun f4 => ((rgO 0 f4.1).bind fun t30 => ((rngO 0 f4.1).bind fun t33 => ((lp (fun (s34 : ((List Int) × (List (List (Int × Int))))) (turn35 : Int) => ((rngO 0 f4.1).bind fun t39 => (lenO t39).bind fun z41 => (mapO (fun (room40 : Int) => (some ([] : (List (Int × Int))) : Option (List (Int × Int)))) t39).bind fun t43 => ((lp (fun (s45 : ((List Int) × (List (List (Int × Int))))) (x46 : (Tri Int Int Int)) => ((idx s45.1 x46.a).bind fun t50 => (idx s45.1 x46.c).bind fun t51 => ((idx s45.2 t50).bind fun t52 => (dSetO t52 x46.b t51).bind fun t53 => ((if (!decide (t53.1 = t51)) = true then ((lcT (fun (head54 : Int) => (if (decide (head54 = (maxI t53.1 t51))) = true then (minI t53.1 t51) else head54)) s45.1).bind fun t56 => some t56) else some s45.1 : Option (List Int)).bind fun s57 => some (s57, (setI s45.2 t50 t53.2)))))) f4.2 (s34.1, t43)).bind fun f47 => some (f47.1, f47.2)))) t33 (t30, ([] : (List (List (Int × Int)))))).bind fun f36 => some f36.2))))
/-- _law_drawn -/
def m_l_drawn (w_pot_here : (List Int)) (most : Int) (top : Int) : Option ((Int × (List (List Int))) × (List Int)) :=
  ((m_l_draw w_pot_here top).bind fun t1 => ((m_l_draw t1.2 9).bind fun t2 => (if (decide (t2.1 = 0)) = true then ((repT ([(-1)]) (1 + t1.1)).bind fun t3 => some (((1 + t1.1), [t3]), t2.2)) else (if (decide (t2.1 < 5)) = true then ((m_l_draw t2.2 3).bind fun t5 => (rngO 0 (1 + t5.1)).bind fun t6 => ((lp (fun (s7 : (Int × (List Int) × (List (List Int)))) (turn8 : Int) => ((if (decide (0 < s7.1)) = true then ((m_l_draw s7.2.1 s7.1).bind fun t12 => ((m_l_straight t12.2 (1 + t1.1) (1 + t12.1)).bind fun t13 => (appO s7.2.2 t13.1).bind fun t14 => some ((s7.1 - (1 + t12.1)), t13.2, t14))) else some (s7.1, s7.2.1, s7.2.2) : Option (Int × (List Int) × (List (List Int)))).bind fun s15 => some (s15.1, s15.2.1, s15.2.2))) t6 (most, t5.2, ([] : (List (List Int))))).bind fun f9 => ((m_l_rings f9.2.2).bind fun t17 => (m_l_web (1 + t1.1) t17).bind fun t18 => some (t18, f9.2.1)))) else ((m_l_draw t2.2 5).bind fun t20 => (idx ([0, 0, 2, 3, 6]) t20.1).bind fun t21 => ((m_l_draw t20.2 most).bind fun t22 => (m_l_tables t22.2 (1 + t1.1) (1 + t22.1) t21).bind fun t23 => (m_l_web (1 + t1.1) t23.1).bind fun t24 => some (t24, t23.2)))))))
/-- _law_numbers -/
def m_l_numbers (doors_here : (List (List (Int × Int)))) (most : Int) : Option (List Int) :=
  ((rngO 0 most).bind fun t2 => ((lp (fun (s3 : ((List ((Int × Int) × Int)) × (List Int))) (length4 : Int) => ((lp (fun (s8 : (List ((Int × Int) × Int))) (x9 : (Int × Int)) => ((idx doors_here x9.1).bind fun t13 => ((lp (fun (s14 : (List ((Int × Int) × Int))) (step15 : Int) => ((if (!decide (step15 = (-x9.2))) = true then ((idx doors_here x9.1).bind fun t19 => (dGet t19 step15).bind fun t20 => ((dGet s3.1 (x9.1, x9.2)).bind fun t21 => (dPutO s14 (t20, step15) (((dGet s14 (t20, step15)).getD 0) + t21)).bind fun t22 => some t22)) else some s14 : Option (List ((Int × Int) × Int))).bind fun s23 => some s23)) (List.map Prod.fst t13) s8).bind fun f16 => some f16))) (List.map Prod.fst s3.1) ([] : (List ((Int × Int) × Int)))).bind fun f10 => ((lcG (β := Int) (fun (place27 : (Int × Int)) => if (decide (place27.1 = 0)) = true then ((dGet f10 place27).bind fun t29 => some (some t29)) else some none) (List.map Prod.fst f10)).bind fun t30 => (appO s3.2 t30.sum).bind fun t31 => some (f10, t31)))) t2 ([((0, 0), 1)], [1])).bind fun f5 => some f5.2))
/-- _law_is_integer -/
def m_l_is_integer (found : Int) (due : Int) : Option Bool :=
  some (true && (true && (decide (found = due))))
/-- _law_one_right -/
def m_l_one_right (web_here : (Int × (List (List Int)))) (due : (List Int)) (length : Int) : Option Bool :=
  ((m_p_members_of_length web_here length).bind fun t1 => (idx due length).bind fun t2 => (m_l_is_integer t1 t2).bind fun t3 => (if (!t3) = true then some false else ((m_p_members_to web_here length).bind fun t4 => (m_l_is_integer t4 ((cut due none (some (length + 1))).sum)).bind fun t5 => (if (!t5) = true then some false else ((m_p_members_of_length web_here length).bind fun t6 => (idx due length).bind fun t7 => (m_l_is_integer t6 t7).bind fun t8 => (if (!t8) = true then some false else ((m_p_members_to web_here length).bind fun t9 => (m_l_is_integer t9 ((cut due none (some (length + 1))).sum)).bind fun t10 => some t10)))))))
/-- law -/
def m_l_law (script : (List Int)) : Option Bool :=
  ((rngO 0 (maxI 1 (minI 4 (script.length : Int)))).bind fun t1 => ((lpR (fun (s2 : (List ((Int × (List (List Int))) × (List Int)))) (k_3 : Int) => (((m_l_pot script k_3).bind fun t7 => ((m_l_drawn t7 12 4).bind fun t8 => ((m_l_draw t8.2 3).bind fun t9 => (idx ([6, 20, 100]) t9.1).bind fun t10 => ((m_l_doors t8.1).bind fun t11 => (m_l_numbers t11 t10).bind fun t12 => ((appO s2 (t8.1, t12)).bind fun t13 => ((m_l_draw t9.2 (t10 + 1)).bind fun t14 => (m_l_draw t14.2 (t10 + 1)).bind fun t15 => ((rngO 0 (([t10, 0, 1, t14.1, t15.1]).length : Int)).bind fun t16 => ((lpR (fun (s17 : ((List Int) × (List Int))) (turn18 : Int) => (((m_l_draw s17.2 (s17.1.length : Int)).bind fun t22 => (popI s17.1 t22.1).bind fun t23 => ((m_l_one_right t8.1 t12 t23.1).bind fun t24 => (if (!t24) = true then some (Step.ret false) else some (Step.go (t23.2, t22.2))))) : Option (Step Bool ((List Int) × (List Int))))) t16 ([t10, 0, 1, t14.1, t15.1], t15.2)).bind fun f19o => Sum.elim (fun r30 => some (Step.ret r30)) (fun f19 => ((m_l_draw f19.2 (t13.length : Int)).bind fun t26 => (idx t13 t26.1).bind fun t27 => ((m_l_draw t26.2 (t27.2.length : Int)).bind fun t28 => (m_l_one_right t27.1 t27.2 t28.1).bind fun t29 => (if (!t29) = true then some (Step.ret false) else some (Step.go t13))))) f19o)))))))) : Option (Step Bool (List ((Int × (List (List Int))) × (List Int)))))) t1 ([] : (List ((Int × (List (List Int))) × (List Int))))).bind fun f4o => Sum.elim (fun r33 => some r33) (fun f4 => some true) f4o))
end L18
namespace L18
open PySem PySem.Spec PyProof.Rows L2 Z
def top (i : Nat) : Stmt := PySem.Challenge.pw_walkclubs_k18_members_of_each_length.main.body.getD i (.Pass ⟨0, 0, 0, 0⟩)
/-! ### steps_of -/
abbrev s_p_steps_of : Stmt := top 5
def N_p_steps_of : List Str := ["letters", "found", "letter"]
def V_p_steps_of : List Str := ["letters", "found", "letter"]
def G_p_steps_of : List Str := ["range"]
theorem sc_p_steps_of : FnScope N_p_steps_of ["letters"] (defScope s_p_steps_of) := ⟨rfl, rfl, rfl, by decide +kernel, rfl, by decide +kernel, by decide +kernel⟩
abbrev sp_p_steps_of (K : PySem.W.Frag) : Sp := spZ (α := Int) (β := (List Int)) (fun a => [(dat (PyData.int a))]) (fun a => []) (fun a => m_p_steps_of a) (fun a b => (dat (PyData.list (List.map PyData.int b)))) (fun a b => [])
set_option maxHeartbeats 4000000 in
theorem body_p_steps_of {X : Cx} (hsc : X.env.scope = defScope s_p_steps_of) {sts_ : List Stmt} (hst_ : defBody s_p_steps_of = sts_) (B : Bd X N_p_steps_of V_p_steps_of G_p_steps_of 0) (T : Bt X V_p_steps_of) (g_range : X.mg "range" = none) (letters : Int) (b : (List Int)) (F0 : Hp) (os : Os) (D : Ends) (hm : m_p_steps_of letters = some b) (R : RetZ F0 (os) (dat (PyData.list (List.map PyData.int b))) D) :
    SX X [sl (dat (PyData.int letters)), un, un] (os) F0 sts_ D := by
  subst hst_
  unfold m_p_steps_of at hm
  refine sx_asgN (i := 1) (vi := 1) (n := ol (List.map PyData.int ([] : (List Int)))) B T rfl rfl (en_lst (ds := []) ax_nil) (fun q_found0 => ?_)
  obtain ⟨t1, h1, hm⟩ := bnd hm
  obtain ⟨f4, h8, hm⟩ := bnd hm
  refine sx_for (c := anyOs) _ (fun (s2 : (List Int)) (_ : Unit) => [sl (dat (PyData.int letters)), sl (own q_found0), un]) (fun (s2 : (List Int)) (_ : Unit) => (q_found0, ol (List.map PyData.int s2)) :: os) B T (fun letter3 => gx_name (i := 2) (vi := 2) (φ := (dat (PyData.int letter3))) B T rfl rfl) ([] : (List Int)) () f4 h8 (ix_rng2 (gi := 0) B rfl g_range h1 ex_int (ex_add (ex_v (i := 0) (j := 0) B rfl rfl rfl) ex_int)) ⟨.inl rfl, .inl rfl, .inl rfl, trivial⟩ (fun _ _ => trivial) (fun F6 e5 s2 _ letter3 z9 hx hm => ?_) (fun _ => ?_)
  · clear h8
    obtain ⟨t7, h7, hm⟩ := bnd hm
    refine sx_expr (ex_extend (enc := PyData.int) (j := 0) (xs0 := s2) (xs := s2) (ys := ([letter3, (-letter3)])) h7 (ex_v (i := 1) (j := 1) B rfl rfl rfl) rfl (en_lst (ds := [(PyData.int letter3), (PyData.int (-letter3))]) (hl := len_ok (n := 2) rfl) (ax_cons (ex_v (i := 2) (j := 2) B rfl rfl rfl) (ax_cons (ex_neg (ex_v (i := 2) (j := 2) B rfl rfl rfl)) ax_nil))) rfl) ?_
    obtain rfl := som hm
    exact sx_nil fun σ H a => ⟨(), (a.weak ⟨.inl rfl, .inl rfl, .inr rfl, trivial⟩)⟩
  · skip
    refine sx_frz (j := 0) (i := 1) rfl rfl ?_
    obtain rfl := som hm
    exact sx_ret (ex_v (i := 1) (j := 1) B rfl rfl rfl) (fun F H v e o c => R.rt F H v e o c)
theorem cal_p_steps_of {P : Program} {w : World} {K : PySem.W.Frag} {mg : Str → Option Value} {base : Heap} {f : Addr} {fd : FuncData} (Fn : Fun K "steps_of" "steps_of" s_p_steps_of f fd) (hmg : mg "steps_of" = some (.ref f)) (hb : Binds K fd ["letters"] []) (g_range : mg "range" = none) : Cal P w K mg base 1 "steps_of" s_p_steps_of ["letters"] (sp_p_steps_of K) := by
  obtain ⟨sts_, hst_⟩ : ∃ z_, defBody s_p_steps_of = z_ := ⟨_, rfl⟩
  exact cal_ZQ (V := V_p_steps_of) (Gs := G_p_steps_of) (nl := 2) hst_ Fn sc_p_steps_of (by decide +kernel) (by decide +kernel) hmg hb (fun _ => rfl) rfl fun _ _ _ _ _ _ _ a b F0 os D B T hm R => body_p_steps_of rfl hst_ B T g_range a b F0 os D hm R
/-! ### is_integer -/
abbrev s_p_is_integer : Stmt := top 8
def N_p_is_integer : List Str := ["value"]
def V_p_is_integer : List Str := ["value"]
def G_p_is_integer : List Str := ["isinstance", "int", "bool"]
theorem sc_p_is_integer : FnScope N_p_is_integer ["value"] (defScope s_p_is_integer) := ⟨rfl, rfl, rfl, by decide +kernel, rfl, by decide +kernel, by decide +kernel⟩
abbrev sp_p_is_integer (K : PySem.W.Frag) : Sp := spZ (α := Int) (β := Bool) (fun a => [(dat (PyData.int a))]) (fun a => []) (fun a => m_p_is_integer a) (fun a b => (dat (PyData.bool b))) (fun a b => [])
set_option maxHeartbeats 4000000 in
theorem body_p_is_integer {X : Cx} (hsc : X.env.scope = defScope s_p_is_integer) {sts_ : List Stmt} (hst_ : defBody s_p_is_integer = sts_) (B : Bd X N_p_is_integer V_p_is_integer G_p_is_integer 0) (T : Bt X V_p_is_integer) (g_isinstance : X.mg "isinstance" = none) (g_int : X.mg "int" = none) (g_bool : X.mg "bool" = none) (value : Int) (b : Bool) (F0 : Hp) (os : Os) (D : Ends) (hm : m_p_is_integer value = some b) (R : RetZ F0 (os) (dat (PyData.bool b)) D) :
    SX X [sl (dat (PyData.int value))] (os) F0 sts_ D := by
  subst hst_
  unfold m_p_is_integer at hm
  obtain rfl := som hm
  exact sx_ret (ex_and (ex_fn (j := 0) B rfl g_isinstance (by decide +kernel) call_isi (rc_isi (d := (PyData.int value)) (T := "int") (show kitB "int" "int" = some true by decide +kernel)) (ax_cons (ex_v (i := 0) (j := 0) B rfl rfl rfl) (ax_cons (ex_tyname (T := "int") (gi := 1) B rfl g_int (by decide +kernel)) ax_nil))) (fun _ => (ex_one (ex_not (ex_fn (j := 0) B rfl g_isinstance (by decide +kernel) call_isi (rc_isi (d := (PyData.int value)) (T := "bool") (show kitB "int" "bool" = some false by decide +kernel)) (ax_cons (ex_v (i := 0) (j := 0) B rfl rfl rfl) (ax_cons (ex_tyname (T := "bool") (gi := 2) B rfl g_bool (by decide +kernel)) ax_nil)))))) (fun _ => rfl) rfl) (fun F H v e o c => R.rt F H v e o c)
theorem cal_p_is_integer {P : Program} {w : World} {K : PySem.W.Frag} {mg : Str → Option Value} {base : Heap} {f : Addr} {fd : FuncData} (Fn : Fun K "is_integer" "is_integer" s_p_is_integer f fd) (hmg : mg "is_integer" = some (.ref f)) (hb : Binds K fd ["value"] []) (g_isinstance : mg "isinstance" = none) (g_int : mg "int" = none) (g_bool : mg "bool" = none) : Cal P w K mg base 1 "is_integer" s_p_is_integer ["value"] (sp_p_is_integer K) := by
  obtain ⟨sts_, hst_⟩ : ∃ z_, defBody s_p_is_integer = z_ := ⟨_, rfl⟩
  exact cal_ZQ (V := V_p_is_integer) (Gs := G_p_is_integer) (nl := 0) hst_ Fn sc_p_is_integer (by decide +kernel) (by decide +kernel) hmg hb (fun _ => rfl) rfl fun _ _ _ _ _ _ _ a b F0 os D B T hm R => body_p_is_integer rfl hst_ B T g_isinstance g_int g_bool a b F0 os D hm R
/-! ### is_letters -/
abbrev s_p_is_letters : Stmt := top 10
def N_p_is_letters : List Str := ["value"]
def V_p_is_letters : List Str := ["value"]
def G_p_is_letters : List Str := ["is_integer", "MOST_LETTERS"]
theorem sc_p_is_letters : FnScope N_p_is_letters ["value"] (defScope s_p_is_letters) := ⟨rfl, rfl, rfl, by decide +kernel, rfl, by decide +kernel, by decide +kernel⟩
abbrev sp_p_is_letters (K : PySem.W.Frag) : Sp := spZ (α := Int) (β := Bool) (fun a => [(dat (PyData.int a))]) (fun a => []) (fun a => m_p_is_letters a) (fun a b => (dat (PyData.bool b))) (fun a b => [])
set_option maxHeartbeats 4000000 in
theorem body_p_is_letters {X : Cx} (hsc : X.env.scope = defScope s_p_is_letters) {sts_ : List Stmt} (hst_ : defBody s_p_is_letters = sts_) (B : Bd X N_p_is_letters V_p_is_letters G_p_is_letters 1) (T : Bt X V_p_is_letters) {tk_MOST_LETTERS : Tok} (c_p_is_integer : Cal X.prog X.w X.K X.mg X.base 1 "is_integer" s_p_is_integer ["value"] (sp_p_is_integer X.K)) (g_MOST_LETTERS : X.mg "MOST_LETTERS" = some (.int 4 tk_MOST_LETTERS)) (value : Int) (b : Bool) (F0 : Hp) (os : Os) (D : Ends) (hm : m_p_is_letters value = some b) (R : RetZ F0 (os) (dat (PyData.bool b)) D) :
    SX X [sl (dat (PyData.int value))] (os) F0 sts_ D := by
  subst hst_
  unfold m_p_is_letters at hm
  obtain ⟨t1, h1, hm⟩ := bnd hm
  obtain rfl := som hm
  exact sx_ret (ex_and (ex_call (a := value) (b := t1) (gi := 0) (rest := os) B rfl c_p_is_integer (by decide) h1 (ax_cons (ex_v (i := 0) (j := 0) B rfl rfl rfl) ax_nil)) (fun _ => (ex_one (ex_chain op_le op_le r2_le r2_le (fun _ => rfl) ex_int (ex_v (i := 0) (j := 0) B rfl rfl rfl) (fun _ => (ex_g (j := 1) B rfl g_MOST_LETTERS))))) (fun _ => rfl) rfl) (fun F H v e o c => R.rt F H v e o c)
theorem cal_p_is_letters {P : Program} {w : World} {K : PySem.W.Frag} {mg : Str → Option Value} {base : Heap} {f : Addr} {fd : FuncData} (Fn : Fun K "is_letters" "is_letters" s_p_is_letters f fd) (hmg : mg "is_letters" = some (.ref f)) (hb : Binds K fd ["value"] []) {tk_MOST_LETTERS : Tok} (c_p_is_integer : Cal P w K mg base 1 "is_integer" s_p_is_integer ["value"] (sp_p_is_integer K)) (g_MOST_LETTERS : mg "MOST_LETTERS" = some (.int 4 tk_MOST_LETTERS)) : Cal P w K mg base 2 "is_letters" s_p_is_letters ["value"] (sp_p_is_letters K) := by
  obtain ⟨sts_, hst_⟩ : ∃ z_, defBody s_p_is_letters = z_ := ⟨_, rfl⟩
  exact cal_ZQ (V := V_p_is_letters) (Gs := G_p_is_letters) (nl := 0) hst_ Fn sc_p_is_letters (by decide +kernel) (by decide +kernel) hmg hb (fun _ => rfl) rfl fun _ _ _ _ _ _ _ a b F0 os D B T hm R => body_p_is_letters rfl hst_ B T c_p_is_integer g_MOST_LETTERS a b F0 os D hm R
/-! ### is_a_row -/
abbrev s_p_is_a_row : Stmt := top 11
def N_p_is_a_row : List Str := ["value", "letters", "rooms", "room"]
def V_p_is_a_row : List Str := ["value", "letters", "rooms"]
def G_p_is_a_row : List Str := ["isinstance", "tuple", "len", "all"]
theorem sc_p_is_a_row : FnScope N_p_is_a_row ["value", "letters", "rooms"] (defScope s_p_is_a_row) := ⟨rfl, rfl, rfl, by decide +kernel, rfl, by decide +kernel, by decide +kernel⟩
abbrev sp_p_is_a_row (K : PySem.W.Frag) : Sp := spZ (α := ((List Int) × Int × Int)) (β := Bool) (fun a => [(dat (PyData.tuple (List.map PyData.int a.1))), (dat (PyData.int a.2.1)), (dat (PyData.int a.2.2))]) (fun a => []) (fun a => m_p_is_a_row a.1 a.2.1 a.2.2) (fun a b => (dat (PyData.bool b))) (fun a b => [])
set_option maxHeartbeats 4000000 in
theorem body_p_is_a_row {X : Cx} (hsc : X.env.scope = defScope s_p_is_a_row) {sts_ : List Stmt} (hst_ : defBody s_p_is_a_row = sts_) (B : Bd X N_p_is_a_row V_p_is_a_row G_p_is_a_row 1) (T : Bt X V_p_is_a_row) (g_isinstance : X.mg "isinstance" = none) (g_tuple : X.mg "tuple" = none) (g_len : X.mg "len" = none) (g_all : X.mg "all" = none) (c_p_is_integer : Cal X.prog X.w X.K X.mg X.base 1 "is_integer" s_p_is_integer ["value"] (sp_p_is_integer X.K)) (value : (List Int)) (letters : Int) (rooms : Int) (b : Bool) (F0 : Hp) (os : Os) (D : Ends) (hm : m_p_is_a_row value letters rooms = some b) (R : RetZ F0 (os) (dat (PyData.bool b)) D) :
    SX X [sl (dat (PyData.tuple (List.map PyData.int value))), sl (dat (PyData.int letters)), sl (dat (PyData.int rooms)), un] (os) F0 sts_ D := by
  subst hst_
  unfold m_p_is_a_row at hm
  refine sx_if (WX.tx (wx_or (tx_not (tx_val (ex_fn (j := 0) B rfl g_isinstance (by decide +kernel) call_isi (rc_isi (d := (PyData.tuple (List.map PyData.int value))) (T := "tuple") (show kitB "tuple" "tuple" = some true by decide +kernel)) (ax_cons (ex_v (i := 0) (j := 0) B rfl rfl rfl) (ax_cons (ex_tyname (T := "tuple") (gi := 1) B rfl g_tuple (by decide +kernel)) ax_nil))) (by intro _; rfl))) (fun _ => (wx_or1 (tx_cmp op_ne r2_neI (nomark _) (EX.to (ex_fn (j := 2) B rfl g_len (by decide +kernel) call_len_seq (rc_lenT (ds := List.map PyData.int value) rdt_dat) (ax_cons (ex_v (i := 0) (j := 0) B rfl rfl rfl) ax_nil)) (by rw [List.length_map])) (ex_v (i := 1) (j := 1) B rfl rfl rfl)))) (fun _ => rfl) rfl)) (fun hk => ?_) (fun hk => ?_)
  · have hm := ifT hm hk
    obtain rfl := som hm
    exact sx_ret ex_bool (fun F H v e o c => R.rt F H v e o c)
  · have hm := ifF hm hk
    refine sx_fall ?_ rfl
    obtain ⟨t4, h4, hm⟩ := bnd hm
    obtain rfl := som hm
    exact sx_ret (ex_fn (j := 3) B rfl g_all (by decide +kernel) (cr_all B.calm) (rc_all rdl_dat) (ax_cons (EN.ex (en_lc (lc_mk1 (j := 3) (vp := fun room1 => (dat (PyData.int room1))) (c := anyOs) (enc := PyData.bool) (fun (_ : Unit) (room1 : Int) => ((fun (room1 : Int) => ((m_p_is_integer room1).bind fun t3 => some (t3 && (decide ((-1) ≤ room1) && decide (room1 < rooms))))) room1).map fun y => (some y, ())) (fun (_ : Unit) (tl1 : Os) => tl1) () (t4) () B rfl rfl (by rw [B.hN, hsc]; decide +kernel) (by rw [hsc]; decide +kernel) (by decide) (lcO_ok h4) (ix_tup (enc := PyData.int) (ex_v (i := 0) (j := 0) B rfl rfl rfl) rdt_dat) (fun _ _ => trivial) (fun _ _ _ => List.Perm.refl _) (fun _ room1 t tl1 hx hf => by (obtain ⟨y, hy, rfl⟩ := Option.map_eq_some_iff.mp hf; obtain ⟨t3, h3, hy⟩ := bnd hy; obtain rfl := som hy; exact ⟨true, _, fun X1 hX => by (have B1 := Bd.fam (W' := ["rooms", "room"]) (G' := ["is_integer"]) B hX (by (try rw [hsc]); decide +kernel); have c_p_is_integer' := fam_cal hX c_p_is_integer; exact ⟨.nil, fun _ => ⟨_, rfl, (ex_and (ex_call (a := room1) (b := t3) (gi := 0) (rest := tl1) B1 rfl c_p_is_integer' (by decide) h3 (ax_cons (ex_v (i := 3) (j := 1) B1 rfl rfl rfl) ax_nil)) (fun _ => (ex_one (ex_chain op_le op_lt r2_le r2_lt (fun _ => rfl) (ex_neg ex_int) (ex_v (i := 3) (j := 1) B1 rfl rfl rfl) (fun _ => (ex_v (i := 2) (j := 0) B1 rfl rfl rfl))))) (fun _ => rfl) rfl)⟩, fun h => Bool.noConfusion h⟩)⟩))))) ax_nil)) (fun F H v e o c => R.rt F H v e o c)
theorem cal_p_is_a_row {P : Program} {w : World} {K : PySem.W.Frag} {mg : Str → Option Value} {base : Heap} {f : Addr} {fd : FuncData} (Fn : Fun K "is_a_row" "is_a_row" s_p_is_a_row f fd) (hmg : mg "is_a_row" = some (.ref f)) (hb : Binds K fd ["value", "letters", "rooms"] []) (g_isinstance : mg "isinstance" = none) (g_tuple : mg "tuple" = none) (g_len : mg "len" = none) (g_all : mg "all" = none) (c_p_is_integer : Cal P w K mg base 1 "is_integer" s_p_is_integer ["value"] (sp_p_is_integer K)) : Cal P w K mg base 2 "is_a_row" s_p_is_a_row ["value", "letters", "rooms"] (sp_p_is_a_row K) := by
  obtain ⟨sts_, hst_⟩ : ∃ z_, defBody s_p_is_a_row = z_ := ⟨_, rfl⟩
  exact cal_ZQ (V := V_p_is_a_row) (Gs := G_p_is_a_row) (nl := 1) hst_ Fn sc_p_is_a_row (by decide +kernel) (by decide +kernel) hmg hb (fun _ => rfl) rfl fun _ _ _ _ _ _ _ a b F0 os D B T hm R => body_p_is_a_row rfl hst_ B T g_isinstance g_tuple g_len g_all c_p_is_integer a.1 a.2.1 a.2.2 b F0 os D hm R
/-! ### doors_of -/
abbrev s_p_doors_of : Stmt := top 12
def N_p_doors_of : List Str := ["rows", "found", "room", "row", "at", "goal"]
def V_p_doors_of : List Str := ["rows", "found", "room", "row", "at", "goal"]
def G_p_doors_of : List Str := ["enumerate"]
theorem sc_p_doors_of : FnScope N_p_doors_of ["rows"] (defScope s_p_doors_of) := ⟨rfl, rfl, rfl, by decide +kernel, rfl, by decide +kernel, by decide +kernel⟩
abbrev sp_p_doors_of (K : PySem.W.Frag) : Sp := spZ (α := (List (List Int))) (β := (List (List (Int × Int)))) (fun a => [(dat (PyData.tuple (List.map (eT PyData.int) a)))]) (fun a => []) (fun a => m_p_doors_of a) (fun a b => (dat (PyData.list (List.map (eD kI PyData.int) b)))) (fun a b => [])
set_option maxHeartbeats 4000000 in
theorem body_p_doors_of {X : Cx} (hsc : X.env.scope = defScope s_p_doors_of) {sts_ : List Stmt} (hst_ : defBody s_p_doors_of = sts_) (B : Bd X N_p_doors_of V_p_doors_of G_p_doors_of 0) (T : Bt X V_p_doors_of) (g_enumerate : X.mg "enumerate" = none) (rows : (List (List Int))) (b : (List (List (Int × Int)))) (F0 : Hp) (os : Os) (D : Ends) (hm : m_p_doors_of rows = some b) (R : RetZ F0 (os) (dat (PyData.list (List.map (eD kI PyData.int) b))) D) :
    SX X [sl (dat (PyData.tuple (List.map (eT PyData.int) rows))), un, un, un, un, un] (os) F0 sts_ D := by
  subst hst_
  unfold m_p_doors_of at hm
  obtain ⟨z2, h3, hm⟩ := bnd hm
  obtain ⟨t4, h4, hm⟩ := bnd hm
  refine sx_asgLcN (i := 1) B T rfl (by rw [hsc]; exact lcl_of (by decide +kernel)) (f := (odT kI PyData.int)) (m := (fun (row1 : (List Int)) => (some ([] : (List (Int × Int))) : Option (List (Int × Int)))))  (cp_mk1 (j := 3) (vp := fun row1 => (dat (PyData.tuple (List.map PyData.int row1)))) (c := anyOs) B rfl rfl (by rw [B.hN, hsc]; decide +kernel) (by rw [hsc]; decide +kernel) (lenO_ok h3) (ix_tup (enc := (eT PyData.int)) (ex_v (i := 0) (j := 0) B rfl rfl rfl) rdt_dat) (fun _ => trivial)) h4 (fun row1 t q1 hx hf X1 hX => by (obtain rfl := som hf; have B1 := Bd.fam (W' := []) (G' := []) B hX (by (try rw [hsc]); decide +kernel); exact (en_dnew (kd := kI)))) (sw_ok (by rw [hsc]; decide +kernel) (by rw [hsc]; exact lcl_of (by decide +kernel)) (by decide) (by decide +kernel)) (fun q_found4 => ?_)
  refine sx_open 0 rfl (fun k_5 => ?_)
  obtain ⟨f8, h23, hm⟩ := bnd hm
  refine sx_for (c := anyOs) _ (fun (s6 : (List (List (Int × Int)))) (_ : Unit) => [sl (dat (PyData.tuple (List.map (eT PyData.int) rows))), sl (own q_found4), un, un, un, un]) (fun (s6 : (List (List (Int × Int)))) (_ : Unit) => (q_found4, onl k_5 (List.map (odT kI PyData.int) s6)) :: os) B T (fun x7 => gx_pair B (gx_name (i := 2) (vi := 2) (φ := (dat (PyData.int x7.1))) B T rfl rfl) (gx_name (i := 3) (vi := 3) (φ := (dat (PyData.tuple (List.map PyData.int x7.2)))) B T rfl rfl)) t4 () f8 h23 (ix_enumT (enc := (eT PyData.int)) (gi := 0) B rfl g_enumerate (ex_v (i := 0) (j := 0) B rfl rfl rfl) rdt_dat) ⟨.inl rfl, .inl rfl, .inl rfl, .inl rfl, .inl rfl, .inl rfl, trivial⟩ (fun _ _ => trivial) (fun F10 e9 s6 _ x7 z24 hx hm => ?_) (fun _ => ?_)
  · clear h23
    obtain ⟨f13, h21, hm⟩ := bnd hm
    refine sx_for (c := anyOs) _ (fun (s11 : (List (List (Int × Int)))) (_ : Unit) => [sl (dat (PyData.tuple (List.map (eT PyData.int) rows))), sl (own q_found4), sl (dat (PyData.int x7.1)), sl (dat (PyData.tuple (List.map PyData.int x7.2))), un, un]) (fun (s11 : (List (List (Int × Int)))) (_ : Unit) => (q_found4, onl k_5 (List.map (odT kI PyData.int) s11)) :: os) B T (fun x12 => gx_pair B (gx_name (i := 4) (vi := 4) (φ := (dat (PyData.int x12.1))) B T rfl rfl) (gx_name (i := 5) (vi := 5) (φ := (dat (PyData.int x12.2))) B T rfl rfl)) s6 () f13 h21 (ix_enumT (enc := PyData.int) (gi := 0) B rfl g_enumerate (ex_v (i := 3) (j := 3) B rfl rfl rfl) rdt_dat) ⟨.inl rfl, .inl rfl, .inl rfl, .inl rfl, .inl rfl, .inl rfl, trivial⟩ (fun _ _ => trivial) (fun F15 e14 s11 _ x12 z22 hx hm => ?_) (fun _ => ?_)
    · clear h21
      obtain ⟨s20, h_s20, hm⟩ := bnd hm
      refine sx_join [sl (dat (PyData.tuple (List.map (eT PyData.int) rows))), sl (own q_found4), sl (dat (PyData.int x7.1)), sl (dat (PyData.tuple (List.map PyData.int x7.2))), sl (dat (PyData.int x12.1)), sl (dat (PyData.int x12.2))] ((q_found4, onl k_5 (List.map (odT kI PyData.int) s20)) :: os) (?_) (fun Q => ?_)
      · clear h_s20
        obtain rfl := som hm
        exact sx_nil fun σ H a => ⟨(), (a.weak ⟨.inl rfl, .inl rfl, .inl rfl, .inl rfl, .inr rfl, .inr rfl, trivial⟩)⟩
      · have hm := h_s20
        refine sx_if (tx_cmp op_ge r2_ge (nomark _) (ex_v (i := 5) (j := 5) B rfl rfl rfl) ex_int) (fun hk => ?_) (fun hk => ?_)
        · have hm := ifT hm hk
          obtain ⟨t16, h16, hm⟩ := bnd hm
          obtain ⟨t17, h17, hm⟩ := bnd hm
          refine sx_dput (kd := kI) (enc := PyData.int) (w := t16) (x := x12.2) inj_kI h17 B (ex_v (i := 5) (j := 5) B rfl rfl rfl) (ex_nst (f := (odT kI PyData.int)) (ws := s11) 0 h16 rfl (ex_v (i := 1) (j := 1) B rfl rfl rfl) (ex_v (i := 2) (j := 2) B rfl rfl rfl)) (ex_add (ex_v (i := 4) (j := 4) B rfl rfl rfl) ex_int) (wr_nest (f := (odT kI PyData.int)) (ws := s11) 0 rfl h16) ?_
          obtain ⟨t18, h18, hm⟩ := bnd hm
          obtain ⟨t19, h19, hm⟩ := bnd hm
          refine sx_dput (kd := kI) (enc := PyData.int) (w := t18) (x := x7.1) inj_kI h19 B (ex_v (i := 2) (j := 2) B rfl rfl rfl) (ex_nst (f := (odT kI PyData.int)) (ws := (setI s11 x7.1 t17)) 0 h18 rfl (ex_v (i := 1) (j := 1) B rfl rfl rfl) (ex_v (i := 5) (j := 5) B rfl rfl rfl)) (ex_sub (ex_neg (ex_v (i := 4) (j := 4) B rfl rfl rfl)) ex_int) (wr_nest (f := (odT kI PyData.int)) (ws := (setI s11 x7.1 t17)) 0 rfl h18) ?_
          obtain rfl := som hm
          exact sx_fall Q rfl
        · have hm := ifF hm hk
          obtain rfl := som hm
          exact sx_fall Q rfl
    · skip
      obtain rfl := som hm
      exact sx_nil fun σ H a => ⟨(), (a.weak ⟨.inl rfl, .inl rfl, .inr rfl, .inr rfl, .inl rfl, .inl rfl, trivial⟩)⟩
  · skip
    refine sx_frzF (j := 0) (i := 1) (frb_onl (fun _ => frb_od)) rfl rfl ?_
    obtain rfl := som hm
    exact sx_ret (ex_v (i := 1) (j := 1) B rfl rfl rfl) (fun F H v e o c => R.rt F H v e o c)
theorem cal_p_doors_of {P : Program} {w : World} {K : PySem.W.Frag} {mg : Str → Option Value} {base : Heap} {f : Addr} {fd : FuncData} (Fn : Fun K "doors_of" "doors_of" s_p_doors_of f fd) (hmg : mg "doors_of" = some (.ref f)) (hb : Binds K fd ["rows"] []) (g_enumerate : mg "enumerate" = none) : Cal P w K mg base 1 "doors_of" s_p_doors_of ["rows"] (sp_p_doors_of K) := by
  obtain ⟨sts_, hst_⟩ : ∃ z_, defBody s_p_doors_of = z_ := ⟨_, rfl⟩
  exact cal_ZQ (V := V_p_doors_of) (Gs := G_p_doors_of) (nl := 5) hst_ Fn sc_p_doors_of (by decide +kernel) (by decide +kernel) hmg hb (fun _ => rfl) rfl fun _ _ _ _ _ _ _ a b F0 os D B T hm R => body_p_doors_of rfl hst_ B T g_enumerate a b F0 os D hm R
/-! ### is_one_way -/
abbrev s_p_is_one_way : Stmt := top 13
def N_p_is_one_way : List Str := ["rows", "letters", "at", "goals", "row"]
def V_p_is_one_way : List Str := ["rows", "letters", "at", "goals"]
def G_p_is_one_way : List Str := ["range", "len", "set"]
theorem sc_p_is_one_way : FnScope N_p_is_one_way ["rows", "letters"] (defScope s_p_is_one_way) := ⟨rfl, rfl, rfl, by decide +kernel, rfl, by decide +kernel, by decide +kernel⟩
abbrev sp_p_is_one_way (K : PySem.W.Frag) : Sp := spZ (α := ((List (List Int)) × Int)) (β := Bool) (fun a => [(dat (PyData.tuple (List.map (eT PyData.int) a.1))), (dat (PyData.int a.2))]) (fun a => []) (fun a => m_p_is_one_way a.1 a.2) (fun a b => (dat (PyData.bool b))) (fun a b => [])
set_option maxHeartbeats 4000000 in
theorem body_p_is_one_way {X : Cx} (hsc : X.env.scope = defScope s_p_is_one_way) {sts_ : List Stmt} (hst_ : defBody s_p_is_one_way = sts_) (B : Bd X N_p_is_one_way V_p_is_one_way G_p_is_one_way 0) (T : Bt X V_p_is_one_way) (g_range : X.mg "range" = none) (g_len : X.mg "len" = none) (g_set : X.mg "set" = none) (rows : (List (List Int))) (letters : Int) (b : Bool) (F0 : Hp) (os : Os) (D : Ends) (hm : m_p_is_one_way rows letters = some b) (R : RetZ F0 (os) (dat (PyData.bool b)) D) :
    SX X [sl (dat (PyData.tuple (List.map (eT PyData.int) rows))), sl (dat (PyData.int letters)), un, un, un] (os) F0 sts_ D := by
  subst hst_
  unfold m_p_is_one_way at hm
  obtain ⟨t1, h1, hm⟩ := bnd hm
  obtain ⟨f4o, h13, hm⟩ := bnd hm
  refine sx_forR (c := anyOs) _ (fun (s2 : Unit) (_ : Unit) => [sl (dat (PyData.tuple (List.map (eT PyData.int) rows))), sl (dat (PyData.int letters)), un, un, un]) (fun (s2 : Unit) (_ : Unit) => os) (fun (r : Bool) v H => ∃ F, Same F0 F ∧ Ow F (os) H ∧ Cl (dat (PyData.bool r)) F v) B T (fun at_3 => gx_name (i := 2) (vi := 2) (φ := (dat (PyData.int at_3))) B T rfl rfl) () () f4o h13 (ix_rng1 (gi := 0) B rfl g_range h1 (ex_v (i := 1) (j := 1) B rfl rfl rfl)) ⟨.inl rfl, .inl rfl, .inl rfl, .inl rfl, .inl rfl, trivial⟩ (fun _ _ => trivial) (fun F6 e5 s2 _ at_3 z15 hx hm2 => ?_) (fun f4 _ ho => ?_) (fun r14 v H ho hr => ?_)
  · clear hm h13
    have hm := hm2
    obtain ⟨t11, h11, hm⟩ := bnd hm
    refine sx_asgLc (i := 3) B T rfl (by rw [hsc]; exact lcl_of (by decide +kernel)) (lc_mk1 (j := 4) (vp := fun row7 => (dat (PyData.tuple (List.map PyData.int row7)))) (c := anyOs) (enc := PyData.int) (fun (_ : Unit) (row7 : (List Int)) => ((fun (row7 : (List Int)) => ((idx row7 at_3).bind fun t9 => if (decide (0 ≤ t9)) = true then ((idx row7 at_3).bind fun t10 => some (some t10)) else some none)) row7).map fun y => (y, ())) (fun (_ : Unit) (tl1 : Os) => tl1) () (t11) () B rfl rfl (by rw [B.hN, hsc]; decide +kernel) (by rw [hsc]; decide +kernel) (by decide) (lcG_ok h11) (ix_tup (enc := (eT PyData.int)) (ex_v (i := 0) (j := 0) B rfl rfl rfl) rdt_dat) (fun _ _ => trivial) (fun _ _ _ => List.Perm.refl _) (fun _ row7 t tl1 hx hf => by (obtain ⟨y, hy, rfl⟩ := Option.map_eq_some_iff.mp hf; obtain ⟨t9, h9, hy⟩ := bnd hy; cases hc : (decide (0 ≤ t9)) with | true => (have hy := ifT hy hc; obtain ⟨t10, h10, hy⟩ := bnd hy; obtain rfl := som hy; exact ⟨true, _, fun X1 hX => by (have B1 := Bd.fam (W' := ["at", "row"]) (G' := []) B hX (by (try rw [hsc]); decide +kernel); exact ⟨.one (TX.to (tx_cmp op_ge r2_ge (nomark _) (ex_idxT (enc := PyData.int) h9 rdt_dat (ex_v (i := 4) (j := 1) B1 rfl rfl rfl) (ex_v (i := 2) (j := 0) B1 rfl rfl rfl)) ex_int) hc), fun _ => ⟨_, rfl, (ex_idxT (enc := PyData.int) h10 rdt_dat (ex_v (i := 4) (j := 1) B1 rfl rfl rfl) (ex_v (i := 2) (j := 0) B1 rfl rfl rfl))⟩, fun h => Bool.noConfusion h⟩)⟩) | false => (have hy := ifF hy hc; obtain rfl := som hy; exact ⟨false, _, fun X1 hX => by (have B1 := Bd.fam (W' := ["at", "row"]) (G' := []) B hX (by (try rw [hsc]); decide +kernel); exact ⟨.one (TX.to (tx_cmp op_ge r2_ge (nomark _) (ex_idxT (enc := PyData.int) h9 rdt_dat (ex_v (i := 4) (j := 1) B1 rfl rfl rfl) (ex_v (i := 2) (j := 0) B1 rfl rfl rfl)) ex_int) hc), fun h => Bool.noConfusion h, fun _ => ⟨rfl, rfl⟩⟩)⟩)))) (sw_ok (by rw [hsc]; decide +kernel) (by rw [hsc]; exact lcl_of (by decide +kernel)) (by decide) (by decide +kernel)) (fun q_goals11 => ?_)
    refine sx_frz (j := 0) (i := 3) rfl rfl ?_
    obtain ⟨t12, h12, hm⟩ := bnd hm
    refine sx_if (tx_cmp op_lt r2_lt (nomark _) (ex_lenSet (gi := 1) (gj := 2) B rfl g_len rfl g_set h12 rdl_dat (ex_v (i := 3) (j := 3) B rfl rfl rfl)) (EX.to (ex_fn (j := 1) B rfl g_len (by decide +kernel) call_len_seq (rc_lenL (ds := List.map PyData.int t11) rdl_dat) (ax_cons (ex_v (i := 3) (j := 3) B rfl rfl rfl) ax_nil)) (by rw [List.length_map]))) (fun hk => ?_) (fun hk => ?_)
    · have hm := ifT hm hk
      exact sx_ret ex_bool (fun F H v e o c => ⟨_, (som hm).symm, F, (e5.trans e), o, c⟩)
    · have hm := ifF hm hk
      refine sx_fall ?_ rfl
      exact sx_nil fun σ H a => ⟨_, (), (som hm).symm, (a.weak ⟨.inl rfl, .inl rfl, .inr rfl, .inr rfl, .inl rfl, trivial⟩)⟩
  · cases ho
    have hm := elimR hm
    obtain rfl := som hm
    exact sx_ret ex_bool (fun F H v e o c => R.rt F H v e o c)
  · cases ho
    have hm := elimL hm
    obtain rfl := som hm
    obtain ⟨F, e, o, c⟩ := hr
    exact R.rt F H v e o c
theorem cal_p_is_one_way {P : Program} {w : World} {K : PySem.W.Frag} {mg : Str → Option Value} {base : Heap} {f : Addr} {fd : FuncData} (Fn : Fun K "is_one_way" "is_one_way" s_p_is_one_way f fd) (hmg : mg "is_one_way" = some (.ref f)) (hb : Binds K fd ["rows", "letters"] []) (g_range : mg "range" = none) (g_len : mg "len" = none) (g_set : mg "set" = none) : Cal P w K mg base 1 "is_one_way" s_p_is_one_way ["rows", "letters"] (sp_p_is_one_way K) := by
  obtain ⟨sts_, hst_⟩ : ∃ z_, defBody s_p_is_one_way = z_ := ⟨_, rfl⟩
  exact cal_ZQ (V := V_p_is_one_way) (Gs := G_p_is_one_way) (nl := 3) hst_ Fn sc_p_is_one_way (by decide +kernel) (by decide +kernel) hmg hb (fun _ => rfl) rfl fun _ _ _ _ _ _ _ a b F0 os D B T hm R => body_p_is_one_way rfl hst_ B T g_range g_len g_set a.1 a.2 b F0 os D hm R
/-! ### first_order -/
abbrev s_p_first_order : Stmt := top 14
def N_p_first_order : List Str := ["letters", "doors", "home", "order", "met", "at", "step", "goal"]
def V_p_first_order : List Str := ["letters", "doors", "home", "order", "met", "at", "step", "goal"]
def G_p_first_order : List Str := ["len", "steps_of"]
theorem sc_p_first_order : FnScope N_p_first_order ["letters", "doors", "home"] (defScope s_p_first_order) := ⟨rfl, rfl, rfl, by decide +kernel, rfl, by decide +kernel, by decide +kernel⟩
abbrev sp_p_first_order (K : PySem.W.Frag) : Sp := spZ (α := (Int × (List (List (Int × Int))) × Int)) (β := (List Int)) (fun a => [(dat (PyData.int a.1)), (dat (PyData.list (List.map (eD kI PyData.int) a.2.1))), (dat (PyData.int a.2.2))]) (fun a => []) (fun a => m_p_first_order a.1 a.2.1 a.2.2) (fun a b => (dat (PyData.list (List.map PyData.int b)))) (fun a b => [])
set_option maxHeartbeats 4000000 in
theorem body_p_first_order {X : Cx} (hsc : X.env.scope = defScope s_p_first_order) {sts_ : List Stmt} (hst_ : defBody s_p_first_order = sts_) (B : Bd X N_p_first_order V_p_first_order G_p_first_order 1) (T : Bt X V_p_first_order) (g_len : X.mg "len" = none) (c_p_steps_of : Cal X.prog X.w X.K X.mg X.base 1 "steps_of" s_p_steps_of ["letters"] (sp_p_steps_of X.K)) (letters : Int) (doors : (List (List (Int × Int)))) (home : Int) (b : (List Int)) (F0 : Hp) (os : Os) (D : Ends) (hm : m_p_first_order letters doors home = some b) (R : RetZ F0 (os) (dat (PyData.list (List.map PyData.int b))) D) :
    SX X [sl (dat (PyData.int letters)), sl (dat (PyData.list (List.map (eD kI PyData.int) doors))), sl (dat (PyData.int home)), un, un, un, un, un] (os) F0 sts_ D := by
  subst hst_
  unfold m_p_first_order at hm
  refine sx_par3 (i := 3) (j := 4) (l := 5) _ hsc B rfl rfl rfl (by decide) (by decide) (by decide) (by decide +kernel) (by decide +kernel) (by decide +kernel) (by intro env he; cases env; cases he; first | rfl | kernel_rfl) (aq_n (n := ol (List.map PyData.int ([home]))) (en_lst (ds := [(PyData.int home)]) (hl := len_ok (n := 1) rfl) (ax_cons (ex_v (i := 2) (j := 2) B rfl rfl rfl) ax_nil)) (fun q_order1 => (aq_n (n := od kI (eM PyData.bool ([(home, true)]))) (en_disp1 (f := Sum.inl) (enc := PyData.bool) (k' := home) (x' := true) inj_kI (fun qd => (ex_v (i := 2) (j := 2) B rfl rfl rfl)) (fun qd => ex_bool)) (fun q_met2 => (aq_x (φ := (dat (PyData.int 0))) ex_int aq_nil))))) (fun v0 v1 v2 os_ hr_ => ?_) (by rintro φs os_ ⟨q_order1, _, rfl, q_met2, _, rfl, _, rfl, rfl, rfl⟩; exact ⟨_, _, _, rfl⟩)
  obtain ⟨q_order1, _, e0, q_met2, _, e1, _, e2, e8, e9⟩ := hr_
  cases e0; cases e1; cases e2; cases e8; cases e9
  obtain ⟨f4o, h22, hm⟩ := bnd hm
  refine sx_while _ _ (fun (s3 : (Int × (List (Int × Bool)) × (List Int))) (_ : Unit) => [sl (dat (PyData.int letters)), sl (dat (PyData.list (List.map (eD kI PyData.int) doors))), sl (dat (PyData.int home)), sl (own q_order1), sl (own q_met2), sl (dat (PyData.int s3.1)), un, un]) (fun (s3 : (Int × (List (Int × Bool)) × (List Int))) (_ : Unit) => (q_met2, od kI (eM PyData.bool s3.2.1)) :: (q_order1, ol (List.map PyData.int s3.2.2)) :: os) (fun (r : (List Int)) v H => ∃ F, Same F0 F ∧ Ow F (os) H ∧ Cl (dat (PyData.list (List.map PyData.int r))) F v) T 1000 (0, [(home, true)], [home]) () f4o h22 ⟨.inl rfl, .inl rfl, .inl rfl, .inl rfl, .inl rfl, .inl rfl, .inl rfl, .inl rfl, trivial⟩ rfl (fun s3 _ b hm => by (obtain rfl := som hm; exact (tx_cmp op_lt r2_lt (nomark _) (ex_v (i := 5) (j := 5) B rfl rfl rfl) (EX.to (ex_fn (j := 0) B rfl g_len (by decide +kernel) call_len_seq (rc_lenL (ds := List.map PyData.int s3.2.2) (rdl_own 1 rfl)) (ax_cons (ex_v (i := 3) (j := 3) B rfl rfl rfl) ax_nil)) (by rw [List.length_map]))))) (fun F6 e5 s3 _ z23 _ hm => ?_) (fun f4 _ ho => ?_) (fun r21 v H ho hr => ?_)
  · clear h22
    obtain ⟨t7, h7, hm⟩ := bnd hm
    obtain ⟨f10, h19, hm⟩ := bnd hm
    refine sx_for (c := anyOs) _ (fun (s8 : ((List (Int × Bool)) × (List Int))) (_ : Unit) => [sl (dat (PyData.int letters)), sl (dat (PyData.list (List.map (eD kI PyData.int) doors))), sl (dat (PyData.int home)), sl (own q_order1), sl (own q_met2), sl (dat (PyData.int s3.1)), un, un]) (fun (s8 : ((List (Int × Bool)) × (List Int))) (_ : Unit) => (q_met2, od kI (eM PyData.bool s8.1)) :: (q_order1, ol (List.map PyData.int s8.2)) :: os) B T (fun step9 => gx_name (i := 6) (vi := 6) (φ := (dat (PyData.int step9))) B T rfl rfl) (s3.2.1, s3.2.2) () f10 h19 (ix_list (enc := PyData.int) (c := anyOs) (ex_call (a := letters) (b := t7) (gi := 1) (rest := (q_met2, od kI (eM PyData.bool s3.2.1)) :: (q_order1, ol (List.map PyData.int s3.2.2)) :: os) B rfl c_p_steps_of (by decide) h7 (ax_cons (ex_v (i := 0) (j := 0) B rfl rfl rfl) ax_nil)) (fun _ _ => rdl_dat) trivial) ⟨.inl rfl, .inl rfl, .inl rfl, .inl rfl, .inl rfl, .inl rfl, .inl rfl, .inl rfl, trivial⟩ (fun _ _ => trivial) (fun F12 e11 s8 _ step9 z20 hx hm => ?_) (fun _ => ?_)
    · clear h19
      obtain ⟨t13, h13, hm⟩ := bnd hm
      obtain ⟨t14, h14, hm⟩ := bnd hm
      refine sx_asg (i := 7) (vi := 7) (φ := (dat ((eO PyData.int) (dGet t14 step9)))) B T rfl rfl (ex_dget1 (kd := kI) (enc := PyData.int) (w := t14) (k := step9) inj_kI B rdd_dat rdd_dat (ex_idxL (enc := (eD kI PyData.int)) h14 rdl_dat (ex_v (i := 1) (j := 1) B rfl rfl rfl) (ex_idxL (enc := PyData.int) h13 (rdl_own 1 rfl) (ex_v (i := 3) (j := 3) B rfl rfl rfl) (ex_v (i := 5) (j := 5) B rfl rfl rfl))) (ex_v (i := 6) (j := 6) B rfl rfl rfl)) ?_
      cases hq18 : (dGet t14 step9) with
      | none =>
        rw [hq18] at hm
        refine sx_if (WX.tx (wx_and (l := false) (tx_cmp op_notN (r2_notN (d := PyData.none) (t := false) rfl) (nomark _) (ex_v (i := 7) (j := 7) B rfl rfl rfl) ex_none) (fun hk => Bool.noConfusion hk) (fun _ => rfl) rfl)) (fun hk => Bool.noConfusion hk) (fun _ => ?_)
        refine sx_fall ?_ rfl
        obtain rfl := som hm
        exact sx_nil fun σ H a => ⟨(), (a.weak ⟨.inl rfl, .inl rfl, .inl rfl, .inl rfl, .inl rfl, .inl rfl, .inr rfl, .inr rfl, trivial⟩)⟩
      | some goal15 =>
        rw [hq18] at hm
        obtain ⟨s18, h_s18, hm⟩ := bnd hm
        refine sx_join [sl (dat (PyData.int letters)), sl (dat (PyData.list (List.map (eD kI PyData.int) doors))), sl (dat (PyData.int home)), sl (own q_order1), sl (own q_met2), sl (dat (PyData.int s3.1)), sl (dat (PyData.int step9)), sl (dat (PyData.int goal15))] ((q_met2, od kI (eM PyData.bool s18.1)) :: (q_order1, ol (List.map PyData.int s18.2)) :: os) (?_) (fun Q => ?_)
        · clear h_s18
          obtain rfl := som hm
          exact sx_nil fun σ H a => ⟨(), (a.weak ⟨.inl rfl, .inl rfl, .inl rfl, .inl rfl, .inl rfl, .inl rfl, .inr rfl, .inr rfl, trivial⟩)⟩
        · have hm := h_s18
          refine sx_if (WX.tx (wx_and (tx_cmp op_notN (r2_notN (d := (PyData.int goal15)) (t := true) rfl) (nomark _) (ex_v (i := 7) (j := 7) B rfl rfl rfl) ex_none) (fun _ => (wx_and1 (tx_dnotin (kd := kI) (enc := PyData.bool) (w := s8.1) (k := goal15) inj_kI B (rdd_own 0 rfl) (ex_v (i := 7) (j := 7) B rfl rfl rfl) (ex_v (i := 4) (j := 4) B rfl rfl rfl)))) (fun _ => rfl) rfl)) (fun hk => ?_) (fun hk => ?_)
          · have hm := ifT hm hk
            obtain ⟨t16, h16, hm⟩ := bnd hm
            refine sx_dput (kd := kI) (enc := PyData.bool) (w := s8.1) (x := true) inj_kI h16 B ex_bool (ex_v (i := 4) (j := 4) B rfl rfl rfl) (ex_v (i := 7) (j := 7) B rfl rfl rfl) (wr_flat (f := (odT kI PyData.bool)) (d := s8.1) 0 rfl) ?_
            obtain ⟨t17, h17, hm⟩ := bnd hm
            refine sx_expr (ex_app (enc := PyData.int) (j := 1) (xs0 := s8.2) (xs := s8.2) (y := goal15) h17 (ex_v (i := 3) (j := 3) B rfl rfl rfl) rfl (ex_v (i := 7) (j := 7) B rfl rfl rfl) rfl) ?_
            obtain rfl := som hm
            exact sx_fall Q rfl
          · have hm := ifF hm hk
            obtain rfl := som hm
            exact sx_fall Q rfl
    · skip
      refine sx_addI (i := 5) (vi := 5) B T rfl rfl rfl ex_int ?_
      exact sx_nil fun σ H a => ⟨_, (), (som hm).symm, (a.weak ⟨.inl rfl, .inl rfl, .inl rfl, .inl rfl, .inl rfl, .inl rfl, .inl rfl, .inl rfl, trivial⟩)⟩
  · cases ho
    have hm := elimR hm
    refine sx_frz (j := 1) (i := 3) rfl rfl ?_
    obtain rfl := som hm
    exact sx_ret (ex_v (i := 3) (j := 3) B rfl rfl rfl) (fun F H v e o c => R.rt F H v e (o.drop) c)
  · cases ho
    have hm := elimL hm
    cases hm
theorem cal_p_first_order {P : Program} {w : World} {K : PySem.W.Frag} {mg : Str → Option Value} {base : Heap} {f : Addr} {fd : FuncData} (Fn : Fun K "first_order" "first_order" s_p_first_order f fd) (hmg : mg "first_order" = some (.ref f)) (hb : Binds K fd ["letters", "doors", "home"] []) (g_len : mg "len" = none) (c_p_steps_of : Cal P w K mg base 1 "steps_of" s_p_steps_of ["letters"] (sp_p_steps_of K)) : Cal P w K mg base 2 "first_order" s_p_first_order ["letters", "doors", "home"] (sp_p_first_order K) := by
  obtain ⟨sts_, hst_⟩ : ∃ z_, defBody s_p_first_order = z_ := ⟨_, rfl⟩
  exact cal_ZQ (V := V_p_first_order) (Gs := G_p_first_order) (nl := 5) hst_ Fn sc_p_first_order (by decide +kernel) (by decide +kernel) hmg hb (fun _ => rfl) rfl fun _ _ _ _ _ _ _ a b F0 os D B T hm R => body_p_first_order rfl hst_ B T g_len c_p_steps_of a.1 a.2.1 a.2.2 b F0 os D hm R
/-! ### is_a_web -/
abbrev s_p_is_a_web : Stmt := top 15
def N_p_is_a_web : List Str := ["value", "letters", "rows", "doors", "row", "steps"]
def V_p_is_a_web : List Str := ["value", "letters", "rows", "doors"]
def G_p_is_a_web : List Str := ["isinstance", "tuple", "len", "is_letters", "all", "is_one_way", "doors_of", "any", "first_order", "list", "range"]
theorem sc_p_is_a_web : FnScope N_p_is_a_web ["value"] (defScope s_p_is_a_web) := ⟨rfl, rfl, rfl, by decide +kernel, rfl, by decide +kernel, by decide +kernel⟩
abbrev sp_p_is_a_web (K : PySem.W.Frag) : Sp := spZ (α := (Int × (List (List Int)))) (β := Bool) (fun a => [(dat (PyData.tuple [(PyData.int a.1), (PyData.tuple (List.map (eT PyData.int) a.2))]))]) (fun a => []) (fun a => m_p_is_a_web a) (fun a b => (dat (PyData.bool b))) (fun a b => [])
set_option maxHeartbeats 4000000 in
theorem body_p_is_a_web {X : Cx} (hsc : X.env.scope = defScope s_p_is_a_web) {sts_ : List Stmt} (hst_ : defBody s_p_is_a_web = sts_) (B : Bd X N_p_is_a_web V_p_is_a_web G_p_is_a_web 2) (T : Bt X V_p_is_a_web) (g_isinstance : X.mg "isinstance" = none) (g_tuple : X.mg "tuple" = none) (g_len : X.mg "len" = none) (c_p_is_letters : Cal X.prog X.w X.K X.mg X.base 2 "is_letters" s_p_is_letters ["value"] (sp_p_is_letters X.K)) (g_all : X.mg "all" = none) (c_p_is_a_row : Cal X.prog X.w X.K X.mg X.base 2 "is_a_row" s_p_is_a_row ["value", "letters", "rooms"] (sp_p_is_a_row X.K)) (c_p_is_one_way : Cal X.prog X.w X.K X.mg X.base 1 "is_one_way" s_p_is_one_way ["rows", "letters"] (sp_p_is_one_way X.K)) (c_p_doors_of : Cal X.prog X.w X.K X.mg X.base 1 "doors_of" s_p_doors_of ["rows"] (sp_p_doors_of X.K)) (g_any : X.mg "any" = none) (c_p_first_order : Cal X.prog X.w X.K X.mg X.base 2 "first_order" s_p_first_order ["letters", "doors", "home"] (sp_p_first_order X.K)) (g_list : X.mg "list" = none) (g_range : X.mg "range" = none) (value : (Int × (List (List Int)))) (b : Bool) (F0 : Hp) (os : Os) (D : Ends) (hm : m_p_is_a_web value = some b) (R : RetZ F0 (os) (dat (PyData.bool b)) D) :
    SX X [sl (dat (PyData.tuple [(PyData.int value.1), (PyData.tuple (List.map (eT PyData.int) value.2))])), un, un, un, un, un] (os) F0 sts_ D := by
  subst hst_
  unfold m_p_is_a_web at hm
  obtain ⟨t3, h3, hm⟩ := bnd hm
  refine sx_if (WX.tx (wx_or (l := t3) (os2 := os) (tx_not (tx_val (ex_fn (j := 0) B rfl g_isinstance (by decide +kernel) call_isi (rc_isi (d := (PyData.tuple [(PyData.int value.1), (PyData.tuple (List.map (eT PyData.int) value.2))])) (T := "tuple") (show kitB "tuple" "tuple" = some true by decide +kernel)) (ax_cons (ex_v (i := 0) (j := 0) B rfl rfl rfl) (ax_cons (ex_tyname (T := "tuple") (gi := 1) B rfl g_tuple (by decide +kernel)) ax_nil))) (by intro _; rfl))) (fun hk => by (have hm := ifF h3 hk; obtain ⟨t2, h2, hm⟩ := bnd hm; obtain rfl := som hm; exact (wx_or (l := t2) (os2 := os) (tx_cmp op_ne r2_neI (nomark _) (ex_fn (j := 2) B rfl g_len (by decide +kernel) call_len_seq rc_len2 (ax_cons (ex_v (i := 0) (j := 0) B rfl rfl rfl) ax_nil)) ex_int) (fun hk => by (have hm := ifF h2 hk; obtain ⟨t1, h1, hm⟩ := bnd hm; obtain rfl := som hm; exact (wx_or1 (tx_not (tx_val (ex_call (a := value.1) (b := t1) (gi := 3) (rest := os) B rfl c_p_is_letters (by decide) h1 (ax_cons (ex_ixT rdt_dat (by rfl) (ex_v (i := 0) (j := 0) B rfl rfl rfl) ex_int) ax_nil)) (by intro _; rfl)))))) (fun hk => by (have hm := ifT h2 hk; obtain rfl := som hm; rfl)) (or_fix (fun hk => by (have hm := ifT h2 hk; obtain rfl := som hm; rfl)))))) (fun hk => by (have hm := ifT h3 hk; obtain rfl := som hm; rfl)) (or_fix (fun hk => by (have hm := ifT h3 hk; obtain rfl := som hm; rfl))))) (fun hk => ?_) (fun hk => ?_)
  · have hm := ifT hm hk
    obtain rfl := som hm
    exact sx_ret ex_bool (fun F H v e o c => R.rt F H v e o c)
  · have hm := ifF hm hk
    refine sx_fall ?_ rfl
    refine sx_unp (gx_pair B (gx_name (i := 1) (vi := 1) B T rfl rfl) (gx_name (i := 2) (vi := 2) B T rfl rfl)) (ex_v (i := 0) (j := 0) B rfl rfl rfl) ?_
    refine sx_if (WX.tx (wx_or (tx_not (tx_val (ex_fn (j := 0) B rfl g_isinstance (by decide +kernel) call_isi (rc_isi (d := (PyData.tuple (List.map (eT PyData.int) value.2))) (T := "tuple") (show kitB "tuple" "tuple" = some true by decide +kernel)) (ax_cons (ex_v (i := 2) (j := 2) B rfl rfl rfl) (ax_cons (ex_tyname (T := "tuple") (gi := 1) B rfl g_tuple (by decide +kernel)) ax_nil))) (by intro _; rfl))) (fun _ => (wx_or1 (tx_cmp op_eq r2_eqI (nomark _) (EX.to (ex_fn (j := 2) B rfl g_len (by decide +kernel) call_len_seq (rc_lenT (ds := List.map (eT PyData.int) value.2) rdt_dat) (ax_cons (ex_v (i := 2) (j := 2) B rfl rfl rfl) ax_nil)) (by rw [List.length_map])) ex_int))) (fun _ => rfl) rfl)) (fun hk => ?_) (fun hk => ?_)
    · have hm := ifT hm hk
      obtain rfl := som hm
      exact sx_ret ex_bool (fun F H v e o c => R.rt F H v e o c)
    · have hm := ifF hm hk
      refine sx_fall ?_ rfl
      obtain ⟨t7, h7, hm⟩ := bnd hm
      obtain ⟨t9, h9, hm⟩ := bnd hm
      refine sx_if (WX.tx (wx_or (l := t9) (os2 := os) (tx_not (tx_val (ex_fn (j := 4) B rfl g_all (by decide +kernel) (cr_all B.calm) (rc_all rdl_dat) (ax_cons (EN.ex (en_lc (lc_mk1 (j := 4) (vp := fun row4 => (dat (PyData.tuple (List.map PyData.int row4)))) (c := anyOs) (enc := PyData.bool) (fun (_ : Unit) (row4 : (List Int)) => ((fun (row4 : (List Int)) => ((m_p_is_a_row row4 value.1 (value.2.length : Int)).bind fun t6 => some t6)) row4).map fun y => (some y, ())) (fun (_ : Unit) (tl1 : Os) => tl1) () (t7) () B rfl rfl (by rw [B.hN, hsc]; decide +kernel) (by rw [hsc]; decide +kernel) (by decide) (lcO_ok h7) (ix_tup (enc := (eT PyData.int)) (ex_v (i := 2) (j := 2) B rfl rfl rfl) rdt_dat) (fun _ _ => trivial) (fun _ _ _ => List.Perm.refl _) (fun _ row4 t tl1 hx hf => by (obtain ⟨y, hy, rfl⟩ := Option.map_eq_some_iff.mp hf; obtain ⟨t6, h6, hy⟩ := bnd hy; obtain rfl := som hy; exact ⟨true, _, fun X1 hX => by (have B1 := Bd.fam (W' := ["letters", "rows", "row"]) (G' := ["len", "is_a_row"]) B hX (by (try rw [hsc]); decide +kernel); have g_len' := fam_mg hX g_len; have c_p_is_a_row' := fam_cal hX c_p_is_a_row; exact ⟨.nil, fun _ => ⟨_, rfl, (ex_call (a := (row4, value.1, (value.2.length : Int))) (b := t6) (gi := 1) (rest := tl1) B1 rfl c_p_is_a_row' (by decide) h6 (ax_cons (ex_v (i := 4) (j := 2) B1 rfl rfl rfl) (ax_cons (ex_v (i := 1) (j := 0) B1 rfl rfl rfl) (ax_cons (EX.to (ex_fn (j := 0) B1 rfl g_len' (by decide +kernel) call_len_seq (rc_lenT (ds := List.map (eT PyData.int) value.2) rdt_dat) (ax_cons (ex_v (i := 2) (j := 1) B1 rfl rfl rfl) ax_nil)) (by rw [List.length_map])) ax_nil))))⟩, fun h => Bool.noConfusion h⟩)⟩))))) ax_nil)) (by intro _; rfl))) (fun hk => by (have hm := ifF h9 hk; obtain ⟨t8, h8, hm⟩ := bnd hm; obtain rfl := som hm; exact (wx_or1 (tx_not (tx_val (ex_call (a := (value.2, value.1)) (b := t8) (gi := 5) (rest := os) B rfl c_p_is_one_way (by decide) h8 (ax_cons (ex_v (i := 2) (j := 2) B rfl rfl rfl) (ax_cons (ex_v (i := 1) (j := 1) B rfl rfl rfl) ax_nil))) (by intro _; rfl)))))) (fun hk => by (have hm := ifT h9 hk; obtain rfl := som hm; rfl)) (or_fix (fun hk => by (have hm := ifT h9 hk; obtain rfl := som hm; rfl))))) (fun hk => ?_) (fun hk => ?_)
      · have hm := ifT hm hk
        obtain rfl := som hm
        exact sx_ret ex_bool (fun F H v e o c => R.rt F H v e o c)
      · have hm := ifF hm hk
        refine sx_fall ?_ rfl
        obtain ⟨t10, h10, hm⟩ := bnd hm
        refine sx_asg (i := 3) (vi := 3) (φ := (dat (PyData.list (List.map (eD kI PyData.int) t10)))) B T rfl rfl (ex_call (a := value.2) (b := t10) (gi := 6) (rest := os) B rfl c_p_doors_of (by decide) h10 (ax_cons (ex_v (i := 2) (j := 2) B rfl rfl rfl) ax_nil)) ?_
        obtain ⟨t13, h13, hm⟩ := bnd hm
        refine sx_if (tx_val (ex_fn (j := 7) B rfl g_any (by decide +kernel) (cr_any B.calm) (rc_any rdl_dat) (ax_cons (EN.ex (en_lc (lc_mk1 (j := 5) (vp := fun steps11 => (dat (Kd.pd kI (eM PyData.int steps11)))) (c := anyOs) (enc := PyData.bool) (fun (_ : Unit) (steps11 : (List (Int × Int))) => some (some (decide ((steps11.length : Int) < 2)), ())) (fun (_ : Unit) (tl1 : Os) => tl1) () (t13) () B rfl rfl (by rw [B.hN, hsc]; decide +kernel) (by rw [hsc]; decide +kernel) (by decide) (lcT_ok h13) (ix_list (enc := (eD kI PyData.int)) (c := anyOs) (EN.ex (en_cut (enc := (eD kI PyData.int)) rdl_dat (ex_v (i := 3) (j := 3) B rfl rfl rfl) (px_some ex_int) px_none)) (fun _ _ => rdl_dat) trivial) (fun _ _ => trivial) (fun _ _ _ => List.Perm.refl _) (fun _ steps11 t tl1 hx hf => by (obtain rfl := som hf; exact ⟨true, _, fun X1 hX => by (have B1 := Bd.fam (W' := ["steps"]) (G' := ["len"]) B hX (by (try rw [hsc]); decide +kernel); have g_len' := fam_mg hX g_len; exact ⟨.nil, fun _ => ⟨_, rfl, (ex_cmp op_lt r2_lt (nomark _) (ex_fn (j := 0) B1 rfl g_len' (by decide +kernel) call_len_d (rc_lenD (enc := PyData.int) (w := steps11) rdd_dat) (ax_cons (ex_v (i := 5) (j := 0) B1 rfl rfl rfl) ax_nil)) ex_int)⟩, fun h => Bool.noConfusion h⟩)⟩))))) ax_nil)) (by intro _; rfl)) (fun hk => ?_) (fun hk => ?_)
        · have hm := ifT hm hk
          obtain rfl := som hm
          exact sx_ret ex_bool (fun F H v e o c => R.rt F H v e o c)
        · have hm := ifF hm hk
          refine sx_fall ?_ rfl
          obtain ⟨t14, h14, hm⟩ := bnd hm
          obtain ⟨t15, h15, hm⟩ := bnd hm
          obtain rfl := som hm
          exact sx_ret (ex_eqR (e := (eL PyData.int)) (x := t14) (y := t15) B (eqv_list eqv_int) (sh_list sh_int) (by decide) rdx_dat rdx_dat (ex_call (a := (value.1, t10, 0)) (b := t14) (gi := 8) (rest := os) B rfl c_p_first_order (by decide) h14 (ax_cons (ex_v (i := 1) (j := 1) B rfl rfl rfl) (ax_cons (ex_v (i := 3) (j := 3) B rfl rfl rfl) (ax_cons ex_int ax_nil)))) (EN.ex (en_rgL1 (gi := 9) (gj := 10) B rfl rfl g_list g_range h15 (EX.to (ex_fn (j := 2) B rfl g_len (by decide +kernel) call_len_seq (rc_lenT (ds := List.map (eT PyData.int) value.2) rdt_dat) (ax_cons (ex_v (i := 2) (j := 2) B rfl rfl rfl) ax_nil)) (by rw [List.length_map]))))) (fun F H v e o c => R.rt F H v e o c)
theorem cal_p_is_a_web {P : Program} {w : World} {K : PySem.W.Frag} {mg : Str → Option Value} {base : Heap} {f : Addr} {fd : FuncData} (Fn : Fun K "is_a_web" "is_a_web" s_p_is_a_web f fd) (hmg : mg "is_a_web" = some (.ref f)) (hb : Binds K fd ["value"] []) (g_isinstance : mg "isinstance" = none) (g_tuple : mg "tuple" = none) (g_len : mg "len" = none) (c_p_is_letters : Cal P w K mg base 2 "is_letters" s_p_is_letters ["value"] (sp_p_is_letters K)) (g_all : mg "all" = none) (c_p_is_a_row : Cal P w K mg base 2 "is_a_row" s_p_is_a_row ["value", "letters", "rooms"] (sp_p_is_a_row K)) (c_p_is_one_way : Cal P w K mg base 1 "is_one_way" s_p_is_one_way ["rows", "letters"] (sp_p_is_one_way K)) (c_p_doors_of : Cal P w K mg base 1 "doors_of" s_p_doors_of ["rows"] (sp_p_doors_of K)) (g_any : mg "any" = none) (c_p_first_order : Cal P w K mg base 2 "first_order" s_p_first_order ["letters", "doors", "home"] (sp_p_first_order K)) (g_list : mg "list" = none) (g_range : mg "range" = none) : Cal P w K mg base 3 "is_a_web" s_p_is_a_web ["value"] (sp_p_is_a_web K) := by
  obtain ⟨sts_, hst_⟩ : ∃ z_, defBody s_p_is_a_web = z_ := ⟨_, rfl⟩
  exact cal_ZQ (V := V_p_is_a_web) (Gs := G_p_is_a_web) (nl := 5) hst_ Fn sc_p_is_a_web (by decide +kernel) (by decide +kernel) hmg hb (fun _ => rfl) rfl fun _ _ _ _ _ _ _ a b F0 os D B T hm R => body_p_is_a_web rfl hst_ B T g_isinstance g_tuple g_len c_p_is_letters g_all c_p_is_a_row c_p_is_one_way c_p_doors_of g_any c_p_first_order g_list g_range a b F0 os D hm R
/-! ### need_web -/
abbrev s_p_need_web : Stmt := top 16
def N_p_need_web : List Str := ["web"]
def V_p_need_web : List Str := ["web"]
def G_p_need_web : List Str := ["is_a_web", "InvalidWeb", "anew"]
theorem sc_p_need_web : FnScope N_p_need_web ["web"] (defScope s_p_need_web) := ⟨rfl, rfl, rfl, by decide +kernel, rfl, by decide +kernel, by decide +kernel⟩
abbrev sp_p_need_web (K : PySem.W.Frag) : Sp := spZ (α := (Int × (List (List Int)))) (β := Unit) (fun a => [(dat (PyData.tuple [(PyData.int a.1), (PyData.tuple (List.map (eT PyData.int) a.2))]))]) (fun a => []) (fun a => m_p_need_web a) (fun a b => (dat PyData.none)) (fun a b => [])
set_option maxHeartbeats 4000000 in
theorem body_p_need_web {X : Cx} (hsc : X.env.scope = defScope s_p_need_web) {sts_ : List Stmt} (hst_ : defBody s_p_need_web = sts_) (B : Bd X N_p_need_web V_p_need_web G_p_need_web 3) (T : Bt X V_p_need_web) (c_p_is_a_web : Cal X.prog X.w X.K X.mg X.base 3 "is_a_web" s_p_is_a_web ["value"] (sp_p_is_a_web X.K)) (web : (Int × (List (List Int)))) (b : Unit) (F0 : Hp) (os : Os) (D : Ends) (hm : m_p_need_web web = some b) (R : RetZ F0 (os) (dat PyData.none) D) :
    SX X [sl (dat (PyData.tuple [(PyData.int web.1), (PyData.tuple (List.map (eT PyData.int) web.2))]))] (os) F0 sts_ D := by
  subst hst_
  unfold m_p_need_web at hm
  obtain ⟨t1, h1, hm⟩ := bnd hm
  refine sx_if (tx_not (tx_val (ex_call (a := web) (b := t1) (gi := 0) (rest := os) B rfl c_p_is_a_web (by decide) h1 (ax_cons (ex_v (i := 0) (j := 0) B rfl rfl rfl) ax_nil)) (by intro _; rfl))) (fun hk => ?_) (fun hk => ?_)
  · have hm := ifT hm hk
    exact nomatch hm
  · have hm := ifF hm hk
    refine sx_fall ?_ rfl
    obtain rfl := som hm
    exact sx_end fun F σ H e o => R.nx σ H (R.rt F H .non e o (cl_dat .non))
theorem cal_p_need_web {P : Program} {w : World} {K : PySem.W.Frag} {mg : Str → Option Value} {base : Heap} {f : Addr} {fd : FuncData} (Fn : Fun K "need_web" "need_web" s_p_need_web f fd) (hmg : mg "need_web" = some (.ref f)) (hb : Binds K fd ["web"] []) (c_p_is_a_web : Cal P w K mg base 3 "is_a_web" s_p_is_a_web ["value"] (sp_p_is_a_web K)) : Cal P w K mg base 4 "need_web" s_p_need_web ["web"] (sp_p_need_web K) := by
  obtain ⟨sts_, hst_⟩ : ∃ z_, defBody s_p_need_web = z_ := ⟨_, rfl⟩
  exact cal_ZQ (V := V_p_need_web) (Gs := G_p_need_web) (nl := 0) hst_ Fn sc_p_need_web (by decide +kernel) (by decide +kernel) hmg hb (fun _ => rfl) rfl fun _ _ _ _ _ _ _ a b F0 os D B T hm R => body_p_need_web rfl hst_ B T c_p_is_a_web a b F0 os D hm R
/-! ### need_number -/
abbrev s_p_need_number : Stmt := top 17
def N_p_need_number : List Str := ["number", "low", "high"]
def V_p_need_number : List Str := ["number", "low", "high"]
def G_p_need_number : List Str := ["InvalidNumber"]
theorem sc_p_need_number : FnScope N_p_need_number ["number", "low", "high"] (defScope s_p_need_number) := ⟨rfl, rfl, rfl, by decide +kernel, rfl, by decide +kernel, by decide +kernel⟩
abbrev sp_p_need_number (K : PySem.W.Frag) : Sp := spZ (α := (Int × Int × Unit)) (β := Unit) (fun a => [(dat (PyData.int a.1)), (dat (PyData.int a.2.1)), (dat PyData.none)]) (fun a => []) (fun a => m_p_need_number a.1 a.2.1 a.2.2) (fun a b => (dat PyData.none)) (fun a b => [])
set_option maxHeartbeats 4000000 in
theorem body_p_need_number {X : Cx} (hsc : X.env.scope = defScope s_p_need_number) {sts_ : List Stmt} (hst_ : defBody s_p_need_number = sts_) (B : Bd X N_p_need_number V_p_need_number G_p_need_number 0) (T : Bt X V_p_need_number)  (number : Int) (low : Int) (high : Unit) (b : Unit) (F0 : Hp) (os : Os) (D : Ends) (hm : m_p_need_number number low high = some b) (R : RetZ F0 (os) (dat PyData.none) D) :
    SX X [sl (dat (PyData.int number)), sl (dat (PyData.int low)), sl (dat PyData.none)] (os) F0 sts_ D := by
  subst hst_
  unfold m_p_need_number at hm
  refine sx_if (WX.tx (wx_or (tx_cmp op_lt r2_lt (nomark _) (ex_v (i := 0) (j := 0) B rfl rfl rfl) (ex_v (i := 1) (j := 1) B rfl rfl rfl)) (fun _ => (wx_or1 (WX.tx (wx_and (l := false) (tx_cmp op_notN (r2_notN (d := PyData.none) (t := false) rfl) (nomark _) (ex_v (i := 2) (j := 2) B rfl rfl rfl) ex_none) (fun hk => Bool.noConfusion hk) (fun _ => rfl) rfl)))) (fun _ => rfl) rfl)) (fun hk => ?_) (fun hk => ?_)
  · have hm := ifT hm hk
    exact nomatch hm
  · have hm := ifF hm hk
    refine sx_fall ?_ rfl
    obtain rfl := som hm
    exact sx_end fun F σ H e o => R.nx σ H (R.rt F H .non e o (cl_dat .non))
theorem cal_p_need_number {P : Program} {w : World} {K : PySem.W.Frag} {mg : Str → Option Value} {base : Heap} {f : Addr} {fd : FuncData} (Fn : Fun K "need_number" "need_number" s_p_need_number f fd) (hmg : mg "need_number" = some (.ref f)) (hb : Binds K fd ["number", "low", "high"] [])  : Cal P w K mg base 1 "need_number" s_p_need_number ["number", "low", "high"] (sp_p_need_number K) := by
  obtain ⟨sts_, hst_⟩ : ∃ z_, defBody s_p_need_number = z_ := ⟨_, rfl⟩
  exact cal_ZQ (V := V_p_need_number) (Gs := G_p_need_number) (nl := 0) hst_ Fn sc_p_need_number (by decide +kernel) (by decide +kernel) hmg hb (fun _ => rfl) rfl fun _ _ _ _ _ _ _ a b F0 os D B T hm R => body_p_need_number rfl hst_ B T  a.1 a.2.1 a.2.2 b F0 os D hm R
/-! ### first_level -/
abbrev s_p_first_level : Stmt := top 19
def N_p_first_level : List Str := ["doors", "steps", "step", "goal"]
def V_p_first_level : List Str := ["doors"]
def G_p_first_level : List Str := []
theorem sc_p_first_level : FnScope N_p_first_level ["doors"] (defScope s_p_first_level) := ⟨rfl, rfl, rfl, by decide +kernel, rfl, by decide +kernel, by decide +kernel⟩
abbrev sp_p_first_level (K : PySem.W.Frag) : Sp := spZ (α := (List (List (Int × Int)))) (β := (List (List (Int × Int)))) (fun a => [(dat (PyData.list (List.map (eD kI PyData.int) a)))]) (fun a => []) (fun a => m_p_first_level a) (fun a b => (dat (PyData.list (List.map (eD kI PyData.int) b)))) (fun a b => [])
set_option maxHeartbeats 4000000 in
theorem body_p_first_level {X : Cx} (hsc : X.env.scope = defScope s_p_first_level) {sts_ : List Stmt} (hst_ : defBody s_p_first_level = sts_) (B : Bd X N_p_first_level V_p_first_level G_p_first_level 0) (T : Bt X V_p_first_level) (g_int : X.mg "int" = none) (doors : (List (List (Int × Int)))) (b : (List (List (Int × Int)))) (F0 : Hp) (os : Os) (D : Ends) (hm : m_p_first_level doors = some b) (R : RetZ F0 (os) (dat (PyData.list (List.map (eD kI PyData.int) b))) D) :
    SX X [sl (dat (PyData.list (List.map (eD kI PyData.int) doors))), un, un, un] (os) F0 sts_ D := by
  subst hst_
  unfold m_p_first_level at hm
  obtain ⟨t7, h7, hm⟩ := bnd hm
  obtain rfl := som hm
  exact sx_ret (EN.ex (en_lc (lc_mk1 (j := 1) (vp := fun steps1 => (dat (Kd.pd kI (eM PyData.int steps1)))) (c := anyOs) (enc := (eD kI PyData.int)) (fun (_ : Unit) (steps1 : (List (Int × Int))) => ((fun (steps1 : (List (Int × Int))) => ((lenO steps1).bind fun z4 => (dcS (fun (x3 : (Int × Int)) => (some (some (x3.1, (if (decide (x3.2 = 0)) = true then 1 else 0))) : Option (Option (Int × Int)))) steps1 []).bind fun t6 => some t6)) steps1).map fun y => (some y, ())) (fun (_ : Unit) (tl1 : Os) => tl1) () (t7) () B rfl rfl (by rw [B.hN, hsc]; decide +kernel) (by rw [hsc]; decide +kernel) (by decide) (lcO_ok h7) (ix_list (enc := (eD kI PyData.int)) (c := anyOs) (ex_v (i := 0) (j := 0) B rfl rfl rfl) (fun _ _ => rdl_dat) trivial) (fun _ _ => trivial) (fun _ _ _ => List.Perm.refl _) (fun _ steps1 t tl1 hx hf => by (obtain ⟨y, hy, rfl⟩ := Option.map_eq_some_iff.mp hf; obtain ⟨z4, h5, hy⟩ := bnd hy; obtain ⟨t6, h6, hy⟩ := bnd hy; obtain rfl := som hy; exact ⟨true, _, fun X1 hX => by (have B1 := Bd.fam (W' := ["steps"]) (G' := []) B hX (by (try rw [hsc]); decide +kernel); have hsc' : X1.env.scope = _ := (fam_scope hX).trans (by rw [hsc]); have g_int' := fam_mg hX g_int; exact ⟨.nil, fun _ => ⟨_, rfl, (EN.exF (en_dc (enc := PyData.int) (m := (fun (x3 : (Int × Int)) => (some (some (x3.1, (if (decide (x3.2 = 0)) = true then 1 else 0))) : Option (Option (Int × Int))))) inj_kI (cp_mk2 (i := 2) (j := 3) (d1 := fun x3 => (PyData.int x3.1)) (d2 := fun x3 => (PyData.int x3.2)) (c := anyOs) B1 rfl rfl (by decide) rfl rfl (by rw [B1.hN, hsc']; decide +kernel) (by rw [hsc']; decide +kernel) (by rw [hsc']; decide +kernel) (lenO_ok h5) (ix_itemsD (f := Sum.inl) (enc := PyData.int) (w := steps1) (ex_v (i := 1) (j := 0) B1 rfl rfl rfl)) (fun _ => trivial)) (by decide) h6 (fun x3 t q2 hx hf => by (obtain rfl := som hf; exact ⟨true, fun X2 hX => by (have B2 := Bd.fam (W' := ["step", "goal"]) (G' := ["int"]) B1 hX (by (try rw [hsc']); decide +kernel); have g_int'' := fam_mg hX g_int'; exact ⟨.nil, fun _ => ⟨_, rfl, (ex_v (i := 2) (j := 0) B2 rfl rfl rfl), (ex_ty (j := 0) B2 rfl g_int'' (by decide +kernel) call_int1 rc_intB (ax_cons (ex_cmp op_eq r2_eqI (nomark _) (ex_v (i := 3) (j := 1) B2 rfl rfl rfl) ex_int) ax_nil))⟩, fun h => Bool.noConfusion h⟩)⟩))) frb_od)⟩, fun h => Bool.noConfusion h⟩)⟩))))) (fun F H v e o c => R.rt F H v e o c)
theorem cal_p_first_level {P : Program} {w : World} {K : PySem.W.Frag} {mg : Str → Option Value} {base : Heap} {f : Addr} {fd : FuncData} (Fn : Fun K "first_level" "first_level" s_p_first_level f fd) (hmg : mg "first_level" = some (.ref f)) (hb : Binds K fd ["doors"] []) (g_int : mg "int" = none) : Cal P w K mg base 1 "first_level" s_p_first_level ["doors"] (sp_p_first_level K) := by
  obtain ⟨sts_, hst_⟩ : ∃ z_, defBody s_p_first_level = z_ := ⟨_, rfl⟩
  exact cal_ZQ (V := V_p_first_level) (Gs := G_p_first_level) (nl := 3) hst_ Fn sc_p_first_level (by decide +kernel) (by decide +kernel) hmg hb (fun _ => rfl) rfl fun _ _ _ _ _ _ _ a b F0 os D B T hm R => body_p_first_level rfl hst_ B T g_int a b F0 os D hm R
/-! ### next_level -/
abbrev s_p_next_level : Stmt := top 20
def N_p_next_level : List Str := ["doors", "level", "sums", "numbers", "steps", "step", "goal"]
def V_p_next_level : List Str := ["doors", "level", "sums"]
def G_p_next_level : List Str := []
theorem sc_p_next_level : FnScope N_p_next_level ["doors", "level"] (defScope s_p_next_level) := ⟨rfl, rfl, rfl, by decide +kernel, rfl, by decide +kernel, by decide +kernel⟩
abbrev sp_p_next_level (K : PySem.W.Frag) : Sp := spZ (α := ((List (List (Int × Int))) × (List (List (Int × Int))))) (β := (List (List (Int × Int)))) (fun a => [(dat (PyData.list (List.map (eD kI PyData.int) a.1))), (dat (PyData.list (List.map (eD kI PyData.int) a.2)))]) (fun a => []) (fun a => m_p_next_level a.1 a.2) (fun a b => (dat (PyData.list (List.map (eD kI PyData.int) b)))) (fun a b => [])
set_option maxHeartbeats 4000000 in
theorem body_p_next_level {X : Cx} (hsc : X.env.scope = defScope s_p_next_level) {sts_ : List Stmt} (hst_ : defBody s_p_next_level = sts_) (B : Bd X N_p_next_level V_p_next_level G_p_next_level 0) (T : Bt X V_p_next_level) (g_sum : X.mg "sum" = none) (doors : (List (List (Int × Int)))) (level : (List (List (Int × Int)))) (b : (List (List (Int × Int)))) (F0 : Hp) (os : Os) (D : Ends) (hm : m_p_next_level doors level = some b) (R : RetZ F0 (os) (dat (PyData.list (List.map (eD kI PyData.int) b))) D) :
    SX X [sl (dat (PyData.list (List.map (eD kI PyData.int) doors))), sl (dat (PyData.list (List.map (eD kI PyData.int) level))), un, un, un, un, un] (os) F0 sts_ D := by
  subst hst_
  unfold m_p_next_level at hm
  obtain ⟨t3, h3, hm⟩ := bnd hm
  refine sx_asgN (i := 2) (vi := 2) (n := ol (List.map PyData.int t3)) B T rfl rfl (en_lc (lc_mk1 (j := 3) (vp := fun numbers1 => (dat (Kd.pd kI (eM PyData.int numbers1)))) (c := anyOs) (enc := PyData.int) (fun (_ : Unit) (numbers1 : (List (Int × Int))) => some (some ((List.map Prod.snd numbers1).sum), ())) (fun (_ : Unit) (tl1 : Os) => tl1) () (t3) () B rfl rfl (by rw [B.hN, hsc]; decide +kernel) (by rw [hsc]; decide +kernel) (by decide) (lcT_ok h3) (ix_list (enc := (eD kI PyData.int)) (c := anyOs) (ex_v (i := 1) (j := 1) B rfl rfl rfl) (fun _ _ => rdl_dat) trivial) (fun _ _ => trivial) (fun _ _ _ => List.Perm.refl _) (fun _ numbers1 t tl1 hx hf => by (obtain rfl := som hf; exact ⟨true, _, fun X1 hX => by (have B1 := Bd.fam (W' := ["numbers"]) (G' := ["sum"]) B hX (by (try rw [hsc]); decide +kernel); have g_sum' := fam_mg hX g_sum; exact ⟨.nil, fun _ => ⟨_, rfl, (ex_fn (j := 0) B1 rfl g_sum' (by decide +kernel) (cr_sumV B1.calm) (rc_sumV (w := numbers1) rdd_dat) (ax_cons (ex_vals (d := eM PyData.int numbers1) rdd_dat (ex_v (i := 3) (j := 0) B1 rfl rfl rfl)) ax_nil))⟩, fun h => Bool.noConfusion h⟩)⟩)))) (fun q_sums3 => ?_) (sw_no (by rw [hsc]; decide +kernel))
  refine sx_frz (j := 0) (i := 2) rfl rfl ?_
  obtain ⟨t13, h13, hm⟩ := bnd hm
  obtain rfl := som hm
  exact sx_ret (EN.ex (en_lc (lc_mk1 (j := 4) (vp := fun steps4 => (dat (Kd.pd kI (eM PyData.int steps4)))) (c := anyOs) (enc := (eD kI PyData.int)) (fun (_ : Unit) (steps4 : (List (Int × Int))) => ((fun (steps4 : (List (Int × Int))) => ((lenO steps4).bind fun z10 => (dcS (fun (x6 : (Int × Int)) => (((idx t3 x6.2).bind fun t7 => (idx level x6.2).bind fun t8 => (dGet t8 (-x6.1)).bind fun t9 => some (some (x6.1, (t7 - t9)))) : Option (Option (Int × Int)))) steps4 []).bind fun t12 => some t12)) steps4).map fun y => (some y, ())) (fun (_ : Unit) (tl1 : Os) => tl1) () (t13) () B rfl rfl (by rw [B.hN, hsc]; decide +kernel) (by rw [hsc]; decide +kernel) (by decide) (lcO_ok h13) (ix_list (enc := (eD kI PyData.int)) (c := anyOs) (ex_v (i := 0) (j := 0) B rfl rfl rfl) (fun _ _ => rdl_dat) trivial) (fun _ _ => trivial) (fun _ _ _ => List.Perm.refl _) (fun _ steps4 t tl1 hx hf => by (obtain ⟨y, hy, rfl⟩ := Option.map_eq_some_iff.mp hf; obtain ⟨z10, h11, hy⟩ := bnd hy; obtain ⟨t12, h12, hy⟩ := bnd hy; obtain rfl := som hy; exact ⟨true, _, fun X1 hX => by (have B1 := Bd.fam (W' := ["level", "sums", "steps"]) (G' := []) B hX (by (try rw [hsc]); decide +kernel); have hsc' : X1.env.scope = _ := (fam_scope hX).trans (by rw [hsc]); exact ⟨.nil, fun _ => ⟨_, rfl, (EN.exF (en_dc (enc := PyData.int) (m := (fun (x6 : (Int × Int)) => (((idx t3 x6.2).bind fun t7 => (idx level x6.2).bind fun t8 => (dGet t8 (-x6.1)).bind fun t9 => some (some (x6.1, (t7 - t9)))) : Option (Option (Int × Int))))) inj_kI (cp_mk2 (i := 5) (j := 6) (d1 := fun x6 => (PyData.int x6.1)) (d2 := fun x6 => (PyData.int x6.2)) (c := anyOs) B1 rfl rfl (by decide) rfl rfl (by rw [B1.hN, hsc']; decide +kernel) (by rw [hsc']; decide +kernel) (by rw [hsc']; decide +kernel) (lenO_ok h11) (ix_itemsD (f := Sum.inl) (enc := PyData.int) (w := steps4) (ex_v (i := 4) (j := 2) B1 rfl rfl rfl)) (fun _ => trivial)) (by decide) h12 (fun x6 t q2 hx hf => by (obtain ⟨t7, h7, hf⟩ := bnd hf; obtain ⟨t8, h8, hf⟩ := bnd hf; obtain ⟨t9, h9, hf⟩ := bnd hf; obtain rfl := som hf; exact ⟨true, fun X2 hX => by (have B2 := Bd.fam (W' := ["level", "sums", "step", "goal"]) (G' := []) B1 hX (by (try rw [hsc']); decide +kernel); exact ⟨.nil, fun _ => ⟨_, rfl, (ex_v (i := 5) (j := 2) B2 rfl rfl rfl), (ex_sub (ex_idxL (enc := PyData.int) h7 rdl_dat (ex_v (i := 2) (j := 1) B2 rfl rfl rfl) (ex_v (i := 6) (j := 3) B2 rfl rfl rfl)) (ex_dget (kd := kI) (enc := PyData.int) (w := t8) inj_kI h9 B2 rdd_dat (ex_idxL (enc := (eD kI PyData.int)) h8 rdl_dat (ex_v (i := 1) (j := 0) B2 rfl rfl rfl) (ex_v (i := 6) (j := 3) B2 rfl rfl rfl)) (ex_neg (ex_v (i := 5) (j := 2) B2 rfl rfl rfl))))⟩, fun h => Bool.noConfusion h⟩)⟩))) frb_od)⟩, fun h => Bool.noConfusion h⟩)⟩))))) (fun F H v e o c => R.rt F H v e o c)
theorem cal_p_next_level {P : Program} {w : World} {K : PySem.W.Frag} {mg : Str → Option Value} {base : Heap} {f : Addr} {fd : FuncData} (Fn : Fun K "next_level" "next_level" s_p_next_level f fd) (hmg : mg "next_level" = some (.ref f)) (hb : Binds K fd ["doors", "level"] []) (g_sum : mg "sum" = none) : Cal P w K mg base 1 "next_level" s_p_next_level ["doors", "level"] (sp_p_next_level K) := by
  obtain ⟨sts_, hst_⟩ : ∃ z_, defBody s_p_next_level = z_ := ⟨_, rfl⟩
  exact cal_ZQ (V := V_p_next_level) (Gs := G_p_next_level) (nl := 5) hst_ Fn sc_p_next_level (by decide +kernel) (by decide +kernel) hmg hb (fun _ => rfl) rfl fun _ _ _ _ _ _ _ a b F0 os D B T hm R => body_p_next_level rfl hst_ B T g_sum a.1 a.2 b F0 os D hm R
/-! ### members_by_length -/
abbrev s_p_members_by_length : Stmt := top 21
def N_p_members_by_length : List Str := ["web", "length", "doors", "found", "level", "turn"]
def V_p_members_by_length : List Str := ["web", "length", "doors", "found", "level", "turn"]
def G_p_members_by_length : List Str := ["doors_of", "first_level", "range", "sum", "next_level"]
theorem sc_p_members_by_length : FnScope N_p_members_by_length ["web", "length"] (defScope s_p_members_by_length) := ⟨rfl, rfl, rfl, by decide +kernel, rfl, by decide +kernel, by decide +kernel⟩
abbrev sp_p_members_by_length (K : PySem.W.Frag) : Sp := spZ (α := ((Int × (List (List Int))) × Int)) (β := (List Int)) (fun a => [(dat (PyData.tuple [(PyData.int a.1.1), (PyData.tuple (List.map (eT PyData.int) a.1.2))])), (dat (PyData.int a.2))]) (fun a => []) (fun a => m_p_members_by_length a.1 a.2) (fun a b => (dat (PyData.list (List.map PyData.int b)))) (fun a b => [])
set_option maxHeartbeats 4000000 in
theorem body_p_members_by_length {X : Cx} (hsc : X.env.scope = defScope s_p_members_by_length) {sts_ : List Stmt} (hst_ : defBody s_p_members_by_length = sts_) (B : Bd X N_p_members_by_length V_p_members_by_length G_p_members_by_length 1) (T : Bt X V_p_members_by_length) (c_p_doors_of : Cal X.prog X.w X.K X.mg X.base 1 "doors_of" s_p_doors_of ["rows"] (sp_p_doors_of X.K)) (c_p_first_level : Cal X.prog X.w X.K X.mg X.base 1 "first_level" s_p_first_level ["doors"] (sp_p_first_level X.K)) (g_range : X.mg "range" = none) (g_sum : X.mg "sum" = none) (c_p_next_level : Cal X.prog X.w X.K X.mg X.base 1 "next_level" s_p_next_level ["doors", "level"] (sp_p_next_level X.K)) (web : (Int × (List (List Int)))) (length : Int) (b : (List Int)) (F0 : Hp) (os : Os) (D : Ends) (hm : m_p_members_by_length web length = some b) (R : RetZ F0 (os) (dat (PyData.list (List.map PyData.int b))) D) :
    SX X [sl (dat (PyData.tuple [(PyData.int web.1), (PyData.tuple (List.map (eT PyData.int) web.2))])), sl (dat (PyData.int length)), un, un, un, un] (os) F0 sts_ D := by
  subst hst_
  unfold m_p_members_by_length at hm
  obtain ⟨t1, h1, hm⟩ := bnd hm
  refine sx_par2 (i := 2) (j := 3) _ hsc B rfl rfl (by decide) (by decide +kernel) (by decide +kernel) (by intro env he; cases env; cases he; first | rfl | kernel_rfl) (aq_x (φ := (dat (PyData.list (List.map (eD kI PyData.int) t1)))) (ex_call (a := web.2) (b := t1) (gi := 0) (rest := os) B rfl c_p_doors_of (by decide) h1 (ax_cons (ex_ixT rdt_dat (by rfl) (ex_v (i := 0) (j := 0) B rfl rfl rfl) ex_int) ax_nil)) (aq_n (n := ol (List.map PyData.int ([1]))) (en_lst (ds := [(PyData.int 1)]) (hl := len_ok (n := 1) rfl) (ax_cons ex_int ax_nil)) (fun q_found2 => aq_nil))) (fun v0 v1 os_ hr_ => ?_) (by rintro φs os_ ⟨_, rfl, q_found2, _, rfl, rfl, rfl⟩; exact ⟨_, _, rfl⟩)
  obtain ⟨_, e0, q_found2, _, e1, e8, e9⟩ := hr_
  cases e0; cases e1; cases e8; cases e9
  obtain ⟨t3, h3, hm⟩ := bnd hm
  refine sx_asg (i := 4) (vi := 4) (φ := (dat (PyData.list (List.map (eD kI PyData.int) t3)))) B T rfl rfl (ex_call (a := t1) (b := t3) (gi := 1) (rest := (q_found2, ol (List.map PyData.int ([1]))) :: os) B rfl c_p_first_level (by decide) h3 (ax_cons (ex_v (i := 2) (j := 2) B rfl rfl rfl) ax_nil)) ?_
  obtain ⟨t4, h4, hm⟩ := bnd hm
  obtain ⟨f7, h13, hm⟩ := bnd hm
  refine sx_for (c := anyOs) _ (fun (s5 : ((List (List (Int × Int))) × (List Int))) (_ : Unit) => [sl (dat (PyData.tuple [(PyData.int web.1), (PyData.tuple (List.map (eT PyData.int) web.2))])), sl (dat (PyData.int length)), sl (dat (PyData.list (List.map (eD kI PyData.int) t1))), sl (own q_found2), sl (dat (PyData.list (List.map (eD kI PyData.int) s5.1))), un]) (fun (s5 : ((List (List (Int × Int))) × (List Int))) (_ : Unit) => (q_found2, ol (List.map PyData.int s5.2)) :: os) B T (fun turn6 => gx_name (i := 5) (vi := 5) (φ := (dat (PyData.int turn6))) B T rfl rfl) (t3, [1]) () f7 h13 (ix_rng1 (gi := 2) B rfl g_range h4 (ex_v (i := 1) (j := 1) B rfl rfl rfl)) ⟨.inl rfl, .inl rfl, .inl rfl, .inl rfl, .inl rfl, .inl rfl, trivial⟩ (fun _ _ => trivial) (fun F9 e8 s5 _ turn6 z14 hx hm => ?_) (fun _ => ?_)
  · clear h13
    obtain ⟨t10, h10, hm⟩ := bnd hm
    obtain ⟨t11, h11, hm⟩ := bnd hm
    refine sx_expr (ex_app (enc := PyData.int) (j := 0) (xs0 := s5.2) (xs := s5.2) (y := ((List.map Prod.snd t10).sum)) h11 (ex_v (i := 3) (j := 3) B rfl rfl rfl) rfl (ex_fn (j := 3) B rfl g_sum (by decide +kernel) (cr_sumV B.calm) (rc_sumV (w := t10) rdd_dat) (ax_cons (ex_vals (d := eM PyData.int t10) rdd_dat (ex_idxL (enc := (eD kI PyData.int)) h10 rdl_dat (ex_v (i := 4) (j := 4) B rfl rfl rfl) ex_int)) ax_nil)) rfl) ?_
    obtain ⟨t12, h12, hm⟩ := bnd hm
    refine sx_asg (i := 4) (vi := 4) (φ := (dat (PyData.list (List.map (eD kI PyData.int) t12)))) B T rfl rfl (ex_call (a := (t1, s5.1)) (b := t12) (gi := 4) (rest := (q_found2, ol (List.map PyData.int t11)) :: os) B rfl c_p_next_level (by decide) h12 (ax_cons (ex_v (i := 2) (j := 2) B rfl rfl rfl) (ax_cons (ex_v (i := 4) (j := 4) B rfl rfl rfl) ax_nil))) ?_
    obtain rfl := som hm
    exact sx_nil fun σ H a => ⟨(), (a.weak ⟨.inl rfl, .inl rfl, .inl rfl, .inl rfl, .inl rfl, .inr rfl, trivial⟩)⟩
  · skip
    refine sx_frz (j := 0) (i := 3) rfl rfl ?_
    obtain rfl := som hm
    exact sx_ret (ex_v (i := 3) (j := 3) B rfl rfl rfl) (fun F H v e o c => R.rt F H v e o c)
theorem cal_p_members_by_length {P : Program} {w : World} {K : PySem.W.Frag} {mg : Str → Option Value} {base : Heap} {f : Addr} {fd : FuncData} (Fn : Fun K "members_by_length" "members_by_length" s_p_members_by_length f fd) (hmg : mg "members_by_length" = some (.ref f)) (hb : Binds K fd ["web", "length"] []) (c_p_doors_of : Cal P w K mg base 1 "doors_of" s_p_doors_of ["rows"] (sp_p_doors_of K)) (c_p_first_level : Cal P w K mg base 1 "first_level" s_p_first_level ["doors"] (sp_p_first_level K)) (g_range : mg "range" = none) (g_sum : mg "sum" = none) (c_p_next_level : Cal P w K mg base 1 "next_level" s_p_next_level ["doors", "level"] (sp_p_next_level K)) : Cal P w K mg base 2 "members_by_length" s_p_members_by_length ["web", "length"] (sp_p_members_by_length K) := by
  obtain ⟨sts_, hst_⟩ : ∃ z_, defBody s_p_members_by_length = z_ := ⟨_, rfl⟩
  exact cal_ZQ (V := V_p_members_by_length) (Gs := G_p_members_by_length) (nl := 4) hst_ Fn sc_p_members_by_length (by decide +kernel) (by decide +kernel) hmg hb (fun _ => rfl) rfl fun _ _ _ _ _ _ _ a b F0 os D B T hm R => body_p_members_by_length rfl hst_ B T c_p_doors_of c_p_first_level g_range g_sum c_p_next_level a.1 a.2 b F0 os D hm R
/-! ### members_of_length -/
abbrev s_p_members_of_length : Stmt := top 23
def N_p_members_of_length : List Str := ["web", "length"]
def V_p_members_of_length : List Str := ["web", "length"]
def G_p_members_of_length : List Str := ["need_web", "need_number", "members_by_length"]
theorem sc_p_members_of_length : FnScope N_p_members_of_length ["web", "length"] (defScope s_p_members_of_length) := ⟨rfl, rfl, rfl, by decide +kernel, rfl, by decide +kernel, by decide +kernel⟩
abbrev sp_p_members_of_length (K : PySem.W.Frag) : Sp := spZ (α := ((Int × (List (List Int))) × Int)) (β := Int) (fun a => [(dat (PyData.tuple [(PyData.int a.1.1), (PyData.tuple (List.map (eT PyData.int) a.1.2))])), (dat (PyData.int a.2))]) (fun a => []) (fun a => m_p_members_of_length a.1 a.2) (fun a b => (dat (PyData.int b))) (fun a b => [])
set_option maxHeartbeats 4000000 in
theorem body_p_members_of_length {X : Cx} (hsc : X.env.scope = defScope s_p_members_of_length) {sts_ : List Stmt} (hst_ : defBody s_p_members_of_length = sts_) (B : Bd X N_p_members_of_length V_p_members_of_length G_p_members_of_length 4) (T : Bt X V_p_members_of_length) (c_p_need_web : Cal X.prog X.w X.K X.mg X.base 4 "need_web" s_p_need_web ["web"] (sp_p_need_web X.K)) (c_p_need_number : Cal X.prog X.w X.K X.mg X.base 1 "need_number" s_p_need_number ["number", "low", "high"] (sp_p_need_number X.K)) (c_p_members_by_length : Cal X.prog X.w X.K X.mg X.base 2 "members_by_length" s_p_members_by_length ["web", "length"] (sp_p_members_by_length X.K)) (web : (Int × (List (List Int)))) (length : Int) (b : Int) (F0 : Hp) (os : Os) (D : Ends) (hm : m_p_members_of_length web length = some b) (R : RetZ F0 (os) (dat (PyData.int b)) D) :
    SX X [sl (dat (PyData.tuple [(PyData.int web.1), (PyData.tuple (List.map (eT PyData.int) web.2))])), sl (dat (PyData.int length))] (os) F0 sts_ D := by
  subst hst_
  unfold m_p_members_of_length at hm
  obtain ⟨t1, h1, hm⟩ := bnd hm
  refine sx_expr (ex_call (a := web) (b := t1) (gi := 0) (rest := os) B rfl c_p_need_web (by decide) h1 (ax_cons (ex_v (i := 0) (j := 0) B rfl rfl rfl) ax_nil)) ?_
  obtain ⟨t2, h2, hm⟩ := bnd hm
  refine sx_expr (ex_call (a := (length, 0, ())) (b := t2) (gi := 1) (rest := os) B rfl c_p_need_number (by decide) h2 (ax_cons (ex_v (i := 1) (j := 1) B rfl rfl rfl) (ax_cons ex_int (ax_cons ex_none ax_nil)))) ?_
  obtain ⟨t3, h3, hm⟩ := bnd hm
  obtain ⟨t4, h4, hm⟩ := bnd hm
  obtain rfl := som hm
  exact sx_ret (ex_idxL (enc := PyData.int) h4 rdl_dat (ex_call (a := (web, length)) (b := t3) (gi := 2) (rest := os) B rfl c_p_members_by_length (by decide) h3 (ax_cons (ex_v (i := 0) (j := 0) B rfl rfl rfl) (ax_cons (ex_v (i := 1) (j := 1) B rfl rfl rfl) ax_nil))) (ex_v (i := 1) (j := 1) B rfl rfl rfl)) (fun F H v e o c => R.rt F H v e o c)
theorem cal_p_members_of_length {P : Program} {w : World} {K : PySem.W.Frag} {mg : Str → Option Value} {base : Heap} {f : Addr} {fd : FuncData} (Fn : Fun K "members_of_length" "members_of_length" s_p_members_of_length f fd) (hmg : mg "members_of_length" = some (.ref f)) (hb : Binds K fd ["web", "length"] []) (c_p_need_web : Cal P w K mg base 4 "need_web" s_p_need_web ["web"] (sp_p_need_web K)) (c_p_need_number : Cal P w K mg base 1 "need_number" s_p_need_number ["number", "low", "high"] (sp_p_need_number K)) (c_p_members_by_length : Cal P w K mg base 2 "members_by_length" s_p_members_by_length ["web", "length"] (sp_p_members_by_length K)) : Cal P w K mg base 5 "members_of_length" s_p_members_of_length ["web", "length"] (sp_p_members_of_length K) := by
  obtain ⟨sts_, hst_⟩ : ∃ z_, defBody s_p_members_of_length = z_ := ⟨_, rfl⟩
  exact cal_ZQ (V := V_p_members_of_length) (Gs := G_p_members_of_length) (nl := 0) hst_ Fn sc_p_members_of_length (by decide +kernel) (by decide +kernel) hmg hb (fun _ => rfl) rfl fun _ _ _ _ _ _ _ a b F0 os D B T hm R => body_p_members_of_length rfl hst_ B T c_p_need_web c_p_need_number c_p_members_by_length a.1 a.2 b F0 os D hm R
/-! ### members_to -/
abbrev s_p_members_to : Stmt := top 24
def N_p_members_to : List Str := ["web", "length"]
def V_p_members_to : List Str := ["web", "length"]
def G_p_members_to : List Str := ["need_web", "need_number", "sum", "members_by_length"]
theorem sc_p_members_to : FnScope N_p_members_to ["web", "length"] (defScope s_p_members_to) := ⟨rfl, rfl, rfl, by decide +kernel, rfl, by decide +kernel, by decide +kernel⟩
abbrev sp_p_members_to (K : PySem.W.Frag) : Sp := spZ (α := ((Int × (List (List Int))) × Int)) (β := Int) (fun a => [(dat (PyData.tuple [(PyData.int a.1.1), (PyData.tuple (List.map (eT PyData.int) a.1.2))])), (dat (PyData.int a.2))]) (fun a => []) (fun a => m_p_members_to a.1 a.2) (fun a b => (dat (PyData.int b))) (fun a b => [])
set_option maxHeartbeats 4000000 in
theorem body_p_members_to {X : Cx} (hsc : X.env.scope = defScope s_p_members_to) {sts_ : List Stmt} (hst_ : defBody s_p_members_to = sts_) (B : Bd X N_p_members_to V_p_members_to G_p_members_to 4) (T : Bt X V_p_members_to) (c_p_need_web : Cal X.prog X.w X.K X.mg X.base 4 "need_web" s_p_need_web ["web"] (sp_p_need_web X.K)) (c_p_need_number : Cal X.prog X.w X.K X.mg X.base 1 "need_number" s_p_need_number ["number", "low", "high"] (sp_p_need_number X.K)) (g_sum : X.mg "sum" = none) (c_p_members_by_length : Cal X.prog X.w X.K X.mg X.base 2 "members_by_length" s_p_members_by_length ["web", "length"] (sp_p_members_by_length X.K)) (web : (Int × (List (List Int)))) (length : Int) (b : Int) (F0 : Hp) (os : Os) (D : Ends) (hm : m_p_members_to web length = some b) (R : RetZ F0 (os) (dat (PyData.int b)) D) :
    SX X [sl (dat (PyData.tuple [(PyData.int web.1), (PyData.tuple (List.map (eT PyData.int) web.2))])), sl (dat (PyData.int length))] (os) F0 sts_ D := by
  subst hst_
  unfold m_p_members_to at hm
  obtain ⟨t1, h1, hm⟩ := bnd hm
  refine sx_expr (ex_call (a := web) (b := t1) (gi := 0) (rest := os) B rfl c_p_need_web (by decide) h1 (ax_cons (ex_v (i := 0) (j := 0) B rfl rfl rfl) ax_nil)) ?_
  obtain ⟨t2, h2, hm⟩ := bnd hm
  refine sx_expr (ex_call (a := (length, 0, ())) (b := t2) (gi := 1) (rest := os) B rfl c_p_need_number (by decide) h2 (ax_cons (ex_v (i := 1) (j := 1) B rfl rfl rfl) (ax_cons ex_int (ax_cons ex_none ax_nil)))) ?_
  obtain ⟨t3, h3, hm⟩ := bnd hm
  obtain rfl := som hm
  exact sx_ret (ex_fn (j := 2) B rfl g_sum (by decide +kernel) (cr_sum B.calm) (rc_sum rdl_dat) (ax_cons (ex_call (a := (web, length)) (b := t3) (gi := 3) (rest := os) B rfl c_p_members_by_length (by decide) h3 (ax_cons (ex_v (i := 0) (j := 0) B rfl rfl rfl) (ax_cons (ex_v (i := 1) (j := 1) B rfl rfl rfl) ax_nil))) ax_nil)) (fun F H v e o c => R.rt F H v e o c)
theorem cal_p_members_to {P : Program} {w : World} {K : PySem.W.Frag} {mg : Str → Option Value} {base : Heap} {f : Addr} {fd : FuncData} (Fn : Fun K "members_to" "members_to" s_p_members_to f fd) (hmg : mg "members_to" = some (.ref f)) (hb : Binds K fd ["web", "length"] []) (c_p_need_web : Cal P w K mg base 4 "need_web" s_p_need_web ["web"] (sp_p_need_web K)) (c_p_need_number : Cal P w K mg base 1 "need_number" s_p_need_number ["number", "low", "high"] (sp_p_need_number K)) (g_sum : mg "sum" = none) (c_p_members_by_length : Cal P w K mg base 2 "members_by_length" s_p_members_by_length ["web", "length"] (sp_p_members_by_length K)) : Cal P w K mg base 5 "members_to" s_p_members_to ["web", "length"] (sp_p_members_to K) := by
  obtain ⟨sts_, hst_⟩ : ∃ z_, defBody s_p_members_to = z_ := ⟨_, rfl⟩
  exact cal_ZQ (V := V_p_members_to) (Gs := G_p_members_to) (nl := 0) hst_ Fn sc_p_members_to (by decide +kernel) (by decide +kernel) hmg hb (fun _ => rfl) rfl fun _ _ _ _ _ _ _ a b F0 os D B T hm R => body_p_members_to rfl hst_ B T c_p_need_web c_p_need_number g_sum c_p_members_by_length a.1 a.2 b F0 os D hm R
/-! ### _law_pot -/
abbrev s_l_pot : Stmt := top 26
def N_l_pot : List Str := ["_law_script", "_law_k", "_law_cell", "_law_total", "_law_other"]
def V_l_pot : List Str := ["_law_script", "_law_k", "_law_cell", "_law_total", "_law_other"]
def G_l_pot : List Str := ["len", "int", "max", "abs"]
theorem sc_l_pot : FnScope N_l_pot ["_law_script", "_law_k"] (defScope s_l_pot) := ⟨rfl, rfl, rfl, by decide +kernel, rfl, by decide +kernel, by decide +kernel⟩
abbrev sp_l_pot (K : PySem.W.Frag) : Sp := spN (α := ((List Int) × Int)) (β := (List Int)) (fun a => [(scr K a.1), (dat (PyData.int a.2))]) (fun a => []) (fun a => m_l_pot a.1 a.2) (fun a b => ol (List.map PyData.int b)) (fun a b => [])
set_option maxHeartbeats 4000000 in
theorem body_l_pot {X : Cx} (hsc : X.env.scope = defScope s_l_pot) {sts_ : List Stmt} (hst_ : defBody s_l_pot = sts_) (B : Bd X N_l_pot V_l_pot G_l_pot 0) (T : Bt X V_l_pot) (g_len : X.mg "len" = none) (g_int : X.mg "int" = none) (g_max : X.mg "max" = none) (g_abs : X.mg "abs" = none) (script : (List Int)) (k_ : Int) (b : (List Int)) (F0 : Hp) (os : Os) (D : Ends) (hm : m_l_pot script k_ = some b) (R : RetN F0 (os) (ol (List.map PyData.int b)) D) :
    SX X [sl (scr X.K script), sl (dat (PyData.int k_)), un, un, un] (os) F0 sts_ D := by
  subst hst_
  unfold m_l_pot at hm
  refine sx_asg (i := 2) (vi := 2) (φ := (dat (PyData.int ((29 * k_) + 3)))) B T rfl rfl (ex_add (ex_mulL (by decide) ex_int (ex_v (i := 1) (j := 1) B rfl rfl rfl)) ex_int) ?_
  obtain ⟨s2, h_s2, hm⟩ := bnd hm
  refine sx_join [sl (scr X.K script), sl (dat (PyData.int k_)), sl (dat (PyData.int s2)), un, un] (os) (?_) (fun Q => ?_)
  · clear h_s2
    refine sx_asg (i := 3) (vi := 3) (φ := (dat (PyData.int (script.length : Int)))) B T rfl rfl (EX.to (ex_fn (j := 0) B rfl g_len (by decide +kernel) call_len_seq (rc_lenL (ds := List.map PyData.int script) rdl_scr) (ax_cons (ex_v (i := 0) (j := 0) B rfl rfl rfl) ax_nil)) (by rw [List.length_map])) ?_
    obtain ⟨f5, h10, hm⟩ := bnd hm
    refine sx_for (c := anyOs) _ (fun (s3 : Int) (_ : Unit) => [sl (scr X.K script), sl (dat (PyData.int k_)), sl (dat (PyData.int s2)), sl (dat (PyData.int s3)), un]) (fun (s3 : Int) (_ : Unit) => os) B T (fun other4 => gx_name (i := 4) (vi := 4) (φ := (dat (PyData.int other4))) B T rfl rfl) (script.length : Int) () f5 h10 (ix_list (enc := PyData.int) (c := anyOs) (ex_v (i := 0) (j := 0) B rfl rfl rfl) (fun _ _ => rdl_scr) trivial) ⟨.inl rfl, .inl rfl, .inl rfl, .inl rfl, .inl rfl, trivial⟩ (fun _ _ => trivial) (fun F7 e6 s3 _ other4 z11 hx hm => ?_) (fun _ => ?_)
    · clear h10
      obtain ⟨total8, h9, hm⟩ := bnd hm
      have h9 := som h9
      refine sx_asg (i := 3) (vi := 3) (φ := (dat (PyData.int total8))) B T rfl rfl (EX.to (ex_mod (modO_lit (j := 100000000000000000000000067) (by decide)) (ex_ty (j := 1) B rfl g_int (by decide +kernel) call_int1 rc_intI (ax_cons (ex_add (ex_mulR (by decide) (ex_v (i := 3) (j := 3) B rfl rfl rfl) ex_int) (ex_mod (modO_lit (j := 10000000000000000000009) (by decide)) (ex_ty (j := 1) B rfl g_int (by decide +kernel) call_int1 rc_intI (ax_cons (ex_v (i := 4) (j := 4) B rfl rfl rfl) ax_nil)) (EX.to (d' := PyData.int 10000000000000000000009) (ex_add (ex_pow (m := 10000000000000000000000) (by decide +kernel) ex_int ex_int) ex_int) (by rfl)))) ax_nil)) (EX.to (d' := PyData.int 100000000000000000000000067) (ex_add (ex_pow (m := 100000000000000000000000000) (by decide +kernel) ex_int ex_int) ex_int) (by rfl))) (congrArg (fun z_ => (PyData.int z_)) h9)) ?_
      obtain rfl := som hm
      exact sx_nil fun σ H a => ⟨(), (a.weak ⟨.inl rfl, .inl rfl, .inl rfl, .inl rfl, .inr rfl, trivial⟩)⟩
    · skip
      obtain rfl := som hm
      exact sx_retN (en_lst (ds := [(PyData.int (maxI 0 (s2 - 1000000000000000000))), (PyData.int ((((((absI s2) * 9973) + (2 * f5)) + (if (decide (s2 < 0)) = true then 1 else 0)) + k_) % 10000000000000000000000000331)), (PyData.int 0)]) (hl := len_ok (n := 3) rfl) (ax_cons (ex_fn (j := 2) B rfl g_max (by decide +kernel) (call_max2 B.calm) rc_max (ax_cons ex_int (ax_cons (ex_sub (ex_v (i := 2) (j := 2) B rfl rfl rfl) (ex_pow (m := 1000000000000000000) (by decide +kernel) ex_int ex_int)) ax_nil))) (ax_cons (ex_mod (modO_lit (j := 10000000000000000000000000331) (by decide)) (ex_ty (j := 1) B rfl g_int (by decide +kernel) call_int1 rc_intI (ax_cons (ex_add (ex_add (ex_add (ex_mulR (by decide) (ex_fn (j := 3) B rfl g_abs (by decide +kernel) call_abs rc_abs (ax_cons (ex_v (i := 2) (j := 2) B rfl rfl rfl) ax_nil)) ex_int) (ex_mulL (by decide) ex_int (ex_v (i := 3) (j := 3) B rfl rfl rfl))) (ex_ty (j := 1) B rfl g_int (by decide +kernel) call_int1 rc_intB (ax_cons (ex_cmp op_lt r2_lt (nomark _) (ex_v (i := 2) (j := 2) B rfl rfl rfl) ex_int) ax_nil))) (ex_v (i := 1) (j := 1) B rfl rfl rfl)) ax_nil)) (EX.to (d' := PyData.int 10000000000000000000000000331) (ex_add (ex_pow (m := 10000000000000000000000000000) (by decide +kernel) ex_int ex_int) ex_int) (by rfl))) (ax_cons ex_int ax_nil)))) (fun F H p e o => R.rt F H p e o)
  · have hm := h_s2
    refine sx_if (tx_cmp op_lt r2_lt (nomark _) (ex_v (i := 1) (j := 1) B rfl rfl rfl) (EX.to (ex_fn (j := 0) B rfl g_len (by decide +kernel) call_len_seq (rc_lenL (ds := List.map PyData.int script) rdl_scr) (ax_cons (ex_v (i := 0) (j := 0) B rfl rfl rfl) ax_nil)) (by rw [List.length_map]))) (fun hk => ?_) (fun hk => ?_)
    · have hm := ifT hm hk
      obtain ⟨t1, h1, hm⟩ := bnd hm
      refine sx_asg (i := 2) (vi := 2) (φ := (dat (PyData.int t1))) B T rfl rfl (ex_idxL (enc := PyData.int) h1 rdl_scr (ex_v (i := 0) (j := 0) B rfl rfl rfl) (ex_v (i := 1) (j := 1) B rfl rfl rfl)) ?_
      obtain rfl := som hm
      exact sx_fall Q rfl
    · have hm := ifF hm hk
      obtain rfl := som hm
      exact sx_fall Q rfl
theorem cal_l_pot {P : Program} {w : World} {K : PySem.W.Frag} {mg : Str → Option Value} {base : Heap} {f : Addr} {fd : FuncData} (Fn : Fun K "_law_pot" "_law_pot" s_l_pot f fd) (hmg : mg "_law_pot" = some (.ref f)) (hb : Binds K fd ["_law_script", "_law_k"] []) (g_len : mg "len" = none) (g_int : mg "int" = none) (g_max : mg "max" = none) (g_abs : mg "abs" = none) : Cal P w K mg base 1 "_law_pot" s_l_pot ["_law_script", "_law_k"] (sp_l_pot K) := by
  obtain ⟨sts_, hst_⟩ : ∃ z_, defBody s_l_pot = z_ := ⟨_, rfl⟩
  exact cal_NQ (V := V_l_pot) (Gs := G_l_pot) (nl := 3) hst_ Fn sc_l_pot (by decide +kernel) (by decide +kernel) hmg hb (fun _ => rfl) rfl fun _ _ _ _ _ _ _ a b F0 os D B T hm R => body_l_pot rfl hst_ B T g_len g_int g_max g_abs a.1 a.2 b F0 os D hm R
/-! ### _law_draw -/
abbrev s_l_draw : Stmt := top 27
def N_l_draw : List Str := ["_law_pot_here", "_law_many", "_law_found", "_law_mixed"]
def V_l_draw : List Str := ["_law_pot_here", "_law_many", "_law_found", "_law_mixed"]
def G_l_draw : List Str := ["int"]
theorem sc_l_draw : FnScope N_l_draw ["_law_pot_here", "_law_many"] (defScope s_l_draw) := ⟨rfl, rfl, rfl, by decide +kernel, rfl, by decide +kernel, by decide +kernel⟩
abbrev sp_l_draw (K : PySem.W.Frag) : Sp := spZ (α := (Addr × (List Int) × Int)) (β := (Int × (List Int))) (fun a => [own a.1, (dat (PyData.int a.2.2))]) (fun a => (a.1, ol (List.map PyData.int a.2.1)) :: []) (fun a => m_l_draw a.2.1 a.2.2) (fun a b => (dat (PyData.int b.1))) (fun a b => (a.1, ol (List.map PyData.int b.2)) :: [])
set_option maxHeartbeats 4000000 in
theorem body_l_draw {X : Cx} (hsc : X.env.scope = defScope s_l_draw) {sts_ : List Stmt} (hst_ : defBody s_l_draw = sts_) (B : Bd X N_l_draw V_l_draw G_l_draw 0) (T : Bt X V_l_draw) (g_int : X.mg "int" = none) (q_pot_here : Addr) (w_pot_here : (List Int)) (many : Int) (b : (Int × (List Int))) (F0 : Hp) (os : Os) (D : Ends) (hm : m_l_draw w_pot_here many = some b) (R : RetZ F0 ((q_pot_here, ol (List.map PyData.int b.2)) :: os) (dat (PyData.int b.1)) D) :
    SX X [sl (own q_pot_here), sl (dat (PyData.int many)), un, un] ((q_pot_here, ol (List.map PyData.int w_pot_here)) :: os) F0 sts_ D := by
  subst hst_
  unfold m_l_draw at hm
  obtain ⟨t1, h1, hm⟩ := bnd hm
  refine sx_if (tx_cmp op_gt r2_gt (nomark _) (ex_idxL (enc := PyData.int) h1 (rdl_own 0 rfl) (ex_v (i := 0) (j := 0) B rfl rfl rfl) ex_int) ex_int) (fun hk => ?_) (fun hk => ?_)
  · have hm := ifT hm hk
    obtain ⟨t2, h2, hm⟩ := bnd hm
    obtain ⟨t3, h3, hm⟩ := bnd hm
    refine sx_asg (i := 2) (vi := 2) (φ := (dat (PyData.int t3))) B T rfl rfl (ex_mod h3 (ex_ty (j := 0) B rfl g_int (by decide +kernel) call_int1 rc_intI (ax_cons (ex_idxL (enc := PyData.int) h2 (rdl_own 0 rfl) (ex_v (i := 0) (j := 0) B rfl rfl rfl) ex_int) ax_nil)) (ex_v (i := 1) (j := 1) B rfl rfl rfl)) ?_
    obtain ⟨t4, h4, hm⟩ := bnd hm
    obtain ⟨t5, h5, hm⟩ := bnd hm
    obtain ⟨t6, h6, hm⟩ := bnd hm
    refine sx_setO (enc := PyData.int) (j := 0) h6 (ex_fdiv h5 (ex_idxL (enc := PyData.int) h4 (rdl_own 0 rfl) (ex_v (i := 0) (j := 0) B rfl rfl rfl) ex_int) (ex_v (i := 1) (j := 1) B rfl rfl rfl)) (ex_v (i := 0) (j := 0) B rfl rfl rfl) ex_int rfl ?_
    obtain rfl := som hm
    exact sx_ret (ex_v (i := 2) (j := 2) B rfl rfl rfl) (fun F H v e o c => R.rt F H v e o c)
  · have hm := ifF hm hk
    refine sx_fall ?_ rfl
    obtain ⟨t7, h7, hm⟩ := bnd hm
    obtain ⟨t8, h8, hm⟩ := bnd hm
    refine sx_setO (enc := PyData.int) (j := 0) h8 (ex_add (ex_idxL (enc := PyData.int) h7 (rdl_own 0 rfl) (ex_v (i := 0) (j := 0) B rfl rfl rfl) ex_int) ex_int) (ex_v (i := 0) (j := 0) B rfl rfl rfl) ex_int rfl ?_
    obtain ⟨t9, h9, hm⟩ := bnd hm
    obtain ⟨t10, h10, hm⟩ := bnd hm
    obtain ⟨mixed11, h12, hm⟩ := bnd hm
    have h12 := som h12
    refine sx_asg (i := 3) (vi := 3) (φ := (dat (PyData.int mixed11))) B T rfl rfl (EX.to (ex_mod (modO_lit (j := 10000000000000000000000000331) (by decide)) (ex_ty (j := 0) B rfl g_int (by decide +kernel) call_int1 rc_intI (ax_cons (ex_add (ex_mulR (by decide) (ex_idxL (enc := PyData.int) h9 (rdl_own 0 rfl) (ex_v (i := 0) (j := 0) B rfl rfl rfl) ex_int) ex_int) (ex_mulR (by decide) (ex_idxL (enc := PyData.int) h10 (rdl_own 0 rfl) (ex_v (i := 0) (j := 0) B rfl rfl rfl) ex_int) ex_int)) ax_nil)) (EX.to (d' := PyData.int 10000000000000000000000000331) (ex_add (ex_pow (m := 10000000000000000000000000000) (by decide +kernel) ex_int ex_int) ex_int) (by rfl))) (congrArg (fun z_ => (PyData.int z_)) h12)) ?_
    obtain ⟨t13, h13, hm⟩ := bnd hm
    obtain ⟨t14, h14, hm⟩ := bnd hm
    obtain ⟨t15, h15, hm⟩ := bnd hm
    obtain ⟨mixed16, h17, hm⟩ := bnd hm
    have h17 := som h17
    refine sx_asg (i := 3) (vi := 3) (φ := (dat (PyData.int mixed16))) B T rfl rfl (EX.to (ex_mod (modO_lit (j := 100000000000000000000000000319) (by decide)) (ex_ty (j := 0) B rfl g_int (by decide +kernel) call_int1 rc_intI (ax_cons (ex_add (ex_add (ex_mulW h13 (ex_v (i := 3) (j := 3) B rfl rfl rfl) (ex_v (i := 3) (j := 3) B rfl rfl rfl)) (ex_mulL (by decide) ex_int (ex_idxL (enc := PyData.int) h14 (rdl_own 0 rfl) (ex_v (i := 0) (j := 0) B rfl rfl rfl) ex_int))) (ex_idxL (enc := PyData.int) h15 (rdl_own 0 rfl) (ex_v (i := 0) (j := 0) B rfl rfl rfl) ex_int)) ax_nil)) (EX.to (d' := PyData.int 100000000000000000000000000319) (ex_add (ex_pow (m := 100000000000000000000000000000) (by decide +kernel) ex_int ex_int) ex_int) (by rfl))) (congrArg (fun z_ => (PyData.int z_)) h17)) ?_
    obtain ⟨t18, h18, hm⟩ := bnd hm
    refine sx_asg (i := 3) (vi := 3) (φ := (dat (PyData.int (((t18 + 5) % 1000000000000000000000000000057) / 9001)))) B T rfl rfl (ex_fdiv (fdivO_lit (j := 9001) (by decide) (by decide +kernel)) (ex_mod (modO_lit (j := 1000000000000000000000000000057) (by decide)) (ex_ty (j := 0) B rfl g_int (by decide +kernel) call_int1 rc_intI (ax_cons (ex_add (ex_mulW h18 (ex_v (i := 3) (j := 3) B rfl rfl rfl) (ex_v (i := 3) (j := 3) B rfl rfl rfl)) ex_int) ax_nil)) (EX.to (d' := PyData.int 1000000000000000000000000000057) (ex_add (ex_pow (m := 1000000000000000000000000000000) (by decide +kernel) ex_int ex_int) ex_int) (by rfl))) ex_int) ?_
    obtain ⟨t19, h19, hm⟩ := bnd hm
    obtain rfl := som hm
    exact sx_ret (ex_mod h19 (ex_ty (j := 0) B rfl g_int (by decide +kernel) call_int1 rc_intI (ax_cons (ex_v (i := 3) (j := 3) B rfl rfl rfl) ax_nil)) (ex_v (i := 1) (j := 1) B rfl rfl rfl)) (fun F H v e o c => R.rt F H v e o c)
theorem cal_l_draw {P : Program} {w : World} {K : PySem.W.Frag} {mg : Str → Option Value} {base : Heap} {f : Addr} {fd : FuncData} (Fn : Fun K "_law_draw" "_law_draw" s_l_draw f fd) (hmg : mg "_law_draw" = some (.ref f)) (hb : Binds K fd ["_law_pot_here", "_law_many"] []) (g_int : mg "int" = none) : Cal P w K mg base 1 "_law_draw" s_l_draw ["_law_pot_here", "_law_many"] (sp_l_draw K) := by
  obtain ⟨sts_, hst_⟩ : ∃ z_, defBody s_l_draw = z_ := ⟨_, rfl⟩
  exact cal_ZQ (V := V_l_draw) (Gs := G_l_draw) (nl := 2) hst_ Fn sc_l_draw (by decide +kernel) (by decide +kernel) hmg hb (fun _ => rfl) rfl fun _ _ _ _ _ _ _ a b F0 os D B T hm R => body_l_draw rfl hst_ B T g_int a.1 a.2.1 a.2.2 b F0 os D hm R
/-! ### _law_steps -/
abbrev s_l_steps : Stmt := top 28
def N_l_steps : List Str := ["_law_letters", "_law_found", "_law_letter"]
def V_l_steps : List Str := ["_law_letters", "_law_found", "_law_letter"]
def G_l_steps : List Str := ["range"]
theorem sc_l_steps : FnScope N_l_steps ["_law_letters"] (defScope s_l_steps) := ⟨rfl, rfl, rfl, by decide +kernel, rfl, by decide +kernel, by decide +kernel⟩
abbrev sp_l_steps (K : PySem.W.Frag) : Sp := spZ (α := Int) (β := (List Int)) (fun a => [(dat (PyData.int a))]) (fun a => []) (fun a => m_l_steps a) (fun a b => (dat (PyData.list (List.map PyData.int b)))) (fun a b => [])
set_option maxHeartbeats 4000000 in
theorem body_l_steps {X : Cx} (hsc : X.env.scope = defScope s_l_steps) {sts_ : List Stmt} (hst_ : defBody s_l_steps = sts_) (B : Bd X N_l_steps V_l_steps G_l_steps 0) (T : Bt X V_l_steps) (g_range : X.mg "range" = none) (letters : Int) (b : (List Int)) (F0 : Hp) (os : Os) (D : Ends) (hm : m_l_steps letters = some b) (R : RetZ F0 (os) (dat (PyData.list (List.map PyData.int b))) D) :
    SX X [sl (dat (PyData.int letters)), un, un] (os) F0 sts_ D := by
  subst hst_
  unfold m_l_steps at hm
  refine sx_asg (i := 1) (vi := 1) (φ := (dat (PyData.list (List.map PyData.int ([] : (List Int)))))) B T rfl rfl (EN.ex (en_lst (ds := []) ax_nil)) ?_
  obtain ⟨t1, h1, hm⟩ := bnd hm
  obtain ⟨f4, h8, hm⟩ := bnd hm
  refine sx_for (c := anyOs) _ (fun (s2 : (List Int)) (_ : Unit) => [sl (dat (PyData.int letters)), sl (dat (PyData.list (List.map PyData.int s2))), un]) (fun (s2 : (List Int)) (_ : Unit) => os) B T (fun letter3 => gx_name (i := 2) (vi := 2) (φ := (dat (PyData.int letter3))) B T rfl rfl) ([] : (List Int)) () f4 h8 (ix_rng2 (gi := 0) B rfl g_range h1 ex_int (ex_add (ex_v (i := 0) (j := 0) B rfl rfl rfl) ex_int)) ⟨.inl rfl, .inl rfl, .inl rfl, trivial⟩ (fun _ _ => trivial) (fun F6 e5 s2 _ letter3 z9 hx hm => ?_) (fun _ => ?_)
  · clear h8
    obtain ⟨t7, h7, hm⟩ := bnd hm
    refine sx_asg (i := 1) (vi := 1) (φ := (dat (PyData.list (List.map PyData.int t7)))) B T rfl rfl (EN.ex (en_cat (enc := PyData.int) h7 (ex_v (i := 1) (j := 1) B rfl rfl rfl) (EN.ex (en_lst (ds := [(PyData.int letter3), (PyData.int (-letter3))]) (hl := len_ok (n := 2) rfl) (ax_cons (ex_v (i := 2) (j := 2) B rfl rfl rfl) (ax_cons (ex_neg (ex_v (i := 2) (j := 2) B rfl rfl rfl)) ax_nil)))))) ?_
    obtain rfl := som hm
    exact sx_nil fun σ H a => ⟨(), (a.weak ⟨.inl rfl, .inl rfl, .inr rfl, trivial⟩)⟩
  · skip
    obtain rfl := som hm
    exact sx_ret (ex_v (i := 1) (j := 1) B rfl rfl rfl) (fun F H v e o c => R.rt F H v e o c)
theorem cal_l_steps {P : Program} {w : World} {K : PySem.W.Frag} {mg : Str → Option Value} {base : Heap} {f : Addr} {fd : FuncData} (Fn : Fun K "_law_steps" "_law_steps" s_l_steps f fd) (hmg : mg "_law_steps" = some (.ref f)) (hb : Binds K fd ["_law_letters"] []) (g_range : mg "range" = none) : Cal P w K mg base 1 "_law_steps" s_l_steps ["_law_letters"] (sp_l_steps K) := by
  obtain ⟨sts_, hst_⟩ : ∃ z_, defBody s_l_steps = z_ := ⟨_, rfl⟩
  exact cal_ZQ (V := V_l_steps) (Gs := G_l_steps) (nl := 2) hst_ Fn sc_l_steps (by decide +kernel) (by decide +kernel) hmg hb (fun _ => rfl) rfl fun _ _ _ _ _ _ _ a b F0 os D B T hm R => body_l_steps rfl hst_ B T g_range a b F0 os D hm R
/-! ### _law_web -/
abbrev s_l_web : Stmt := top 29
def N_l_web : List Str := ["_law_letters", "_law_doors_here", "_law_left", "_law_turn", "_law_room", "_law_step", "_law_goal", "_law_order", "_law_at", "_law_rows", "_law_goals", "_law_steps_here", "_law_letter"]
def V_l_web : List Str := ["_law_letters", "_law_doors_here", "_law_left", "_law_turn", "_law_room", "_law_step", "_law_goal", "_law_order", "_law_at", "_law_rows", "_law_goals"]
def G_l_web : List Str := ["range", "len", "list", "_law_steps", "tuple"]
theorem sc_l_web : FnScope N_l_web ["_law_letters", "_law_doors_here"] (defScope s_l_web) := ⟨rfl, rfl, rfl, by decide +kernel, rfl, by decide +kernel, by decide +kernel⟩
abbrev sp_l_web (K : PySem.W.Frag) : Sp := spZ (α := (Int × (List (List (Int × Int))))) (β := (Int × (List (List Int)))) (fun a => [(dat (PyData.int a.1)), (dat (PyData.list (List.map (eD kI PyData.int) a.2)))]) (fun a => []) (fun a => m_l_web a.1 a.2) (fun a b => (dat (PyData.tuple [(PyData.int b.1), (PyData.tuple (List.map (eT PyData.int) b.2))]))) (fun a b => [])
set_option maxHeartbeats 4000000 in
theorem body_l_web {X : Cx} (hsc : X.env.scope = defScope s_l_web) {sts_ : List Stmt} (hst_ : defBody s_l_web = sts_) (B : Bd X N_l_web V_l_web G_l_web 1) (T : Bt X V_l_web) (g_dict : X.mg "dict" = none) (g_range : X.mg "range" = none) (g_len : X.mg "len" = none) (g_list : X.mg "list" = none) (c_l_steps : Cal X.prog X.w X.K X.mg X.base 1 "_law_steps" s_l_steps ["_law_letters"] (sp_l_steps X.K)) (g_tuple : X.mg "tuple" = none) (letters : Int) (doors_here : (List (List (Int × Int)))) (b : (Int × (List (List Int)))) (F0 : Hp) (os : Os) (D : Ends) (hm : m_l_web letters doors_here = some b) (R : RetZ F0 (os) (dat (PyData.tuple [(PyData.int b.1), (PyData.tuple (List.map (eT PyData.int) b.2))])) D) :
    SX X [sl (dat (PyData.int letters)), sl (dat (PyData.list (List.map (eD kI PyData.int) doors_here))), un, un, un, un, un, un, un, un, un, un, un] (os) F0 sts_ D := by
  subst hst_
  unfold m_l_web at hm
  obtain ⟨z2, h3, hm⟩ := bnd hm
  obtain ⟨t4, h4, hm⟩ := bnd hm
  refine sx_asgN (i := 2) (vi := 2) (n := onx (List.map (odT kI PyData.int) t4)) B T rfl rfl (en_lcN (f := (odT kI PyData.int)) (m := (fun (steps_here1 : (List (Int × Int))) => (some steps_here1 : Option (List (Int × Int))))) (cp_mk1 (j := 11) (vp := fun steps_here1 => (dat (Kd.pd kI (eM PyData.int steps_here1)))) (c := anyOs) B rfl rfl (by rw [B.hN, hsc]; decide +kernel) (by rw [hsc]; decide +kernel) (lenO_ok h3) (ix_list (enc := (eD kI PyData.int)) (c := anyOs) (ex_v (i := 1) (j := 1) B rfl rfl rfl) (fun _ _ => rdl_dat) trivial) (fun _ => trivial)) h4 (fun steps_here1 t q1 hx hf X1 hX => by (obtain rfl := som hf; have B1 := Bd.fam (W' := ["_law_steps_here"]) (G' := ["dict"]) B hX (by (try rw [hsc]); decide +kernel); have g_dict' := fam_mg hX g_dict; exact (en_ty (j := 0) B1 rfl g_dict' (by decide +kernel) call_copy_d (rc_copyD (d := eM PyData.int steps_here1) rdd_dat) (ax_cons (ex_v (i := 11) (j := 0) B1 rfl rfl rfl) ax_nil))))) (fun q_left4 => ?_) (sw_no (by rw [hsc]; decide +kernel))
  refine sx_open 0 rfl (fun k_5 => ?_)
  obtain ⟨t6, h6, hm⟩ := bnd hm
  obtain ⟨f9, h28, hm⟩ := bnd hm
  refine sx_for (c := anyOs) _ (fun (s7 : (List (List (Int × Int)))) (_ : Unit) => [sl (dat (PyData.int letters)), sl (dat (PyData.list (List.map (eD kI PyData.int) doors_here))), sl (own q_left4), un, un, un, un, un, un, un, un, un, un]) (fun (s7 : (List (List (Int × Int)))) (_ : Unit) => (q_left4, onl k_5 (List.map (odT kI PyData.int) s7)) :: os) B T (fun turn8 => gx_name (i := 3) (vi := 3) (φ := (dat (PyData.int turn8))) B T rfl rfl) t4 () f9 h28 (ix_rng1 (gi := 0) B rfl g_range h6 (ex_fn (j := 1) B rfl g_len (by decide +kernel) call_len_seq (rc_lenO (f := (odT kI PyData.int)) (ws := t4) 0 rfl) (ax_cons (ex_v (i := 2) (j := 2) B rfl rfl rfl) ax_nil))) ⟨.inl rfl, .inl rfl, .inl rfl, .inl rfl, .inl rfl, .inl rfl, .inl rfl, .inl rfl, .inl rfl, .inl rfl, .inl rfl, .inl rfl, .inl rfl, trivial⟩ (fun _ _ => trivial) (fun F11 e10 s7 _ turn8 z67 hx hm => ?_) (fun _ => ?_)
  · clear h28
    obtain ⟨t12, h12, hm⟩ := bnd hm
    obtain ⟨f15, h26, hm⟩ := bnd hm
    refine sx_for (c := anyOs) _ (fun (s13 : (List (List (Int × Int)))) (_ : Unit) => [sl (dat (PyData.int letters)), sl (dat (PyData.list (List.map (eD kI PyData.int) doors_here))), sl (own q_left4), sl (dat (PyData.int turn8)), un, un, un, un, un, un, un, un, un]) (fun (s13 : (List (List (Int × Int)))) (_ : Unit) => (q_left4, onl k_5 (List.map (odT kI PyData.int) s13)) :: os) B T (fun room14 => gx_name (i := 4) (vi := 4) (φ := (dat (PyData.int room14))) B T rfl rfl) s7 () f15 h26 (ix_rng2 (gi := 0) B rfl g_range h12 ex_int (ex_fn (j := 1) B rfl g_len (by decide +kernel) call_len_seq (rc_lenO (f := (odT kI PyData.int)) (ws := s7) 0 rfl) (ax_cons (ex_v (i := 2) (j := 2) B rfl rfl rfl) ax_nil))) ⟨.inl rfl, .inl rfl, .inl rfl, .inl rfl, .inl rfl, .inl rfl, .inl rfl, .inl rfl, .inl rfl, .inl rfl, .inl rfl, .inl rfl, .inl rfl, trivial⟩ (fun _ _ => trivial) (fun F17 e16 s13 _ room14 z27 hx hm => ?_) (fun _ => ?_)
    · clear h26
      obtain ⟨t18, h18, hm⟩ := bnd hm
      obtain ⟨s25, h_s25, hm⟩ := bnd hm
      refine sx_join [sl (dat (PyData.int letters)), sl (dat (PyData.list (List.map (eD kI PyData.int) doors_here))), sl (own q_left4), sl (dat (PyData.int turn8)), sl (dat (PyData.int room14)), un, un, un, un, un, un, un, un] ((q_left4, onl k_5 (List.map (odT kI PyData.int) s25)) :: os) (?_) (fun Q => ?_)
      · clear h_s25
        obtain rfl := som hm
        exact sx_nil fun σ H a => ⟨(), (a.weak ⟨.inl rfl, .inl rfl, .inl rfl, .inl rfl, .inr rfl, .inl rfl, .inl rfl, .inl rfl, .inl rfl, .inl rfl, .inl rfl, .inl rfl, .inl rfl, trivial⟩)⟩
      · have hm := h_s25
        refine sx_if (tx_cmp op_eq r2_eqI (nomark _) (ex_fn (j := 1) B rfl g_len (by decide +kernel) call_len_d (rc_lenD (enc := PyData.int) (w := t18) (rdd_wr (wr_nest (f := (odT kI PyData.int)) (ws := s13) 0 rfl h18))) (ax_cons (ex_nst (f := (odT kI PyData.int)) (ws := s13) 0 h18 rfl (ex_v (i := 2) (j := 2) B rfl rfl rfl) (ex_v (i := 4) (j := 4) B rfl rfl rfl)) ax_nil)) ex_int) (fun hk => ?_) (fun hk => ?_)
        · have hm := ifT hm hk
          obtain ⟨t19, h19, hm⟩ := bnd hm
          obtain ⟨t20, h20, hm⟩ := bnd hm
          refine sx_asg (i := 5) (vi := 5) (φ := (dat (PyData.int t20))) B T rfl rfl (ex_idxL (enc := PyData.int) h20 rdl_dat (EN.ex (en_ty (j := 2) B rfl g_list (by decide +kernel) (cr_listK B.calm) (rc_listKI (enc := PyData.int) (w := t19) (rdd_wr (wr_nest (f := (odT kI PyData.int)) (ws := s13) 0 rfl h19))) (ax_cons (ex_nst (f := (odT kI PyData.int)) (ws := s13) 0 h19 rfl (ex_v (i := 2) (j := 2) B rfl rfl rfl) (ex_v (i := 4) (j := 4) B rfl rfl rfl)) ax_nil))) ex_int) ?_
          obtain ⟨t21, h21, hm⟩ := bnd hm
          obtain ⟨t22, h22, hm⟩ := bnd hm
          refine sx_asg (i := 6) (vi := 6) (φ := (dat (PyData.int t22.1))) B T rfl rfl (ex_dpop (enc := PyData.int) (w := t21) inj_kI h22 (ex_nst (f := (odT kI PyData.int)) (ws := s13) 0 h21 rfl (ex_v (i := 2) (j := 2) B rfl rfl rfl) (ex_v (i := 4) (j := 4) B rfl rfl rfl)) (rdd_wr (wr_nest (f := (odT kI PyData.int)) (ws := s13) 0 rfl h21)) (ex_v (i := 5) (j := 5) B rfl rfl rfl) (wr_nest (f := (odT kI PyData.int)) (ws := s13) 0 rfl h21)) ?_
          obtain ⟨t23, h23, hm⟩ := bnd hm
          obtain ⟨t24, h24, hm⟩ := bnd hm
          refine sx_expr (ex_dpop (enc := PyData.int) (w := t23) inj_kI h24 (ex_nst (f := (odT kI PyData.int)) (ws := (setI s13 room14 t22.2)) 0 h23 rfl (ex_v (i := 2) (j := 2) B rfl rfl rfl) (ex_v (i := 6) (j := 6) B rfl rfl rfl)) (rdd_wr (wr_nest (f := (odT kI PyData.int)) (ws := (setI s13 room14 t22.2)) 0 rfl h23)) (ex_neg (ex_v (i := 5) (j := 5) B rfl rfl rfl)) (wr_nest (f := (odT kI PyData.int)) (ws := (setI s13 room14 t22.2)) 0 rfl h23)) ?_
          obtain rfl := som hm
          exact sx_fall (SX.weak Q (by exact ⟨.inl rfl, .inl rfl, .inl rfl, .inl rfl, .inl rfl, .inr rfl, .inr rfl, .inl rfl, .inl rfl, .inl rfl, .inl rfl, .inl rfl, .inl rfl, trivial⟩)) rfl
        · have hm := ifF hm hk
          obtain rfl := som hm
          exact sx_fall Q rfl
    · skip
      obtain rfl := som hm
      exact sx_nil fun σ H a => ⟨(), (a.weak ⟨.inl rfl, .inl rfl, .inl rfl, .inr rfl, .inl rfl, .inl rfl, .inl rfl, .inl rfl, .inl rfl, .inl rfl, .inl rfl, .inl rfl, .inl rfl, trivial⟩)⟩
  · skip
    refine sx_frzF (j := 0) (i := 2) (frb_onl (fun _ => frb_od)) rfl rfl ?_
    refine sx_mk2 (i := 7) (j := 8) (vi := 7) (gi := 8) _ hsc B T rfl rfl rfl rfl (by intro env he; cases env; cases he; first | rfl | kernel_rfl) (aq_n (n := ol (List.map PyData.int ([0]))) (en_lst (ds := [(PyData.int 0)]) (hl := len_ok (n := 1) rfl) (ax_cons ex_int ax_nil)) (fun q_order29 => (aq_x (φ := (dat (PyData.int 0))) ex_int aq_nil))) (fun v0 v1 os_ hr_ => ?_) (by rintro φs os_ ⟨q_order29, _, rfl, _, rfl, rfl, rfl⟩; exact ⟨_, _, rfl⟩)
    obtain ⟨q_order29, _, e0, _, e1, e8, e9⟩ := hr_
    cases e0; cases e1; cases e8; cases e9
    obtain ⟨f31o, h65, hm⟩ := bnd hm
    refine sx_while _ _ (fun (s30 : (Int × (List Int))) (_ : Unit) => [sl (dat (PyData.int letters)), sl (dat (PyData.list (List.map (eD kI PyData.int) doors_here))), sl (dat (PyData.list (List.map (eD kI PyData.int) f9))), un, un, un, un, sl (own q_order29), sl (dat (PyData.int s30.1)), un, un, un, un]) (fun (s30 : (Int × (List Int))) (_ : Unit) => (q_order29, ol (List.map PyData.int s30.2)) :: os) (fun (r : (Int × (List (List Int)))) v H => ∃ F, Same F0 F ∧ Ow F (os) H ∧ Cl (dat (PyData.tuple [(PyData.int r.1), (PyData.tuple (List.map (eT PyData.int) r.2))])) F v) T 1000 (0, [0]) () f31o h65 ⟨.inl rfl, .inl rfl, .inl rfl, .inl rfl, .inl rfl, .inl rfl, .inl rfl, .inl rfl, .inl rfl, .inl rfl, .inl rfl, .inl rfl, .inl rfl, trivial⟩ rfl (fun s30 _ b hm => by (obtain rfl := som hm; exact (tx_cmp op_lt r2_lt (nomark _) (ex_v (i := 8) (j := 8) B rfl rfl rfl) (EX.to (ex_fn (j := 1) B rfl g_len (by decide +kernel) call_len_seq (rc_lenL (ds := List.map PyData.int s30.2) (rdl_own 0 rfl)) (ax_cons (ex_v (i := 7) (j := 7) B rfl rfl rfl) ax_nil)) (by rw [List.length_map]))))) (fun F33 e32 s30 _ z66 _ hm => ?_) (fun f31 _ ho => ?_) (fun r64 v H ho hr => ?_)
    · clear h65
      obtain ⟨t34, h34, hm⟩ := bnd hm
      obtain ⟨f37, h44, hm⟩ := bnd hm
      refine sx_for (c := anyOs) _ (fun (s35 : (List Int)) (_ : Unit) => [sl (dat (PyData.int letters)), sl (dat (PyData.list (List.map (eD kI PyData.int) doors_here))), sl (dat (PyData.list (List.map (eD kI PyData.int) f9))), un, un, un, un, sl (own q_order29), sl (dat (PyData.int s30.1)), un, un, un, un]) (fun (s35 : (List Int)) (_ : Unit) => (q_order29, ol (List.map PyData.int s35)) :: os) B T (fun step36 => gx_name (i := 5) (vi := 5) (φ := (dat (PyData.int step36))) B T rfl rfl) s30.2 () f37 h44 (ix_list (enc := PyData.int) (c := anyOs) (ex_call (a := letters) (b := t34) (gi := 3) (rest := (q_order29, ol (List.map PyData.int s30.2)) :: os) B rfl c_l_steps (by decide) h34 (ax_cons (ex_v (i := 0) (j := 0) B rfl rfl rfl) ax_nil)) (fun _ _ => rdl_dat) trivial) ⟨.inl rfl, .inl rfl, .inl rfl, .inl rfl, .inl rfl, .inl rfl, .inl rfl, .inl rfl, .inl rfl, .inl rfl, .inl rfl, .inl rfl, .inl rfl, trivial⟩ (fun _ _ => trivial) (fun F39 e38 s35 _ step36 z45 hx hm => ?_) (fun _ => ?_)
      · clear h44
        obtain ⟨t40, h40, hm⟩ := bnd hm
        obtain ⟨t41, h41, hm⟩ := bnd hm
        refine sx_asg (i := 6) (vi := 6) (φ := (dat (PyData.int ((dGet t41 step36).getD (-1))))) B T rfl rfl (ex_dget2 (kd := kI) (enc := PyData.int) (w := t41) (k := step36) (x := (-1)) inj_kI B rdd_dat rdd_dat (ex_idxL (enc := (eD kI PyData.int)) h41 rdl_dat (ex_v (i := 2) (j := 2) B rfl rfl rfl) (ex_idxL (enc := PyData.int) h40 (rdl_own 0 rfl) (ex_v (i := 7) (j := 7) B rfl rfl rfl) (ex_v (i := 8) (j := 8) B rfl rfl rfl))) (ex_v (i := 5) (j := 5) B rfl rfl rfl) (ex_neg ex_int)) ?_
        obtain ⟨s43, h_s43, hm⟩ := bnd hm
        refine sx_join [sl (dat (PyData.int letters)), sl (dat (PyData.list (List.map (eD kI PyData.int) doors_here))), sl (dat (PyData.list (List.map (eD kI PyData.int) f9))), un, un, sl (dat (PyData.int step36)), sl (dat (PyData.int ((dGet t41 step36).getD (-1)))), sl (own q_order29), sl (dat (PyData.int s30.1)), un, un, un, un] ((q_order29, ol (List.map PyData.int s43)) :: os) (?_) (fun Q => ?_)
        · clear h_s43
          obtain rfl := som hm
          exact sx_nil fun σ H a => ⟨(), (a.weak ⟨.inl rfl, .inl rfl, .inl rfl, .inl rfl, .inl rfl, .inr rfl, .inr rfl, .inl rfl, .inl rfl, .inl rfl, .inl rfl, .inl rfl, .inl rfl, trivial⟩)⟩
        · have hm := h_s43
          refine sx_if (WX.tx (wx_and (tx_cmp op_ge r2_ge (nomark _) (ex_v (i := 6) (j := 6) B rfl rfl rfl) ex_int) (fun _ => (wx_and1 (tx_cmp op_notIn_seq (r2_ninL (xs := s35) (rdl_own 0 rfl)) (by rfl) (ex_v (i := 6) (j := 6) B rfl rfl rfl) (ex_v (i := 7) (j := 7) B rfl rfl rfl)))) (fun _ => rfl) rfl)) (fun hk => ?_) (fun hk => ?_)
          · have hm := ifT hm hk
            obtain ⟨t42, h42, hm⟩ := bnd hm
            refine sx_expr (ex_app (enc := PyData.int) (j := 0) (xs0 := s35) (xs := s35) (y := ((dGet t41 step36).getD (-1))) h42 (ex_v (i := 7) (j := 7) B rfl rfl rfl) rfl (ex_v (i := 6) (j := 6) B rfl rfl rfl) rfl) ?_
            obtain rfl := som hm
            exact sx_fall Q rfl
          · have hm := ifF hm hk
            obtain rfl := som hm
            exact sx_fall Q rfl
      · skip
        refine sx_asg (i := 8) (vi := 8) (φ := (dat (PyData.int (s30.1 + 1)))) B T rfl rfl (ex_add (ex_v (i := 8) (j := 8) B rfl rfl rfl) ex_int) ?_
        exact sx_nil fun σ H a => ⟨_, (), (som hm).symm, (a.weak ⟨.inl rfl, .inl rfl, .inl rfl, .inl rfl, .inl rfl, .inl rfl, .inl rfl, .inl rfl, .inl rfl, .inl rfl, .inl rfl, .inl rfl, .inl rfl, trivial⟩)⟩
    · cases ho
      have hm := elimR hm
      refine sx_frz (j := 0) (i := 7) rfl rfl ?_
      refine sx_asgN (i := 9) (vi := 9) (n := ol (List.map (eT PyData.int) ([] : (List (List Int))))) B T rfl rfl (en_lst (ds := []) ax_nil) (fun q_rows45 => ?_)
      obtain ⟨f48, h62, hm⟩ := bnd hm
      refine sx_for (c := anyOs) _ (fun (s46 : (List (List Int))) (_ : Unit) => [sl (dat (PyData.int letters)), sl (dat (PyData.list (List.map (eD kI PyData.int) doors_here))), sl (dat (PyData.list (List.map (eD kI PyData.int) f9))), un, un, un, un, sl (dat (PyData.list (List.map PyData.int f31.2))), sl (dat (PyData.int f31.1)), sl (own q_rows45), un, un, un]) (fun (s46 : (List (List Int))) (_ : Unit) => (q_rows45, ol (List.map (eT PyData.int) s46)) :: os) B T (fun room47 => gx_name (i := 4) (vi := 4) (φ := (dat (PyData.int room47))) B T rfl rfl) ([] : (List (List Int))) () f48 h62 (ix_list (enc := PyData.int) (c := anyOs) (ex_v (i := 7) (j := 7) B rfl rfl rfl) (fun _ _ => rdl_dat) trivial) ⟨.inl rfl, .inl rfl, .inl rfl, .inl rfl, .inl rfl, .inl rfl, .inl rfl, .inl rfl, .inl rfl, .inl rfl, .inl rfl, .inl rfl, .inl rfl, trivial⟩ (fun _ _ => trivial) (fun F50 e49 s46 _ room47 z63 hx hm => ?_) (fun _ => ?_)
      · clear h62
        obtain ⟨t51, h51, hm⟩ := bnd hm
        obtain ⟨t55, h55, hm⟩ := bnd hm
        refine sx_asgLc (i := 10) B T rfl (by rw [hsc]; exact lcl_of (by decide +kernel)) (lc_mk1 (j := 12) (vp := fun letter52 => (dat (PyData.int letter52))) (c := anyOs) (enc := PyData.int) (fun (_ : Unit) (letter52 : Int) => ((fun (letter52 : Int) => ((idx f9 room47).bind fun t54 => some ((dGet t54 letter52).getD (-1)))) letter52).map fun y => (some y, ())) (fun (_ : Unit) (tl1 : Os) => (q_rows45, ol (List.map (eT PyData.int) s46)) :: tl1) () (t55) () B rfl rfl (by rw [B.hN, hsc]; decide +kernel) (by rw [hsc]; decide +kernel) (by decide) (lcO_ok h55) (ix_rng2 (gi := 0) B rfl g_range h51 ex_int (ex_add (ex_v (i := 0) (j := 0) B rfl rfl rfl) ex_int)) (fun _ _ => trivial) (fun _ _ _ => (List.Perm.swap _ _ _)) (fun _ letter52 t tl1 hx hf => by (obtain ⟨y, hy, rfl⟩ := Option.map_eq_some_iff.mp hf; obtain ⟨t54, h54, hy⟩ := bnd hy; obtain rfl := som hy; exact ⟨true, _, fun X1 hX => by (have B1 := Bd.fam (W' := ["_law_left", "_law_room", "_law_letter"]) (G' := []) B hX (by (try rw [hsc]); decide +kernel); exact ⟨.nil, fun _ => ⟨_, rfl, (ex_dget2 (kd := kI) (enc := PyData.int) (w := t54) (k := letter52) (x := (-1)) inj_kI B1 rdd_dat rdd_dat (ex_idxL (enc := (eD kI PyData.int)) h54 rdl_dat (ex_v (i := 2) (j := 0) B1 rfl rfl rfl) (ex_v (i := 4) (j := 1) B1 rfl rfl rfl)) (ex_v (i := 12) (j := 2) B1 rfl rfl rfl) (ex_neg ex_int))⟩, fun h => Bool.noConfusion h⟩)⟩))) (sw_ok (by rw [hsc]; decide +kernel) (by rw [hsc]; exact lcl_of (by decide +kernel)) (by decide) (by decide +kernel)) (fun q_goals55 => ?_)
        refine sx_frz (j := 0) (i := 10) rfl rfl ?_
        obtain ⟨t60, h60, hm⟩ := bnd hm
        obtain ⟨t61, h61, hm⟩ := bnd hm
        refine sx_expr (ex_app (enc := (eT PyData.int)) (j := 0) (xs0 := s46) (xs := s46) (y := t60) h61 (ex_v (i := 9) (j := 9) B rfl rfl rfl) rfl (ex_ty (j := 4) B rfl g_tuple (by decide +kernel) call_tuple_of (rc_tupL (ds := List.map PyData.int t60) rdl_dat) (ax_cons (EN.ex (en_lc (lc_mk1 (j := 6) (vp := fun goal56 => (dat (PyData.int goal56))) (c := anyOs) (enc := PyData.int) (fun (_ : Unit) (goal56 : Int) => ((fun (goal56 : Int) => ((if (decide (0 ≤ goal56)) = true then ((ixOf f31.2 goal56).bind fun t58 => some ((t58 : Nat) : Int)) else some (-1)).bind fun t59 => some t59)) goal56).map fun y => (some y, ())) (fun (_ : Unit) (tl1 : Os) => (q_rows45, ol (List.map (eT PyData.int) s46)) :: tl1) () (t60) () B rfl rfl (by rw [B.hN, hsc]; decide +kernel) (by rw [hsc]; decide +kernel) (by decide) (lcO_ok h60) (ix_list (enc := PyData.int) (c := anyOs) (ex_v (i := 10) (j := 10) B rfl rfl rfl) (fun _ _ => rdl_dat) trivial) (fun _ _ => trivial) (fun _ _ _ => (List.Perm.swap _ _ _)) (fun _ goal56 t tl1 hx hf => by (obtain ⟨y, hy, rfl⟩ := Option.map_eq_some_iff.mp hf; obtain ⟨t59, h59, hy⟩ := bnd hy; obtain rfl := som hy; exact ⟨true, _, fun X1 hX => by (have B1 := Bd.fam (W' := ["_law_goal", "_law_order"]) (G' := []) B hX (by (try rw [hsc]); decide +kernel); exact ⟨.nil, fun _ => ⟨_, rfl, (ex_if (tx_cmp op_ge r2_ge (nomark _) (ex_v (i := 6) (j := 0) B1 rfl rfl rfl) ex_int) (fun hk => by (have hm := ifT h59 hk; obtain ⟨t58, h58, hm⟩ := bnd hm; obtain rfl := som hm; exact (EX.to (ex_index h58 (fun _ _ => rdl_dat) (ex_v (i := 7) (j := 1) B1 rfl rfl rfl) (ex_v (i := 6) (j := 0) B1 rfl rfl rfl)) (by rfl)))) (fun hk => by (have hm := ifF h59 hk; obtain rfl := som hm; exact (EX.to (ex_neg ex_int) (by rfl)))))⟩, fun h => Bool.noConfusion h⟩)⟩))))) ax_nil)) rfl) ?_
        obtain rfl := som hm
        exact sx_nil fun σ H a => ⟨(), (a.weak ⟨.inl rfl, .inl rfl, .inl rfl, .inl rfl, .inr rfl, .inl rfl, .inl rfl, .inl rfl, .inl rfl, .inl rfl, .inr rfl, .inl rfl, .inl rfl, trivial⟩)⟩
      · skip
        refine sx_frz (j := 0) (i := 9) rfl rfl ?_
        obtain rfl := som hm
        exact sx_ret (ex_tup (ds := [(PyData.int letters), (PyData.tuple (List.map (eT PyData.int) f48))]) (hl := len_ok (n := 2) rfl) (ax_cons (ex_v (i := 0) (j := 0) B rfl rfl rfl) (ax_cons (ex_ty (j := 4) B rfl g_tuple (by decide +kernel) call_tuple_of (rc_tupL (ds := List.map (eT PyData.int) f48) rdl_dat) (ax_cons (ex_v (i := 9) (j := 9) B rfl rfl rfl) ax_nil)) ax_nil))) (fun F H v e o c => R.rt F H v e o c)
    · cases ho
      have hm := elimL hm
      cases hm
theorem cal_l_web {P : Program} {w : World} {K : PySem.W.Frag} {mg : Str → Option Value} {base : Heap} {f : Addr} {fd : FuncData} (Fn : Fun K "_law_web" "_law_web" s_l_web f fd) (hmg : mg "_law_web" = some (.ref f)) (hb : Binds K fd ["_law_letters", "_law_doors_here"] []) (g_dict : mg "dict" = none) (g_range : mg "range" = none) (g_len : mg "len" = none) (g_list : mg "list" = none) (c_l_steps : Cal P w K mg base 1 "_law_steps" s_l_steps ["_law_letters"] (sp_l_steps K)) (g_tuple : mg "tuple" = none) : Cal P w K mg base 2 "_law_web" s_l_web ["_law_letters", "_law_doors_here"] (sp_l_web K) := by
  obtain ⟨sts_, hst_⟩ : ∃ z_, defBody s_l_web = z_ := ⟨_, rfl⟩
  exact cal_ZQ (V := V_l_web) (Gs := G_l_web) (nl := 11) hst_ Fn sc_l_web (by decide +kernel) (by decide +kernel) hmg hb (fun _ => rfl) rfl fun _ _ _ _ _ _ _ a b F0 os D B T hm R => body_l_web rfl hst_ B T g_dict g_range g_len g_list c_l_steps g_tuple a.1 a.2 b F0 os D hm R
/-! ### _law_doors -/
abbrev s_l_doors : Stmt := top 30
def N_l_doors : List Str := ["_law_web_here", "_law_doors_here", "_law_room", "_law_at", "_law_goal", "_law_row"]
def V_l_doors : List Str := ["_law_web_here", "_law_doors_here", "_law_room", "_law_at", "_law_goal"]
def G_l_doors : List Str := ["range", "len"]
theorem sc_l_doors : FnScope N_l_doors ["_law_web_here"] (defScope s_l_doors) := ⟨rfl, rfl, rfl, by decide +kernel, rfl, by decide +kernel, by decide +kernel⟩
abbrev sp_l_doors (K : PySem.W.Frag) : Sp := spZ (α := (Int × (List (List Int)))) (β := (List (List (Int × Int)))) (fun a => [(dat (PyData.tuple [(PyData.int a.1), (PyData.tuple (List.map (eT PyData.int) a.2))]))]) (fun a => []) (fun a => m_l_doors a) (fun a b => (dat (PyData.list (List.map (eD kI PyData.int) b)))) (fun a b => [])
set_option maxHeartbeats 4000000 in
theorem body_l_doors {X : Cx} (hsc : X.env.scope = defScope s_l_doors) {sts_ : List Stmt} (hst_ : defBody s_l_doors = sts_) (B : Bd X N_l_doors V_l_doors G_l_doors 0) (T : Bt X V_l_doors) (g_range : X.mg "range" = none) (g_len : X.mg "len" = none) (web_here : (Int × (List (List Int)))) (b : (List (List (Int × Int)))) (F0 : Hp) (os : Os) (D : Ends) (hm : m_l_doors web_here = some b) (R : RetZ F0 (os) (dat (PyData.list (List.map (eD kI PyData.int) b))) D) :
    SX X [sl (dat (PyData.tuple [(PyData.int web_here.1), (PyData.tuple (List.map (eT PyData.int) web_here.2))])), un, un, un, un, un] (os) F0 sts_ D := by
  subst hst_
  unfold m_l_doors at hm
  obtain ⟨z2, h3, hm⟩ := bnd hm
  obtain ⟨t4, h4, hm⟩ := bnd hm
  refine sx_asgLcN (i := 1) B T rfl (by rw [hsc]; exact lcl_of (by decide +kernel)) (f := (odT kI PyData.int)) (m := (fun (row1 : (List Int)) => (some ([] : (List (Int × Int))) : Option (List (Int × Int)))))  (cp_mk1 (j := 5) (vp := fun row1 => (dat (PyData.tuple (List.map PyData.int row1)))) (c := anyOs) B rfl rfl (by rw [B.hN, hsc]; decide +kernel) (by rw [hsc]; decide +kernel) (lenO_ok h3) (ix_tup (enc := (eT PyData.int)) (ex_ixT rdt_dat (by rfl) (ex_v (i := 0) (j := 0) B rfl rfl rfl) ex_int) rdt_dat) (fun _ => trivial)) h4 (fun row1 t q1 hx hf X1 hX => by (obtain rfl := som hf; have B1 := Bd.fam (W' := []) (G' := []) B hX (by (try rw [hsc]); decide +kernel); exact (en_dnew (kd := kI)))) (sw_ok (by rw [hsc]; decide +kernel) (by rw [hsc]; exact lcl_of (by decide +kernel)) (by decide) (by decide +kernel)) (fun q_doors_here4 => ?_)
  refine sx_open 0 rfl (fun k_5 => ?_)
  obtain ⟨t6, h6, hm⟩ := bnd hm
  obtain ⟨f9, h27, hm⟩ := bnd hm
  refine sx_for (c := anyOs) _ (fun (s7 : (List (List (Int × Int)))) (_ : Unit) => [sl (dat (PyData.tuple [(PyData.int web_here.1), (PyData.tuple (List.map (eT PyData.int) web_here.2))])), sl (own q_doors_here4), un, un, un, un]) (fun (s7 : (List (List (Int × Int)))) (_ : Unit) => (q_doors_here4, onl k_5 (List.map (odT kI PyData.int) s7)) :: os) B T (fun room8 => gx_name (i := 2) (vi := 2) (φ := (dat (PyData.int room8))) B T rfl rfl) t4 () f9 h27 (ix_rng1 (gi := 0) B rfl g_range h6 (ex_fn (j := 1) B rfl g_len (by decide +kernel) call_len_seq (rc_lenO (f := (odT kI PyData.int)) (ws := t4) 0 rfl) (ax_cons (ex_v (i := 1) (j := 1) B rfl rfl rfl) ax_nil))) ⟨.inl rfl, .inl rfl, .inl rfl, .inl rfl, .inl rfl, .inl rfl, trivial⟩ (fun _ _ => trivial) (fun F11 e10 s7 _ room8 z28 hx hm => ?_) (fun _ => ?_)
  · clear h27
    obtain ⟨t12, h12, hm⟩ := bnd hm
    obtain ⟨f15, h25, hm⟩ := bnd hm
    refine sx_for (c := anyOs) _ (fun (s13 : (List (List (Int × Int)))) (_ : Unit) => [sl (dat (PyData.tuple [(PyData.int web_here.1), (PyData.tuple (List.map (eT PyData.int) web_here.2))])), sl (own q_doors_here4), sl (dat (PyData.int room8)), un, un, un]) (fun (s13 : (List (List (Int × Int)))) (_ : Unit) => (q_doors_here4, onl k_5 (List.map (odT kI PyData.int) s13)) :: os) B T (fun at_14 => gx_name (i := 3) (vi := 3) (φ := (dat (PyData.int at_14))) B T rfl rfl) s7 () f15 h25 (ix_rng1 (gi := 0) B rfl g_range h12 (ex_ixT rdt_dat (by rfl) (ex_v (i := 0) (j := 0) B rfl rfl rfl) ex_int)) ⟨.inl rfl, .inl rfl, .inl rfl, .inl rfl, .inl rfl, .inl rfl, trivial⟩ (fun _ _ => trivial) (fun F17 e16 s13 _ at_14 z26 hx hm => ?_) (fun _ => ?_)
    · clear h25
      obtain ⟨t18, h18, hm⟩ := bnd hm
      obtain ⟨t19, h19, hm⟩ := bnd hm
      refine sx_asg (i := 4) (vi := 4) (φ := (dat (PyData.int t19))) B T rfl rfl (ex_idxT (enc := PyData.int) h19 rdt_dat (ex_idxT (enc := (eT PyData.int)) h18 rdt_dat (ex_ixT rdt_dat (by rfl) (ex_v (i := 0) (j := 0) B rfl rfl rfl) ex_int) (ex_v (i := 2) (j := 2) B rfl rfl rfl)) (ex_v (i := 3) (j := 3) B rfl rfl rfl)) ?_
      obtain ⟨s24, h_s24, hm⟩ := bnd hm
      refine sx_join [sl (dat (PyData.tuple [(PyData.int web_here.1), (PyData.tuple (List.map (eT PyData.int) web_here.2))])), sl (own q_doors_here4), sl (dat (PyData.int room8)), sl (dat (PyData.int at_14)), sl (dat (PyData.int t19)), un] ((q_doors_here4, onl k_5 (List.map (odT kI PyData.int) s24)) :: os) (?_) (fun Q => ?_)
      · clear h_s24
        obtain rfl := som hm
        exact sx_nil fun σ H a => ⟨(), (a.weak ⟨.inl rfl, .inl rfl, .inl rfl, .inr rfl, .inr rfl, .inl rfl, trivial⟩)⟩
      · have hm := h_s24
        refine sx_if (tx_cmp op_ge r2_ge (nomark _) (ex_v (i := 4) (j := 4) B rfl rfl rfl) ex_int) (fun hk => ?_) (fun hk => ?_)
        · have hm := ifT hm hk
          obtain ⟨t20, h20, hm⟩ := bnd hm
          obtain ⟨t21, h21, hm⟩ := bnd hm
          refine sx_dput (kd := kI) (enc := PyData.int) (w := t20) (x := t19) inj_kI h21 B (ex_v (i := 4) (j := 4) B rfl rfl rfl) (ex_nst (f := (odT kI PyData.int)) (ws := s13) 0 h20 rfl (ex_v (i := 1) (j := 1) B rfl rfl rfl) (ex_v (i := 2) (j := 2) B rfl rfl rfl)) (ex_add (ex_v (i := 3) (j := 3) B rfl rfl rfl) ex_int) (wr_nest (f := (odT kI PyData.int)) (ws := s13) 0 rfl h20) ?_
          obtain ⟨t22, h22, hm⟩ := bnd hm
          obtain ⟨t23, h23, hm⟩ := bnd hm
          refine sx_dput (kd := kI) (enc := PyData.int) (w := t22) (x := room8) inj_kI h23 B (ex_v (i := 2) (j := 2) B rfl rfl rfl) (ex_nst (f := (odT kI PyData.int)) (ws := (setI s13 room8 t21)) 0 h22 rfl (ex_v (i := 1) (j := 1) B rfl rfl rfl) (ex_v (i := 4) (j := 4) B rfl rfl rfl)) (ex_sub (ex_neg (ex_v (i := 3) (j := 3) B rfl rfl rfl)) ex_int) (wr_nest (f := (odT kI PyData.int)) (ws := (setI s13 room8 t21)) 0 rfl h22) ?_
          obtain rfl := som hm
          exact sx_fall Q rfl
        · have hm := ifF hm hk
          obtain rfl := som hm
          exact sx_fall Q rfl
    · skip
      obtain rfl := som hm
      exact sx_nil fun σ H a => ⟨(), (a.weak ⟨.inl rfl, .inl rfl, .inr rfl, .inl rfl, .inl rfl, .inl rfl, trivial⟩)⟩
  · skip
    refine sx_frzF (j := 0) (i := 1) (frb_onl (fun _ => frb_od)) rfl rfl ?_
    obtain rfl := som hm
    exact sx_ret (ex_v (i := 1) (j := 1) B rfl rfl rfl) (fun F H v e o c => R.rt F H v e o c)
theorem cal_l_doors {P : Program} {w : World} {K : PySem.W.Frag} {mg : Str → Option Value} {base : Heap} {f : Addr} {fd : FuncData} (Fn : Fun K "_law_doors" "_law_doors" s_l_doors f fd) (hmg : mg "_law_doors" = some (.ref f)) (hb : Binds K fd ["_law_web_here"] []) (g_range : mg "range" = none) (g_len : mg "len" = none) : Cal P w K mg base 1 "_law_doors" s_l_doors ["_law_web_here"] (sp_l_doors K) := by
  obtain ⟨sts_, hst_⟩ : ∃ z_, defBody s_l_doors = z_ := ⟨_, rfl⟩
  exact cal_ZQ (V := V_l_doors) (Gs := G_l_doors) (nl := 5) hst_ Fn sc_l_doors (by decide +kernel) (by decide +kernel) hmg hb (fun _ => rfl) rfl fun _ _ _ _ _ _ _ a b F0 os D B T hm R => body_l_doors rfl hst_ B T g_range g_len a b F0 os D hm R
/-! ### _law_straight -/
abbrev s_l_straight : Stmt := top 31
def N_l_straight : List Str := ["_law_pot_here", "_law_letters", "_law_size", "_law_found", "_law_turn", "_law_menu", "_law_step"]
def V_l_straight : List Str := ["_law_pot_here", "_law_letters", "_law_size", "_law_found", "_law_turn", "_law_menu"]
def G_l_straight : List Str := ["range", "_law_steps", "_law_draw", "len", "tuple"]
theorem sc_l_straight : FnScope N_l_straight ["_law_pot_here", "_law_letters", "_law_size"] (defScope s_l_straight) := ⟨rfl, rfl, rfl, by decide +kernel, rfl, by decide +kernel, by decide +kernel⟩
abbrev sp_l_straight (K : PySem.W.Frag) : Sp := spZ (α := (Addr × (List Int) × Int × Int)) (β := ((List Int) × (List Int))) (fun a => [own a.1, (dat (PyData.int a.2.2.1)), (dat (PyData.int a.2.2.2))]) (fun a => (a.1, ol (List.map PyData.int a.2.1)) :: []) (fun a => m_l_straight a.2.1 a.2.2.1 a.2.2.2) (fun a b => (dat (PyData.tuple (List.map PyData.int b.1)))) (fun a b => (a.1, ol (List.map PyData.int b.2)) :: [])
set_option maxHeartbeats 4000000 in
theorem body_l_straight {X : Cx} (hsc : X.env.scope = defScope s_l_straight) {sts_ : List Stmt} (hst_ : defBody s_l_straight = sts_) (B : Bd X N_l_straight V_l_straight G_l_straight 1) (T : Bt X V_l_straight) (g_range : X.mg "range" = none) (c_l_steps : Cal X.prog X.w X.K X.mg X.base 1 "_law_steps" s_l_steps ["_law_letters"] (sp_l_steps X.K)) (c_l_draw : Cal X.prog X.w X.K X.mg X.base 1 "_law_draw" s_l_draw ["_law_pot_here", "_law_many"] (sp_l_draw X.K)) (g_len : X.mg "len" = none) (g_tuple : X.mg "tuple" = none) (q_pot_here : Addr) (w_pot_here : (List Int)) (letters : Int) (size : Int) (b : ((List Int) × (List Int))) (F0 : Hp) (os : Os) (D : Ends) (hm : m_l_straight w_pot_here letters size = some b) (R : RetZ F0 ((q_pot_here, ol (List.map PyData.int b.2)) :: os) (dat (PyData.tuple (List.map PyData.int b.1))) D) :
    SX X [sl (own q_pot_here), sl (dat (PyData.int letters)), sl (dat (PyData.int size)), un, un, un, un] ((q_pot_here, ol (List.map PyData.int w_pot_here)) :: os) F0 sts_ D := by
  subst hst_
  unfold m_l_straight at hm
  refine sx_asgN (i := 3) (vi := 3) (n := ol (List.map PyData.int ([] : (List Int)))) B T rfl rfl (en_lst (ds := []) ax_nil) (fun q_found0 => ?_)
  obtain ⟨t1, h1, hm⟩ := bnd hm
  obtain ⟨f4, h16, hm⟩ := bnd hm
  refine sx_for (c := anyOs) _ (fun (s2 : ((List Int) × (List Int))) (_ : Unit) => [sl (own q_pot_here), sl (dat (PyData.int letters)), sl (dat (PyData.int size)), sl (own q_found0), un, un, un]) (fun (s2 : ((List Int) × (List Int))) (_ : Unit) => (q_found0, ol (List.map PyData.int s2.1)) :: (q_pot_here, ol (List.map PyData.int s2.2)) :: os) B T (fun turn3 => gx_name (i := 4) (vi := 4) (φ := (dat (PyData.int turn3))) B T rfl rfl) (([] : (List Int)), w_pot_here) () f4 h16 (ix_rng1 (gi := 0) B rfl g_range h1 (ex_v (i := 2) (j := 2) B rfl rfl rfl)) ⟨.inl rfl, .inl rfl, .inl rfl, .inl rfl, .inl rfl, .inl rfl, .inl rfl, trivial⟩ (fun _ _ => trivial) (fun F6 e5 s2 _ turn3 z17 hx hm => ?_) (fun _ => ?_)
  · clear h16
    obtain ⟨t7, h7, hm⟩ := bnd hm
    obtain ⟨t12, h12, hm⟩ := bnd hm
    refine sx_asgLc (i := 5) B T rfl (by rw [hsc]; exact lcl_of (by decide +kernel)) (lc_mk1 (j := 6) (vp := fun step8 => (dat (PyData.int step8))) (c := anyOs) (enc := PyData.int) (fun (_ : Unit) (step8 : Int) => ((fun (step8 : Int) => ((if (decide (s2.1 = ([] : (List Int)))) = true then some true else ((idx s2.1 (-1)).bind fun t10 => some (!decide (step8 = (-t10))))).bind fun t11 => if t11 = true then some (some step8) else some none)) step8).map fun y => (y, ())) (fun (_ : Unit) (tl1 : Os) => (q_found0, ol (List.map PyData.int s2.1)) :: (q_pot_here, ol (List.map PyData.int s2.2)) :: tl1) () (t12) () B rfl rfl (by rw [B.hN, hsc]; decide +kernel) (by rw [hsc]; decide +kernel) (by decide) (lcG_ok h12) (ix_list (enc := PyData.int) (c := anyOs) (ex_call (a := letters) (b := t7) (gi := 1) (rest := (q_found0, ol (List.map PyData.int s2.1)) :: (q_pot_here, ol (List.map PyData.int s2.2)) :: os) B rfl c_l_steps (by decide) h7 (ax_cons (ex_v (i := 1) (j := 1) B rfl rfl rfl) ax_nil)) (fun _ _ => rdl_dat) trivial) (fun _ _ => trivial) (fun _ _ _ => ((List.Perm.cons _ (List.Perm.swap _ _ _)).trans (List.Perm.swap _ _ _))) (fun _ step8 t tl1 hx hf => by (obtain ⟨y, hy, rfl⟩ := Option.map_eq_some_iff.mp hf; obtain ⟨t11, h11, hy⟩ := bnd hy; cases hc : t11 with | true => (have hy := ifT hy hc; obtain rfl := som hy; exact ⟨true, _, fun X1 hX => by (have B1 := Bd.fam (W' := ["_law_found", "_law_step"]) (G' := []) B hX (by (try rw [hsc]); decide +kernel); exact ⟨.one (TX.to (WX.tx (wx_or (l := t11) (os2 := (q_found0, ol (List.map PyData.int s2.1)) :: (q_pot_here, ol (List.map PyData.int s2.2)) :: tl1) (tx_eqR (e := (eL PyData.int)) (x := s2.1) (y := ([] : (List Int))) B1 (eqv_list eqv_int) (sh_list sh_int) (by decide) (rdx_own (ds := List.map PyData.int s2.1) 0 rfl) rdx_dat (ex_v (i := 3) (j := 0) B1 rfl rfl rfl) (EN.ex (en_lst (ds := []) ax_nil))) (fun hk => by (have hm := ifF h11 hk; obtain ⟨t10, h10, hm⟩ := bnd hm; obtain rfl := som hm; exact (wx_or1 (tx_cmp op_ne r2_neI (nomark _) (ex_v (i := 6) (j := 1) B1 rfl rfl rfl) (ex_neg (ex_idxL (enc := PyData.int) h10 (rdl_own 0 rfl) (ex_v (i := 3) (j := 0) B1 rfl rfl rfl) (ex_neg ex_int))))))) (fun hk => by (have hm := ifT h11 hk; obtain rfl := som hm; rfl)) (or_fix (fun hk => by (have hm := ifT h11 hk; obtain rfl := som hm; rfl))))) hc), fun _ => ⟨_, rfl, (ex_v (i := 6) (j := 1) B1 rfl rfl rfl)⟩, fun h => Bool.noConfusion h⟩)⟩) | false => (have hy := ifF hy hc; obtain rfl := som hy; exact ⟨false, _, fun X1 hX => by (have B1 := Bd.fam (W' := ["_law_found", "_law_step"]) (G' := []) B hX (by (try rw [hsc]); decide +kernel); exact ⟨.one (TX.to (WX.tx (wx_or (l := t11) (os2 := (q_found0, ol (List.map PyData.int s2.1)) :: (q_pot_here, ol (List.map PyData.int s2.2)) :: tl1) (tx_eqR (e := (eL PyData.int)) (x := s2.1) (y := ([] : (List Int))) B1 (eqv_list eqv_int) (sh_list sh_int) (by decide) (rdx_own (ds := List.map PyData.int s2.1) 0 rfl) rdx_dat (ex_v (i := 3) (j := 0) B1 rfl rfl rfl) (EN.ex (en_lst (ds := []) ax_nil))) (fun hk => by (have hm := ifF h11 hk; obtain ⟨t10, h10, hm⟩ := bnd hm; obtain rfl := som hm; exact (wx_or1 (tx_cmp op_ne r2_neI (nomark _) (ex_v (i := 6) (j := 1) B1 rfl rfl rfl) (ex_neg (ex_idxL (enc := PyData.int) h10 (rdl_own 0 rfl) (ex_v (i := 3) (j := 0) B1 rfl rfl rfl) (ex_neg ex_int))))))) (fun hk => by (have hm := ifT h11 hk; obtain rfl := som hm; rfl)) (or_fix (fun hk => by (have hm := ifT h11 hk; obtain rfl := som hm; rfl))))) hc), fun h => Bool.noConfusion h, fun _ => ⟨rfl, rfl⟩⟩)⟩)))) (sw_ok (by rw [hsc]; decide +kernel) (by rw [hsc]; exact lcl_of (by decide +kernel)) (by decide) (by decide +kernel)) (fun q_menu12 => ?_)
    refine sx_frz (j := 0) (i := 5) rfl rfl ?_
    obtain ⟨t13, h13, hm⟩ := bnd hm
    obtain ⟨t14, h14, hm⟩ := bnd hm
    obtain ⟨t15, h15, hm⟩ := bnd hm
    refine sx_expr (ex_appW (enc := PyData.int) (xs0 := s2.1) (xs := s2.1) (y := t14) h15 (ex_v (i := 3) (j := 3) B rfl rfl rfl) (wr_flat (f := (olT PyData.int)) (d := s2.1) 0 rfl) (ex_idxL (enc := PyData.int) h14 rdl_dat (ex_v (i := 5) (j := 5) B rfl rfl rfl) (EX.pre (ex_call (a := (q_pot_here, s2.2, (t12.length : Int))) (b := t13) (gi := 2) (rest := (q_found0, ol (List.map PyData.int s2.1)) :: os) B rfl c_l_draw (by decide) h13 (ax_cons (ex_v (i := 0) (j := 0) B rfl rfl rfl) (ax_cons (EX.to (ex_fn (j := 3) B rfl g_len (by decide +kernel) call_len_seq (rc_lenL (ds := List.map PyData.int t12) rdl_dat) (ax_cons (ex_v (i := 5) (j := 5) B rfl rfl rfl) ax_nil)) (by rw [List.length_map])) ax_nil))) (perm_at (k := 1) rfl))) (wr_flat (f := (olT PyData.int)) (d := s2.1) 1 rfl)) ?_
    obtain rfl := som hm
    exact sx_nil fun σ H a => ⟨(), ((a.perm (perm_at (k := 1) rfl)).weak ⟨.inl rfl, .inl rfl, .inl rfl, .inl rfl, .inr rfl, .inr rfl, .inl rfl, trivial⟩)⟩
  · skip
    refine sx_frz (j := 0) (i := 3) rfl rfl ?_
    obtain rfl := som hm
    exact sx_ret (ex_ty (j := 4) B rfl g_tuple (by decide +kernel) call_tuple_of (rc_tupL (ds := List.map PyData.int f4.1) rdl_dat) (ax_cons (ex_v (i := 3) (j := 3) B rfl rfl rfl) ax_nil)) (fun F H v e o c => R.rt F H v e o c)
theorem cal_l_straight {P : Program} {w : World} {K : PySem.W.Frag} {mg : Str → Option Value} {base : Heap} {f : Addr} {fd : FuncData} (Fn : Fun K "_law_straight" "_law_straight" s_l_straight f fd) (hmg : mg "_law_straight" = some (.ref f)) (hb : Binds K fd ["_law_pot_here", "_law_letters", "_law_size"] []) (g_range : mg "range" = none) (c_l_steps : Cal P w K mg base 1 "_law_steps" s_l_steps ["_law_letters"] (sp_l_steps K)) (c_l_draw : Cal P w K mg base 1 "_law_draw" s_l_draw ["_law_pot_here", "_law_many"] (sp_l_draw K)) (g_len : mg "len" = none) (g_tuple : mg "tuple" = none) : Cal P w K mg base 2 "_law_straight" s_l_straight ["_law_pot_here", "_law_letters", "_law_size"] (sp_l_straight K) := by
  obtain ⟨sts_, hst_⟩ : ∃ z_, defBody s_l_straight = z_ := ⟨_, rfl⟩
  exact cal_ZQ (V := V_l_straight) (Gs := G_l_straight) (nl := 4) hst_ Fn sc_l_straight (by decide +kernel) (by decide +kernel) hmg hb (fun _ => rfl) rfl fun _ _ _ _ _ _ _ a b F0 os D B T hm R => body_l_straight rfl hst_ B T g_range c_l_steps c_l_draw g_len g_tuple a.1 a.2.1 a.2.2.1 a.2.2.2 b F0 os D hm R
/-! ### _law_tables -/
abbrev s_l_tables : Stmt := top 32
def N_l_tables : List Str := ["_law_pot_here", "_law_letters", "_law_count", "_law_gaps", "_law_doors_here", "_law_letter", "_law_left", "_law_room", "_law_goal"]
def V_l_tables : List Str := ["_law_pot_here", "_law_letters", "_law_count", "_law_gaps", "_law_doors_here", "_law_letter", "_law_left", "_law_room", "_law_goal"]
def G_l_tables : List Str := ["range", "list", "_law_draw", "len"]
theorem sc_l_tables : FnScope N_l_tables ["_law_pot_here", "_law_letters", "_law_count", "_law_gaps"] (defScope s_l_tables) := ⟨rfl, rfl, rfl, by decide +kernel, rfl, by decide +kernel, by decide +kernel⟩
abbrev sp_l_tables (K : PySem.W.Frag) : Sp := spZ (α := (Addr × (List Int) × Int × Int × Int)) (β := ((List (List (Int × Int))) × (List Int))) (fun a => [own a.1, (dat (PyData.int a.2.2.1)), (dat (PyData.int a.2.2.2.1)), (dat (PyData.int a.2.2.2.2))]) (fun a => (a.1, ol (List.map PyData.int a.2.1)) :: []) (fun a => m_l_tables a.2.1 a.2.2.1 a.2.2.2.1 a.2.2.2.2) (fun a b => (dat (PyData.list (List.map (eD kI PyData.int) b.1)))) (fun a b => (a.1, ol (List.map PyData.int b.2)) :: [])
set_option maxHeartbeats 4000000 in
theorem body_l_tables {X : Cx} (hsc : X.env.scope = defScope s_l_tables) {sts_ : List Stmt} (hst_ : defBody s_l_tables = sts_) (B : Bd X N_l_tables V_l_tables G_l_tables 1) (T : Bt X V_l_tables) (g_range : X.mg "range" = none) (g_list : X.mg "list" = none) (c_l_draw : Cal X.prog X.w X.K X.mg X.base 1 "_law_draw" s_l_draw ["_law_pot_here", "_law_many"] (sp_l_draw X.K)) (g_len : X.mg "len" = none) (q_pot_here : Addr) (w_pot_here : (List Int)) (letters : Int) (count : Int) (gaps : Int) (b : ((List (List (Int × Int))) × (List Int))) (F0 : Hp) (os : Os) (D : Ends) (hm : m_l_tables w_pot_here letters count gaps = some b) (R : RetZ F0 ((q_pot_here, ol (List.map PyData.int b.2)) :: os) (dat (PyData.list (List.map (eD kI PyData.int) b.1))) D) :
    SX X [sl (own q_pot_here), sl (dat (PyData.int letters)), sl (dat (PyData.int count)), sl (dat (PyData.int gaps)), un, un, un, un, un] ((q_pot_here, ol (List.map PyData.int w_pot_here)) :: os) F0 sts_ D := by
  subst hst_
  unfold m_l_tables at hm
  obtain ⟨t1, h1, hm⟩ := bnd hm
  obtain ⟨z3, h4, hm⟩ := bnd hm
  obtain ⟨t5, h5, hm⟩ := bnd hm
  refine sx_asgLcN (i := 4) B T rfl (by rw [hsc]; exact lcl_of (by decide +kernel)) (f := (odT kI PyData.int)) (m := (fun (room2 : Int) => (some ([] : (List (Int × Int))) : Option (List (Int × Int)))))  (cp_mk1 (j := 7) (vp := fun room2 => (dat (PyData.int room2))) (c := anyOs) B rfl rfl (by rw [B.hN, hsc]; decide +kernel) (by rw [hsc]; decide +kernel) (lenO_ok h4) (ix_rng1 (gi := 0) B rfl g_range h1 (ex_v (i := 2) (j := 2) B rfl rfl rfl)) (fun _ => trivial)) h5 (fun room2 t q1 hx hf X1 hX => by (obtain rfl := som hf; have B1 := Bd.fam (W' := []) (G' := []) B hX (by (try rw [hsc]); decide +kernel); exact (en_dnew (kd := kI)))) (sw_ok (by rw [hsc]; decide +kernel) (by rw [hsc]; exact lcl_of (by decide +kernel)) (by decide) (by decide +kernel)) (fun q_doors_here5 => ?_)
  refine sx_open 0 rfl (fun k_6 => ?_)
  obtain ⟨t7, h7, hm⟩ := bnd hm
  obtain ⟨f10, h31, hm⟩ := bnd hm
  refine sx_for (c := anyOs) _ (fun (s8 : ((List (List (Int × Int))) × (List Int))) (_ : Unit) => [sl (own q_pot_here), sl (dat (PyData.int letters)), sl (dat (PyData.int count)), sl (dat (PyData.int gaps)), sl (own q_doors_here5), un, un, un, un]) (fun (s8 : ((List (List (Int × Int))) × (List Int))) (_ : Unit) => (q_doors_here5, onl k_6 (List.map (odT kI PyData.int) s8.1)) :: (q_pot_here, ol (List.map PyData.int s8.2)) :: os) B T (fun letter9 => gx_name (i := 5) (vi := 5) (φ := (dat (PyData.int letter9))) B T rfl rfl) (t5, w_pot_here) () f10 h31 (ix_rng2 (gi := 0) B rfl g_range h7 ex_int (ex_add (ex_v (i := 1) (j := 1) B rfl rfl rfl) ex_int)) ⟨.inl rfl, .inl rfl, .inl rfl, .inl rfl, .inl rfl, .inl rfl, .inl rfl, .inl rfl, .inl rfl, trivial⟩ (fun _ _ => trivial) (fun F12 e11 s8 _ letter9 z32 hx hm => ?_) (fun _ => ?_)
  · clear h31
    obtain ⟨t13, h13, hm⟩ := bnd hm
    refine sx_asgN (i := 6) (vi := 6) (n := ol (List.map PyData.int t13)) B T rfl rfl (en_rgL1 (gi := 1) (gj := 0) B rfl rfl g_list g_range h13 (ex_v (i := 2) (j := 2) B rfl rfl rfl)) (fun q_left13 => ?_)
    obtain ⟨t14, h14, hm⟩ := bnd hm
    obtain ⟨f17, h29, hm⟩ := bnd hm
    refine sx_for (c := anyOs) _ (fun (s15 : ((List Int) × (List (List (Int × Int))) × (List Int))) (_ : Unit) => [sl (own q_pot_here), sl (dat (PyData.int letters)), sl (dat (PyData.int count)), sl (dat (PyData.int gaps)), sl (own q_doors_here5), sl (dat (PyData.int letter9)), sl (own q_left13), un, un]) (fun (s15 : ((List Int) × (List (List (Int × Int))) × (List Int))) (_ : Unit) => (q_left13, ol (List.map PyData.int s15.1)) :: (q_doors_here5, onl k_6 (List.map (odT kI PyData.int) s15.2.1)) :: (q_pot_here, ol (List.map PyData.int s15.2.2)) :: os) B T (fun room16 => gx_name (i := 7) (vi := 7) (φ := (dat (PyData.int room16))) B T rfl rfl) (t13, s8.1, s8.2) () f17 h29 (ix_rng1 (gi := 0) B rfl g_range h14 (ex_v (i := 2) (j := 2) B rfl rfl rfl)) ⟨.inl rfl, .inl rfl, .inl rfl, .inl rfl, .inl rfl, .inl rfl, .inl rfl, .inl rfl, .inl rfl, trivial⟩ (fun _ _ => trivial) (fun F19 e18 s15 _ room16 z30 hx hm => ?_) (fun _ => ?_)
    · clear h29
      obtain ⟨t20, h20, hm⟩ := bnd hm
      obtain ⟨t21, h21, hm⟩ := bnd hm
      refine sx_asg (i := 8) (vi := 8) (φ := (dat (PyData.int t21.1))) B T rfl rfl (ex_popI2 (enc := PyData.int) (m := 0) (j := 1) (xs := s15.1) (xs0 := s15.1) h21 (ex_v (i := 6) (j := 6) B rfl rfl rfl) rfl (EX.pre (ex_call (a := (q_pot_here, s15.2.2, (s15.1.length : Int))) (b := t20) (gi := 2) (rest := (q_left13, ol (List.map PyData.int s15.1)) :: (q_doors_here5, onl k_6 (List.map (odT kI PyData.int) s15.2.1)) :: os) B rfl c_l_draw (by decide) h20 (ax_cons (ex_v (i := 0) (j := 0) B rfl rfl rfl) (ax_cons (EX.to (ex_fn (j := 3) B rfl g_len (by decide +kernel) call_len_seq (rc_lenL (ds := List.map PyData.int s15.1) (rdl_own 1 rfl)) (ax_cons (ex_v (i := 6) (j := 6) B rfl rfl rfl) ax_nil)) (by rw [List.length_map])) ax_nil))) (perm_at (k := 2) rfl)) rfl) ?_
      obtain ⟨t23, h23, hm⟩ := bnd hm
      obtain ⟨s28, h_s28, hm⟩ := bnd hm
      refine sx_join [sl (own q_pot_here), sl (dat (PyData.int letters)), sl (dat (PyData.int count)), sl (dat (PyData.int gaps)), sl (own q_doors_here5), sl (dat (PyData.int letter9)), sl (own q_left13), sl (dat (PyData.int room16)), sl (dat (PyData.int t21.1))] ((q_pot_here, ol (List.map PyData.int t23.2)) :: (q_left13, ol (List.map PyData.int t21.2)) :: (q_doors_here5, onl k_6 (List.map (odT kI PyData.int) s28)) :: os) (?_) (fun Q => ?_)
      · clear h_s28
        obtain rfl := som hm
        exact sx_nil fun σ H a => ⟨(), (((a.perm (perm_at (k := 2) rfl)).perm (perm_at (k := 2) rfl)).weak ⟨.inl rfl, .inl rfl, .inl rfl, .inl rfl, .inl rfl, .inl rfl, .inl rfl, .inr rfl, .inr rfl, trivial⟩)⟩
      · have hm := h_s28
        refine sx_if (WX.tx (wx_or (l := t23.1) (os2 := (q_pot_here, ol (List.map PyData.int t23.2)) :: (q_left13, ol (List.map PyData.int t21.2)) :: (q_doors_here5, onl k_6 (List.map (odT kI PyData.int) s15.2.1)) :: os) (tx_cmp op_eq r2_eqI (nomark _) (ex_v (i := 3) (j := 3) B rfl rfl rfl) ex_int) (fun hk => by (have hm := ifF h23 hk; obtain ⟨t22, h22, hm⟩ := bnd hm; obtain rfl := som hm; exact (wx_or1 (tx_cmp op_gt r2_gt (nomark _) (ex_call (a := (q_pot_here, t20.2, gaps)) (b := t22) (gi := 2) (rest := (q_left13, ol (List.map PyData.int t21.2)) :: (q_doors_here5, onl k_6 (List.map (odT kI PyData.int) s15.2.1)) :: os) B rfl c_l_draw (by decide) h22 (ax_cons (ex_v (i := 0) (j := 0) B rfl rfl rfl) (ax_cons (ex_v (i := 3) (j := 3) B rfl rfl rfl) ax_nil))) ex_int)))) (fun hk => by (have hm := ifT h23 hk; obtain rfl := som hm; rfl)) (or_fix (fun hk => by (have hm := ifT h23 hk; obtain rfl := som hm; rfl))))) (fun hk => ?_) (fun hk => ?_)
        · have hm := ifT hm hk
          obtain ⟨t24, h24, hm⟩ := bnd hm
          obtain ⟨t25, h25, hm⟩ := bnd hm
          refine sx_dput (kd := kI) (enc := PyData.int) (w := t24) (x := t21.1) inj_kI h25 B (ex_v (i := 8) (j := 8) B rfl rfl rfl) (ex_nst (f := (odT kI PyData.int)) (ws := s15.2.1) 2 h24 rfl (ex_v (i := 4) (j := 4) B rfl rfl rfl) (ex_v (i := 7) (j := 7) B rfl rfl rfl)) (ex_v (i := 5) (j := 5) B rfl rfl rfl) (wr_nest (f := (odT kI PyData.int)) (ws := s15.2.1) 2 rfl h24) ?_
          obtain ⟨t26, h26, hm⟩ := bnd hm
          obtain ⟨t27, h27, hm⟩ := bnd hm
          refine sx_dput (kd := kI) (enc := PyData.int) (w := t26) (x := room16) inj_kI h27 B (ex_v (i := 7) (j := 7) B rfl rfl rfl) (ex_nst (f := (odT kI PyData.int)) (ws := (setI s15.2.1 room16 t25)) 2 h26 rfl (ex_v (i := 4) (j := 4) B rfl rfl rfl) (ex_v (i := 8) (j := 8) B rfl rfl rfl)) (ex_neg (ex_v (i := 5) (j := 5) B rfl rfl rfl)) (wr_nest (f := (odT kI PyData.int)) (ws := (setI s15.2.1 room16 t25)) 2 rfl h26) ?_
          obtain rfl := som hm
          exact sx_fall Q rfl
        · have hm := ifF hm hk
          obtain rfl := som hm
          exact sx_fall Q rfl
    · skip
      obtain rfl := som hm
      exact sx_nil fun σ H a => ⟨(), ((a.drop).weak ⟨.inl rfl, .inl rfl, .inl rfl, .inl rfl, .inl rfl, .inr rfl, .inr rfl, .inl rfl, .inl rfl, trivial⟩)⟩
  · skip
    refine sx_frzF (j := 0) (i := 4) (frb_onl (fun _ => frb_od)) rfl rfl ?_
    obtain rfl := som hm
    exact sx_ret (ex_v (i := 4) (j := 4) B rfl rfl rfl) (fun F H v e o c => R.rt F H v e o c)
theorem cal_l_tables {P : Program} {w : World} {K : PySem.W.Frag} {mg : Str → Option Value} {base : Heap} {f : Addr} {fd : FuncData} (Fn : Fun K "_law_tables" "_law_tables" s_l_tables f fd) (hmg : mg "_law_tables" = some (.ref f)) (hb : Binds K fd ["_law_pot_here", "_law_letters", "_law_count", "_law_gaps"] []) (g_range : mg "range" = none) (g_list : mg "list" = none) (c_l_draw : Cal P w K mg base 1 "_law_draw" s_l_draw ["_law_pot_here", "_law_many"] (sp_l_draw K)) (g_len : mg "len" = none) : Cal P w K mg base 2 "_law_tables" s_l_tables ["_law_pot_here", "_law_letters", "_law_count", "_law_gaps"] (sp_l_tables K) := by
  obtain ⟨sts_, hst_⟩ : ∃ z_, defBody s_l_tables = z_ := ⟨_, rfl⟩
  exact cal_ZQ (V := V_l_tables) (Gs := G_l_tables) (nl := 5) hst_ Fn sc_l_tables (by decide +kernel) (by decide +kernel) hmg hb (fun _ => rfl) rfl fun _ _ _ _ _ _ _ a b F0 os D B T hm R => body_l_tables rfl hst_ B T g_range g_list c_l_draw g_len a.1 a.2.1 a.2.2.1 a.2.2.2.1 a.2.2.2.2 b F0 os D hm R
/-! ### _law_rings -/
abbrev s_l_rings : Stmt := top 33
def N_l_rings : List Str := ["_law_walks", "_law_ways", "_law_count", "_law_walk", "_law_rooms", "_law_k", "_law_heads", "_law_doors_here", "_law_turn", "_law_room", "_law_step", "_law_goal", "_law_here", "_law_there", "_law_known", "_law_low", "_law_high", "_law_head"]
def V_l_rings : List Str := ["_law_walks", "_law_ways", "_law_count", "_law_walk", "_law_rooms", "_law_k", "_law_heads", "_law_doors_here", "_law_turn", "_law_room", "_law_step", "_law_goal", "_law_here", "_law_there", "_law_known", "_law_low", "_law_high"]
def G_l_rings : List Str := ["range", "len", "list", "min", "max"]
theorem sc_l_rings : FnScope N_l_rings ["_law_walks"] (defScope s_l_rings) := ⟨rfl, rfl, rfl, by decide +kernel, rfl, by decide +kernel, by decide +kernel⟩
abbrev sp_l_rings (K : PySem.W.Frag) : Sp := spZ (α := (List (List Int))) (β := (List (List (Int × Int)))) (fun a => [(dat (PyData.list (List.map (eT PyData.int) a)))]) (fun a => []) (fun a => m_l_rings a) (fun a b => (dat (PyData.list (List.map (eD kI PyData.int) b)))) (fun a b => [])
set_option maxHeartbeats 4000000 in
theorem body_l_rings {X : Cx} (hsc : X.env.scope = defScope s_l_rings) {sts_ : List Stmt} (hst_ : defBody s_l_rings = sts_) (B : Bd X N_l_rings V_l_rings G_l_rings 0) (T : Bt X V_l_rings) (g_range : X.mg "range" = none) (g_len : X.mg "len" = none) (g_list : X.mg "list" = none) (g_min : X.mg "min" = none) (g_max : X.mg "max" = none) (walks : (List (List Int))) (b : (List (List (Int × Int)))) (F0 : Hp) (os : Os) (D : Ends) (hm : m_l_rings walks = some b) (R : RetZ F0 (os) (dat (PyData.list (List.map (eD kI PyData.int) b))) D) :
    SX X [sl (dat (PyData.list (List.map (eT PyData.int) walks))), un, un, un, un, un, un, un, un, un, un, un, un, un, un, un, un, un] (os) F0 sts_ D := by
  subst hst_
  unfold m_l_rings at hm
  refine sx_mk2 (i := 1) (j := 2) (vi := 1) (gi := 2) _ hsc B T rfl rfl rfl rfl (by intro env he; cases env; cases he; first | rfl | kernel_rfl) (aq_n (n := ol (List.map (eP3 PyData.int PyData.int PyData.int) ([] : (List (Tri Int Int Int))))) (en_lst (ds := []) ax_nil) (fun q_ways1 => (aq_x (φ := (dat (PyData.int 1))) ex_int aq_nil))) (fun v0 v1 os_ hr_ => ?_) (by rintro φs os_ ⟨q_ways1, _, rfl, _, rfl, rfl, rfl⟩; exact ⟨_, _, rfl⟩)
  obtain ⟨q_ways1, _, e0, _, e1, e8, e9⟩ := hr_
  cases e0; cases e1; cases e8; cases e9
  obtain ⟨f4, h29, hm⟩ := bnd hm
  refine sx_for (c := anyOs) _ (fun (s2 : (Int × (List (Tri Int Int Int)))) (_ : Unit) => [sl (dat (PyData.list (List.map (eT PyData.int) walks))), sl (own q_ways1), sl (dat (PyData.int s2.1)), un, un, un, un, un, un, un, un, un, un, un, un, un, un, un]) (fun (s2 : (Int × (List (Tri Int Int Int)))) (_ : Unit) => (q_ways1, ol (List.map (eP3 PyData.int PyData.int PyData.int) s2.2)) :: os) B T (fun walk3 => gx_name (i := 3) (vi := 3) (φ := (dat (PyData.tuple (List.map PyData.int walk3)))) B T rfl rfl) (1, ([] : (List (Tri Int Int Int)))) () f4 h29 (ix_list (enc := (eT PyData.int)) (c := anyOs) (ex_v (i := 0) (j := 0) B rfl rfl rfl) (fun _ _ => rdl_dat) trivial) ⟨.inl rfl, .inl rfl, .inl rfl, .inl rfl, .inl rfl, .inl rfl, .inl rfl, .inl rfl, .inl rfl, .inl rfl, .inl rfl, .inl rfl, .inl rfl, .inl rfl, .inl rfl, .inl rfl, .inl rfl, .inl rfl, trivial⟩ (fun _ _ => trivial) (fun F6 e5 s2 _ walk3 z62 hx hm => ?_) (fun _ => ?_)
  · clear h29
    obtain ⟨t7, h7, hm⟩ := bnd hm
    obtain ⟨t10, h10, hm⟩ := bnd hm
    obtain ⟨t11, h11, hm⟩ := bnd hm
    obtain ⟨t12, h12, hm⟩ := bnd hm
    refine sx_asg (i := 4) (vi := 4) (φ := (dat (PyData.list (List.map PyData.int t12)))) B T rfl rfl (EN.ex (en_cat (enc := PyData.int) h12 (EN.ex (en_cat (enc := PyData.int) h11 (EN.ex (en_lst (ds := [(PyData.int 0)]) (hl := len_ok (n := 1) rfl) (ax_cons ex_int ax_nil))) (EN.ex (en_lc (lc_mk1 (j := 5) (vp := fun k_8 => (dat (PyData.int k_8))) (c := anyOs) (enc := PyData.int) (fun (_ : Unit) (k_8 : Int) => some (some (s2.1 + k_8), ())) (fun (_ : Unit) (tl1 : Os) => (q_ways1, ol (List.map (eP3 PyData.int PyData.int PyData.int) s2.2)) :: tl1) () (t10) () B rfl rfl (by rw [B.hN, hsc]; decide +kernel) (by rw [hsc]; decide +kernel) (by decide) (lcT_ok h10) (ix_rng1 (gi := 0) B rfl g_range h7 (ex_sub (EX.to (ex_fn (j := 1) B rfl g_len (by decide +kernel) call_len_seq (rc_lenT (ds := List.map PyData.int walk3) rdt_dat) (ax_cons (ex_v (i := 3) (j := 3) B rfl rfl rfl) ax_nil)) (by rw [List.length_map])) ex_int)) (fun _ _ => trivial) (fun _ _ _ => (List.Perm.swap _ _ _)) (fun _ k_8 t tl1 hx hf => by (obtain rfl := som hf; exact ⟨true, _, fun X1 hX => by (have B1 := Bd.fam (W' := ["_law_count", "_law_k"]) (G' := []) B hX (by (try rw [hsc]); decide +kernel); exact ⟨.nil, fun _ => ⟨_, rfl, (ex_add (ex_v (i := 2) (j := 0) B1 rfl rfl rfl) (ex_v (i := 5) (j := 1) B1 rfl rfl rfl))⟩, fun h => Bool.noConfusion h⟩)⟩))))))) (EN.ex (en_lst (ds := [(PyData.int 0)]) (hl := len_ok (n := 1) rfl) (ax_cons ex_int ax_nil))))) ?_
    refine sx_asg (i := 2) (vi := 2) (φ := (dat (PyData.int ((s2.1 + (walk3.length : Int)) - 1)))) B T rfl rfl (ex_sub (ex_add (ex_v (i := 2) (j := 2) B rfl rfl rfl) (EX.to (ex_fn (j := 1) B rfl g_len (by decide +kernel) call_len_seq (rc_lenT (ds := List.map PyData.int walk3) rdt_dat) (ax_cons (ex_v (i := 3) (j := 3) B rfl rfl rfl) ax_nil)) (by rw [List.length_map]))) ex_int) ?_
    obtain ⟨t13, h13, hm⟩ := bnd hm
    obtain ⟨f16, h27, hm⟩ := bnd hm
    refine sx_for (c := anyOs) _ (fun (s14 : (List (Tri Int Int Int))) (_ : Unit) => [sl (dat (PyData.list (List.map (eT PyData.int) walks))), sl (own q_ways1), sl (dat (PyData.int ((s2.1 + (walk3.length : Int)) - 1))), sl (dat (PyData.tuple (List.map PyData.int walk3))), sl (dat (PyData.list (List.map PyData.int t12))), un, un, un, un, un, un, un, un, un, un, un, un, un]) (fun (s14 : (List (Tri Int Int Int))) (_ : Unit) => (q_ways1, ol (List.map (eP3 PyData.int PyData.int PyData.int) s14)) :: os) B T (fun k_15 => gx_name (i := 5) (vi := 5) (φ := (dat (PyData.int k_15))) B T rfl rfl) s2.2 () f16 h27 (ix_rng1 (gi := 0) B rfl g_range h13 (EX.to (ex_fn (j := 1) B rfl g_len (by decide +kernel) call_len_seq (rc_lenT (ds := List.map PyData.int walk3) rdt_dat) (ax_cons (ex_v (i := 3) (j := 3) B rfl rfl rfl) ax_nil)) (by rw [List.length_map]))) ⟨.inl rfl, .inl rfl, .inl rfl, .inl rfl, .inl rfl, .inl rfl, .inl rfl, .inl rfl, .inl rfl, .inl rfl, .inl rfl, .inl rfl, .inl rfl, .inl rfl, .inl rfl, .inl rfl, .inl rfl, .inl rfl, trivial⟩ (fun _ _ => trivial) (fun F18 e17 s14 _ k_15 z28 hx hm => ?_) (fun _ => ?_)
    · clear h27
      obtain ⟨t19, h19, hm⟩ := bnd hm
      obtain ⟨t20, h20, hm⟩ := bnd hm
      obtain ⟨t21, h21, hm⟩ := bnd hm
      obtain ⟨t22, h22, hm⟩ := bnd hm
      refine sx_expr (ex_app (enc := (eP3 PyData.int PyData.int PyData.int)) (j := 0) (xs0 := s14) (xs := s14) (y := (Tri.mk t19 t20 t21)) h22 (ex_v (i := 1) (j := 1) B rfl rfl rfl) rfl (ex_tup (ds := [(PyData.int t19), (PyData.int t20), (PyData.int t21)]) (hl := len_ok (n := 3) rfl) (ax_cons (ex_idxL (enc := PyData.int) h19 rdl_dat (ex_v (i := 4) (j := 4) B rfl rfl rfl) (ex_v (i := 5) (j := 5) B rfl rfl rfl)) (ax_cons (ex_idxT (enc := PyData.int) h20 rdt_dat (ex_v (i := 3) (j := 3) B rfl rfl rfl) (ex_v (i := 5) (j := 5) B rfl rfl rfl)) (ax_cons (ex_idxL (enc := PyData.int) h21 rdl_dat (ex_v (i := 4) (j := 4) B rfl rfl rfl) (ex_add (ex_v (i := 5) (j := 5) B rfl rfl rfl) ex_int)) ax_nil)))) rfl) ?_
      obtain ⟨t23, h23, hm⟩ := bnd hm
      obtain ⟨t24, h24, hm⟩ := bnd hm
      obtain ⟨t25, h25, hm⟩ := bnd hm
      obtain ⟨t26, h26, hm⟩ := bnd hm
      refine sx_expr (ex_app (enc := (eP3 PyData.int PyData.int PyData.int)) (j := 0) (xs0 := t22) (xs := t22) (y := (Tri.mk t23 (-t24) t25)) h26 (ex_v (i := 1) (j := 1) B rfl rfl rfl) rfl (ex_tup (ds := [(PyData.int t23), (PyData.int (-t24)), (PyData.int t25)]) (hl := len_ok (n := 3) rfl) (ax_cons (ex_idxL (enc := PyData.int) h23 rdl_dat (ex_v (i := 4) (j := 4) B rfl rfl rfl) (ex_add (ex_v (i := 5) (j := 5) B rfl rfl rfl) ex_int)) (ax_cons (ex_neg (ex_idxT (enc := PyData.int) h24 rdt_dat (ex_v (i := 3) (j := 3) B rfl rfl rfl) (ex_v (i := 5) (j := 5) B rfl rfl rfl))) (ax_cons (ex_idxL (enc := PyData.int) h25 rdl_dat (ex_v (i := 4) (j := 4) B rfl rfl rfl) (ex_v (i := 5) (j := 5) B rfl rfl rfl)) ax_nil)))) rfl) ?_
      obtain rfl := som hm
      exact sx_nil fun σ H a => ⟨(), (a.weak ⟨.inl rfl, .inl rfl, .inl rfl, .inl rfl, .inl rfl, .inr rfl, .inl rfl, .inl rfl, .inl rfl, .inl rfl, .inl rfl, .inl rfl, .inl rfl, .inl rfl, .inl rfl, .inl rfl, .inl rfl, .inl rfl, trivial⟩)⟩
    · skip
      obtain rfl := som hm
      exact sx_nil fun σ H a => ⟨(), (a.weak ⟨.inl rfl, .inl rfl, .inl rfl, .inr rfl, .inr rfl, .inl rfl, .inl rfl, .inl rfl, .inl rfl, .inl rfl, .inl rfl, .inl rfl, .inl rfl, .inl rfl, .inl rfl, .inl rfl, .inl rfl, .inl rfl, trivial⟩)⟩
  · skip
    refine sx_frz (j := 0) (i := 1) rfl rfl ?_
    obtain ⟨t30, h30, hm⟩ := bnd hm
    refine sx_par2 (i := 6) (j := 7) _ hsc B rfl rfl (by decide) (by decide +kernel) (by decide +kernel) (by intro env he; cases env; cases he; first | rfl | kernel_rfl) (aq_x (φ := (dat (PyData.list (List.map PyData.int t30)))) (EN.ex (en_rgL1 (gi := 2) (gj := 0) B rfl rfl g_list g_range h30 (ex_v (i := 2) (j := 2) B rfl rfl rfl))) (aq_n (n := onx (List.map (odT kI PyData.int) ([] : (List (List (Int × Int)))))) (en_nil (f := (odT kI PyData.int))) (fun q_doors_here31 => aq_nil))) (fun v0 v1 os_ hr_ => ?_) (by rintro φs os_ ⟨_, rfl, q_doors_here31, _, rfl, rfl, rfl⟩; exact ⟨_, _, rfl⟩)
    obtain ⟨_, e0, q_doors_here31, _, e1, e8, e9⟩ := hr_
    cases e0; cases e1; cases e8; cases e9
    refine sx_open 0 rfl (fun k_32 => ?_)
    refine sx_frzF (j := 0) (i := 7) (frb_onl (fun _ => frb_od)) rfl rfl ?_
    obtain ⟨t33, h33, hm⟩ := bnd hm
    obtain ⟨f36, h60, hm⟩ := bnd hm
    refine sx_for (c := anyOs) _ (fun (s34 : ((List Int) × (List (List (Int × Int))))) (_ : Unit) => [sl (dat (PyData.list (List.map (eT PyData.int) walks))), sl (dat (PyData.list (List.map (eP3 PyData.int PyData.int PyData.int) f4.2))), sl (dat (PyData.int f4.1)), un, un, un, sl (dat (PyData.list (List.map PyData.int s34.1))), sl (dat (PyData.list (List.map (eD kI PyData.int) s34.2))), un, un, un, un, un, un, un, un, un, un]) (fun (s34 : ((List Int) × (List (List (Int × Int))))) (_ : Unit) => os) B T (fun turn35 => gx_name (i := 8) (vi := 8) (φ := (dat (PyData.int turn35))) B T rfl rfl) (t30, ([] : (List (List (Int × Int))))) () f36 h60 (ix_rng1 (gi := 0) B rfl g_range h33 (ex_v (i := 2) (j := 2) B rfl rfl rfl)) ⟨.inl rfl, .inl rfl, .inl rfl, .inl rfl, .inl rfl, .inl rfl, .inl rfl, .inl rfl, .inl rfl, .inl rfl, .inl rfl, .inl rfl, .inl rfl, .inl rfl, .inl rfl, .inl rfl, .inl rfl, .inl rfl, trivial⟩ (fun _ _ => trivial) (fun F38 e37 s34 _ turn35 z61 hx hm => ?_) (fun _ => ?_)
    · clear h60
      obtain ⟨t39, h39, hm⟩ := bnd hm
      obtain ⟨z41, h42, hm⟩ := bnd hm
      obtain ⟨t43, h43, hm⟩ := bnd hm
      refine sx_asgLcN (i := 7) B T rfl (by rw [hsc]; exact lcl_of (by decide +kernel)) (f := (odT kI PyData.int)) (m := (fun (room40 : Int) => (some ([] : (List (Int × Int))) : Option (List (Int × Int)))))  (cp_mk1 (j := 9) (vp := fun room40 => (dat (PyData.int room40))) (c := anyOs) B rfl rfl (by rw [B.hN, hsc]; decide +kernel) (by rw [hsc]; decide +kernel) (lenO_ok h42) (ix_rng1 (gi := 0) B rfl g_range h39 (ex_v (i := 2) (j := 2) B rfl rfl rfl)) (fun _ => trivial)) h43 (fun room40 t q1 hx hf X1 hX => by (obtain rfl := som hf; have B1 := Bd.fam (W' := []) (G' := []) B hX (by (try rw [hsc]); decide +kernel); exact (en_dnew (kd := kI)))) (sw_ok (by rw [hsc]; decide +kernel) (by rw [hsc]; exact lcl_of (by decide +kernel)) (by decide) (by decide +kernel)) (fun q_doors_here43 => ?_)
      refine sx_open 0 rfl (fun k_44 => ?_)
      obtain ⟨f47, h58, hm⟩ := bnd hm
      refine sx_for (c := anyOs) _ (fun (s45 : ((List Int) × (List (List (Int × Int))))) (_ : Unit) => [sl (dat (PyData.list (List.map (eT PyData.int) walks))), sl (dat (PyData.list (List.map (eP3 PyData.int PyData.int PyData.int) f4.2))), sl (dat (PyData.int f4.1)), un, un, un, sl (dat (PyData.list (List.map PyData.int s45.1))), sl (own q_doors_here43), sl (dat (PyData.int turn35)), un, un, un, un, un, un, un, un, un]) (fun (s45 : ((List Int) × (List (List (Int × Int))))) (_ : Unit) => (q_doors_here43, onl k_44 (List.map (odT kI PyData.int) s45.2)) :: os) B T (fun x46 => gx_triple B (gx_name (i := 9) (vi := 9) (φ := (dat (PyData.int x46.a))) B T rfl rfl) (gx_name (i := 10) (vi := 10) (φ := (dat (PyData.int x46.b))) B T rfl rfl) (gx_name (i := 11) (vi := 11) (φ := (dat (PyData.int x46.c))) B T rfl rfl)) (s34.1, t43) () f47 h58 (ix_list (enc := (eP3 PyData.int PyData.int PyData.int)) (c := anyOs) (ex_v (i := 1) (j := 1) B rfl rfl rfl) (fun _ _ => rdl_dat) trivial) ⟨.inl rfl, .inl rfl, .inl rfl, .inl rfl, .inl rfl, .inl rfl, .inl rfl, .inl rfl, .inl rfl, .inl rfl, .inl rfl, .inl rfl, .inl rfl, .inl rfl, .inl rfl, .inl rfl, .inl rfl, .inl rfl, trivial⟩ (fun _ _ => trivial) (fun F49 e48 s45 _ x46 z59 hx hm => ?_) (fun _ => ?_)
      · clear h58
        obtain ⟨t50, h50, hm⟩ := bnd hm
        obtain ⟨t51, h51, hm⟩ := bnd hm
        refine sx_par2 (i := 12) (j := 13) _ hsc B rfl rfl (by decide) (by decide +kernel) (by decide +kernel) (by intro env he; cases env; cases he; first | rfl | kernel_rfl) (aq_x (φ := (dat (PyData.int t50))) (ex_idxL (enc := PyData.int) h50 rdl_dat (ex_v (i := 6) (j := 6) B rfl rfl rfl) (ex_v (i := 9) (j := 9) B rfl rfl rfl)) (aq_x (φ := (dat (PyData.int t51))) (ex_idxL (enc := PyData.int) h51 rdl_dat (ex_v (i := 6) (j := 6) B rfl rfl rfl) (ex_v (i := 11) (j := 11) B rfl rfl rfl)) aq_nil)) (fun v0 v1 os_ hr_ => ?_) (by rintro φs os_ ⟨_, rfl, _, rfl, rfl, rfl⟩; exact ⟨_, _, rfl⟩)
        obtain ⟨_, e0, _, e1, e8, e9⟩ := hr_
        cases e0; cases e1; cases e8; cases e9
        obtain ⟨t52, h52, hm⟩ := bnd hm
        obtain ⟨t53, h53, hm⟩ := bnd hm
        refine sx_asg (i := 14) (vi := 14) (φ := (dat (PyData.int t53.1))) B T rfl rfl (ex_dsetd (enc := PyData.int) (w := t52) inj_kI h53 (ex_nst (f := (odT kI PyData.int)) (ws := s45.2) 0 h52 rfl (ex_v (i := 7) (j := 7) B rfl rfl rfl) (ex_v (i := 12) (j := 12) B rfl rfl rfl)) (rdd_wr (wr_nest (f := (odT kI PyData.int)) (ws := s45.2) 0 rfl h52)) (ex_v (i := 10) (j := 10) B rfl rfl rfl) (ex_v (i := 13) (j := 13) B rfl rfl rfl) (wr_nest (f := (odT kI PyData.int)) (ws := s45.2) 0 rfl h52) (wr_same_nest (f := (odT kI PyData.int)) (ws := s45.2) 0 rfl h52)) ?_
        obtain ⟨s57, h_s57, hm⟩ := bnd hm
        refine sx_join [sl (dat (PyData.list (List.map (eT PyData.int) walks))), sl (dat (PyData.list (List.map (eP3 PyData.int PyData.int PyData.int) f4.2))), sl (dat (PyData.int f4.1)), un, un, un, sl (dat (PyData.list (List.map PyData.int s57))), sl (own q_doors_here43), sl (dat (PyData.int turn35)), sl (dat (PyData.int x46.a)), sl (dat (PyData.int x46.b)), sl (dat (PyData.int x46.c)), sl (dat (PyData.int t50)), sl (dat (PyData.int t51)), sl (dat (PyData.int t53.1)), un, un, un] ((q_doors_here43, onl k_44 (List.map (odT kI PyData.int) (setI s45.2 t50 t53.2))) :: os) (?_) (fun Q => ?_)
        · clear h_s57
          obtain rfl := som hm
          exact sx_nil fun σ H a => ⟨(), (a.weak ⟨.inl rfl, .inl rfl, .inl rfl, .inl rfl, .inl rfl, .inl rfl, .inl rfl, .inl rfl, .inl rfl, .inr rfl, .inr rfl, .inr rfl, .inr rfl, .inr rfl, .inr rfl, .inl rfl, .inl rfl, .inl rfl, trivial⟩)⟩
        · have hm := h_s57
          refine sx_if (tx_cmp op_ne r2_neI (nomark _) (ex_v (i := 14) (j := 14) B rfl rfl rfl) (ex_v (i := 13) (j := 13) B rfl rfl rfl)) (fun hk => ?_) (fun hk => ?_)
          · have hm := ifT hm hk
            refine sx_mk2 (i := 15) (j := 16) (vi := 15) (gi := 16) _ hsc B T rfl rfl rfl rfl (by intro env he; cases env; cases he; first | rfl | kernel_rfl) (aq_x (φ := (dat (PyData.int (minI t53.1 t51)))) (ex_fn (j := 3) B rfl g_min (by decide +kernel) (call_min2 B.calm) rc_min (ax_cons (ex_v (i := 14) (j := 14) B rfl rfl rfl) (ax_cons (ex_v (i := 13) (j := 13) B rfl rfl rfl) ax_nil))) (aq_x (φ := (dat (PyData.int (maxI t53.1 t51)))) (ex_fn (j := 4) B rfl g_max (by decide +kernel) (call_max2 B.calm) rc_max (ax_cons (ex_v (i := 14) (j := 14) B rfl rfl rfl) (ax_cons (ex_v (i := 13) (j := 13) B rfl rfl rfl) ax_nil))) aq_nil)) (fun v0 v1 os_ hr_ => ?_) (by rintro φs os_ ⟨_, rfl, _, rfl, rfl, rfl⟩; exact ⟨_, _, rfl⟩)
            obtain ⟨_, e0, _, e1, e8, e9⟩ := hr_
            cases e0; cases e1; cases e8; cases e9
            obtain ⟨t56, h56, hm⟩ := bnd hm
            refine sx_asgLc (i := 6) B T rfl (by rw [hsc]; exact lcl_of (by decide +kernel)) (lc_mk1 (j := 17) (vp := fun head54 => (dat (PyData.int head54))) (c := anyOs) (enc := PyData.int) (fun (_ : Unit) (head54 : Int) => some (some (if (decide (head54 = (maxI t53.1 t51))) = true then (minI t53.1 t51) else head54), ())) (fun (_ : Unit) (tl1 : Os) => (q_doors_here43, onl k_44 (List.map (odT kI PyData.int) (setI s45.2 t50 t53.2))) :: tl1) () (t56) () B rfl rfl (by rw [B.hN, hsc]; decide +kernel) (by rw [hsc]; decide +kernel) (by decide) (lcT_ok h56) (ix_list (enc := PyData.int) (c := anyOs) (ex_v (i := 6) (j := 6) B rfl rfl rfl) (fun _ _ => rdl_dat) trivial) (fun _ _ => trivial) (fun _ _ _ => (List.Perm.swap _ _ _)) (fun _ head54 t tl1 hx hf => by (obtain rfl := som hf; exact ⟨true, _, fun X1 hX => by (have B1 := Bd.fam (W' := ["_law_low", "_law_high", "_law_head"]) (G' := []) B hX (by (try rw [hsc]); decide +kernel); exact ⟨.nil, fun _ => ⟨_, rfl, (ex_if (tx_cmp op_eq r2_eqI (nomark _) (ex_v (i := 17) (j := 2) B1 rfl rfl rfl) (ex_v (i := 16) (j := 1) B1 rfl rfl rfl)) (fun hk => EX.to (ex_v (i := 15) (j := 0) B1 rfl rfl rfl) (by rw [if_pos hk])) (fun hk => EX.to (ex_v (i := 17) (j := 2) B1 rfl rfl rfl) (by rw [if_neg (by rw [hk]; exact Bool.false_ne_true)])))⟩, fun h => Bool.noConfusion h⟩)⟩))) (sw_ok (by rw [hsc]; decide +kernel) (by rw [hsc]; exact lcl_of (by decide +kernel)) (by decide) (by decide +kernel)) (fun q_heads56 => ?_)
            refine sx_frz (j := 0) (i := 6) rfl rfl ?_
            obtain rfl := som hm
            exact sx_fall (SX.weak Q (by exact ⟨.inl rfl, .inl rfl, .inl rfl, .inl rfl, .inl rfl, .inl rfl, .inl rfl, .inl rfl, .inl rfl, .inl rfl, .inl rfl, .inl rfl, .inl rfl, .inl rfl, .inl rfl, .inr rfl, .inr rfl, .inl rfl, trivial⟩)) rfl
          · have hm := ifF hm hk
            obtain rfl := som hm
            exact sx_fall Q rfl
      · skip
        refine sx_frzF (j := 0) (i := 7) (frb_onl (fun _ => frb_od)) rfl rfl ?_
        obtain rfl := som hm
        exact sx_nil fun σ H a => ⟨(), (a.weak ⟨.inl rfl, .inl rfl, .inl rfl, .inl rfl, .inl rfl, .inl rfl, .inl rfl, .inl rfl, .inr rfl, .inl rfl, .inl rfl, .inl rfl, .inl rfl, .inl rfl, .inl rfl, .inl rfl, .inl rfl, .inl rfl, trivial⟩)⟩
    · skip
      obtain rfl := som hm
      exact sx_ret (ex_v (i := 7) (j := 7) B rfl rfl rfl) (fun F H v e o c => R.rt F H v e o c)
theorem cal_l_rings {P : Program} {w : World} {K : PySem.W.Frag} {mg : Str → Option Value} {base : Heap} {f : Addr} {fd : FuncData} (Fn : Fun K "_law_rings" "_law_rings" s_l_rings f fd) (hmg : mg "_law_rings" = some (.ref f)) (hb : Binds K fd ["_law_walks"] []) (g_range : mg "range" = none) (g_len : mg "len" = none) (g_list : mg "list" = none) (g_min : mg "min" = none) (g_max : mg "max" = none) : Cal P w K mg base 1 "_law_rings" s_l_rings ["_law_walks"] (sp_l_rings K) := by
  obtain ⟨sts_, hst_⟩ : ∃ z_, defBody s_l_rings = z_ := ⟨_, rfl⟩
  exact cal_ZQ (V := V_l_rings) (Gs := G_l_rings) (nl := 17) hst_ Fn sc_l_rings (by decide +kernel) (by decide +kernel) hmg hb (fun _ => rfl) rfl fun _ _ _ _ _ _ _ a b F0 os D B T hm R => body_l_rings rfl hst_ B T g_range g_len g_list g_min g_max a b F0 os D hm R
/-! ### _law_drawn -/
abbrev s_l_drawn : Stmt := top 34
def N_l_drawn : List Str := ["_law_pot_here", "_law_most", "_law_top", "_law_letters", "_law_way", "_law_walks", "_law_left", "_law_turn", "_law_size", "_law_gaps"]
def V_l_drawn : List Str := ["_law_pot_here", "_law_most", "_law_top", "_law_letters", "_law_way", "_law_walks", "_law_left", "_law_turn", "_law_size", "_law_gaps"]
def G_l_drawn : List Str := ["_law_draw", "range", "_law_straight", "_law_web", "_law_rings", "_law_tables"]
theorem sc_l_drawn : FnScope N_l_drawn ["_law_pot_here", "_law_most", "_law_top"] (defScope s_l_drawn) := ⟨rfl, rfl, rfl, by decide +kernel, rfl, by decide +kernel, by decide +kernel⟩
abbrev sp_l_drawn (K : PySem.W.Frag) : Sp := spZ (α := (Addr × (List Int) × Int × Int)) (β := ((Int × (List (List Int))) × (List Int))) (fun a => [own a.1, (dat (PyData.int a.2.2.1)), (dat (PyData.int a.2.2.2))]) (fun a => (a.1, ol (List.map PyData.int a.2.1)) :: []) (fun a => m_l_drawn a.2.1 a.2.2.1 a.2.2.2) (fun a b => (dat (PyData.tuple [(PyData.int b.1.1), (PyData.tuple (List.map (eT PyData.int) b.1.2))]))) (fun a b => (a.1, ol (List.map PyData.int b.2)) :: [])
set_option maxHeartbeats 4000000 in
theorem body_l_drawn {X : Cx} (hsc : X.env.scope = defScope s_l_drawn) {sts_ : List Stmt} (hst_ : defBody s_l_drawn = sts_) (B : Bd X N_l_drawn V_l_drawn G_l_drawn 2) (T : Bt X V_l_drawn) (c_l_draw : Cal X.prog X.w X.K X.mg X.base 1 "_law_draw" s_l_draw ["_law_pot_here", "_law_many"] (sp_l_draw X.K)) (g_range : X.mg "range" = none) (c_l_straight : Cal X.prog X.w X.K X.mg X.base 2 "_law_straight" s_l_straight ["_law_pot_here", "_law_letters", "_law_size"] (sp_l_straight X.K)) (c_l_web : Cal X.prog X.w X.K X.mg X.base 2 "_law_web" s_l_web ["_law_letters", "_law_doors_here"] (sp_l_web X.K)) (c_l_rings : Cal X.prog X.w X.K X.mg X.base 1 "_law_rings" s_l_rings ["_law_walks"] (sp_l_rings X.K)) (c_l_tables : Cal X.prog X.w X.K X.mg X.base 2 "_law_tables" s_l_tables ["_law_pot_here", "_law_letters", "_law_count", "_law_gaps"] (sp_l_tables X.K)) (q_pot_here : Addr) (w_pot_here : (List Int)) (most : Int) (top : Int) (b : ((Int × (List (List Int))) × (List Int))) (F0 : Hp) (os : Os) (D : Ends) (hm : m_l_drawn w_pot_here most top = some b) (R : RetZ F0 ((q_pot_here, ol (List.map PyData.int b.2)) :: os) (dat (PyData.tuple [(PyData.int b.1.1), (PyData.tuple (List.map (eT PyData.int) b.1.2))])) D) :
    SX X [sl (own q_pot_here), sl (dat (PyData.int most)), sl (dat (PyData.int top)), un, un, un, un, un, un, un] ((q_pot_here, ol (List.map PyData.int w_pot_here)) :: os) F0 sts_ D := by
  subst hst_
  unfold m_l_drawn at hm
  obtain ⟨t1, h1, hm⟩ := bnd hm
  refine sx_asg (i := 3) (vi := 3) (φ := (dat (PyData.int (1 + t1.1)))) B T rfl rfl (ex_add ex_int (ex_call (a := (q_pot_here, w_pot_here, top)) (b := t1) (gi := 0) (rest := os) B rfl c_l_draw (by decide) h1 (ax_cons (ex_v (i := 0) (j := 0) B rfl rfl rfl) (ax_cons (ex_v (i := 2) (j := 2) B rfl rfl rfl) ax_nil)))) ?_
  obtain ⟨t2, h2, hm⟩ := bnd hm
  refine sx_asg (i := 4) (vi := 4) (φ := (dat (PyData.int t2.1))) B T rfl rfl (ex_call (a := (q_pot_here, t1.2, 9)) (b := t2) (gi := 0) (rest := os) B rfl c_l_draw (by decide) h2 (ax_cons (ex_v (i := 0) (j := 0) B rfl rfl rfl) (ax_cons ex_int ax_nil))) ?_
  refine sx_if (tx_cmp op_eq r2_eqI (nomark _) (ex_v (i := 4) (j := 4) B rfl rfl rfl) ex_int) (fun hk => ?_) (fun hk => ?_)
  · have hm := ifT hm hk
    obtain ⟨t3, h3, hm⟩ := bnd hm
    obtain rfl := som hm
    exact sx_ret (ex_tup (ds := [(PyData.int (1 + t1.1)), (PyData.tuple (List.map (eT PyData.int) ([t3])))]) (hl := len_ok (n := 2) rfl) (ax_cons (ex_v (i := 3) (j := 3) B rfl rfl rfl) (ax_cons (ex_tup (ds := [(PyData.tuple (List.map PyData.int t3))]) (hl := len_ok (n := 1) rfl) (ax_cons (ex_repT (enc := PyData.int) h3 (ex_tup (ds := [(PyData.int (-1))]) (hl := len_ok (n := 1) rfl) (ax_cons (ex_neg ex_int) ax_nil)) (ex_v (i := 3) (j := 3) B rfl rfl rfl)) ax_nil)) ax_nil))) (fun F H v e o c => R.rt F H v e o c)
  · have hm := ifF hm hk
    refine sx_fall ?_ rfl
    refine sx_if (tx_cmp op_lt r2_lt (nomark _) (ex_v (i := 4) (j := 4) B rfl rfl rfl) ex_int) (fun hk => ?_) (fun hk => ?_)
    · have hm := ifT hm hk
      refine sx_par2 (i := 5) (j := 6) _ hsc B rfl rfl (by decide) (by decide +kernel) (by decide +kernel) (by intro env he; cases env; cases he; first | rfl | kernel_rfl) (aq_n (n := ol (List.map (eT PyData.int) ([] : (List (List Int))))) (en_lst (ds := []) ax_nil) (fun q_walks4 => (aq_x (φ := (dat (PyData.int most))) (ex_v (i := 1) (j := 1) B rfl rfl rfl) aq_nil))) (fun v0 v1 os_ hr_ => ?_) (by rintro φs os_ ⟨q_walks4, _, rfl, _, rfl, rfl, rfl⟩; exact ⟨_, _, rfl⟩)
      obtain ⟨q_walks4, _, e0, _, e1, e8, e9⟩ := hr_
      cases e0; cases e1; cases e8; cases e9
      obtain ⟨t5, h5, hm⟩ := bnd hm
      obtain ⟨t6, h6, hm⟩ := bnd hm
      obtain ⟨f9, h16, hm⟩ := bnd hm
      refine sx_for (c := anyOs) _ (fun (s7 : (Int × (List Int) × (List (List Int)))) (_ : Unit) => [sl (own q_pot_here), sl (dat (PyData.int most)), sl (dat (PyData.int top)), sl (dat (PyData.int (1 + t1.1))), sl (dat (PyData.int t2.1)), sl (own q_walks4), sl (dat (PyData.int s7.1)), un, un, un]) (fun (s7 : (Int × (List Int) × (List (List Int)))) (_ : Unit) => (q_pot_here, ol (List.map PyData.int s7.2.1)) :: (q_walks4, ol (List.map (eT PyData.int) s7.2.2)) :: os) B T (fun turn8 => gx_name (i := 7) (vi := 7) (φ := (dat (PyData.int turn8))) B T rfl rfl) (most, t5.2, ([] : (List (List Int)))) () f9 h16 (ix_rng1 (gi := 1) B rfl g_range h6 (ex_add ex_int (EX.pre (ex_call (a := (q_pot_here, t2.2, 3)) (b := t5) (gi := 0) (rest := (q_walks4, ol (List.map (eT PyData.int) ([] : (List (List Int))))) :: os) B rfl c_l_draw (by decide) h5 (ax_cons (ex_v (i := 0) (j := 0) B rfl rfl rfl) (ax_cons ex_int ax_nil))) (perm_at (k := 1) rfl)))) ⟨.inl rfl, .inl rfl, .inl rfl, .inl rfl, .inl rfl, .inl rfl, .inl rfl, .inl rfl, .inl rfl, .inl rfl, trivial⟩ (fun _ _ => trivial) (fun F11 e10 s7 _ turn8 z19 hx hm => ?_) (fun _ => ?_)
      · clear h16
        obtain ⟨s15, h_s15, hm⟩ := bnd hm
        refine sx_join [sl (own q_pot_here), sl (dat (PyData.int most)), sl (dat (PyData.int top)), sl (dat (PyData.int (1 + t1.1))), sl (dat (PyData.int t2.1)), sl (own q_walks4), sl (dat (PyData.int s15.1)), sl (dat (PyData.int turn8)), un, un] ((q_pot_here, ol (List.map PyData.int s15.2.1)) :: (q_walks4, ol (List.map (eT PyData.int) s15.2.2)) :: os) (?_) (fun Q => ?_)
        · clear h_s15
          obtain rfl := som hm
          exact sx_nil fun σ H a => ⟨(), (a.weak ⟨.inl rfl, .inl rfl, .inl rfl, .inl rfl, .inl rfl, .inl rfl, .inl rfl, .inr rfl, .inl rfl, .inl rfl, trivial⟩)⟩
        · have hm := h_s15
          refine sx_if (tx_cmp op_gt r2_gt (nomark _) (ex_v (i := 6) (j := 6) B rfl rfl rfl) ex_int) (fun hk => ?_) (fun hk => ?_)
          · have hm := ifT hm hk
            obtain ⟨t12, h12, hm⟩ := bnd hm
            refine sx_asg (i := 8) (vi := 8) (φ := (dat (PyData.int (1 + t12.1)))) B T rfl rfl (ex_add ex_int (ex_call (a := (q_pot_here, s7.2.1, s7.1)) (b := t12) (gi := 0) (rest := (q_walks4, ol (List.map (eT PyData.int) s7.2.2)) :: os) B rfl c_l_draw (by decide) h12 (ax_cons (ex_v (i := 0) (j := 0) B rfl rfl rfl) (ax_cons (ex_v (i := 6) (j := 6) B rfl rfl rfl) ax_nil)))) ?_
            obtain ⟨t13, h13, hm⟩ := bnd hm
            obtain ⟨t14, h14, hm⟩ := bnd hm
            refine sx_expr (ex_app (enc := (eT PyData.int)) (j := 1) (xs0 := s7.2.2) (xs := s7.2.2) (y := t13.1) h14 (ex_v (i := 5) (j := 5) B rfl rfl rfl) rfl (ex_call (a := (q_pot_here, t12.2, (1 + t1.1), (1 + t12.1))) (b := t13) (gi := 2) (rest := (q_walks4, ol (List.map (eT PyData.int) s7.2.2)) :: os) B rfl c_l_straight (by decide) h13 (ax_cons (ex_v (i := 0) (j := 0) B rfl rfl rfl) (ax_cons (ex_v (i := 3) (j := 3) B rfl rfl rfl) (ax_cons (ex_v (i := 8) (j := 8) B rfl rfl rfl) ax_nil)))) rfl) ?_
            refine sx_asg (i := 6) (vi := 6) (φ := (dat (PyData.int (s7.1 - (1 + t12.1))))) B T rfl rfl (ex_sub (ex_v (i := 6) (j := 6) B rfl rfl rfl) (ex_v (i := 8) (j := 8) B rfl rfl rfl)) ?_
            obtain rfl := som hm
            exact sx_fall (SX.weak Q (by exact ⟨.inl rfl, .inl rfl, .inl rfl, .inl rfl, .inl rfl, .inl rfl, .inl rfl, .inl rfl, .inr rfl, .inl rfl, trivial⟩)) rfl
          · have hm := ifF hm hk
            obtain rfl := som hm
            exact sx_fall Q rfl
      · skip
        refine sx_frz (j := 1) (i := 5) rfl rfl ?_
        obtain ⟨t17, h17, hm⟩ := bnd hm
        obtain ⟨t18, h18, hm⟩ := bnd hm
        obtain rfl := som hm
        exact sx_ret (ex_call (a := ((1 + t1.1), t17)) (b := t18) (gi := 3) (rest := (q_pot_here, ol (List.map PyData.int f9.2.1)) :: os) B rfl c_l_web (by decide) h18 (ax_cons (ex_v (i := 3) (j := 3) B rfl rfl rfl) (ax_cons (ex_call (a := f9.2.2) (b := t17) (gi := 4) (rest := (q_pot_here, ol (List.map PyData.int f9.2.1)) :: os) B rfl c_l_rings (by decide) h17 (ax_cons (ex_v (i := 5) (j := 5) B rfl rfl rfl) ax_nil)) ax_nil))) (fun F H v e o c => R.rt F H v e o c)
    · have hm := ifF hm hk
      refine sx_fall ?_ rfl
      obtain ⟨t20, h20, hm⟩ := bnd hm
      obtain ⟨t21, h21, hm⟩ := bnd hm
      refine sx_asg (i := 9) (vi := 9) (φ := (dat (PyData.int t21))) B T rfl rfl (ex_idxL (enc := PyData.int) h21 rdl_dat (EN.ex (en_lst (ds := [(PyData.int 0), (PyData.int 0), (PyData.int 2), (PyData.int 3), (PyData.int 6)]) (hl := len_ok (n := 5) rfl) (ax_cons ex_int (ax_cons ex_int (ax_cons ex_int (ax_cons ex_int (ax_cons ex_int ax_nil))))))) (ex_call (a := (q_pot_here, t2.2, 5)) (b := t20) (gi := 0) (rest := os) B rfl c_l_draw (by decide) h20 (ax_cons (ex_v (i := 0) (j := 0) B rfl rfl rfl) (ax_cons ex_int ax_nil)))) ?_
      obtain ⟨t22, h22, hm⟩ := bnd hm
      obtain ⟨t23, h23, hm⟩ := bnd hm
      obtain ⟨t24, h24, hm⟩ := bnd hm
      obtain rfl := som hm
      exact sx_ret (ex_call (a := ((1 + t1.1), t23.1)) (b := t24) (gi := 3) (rest := (q_pot_here, ol (List.map PyData.int t23.2)) :: os) B rfl c_l_web (by decide) h24 (ax_cons (ex_v (i := 3) (j := 3) B rfl rfl rfl) (ax_cons (ex_call (a := (q_pot_here, t22.2, (1 + t1.1), (1 + t22.1), t21)) (b := t23) (gi := 5) (rest := os) B rfl c_l_tables (by decide) h23 (ax_cons (ex_v (i := 0) (j := 0) B rfl rfl rfl) (ax_cons (ex_v (i := 3) (j := 3) B rfl rfl rfl) (ax_cons (ex_add ex_int (ex_call (a := (q_pot_here, t20.2, most)) (b := t22) (gi := 0) (rest := os) B rfl c_l_draw (by decide) h22 (ax_cons (ex_v (i := 0) (j := 0) B rfl rfl rfl) (ax_cons (ex_v (i := 1) (j := 1) B rfl rfl rfl) ax_nil)))) (ax_cons (ex_v (i := 9) (j := 9) B rfl rfl rfl) ax_nil))))) ax_nil))) (fun F H v e o c => R.rt F H v e o c)
theorem cal_l_drawn {P : Program} {w : World} {K : PySem.W.Frag} {mg : Str → Option Value} {base : Heap} {f : Addr} {fd : FuncData} (Fn : Fun K "_law_drawn" "_law_drawn" s_l_drawn f fd) (hmg : mg "_law_drawn" = some (.ref f)) (hb : Binds K fd ["_law_pot_here", "_law_most", "_law_top"] []) (c_l_draw : Cal P w K mg base 1 "_law_draw" s_l_draw ["_law_pot_here", "_law_many"] (sp_l_draw K)) (g_range : mg "range" = none) (c_l_straight : Cal P w K mg base 2 "_law_straight" s_l_straight ["_law_pot_here", "_law_letters", "_law_size"] (sp_l_straight K)) (c_l_web : Cal P w K mg base 2 "_law_web" s_l_web ["_law_letters", "_law_doors_here"] (sp_l_web K)) (c_l_rings : Cal P w K mg base 1 "_law_rings" s_l_rings ["_law_walks"] (sp_l_rings K)) (c_l_tables : Cal P w K mg base 2 "_law_tables" s_l_tables ["_law_pot_here", "_law_letters", "_law_count", "_law_gaps"] (sp_l_tables K)) : Cal P w K mg base 3 "_law_drawn" s_l_drawn ["_law_pot_here", "_law_most", "_law_top"] (sp_l_drawn K) := by
  obtain ⟨sts_, hst_⟩ : ∃ z_, defBody s_l_drawn = z_ := ⟨_, rfl⟩
  exact cal_ZQ (V := V_l_drawn) (Gs := G_l_drawn) (nl := 7) hst_ Fn sc_l_drawn (by decide +kernel) (by decide +kernel) hmg hb (fun _ => rfl) rfl fun _ _ _ _ _ _ _ a b F0 os D B T hm R => body_l_drawn rfl hst_ B T c_l_draw g_range c_l_straight c_l_web c_l_rings c_l_tables a.1 a.2.1 a.2.2.1 a.2.2.2 b F0 os D hm R
/-! ### _law_numbers -/
abbrev s_l_numbers : Stmt := top 35
def N_l_numbers : List Str := ["_law_doors_here", "_law_most", "_law_table", "_law_found", "_law_length", "_law_later", "_law_room", "_law_last", "_law_step", "_law_place"]
def V_l_numbers : List Str := ["_law_doors_here", "_law_most", "_law_table", "_law_found", "_law_length", "_law_later", "_law_room", "_law_last", "_law_step", "_law_place"]
def G_l_numbers : List Str := ["range", "sum"]
theorem sc_l_numbers : FnScope N_l_numbers ["_law_doors_here", "_law_most"] (defScope s_l_numbers) := ⟨rfl, rfl, rfl, by decide +kernel, rfl, by decide +kernel, by decide +kernel⟩
abbrev sp_l_numbers (K : PySem.W.Frag) : Sp := spZ (α := ((List (List (Int × Int))) × Int)) (β := (List Int)) (fun a => [(dat (PyData.list (List.map (eD kI PyData.int) a.1))), (dat (PyData.int a.2))]) (fun a => []) (fun a => m_l_numbers a.1 a.2) (fun a b => (dat (PyData.list (List.map PyData.int b)))) (fun a b => [])
set_option maxHeartbeats 4000000 in
theorem body_l_numbers {X : Cx} (hsc : X.env.scope = defScope s_l_numbers) {sts_ : List Stmt} (hst_ : defBody s_l_numbers = sts_) (B : Bd X N_l_numbers V_l_numbers G_l_numbers 0) (T : Bt X V_l_numbers) (g_range : X.mg "range" = none) (g_sum : X.mg "sum" = none) (doors_here : (List (List (Int × Int)))) (most : Int) (b : (List Int)) (F0 : Hp) (os : Os) (D : Ends) (hm : m_l_numbers doors_here most = some b) (R : RetZ F0 (os) (dat (PyData.list (List.map PyData.int b))) D) :
    SX X [sl (dat (PyData.list (List.map (eD kI PyData.int) doors_here))), sl (dat (PyData.int most)), un, un, un, un, un, un, un, un] (os) F0 sts_ D := by
  subst hst_
  unfold m_l_numbers at hm
  refine sx_mk2 (i := 2) (j := 3) (vi := 2) (gi := 3) _ hsc B T rfl rfl rfl rfl (by intro env he; cases env; cases he; first | rfl | kernel_rfl) (aq_x (φ := (dat (Kd.pd kII (eM PyData.int ([((0, 0), 1)]))))) (EN.exF (en_disp1T (f := (fun p => [Sum.inl p.1, Sum.inl p.2])) (enc := PyData.int) (k' := (0, 0)) (x' := 1) B (fun qd => (ex_tup (ds := [(PyData.int 0), (PyData.int 0)]) (hl := len_ok (n := 2) rfl) (ax_cons ex_int (ax_cons ex_int ax_nil)))) (fun qd => ex_int)) frb_od) (aq_n (n := ol (List.map PyData.int ([1]))) (en_lst (ds := [(PyData.int 1)]) (hl := len_ok (n := 1) rfl) (ax_cons ex_int ax_nil)) (fun q_found1 => aq_nil))) (fun v0 v1 os_ hr_ => ?_) (by rintro φs os_ ⟨_, rfl, q_found1, _, rfl, rfl, rfl⟩; exact ⟨_, _, rfl⟩)
  obtain ⟨_, e0, q_found1, _, e1, e8, e9⟩ := hr_
  cases e0; cases e1; cases e8; cases e9
  obtain ⟨t2, h2, hm⟩ := bnd hm
  obtain ⟨f5, h33, hm⟩ := bnd hm
  refine sx_for (c := anyOs) _ (fun (s3 : ((List ((Int × Int) × Int)) × (List Int))) (_ : Unit) => [sl (dat (PyData.list (List.map (eD kI PyData.int) doors_here))), sl (dat (PyData.int most)), sl (dat (Kd.pd kII (eM PyData.int s3.1))), sl (own q_found1), un, un, un, un, un, un]) (fun (s3 : ((List ((Int × Int) × Int)) × (List Int))) (_ : Unit) => (q_found1, ol (List.map PyData.int s3.2)) :: os) B T (fun length4 => gx_name (i := 4) (vi := 4) (φ := (dat (PyData.int length4))) B T rfl rfl) ([((0, 0), 1)], [1]) () f5 h33 (ix_rng1 (gi := 0) B rfl g_range h2 (ex_v (i := 1) (j := 1) B rfl rfl rfl)) ⟨.inl rfl, .inl rfl, .inl rfl, .inl rfl, .inl rfl, .inl rfl, .inl rfl, .inl rfl, .inl rfl, .inl rfl, trivial⟩ (fun _ _ => trivial) (fun F7 e6 s3 _ length4 z34 hx hm => ?_) (fun _ => ?_)
  · clear h33
    refine sx_asgN (i := 5) (vi := 5) (n := od kII (eM PyData.int ([] : (List ((Int × Int) × Int))))) B T rfl rfl (en_dnew (kd := kII)) (fun q_later7 => ?_)
    obtain ⟨f10, h26, hm⟩ := bnd hm
    refine sx_for (c := anyOs) _ (fun (s8 : (List ((Int × Int) × Int))) (_ : Unit) => [sl (dat (PyData.list (List.map (eD kI PyData.int) doors_here))), sl (dat (PyData.int most)), sl (dat (Kd.pd kII (eM PyData.int s3.1))), sl (own q_found1), sl (dat (PyData.int length4)), sl (own q_later7), un, un, un, un]) (fun (s8 : (List ((Int × Int) × Int))) (_ : Unit) => (q_later7, od kII (eM PyData.int s8)) :: (q_found1, ol (List.map PyData.int s3.2)) :: os) B T (fun x9 => gx_pair B (gx_name (i := 6) (vi := 6) (φ := (dat (PyData.int x9.1))) B T rfl rfl) (gx_name (i := 7) (vi := 7) (φ := (dat (PyData.int x9.2))) B T rfl rfl)) ([] : (List ((Int × Int) × Int))) () f10 h26 (ix_keysD (kd := kII) (enc := PyData.int) (w := s3.1) (ex_v (i := 2) (j := 2) B rfl rfl rfl)) ⟨.inl rfl, .inl rfl, .inl rfl, .inl rfl, .inl rfl, .inl rfl, .inl rfl, .inl rfl, .inl rfl, .inl rfl, trivial⟩ (fun _ _ => trivial) (fun F12 e11 s8 _ x9 z32 hx hm => ?_) (fun _ => ?_)
    · clear h26
      obtain ⟨t13, h13, hm⟩ := bnd hm
      obtain ⟨f16, h24, hm⟩ := bnd hm
      refine sx_for (c := anyOs) _ (fun (s14 : (List ((Int × Int) × Int))) (_ : Unit) => [sl (dat (PyData.list (List.map (eD kI PyData.int) doors_here))), sl (dat (PyData.int most)), sl (dat (Kd.pd kII (eM PyData.int s3.1))), sl (own q_found1), sl (dat (PyData.int length4)), sl (own q_later7), sl (dat (PyData.int x9.1)), sl (dat (PyData.int x9.2)), un, un]) (fun (s14 : (List ((Int × Int) × Int))) (_ : Unit) => (q_later7, od kII (eM PyData.int s14)) :: (q_found1, ol (List.map PyData.int s3.2)) :: os) B T (fun step15 => gx_name (i := 8) (vi := 8) (φ := (dat (PyData.int step15))) B T rfl rfl) s8 () f16 h24 (ix_keysD (kd := kI) (enc := PyData.int) (w := t13) (ex_idxL (enc := (eD kI PyData.int)) h13 rdl_dat (ex_v (i := 0) (j := 0) B rfl rfl rfl) (ex_v (i := 6) (j := 6) B rfl rfl rfl))) ⟨.inl rfl, .inl rfl, .inl rfl, .inl rfl, .inl rfl, .inl rfl, .inl rfl, .inl rfl, .inl rfl, .inl rfl, trivial⟩ (fun _ _ => trivial) (fun F18 e17 s14 _ step15 z25 hx hm => ?_) (fun _ => ?_)
      · clear h24
        obtain ⟨s23, h_s23, hm⟩ := bnd hm
        refine sx_join [sl (dat (PyData.list (List.map (eD kI PyData.int) doors_here))), sl (dat (PyData.int most)), sl (dat (Kd.pd kII (eM PyData.int s3.1))), sl (own q_found1), sl (dat (PyData.int length4)), sl (own q_later7), sl (dat (PyData.int x9.1)), sl (dat (PyData.int x9.2)), sl (dat (PyData.int step15)), un] ((q_later7, od kII (eM PyData.int s23)) :: (q_found1, ol (List.map PyData.int s3.2)) :: os) (?_) (fun Q => ?_)
        · clear h_s23
          obtain rfl := som hm
          exact sx_nil fun σ H a => ⟨(), (a.weak ⟨.inl rfl, .inl rfl, .inl rfl, .inl rfl, .inl rfl, .inl rfl, .inl rfl, .inl rfl, .inr rfl, .inl rfl, trivial⟩)⟩
        · have hm := h_s23
          refine sx_if (tx_cmp op_ne r2_neI (nomark _) (ex_v (i := 8) (j := 8) B rfl rfl rfl) (ex_neg (ex_v (i := 7) (j := 7) B rfl rfl rfl))) (fun hk => ?_) (fun hk => ?_)
          · have hm := ifT hm hk
            obtain ⟨t19, h19, hm⟩ := bnd hm
            obtain ⟨t20, h20, hm⟩ := bnd hm
            refine sx_asg (i := 9) (vi := 9) (φ := (dat (PyData.tuple [(PyData.int (t20, step15).1), (PyData.int (t20, step15).2)]))) B T rfl rfl (ex_tup (ds := [(PyData.int t20), (PyData.int step15)]) (hl := len_ok (n := 2) rfl) (ax_cons (ex_dget (kd := kI) (enc := PyData.int) (w := t19) inj_kI h20 B rdd_dat (ex_idxL (enc := (eD kI PyData.int)) h19 rdl_dat (ex_v (i := 0) (j := 0) B rfl rfl rfl) (ex_v (i := 6) (j := 6) B rfl rfl rfl)) (ex_v (i := 8) (j := 8) B rfl rfl rfl)) (ax_cons (ex_v (i := 8) (j := 8) B rfl rfl rfl) ax_nil))) ?_
            obtain ⟨t21, h21, hm⟩ := bnd hm
            obtain ⟨t22, h22, hm⟩ := bnd hm
            refine sx_dput (kd := kII) (enc := PyData.int) (w := s14) (x := (((dGet s14 (t20, step15)).getD 0) + t21)) inj_kII h22 B (ex_add (ex_dget2 (kd := kII) (enc := PyData.int) (w := s14) (k := (t20, step15)) (x := 0) inj_kII B (rdd_own 0 rfl) (rdd_own 0 rfl) (ex_v (i := 5) (j := 5) B rfl rfl rfl) (ex_v (i := 9) (j := 9) B rfl rfl rfl) ex_int) (ex_dget (kd := kII) (enc := PyData.int) (w := s3.1) inj_kII h21 B rdd_dat (ex_v (i := 2) (j := 2) B rfl rfl rfl) (ex_tup (ds := [(PyData.int x9.1), (PyData.int x9.2)]) (hl := len_ok (n := 2) rfl) (ax_cons (ex_v (i := 6) (j := 6) B rfl rfl rfl) (ax_cons (ex_v (i := 7) (j := 7) B rfl rfl rfl) ax_nil))))) (ex_v (i := 5) (j := 5) B rfl rfl rfl) (ex_v (i := 9) (j := 9) B rfl rfl rfl) (wr_flat (f := (odT kII PyData.int)) (d := s14) 0 rfl) ?_
            obtain rfl := som hm
            exact sx_fall (SX.weak Q (by exact ⟨.inl rfl, .inl rfl, .inl rfl, .inl rfl, .inl rfl, .inl rfl, .inl rfl, .inl rfl, .inl rfl, .inr rfl, trivial⟩)) rfl
          · have hm := ifF hm hk
            obtain rfl := som hm
            exact sx_fall Q rfl
      · skip
        obtain rfl := som hm
        exact sx_nil fun σ H a => ⟨(), (a.weak ⟨.inl rfl, .inl rfl, .inl rfl, .inl rfl, .inl rfl, .inl rfl, .inr rfl, .inr rfl, .inl rfl, .inl rfl, trivial⟩)⟩
    · skip
      refine sx_frzF (j := 0) (i := 5) frb_od rfl rfl ?_
      refine sx_asg (i := 2) (vi := 2) (φ := (dat (Kd.pd kII (eM PyData.int f10)))) B T rfl rfl (ex_v (i := 5) (j := 5) B rfl rfl rfl) ?_
      obtain ⟨t30, h30, hm⟩ := bnd hm
      obtain ⟨t31, h31, hm⟩ := bnd hm
      refine sx_expr (ex_app (enc := PyData.int) (j := 0) (xs0 := s3.2) (xs := s3.2) (y := t30.sum) h31 (ex_v (i := 3) (j := 3) B rfl rfl rfl) rfl (ex_fn (j := 1) B rfl g_sum (by decide +kernel) (cr_sum B.calm) (rc_sum rdl_dat) (ax_cons (EN.ex (en_lc (lc_mk1 (j := 9) (vp := fun place27 => (dat (PyData.tuple [(PyData.int place27.1), (PyData.int place27.2)]))) (c := anyOs) (enc := PyData.int) (fun (_ : Unit) (place27 : (Int × Int)) => ((fun (place27 : (Int × Int)) => if (decide (place27.1 = 0)) = true then ((dGet f10 place27).bind fun t29 => some (some t29)) else some none) place27).map fun y => (y, ())) (fun (_ : Unit) (tl1 : Os) => (q_found1, ol (List.map PyData.int s3.2)) :: tl1) () (t30) () B rfl rfl (by rw [B.hN, hsc]; decide +kernel) (by rw [hsc]; decide +kernel) (by decide) (lcG_ok h30) (ix_keysD (kd := kII) (enc := PyData.int) (w := f10) (ex_v (i := 2) (j := 2) B rfl rfl rfl)) (fun _ _ => trivial) (fun _ _ _ => (List.Perm.swap _ _ _)) (fun _ place27 t tl1 hx hf => by (obtain ⟨y, hy, rfl⟩ := Option.map_eq_some_iff.mp hf; cases hc : (decide (place27.1 = 0)) with | true => (have hy := ifT hy hc; obtain ⟨t29, h29, hy⟩ := bnd hy; obtain rfl := som hy; exact ⟨true, _, fun X1 hX => by (have B1 := Bd.fam (W' := ["_law_table", "_law_place"]) (G' := []) B hX (by (try rw [hsc]); decide +kernel); exact ⟨.one (TX.to (tx_cmp op_eq r2_eqI (nomark _) (ex_ixT rdt_dat (by rfl) (ex_v (i := 9) (j := 1) B1 rfl rfl rfl) ex_int) ex_int) hc), fun _ => ⟨_, rfl, (ex_dget (kd := kII) (enc := PyData.int) (w := f10) inj_kII h29 B1 rdd_dat (ex_v (i := 2) (j := 0) B1 rfl rfl rfl) (ex_v (i := 9) (j := 1) B1 rfl rfl rfl))⟩, fun h => Bool.noConfusion h⟩)⟩) | false => (have hy := ifF hy hc; obtain rfl := som hy; exact ⟨false, _, fun X1 hX => by (have B1 := Bd.fam (W' := ["_law_table", "_law_place"]) (G' := []) B hX (by (try rw [hsc]); decide +kernel); exact ⟨.one (TX.to (tx_cmp op_eq r2_eqI (nomark _) (ex_ixT rdt_dat (by rfl) (ex_v (i := 9) (j := 1) B1 rfl rfl rfl) ex_int) ex_int) hc), fun h => Bool.noConfusion h, fun _ => ⟨rfl, rfl⟩⟩)⟩)))))) ax_nil)) rfl) ?_
      obtain rfl := som hm
      exact sx_nil fun σ H a => ⟨(), (a.weak ⟨.inl rfl, .inl rfl, .inl rfl, .inl rfl, .inr rfl, .inr rfl, .inl rfl, .inl rfl, .inl rfl, .inl rfl, trivial⟩)⟩
  · skip
    refine sx_frz (j := 0) (i := 3) rfl rfl ?_
    obtain rfl := som hm
    exact sx_ret (ex_v (i := 3) (j := 3) B rfl rfl rfl) (fun F H v e o c => R.rt F H v e o c)
theorem cal_l_numbers {P : Program} {w : World} {K : PySem.W.Frag} {mg : Str → Option Value} {base : Heap} {f : Addr} {fd : FuncData} (Fn : Fun K "_law_numbers" "_law_numbers" s_l_numbers f fd) (hmg : mg "_law_numbers" = some (.ref f)) (hb : Binds K fd ["_law_doors_here", "_law_most"] []) (g_range : mg "range" = none) (g_sum : mg "sum" = none) : Cal P w K mg base 1 "_law_numbers" s_l_numbers ["_law_doors_here", "_law_most"] (sp_l_numbers K) := by
  obtain ⟨sts_, hst_⟩ : ∃ z_, defBody s_l_numbers = z_ := ⟨_, rfl⟩
  exact cal_ZQ (V := V_l_numbers) (Gs := G_l_numbers) (nl := 8) hst_ Fn sc_l_numbers (by decide +kernel) (by decide +kernel) hmg hb (fun _ => rfl) rfl fun _ _ _ _ _ _ _ a b F0 os D B T hm R => body_l_numbers rfl hst_ B T g_range g_sum a.1 a.2 b F0 os D hm R
/-! ### _law_is_integer -/
abbrev s_l_is_integer : Stmt := top 36
def N_l_is_integer : List Str := ["_law_found", "_law_due"]
def V_l_is_integer : List Str := ["_law_found", "_law_due"]
def G_l_is_integer : List Str := ["isinstance", "int", "bool"]
theorem sc_l_is_integer : FnScope N_l_is_integer ["_law_found", "_law_due"] (defScope s_l_is_integer) := ⟨rfl, rfl, rfl, by decide +kernel, rfl, by decide +kernel, by decide +kernel⟩
abbrev sp_l_is_integer (K : PySem.W.Frag) : Sp := spZ (α := (Int × Int)) (β := Bool) (fun a => [(dat (PyData.int a.1)), (dat (PyData.int a.2))]) (fun a => []) (fun a => m_l_is_integer a.1 a.2) (fun a b => (dat (PyData.bool b))) (fun a b => [])
set_option maxHeartbeats 4000000 in
theorem body_l_is_integer {X : Cx} (hsc : X.env.scope = defScope s_l_is_integer) {sts_ : List Stmt} (hst_ : defBody s_l_is_integer = sts_) (B : Bd X N_l_is_integer V_l_is_integer G_l_is_integer 0) (T : Bt X V_l_is_integer) (g_isinstance : X.mg "isinstance" = none) (g_int : X.mg "int" = none) (g_bool : X.mg "bool" = none) (found : Int) (due : Int) (b : Bool) (F0 : Hp) (os : Os) (D : Ends) (hm : m_l_is_integer found due = some b) (R : RetZ F0 (os) (dat (PyData.bool b)) D) :
    SX X [sl (dat (PyData.int found)), sl (dat (PyData.int due))] (os) F0 sts_ D := by
  subst hst_
  unfold m_l_is_integer at hm
  obtain rfl := som hm
  exact sx_ret (ex_and (ex_fn (j := 0) B rfl g_isinstance (by decide +kernel) call_isi (rc_isi (d := (PyData.int found)) (T := "int") (show kitB "int" "int" = some true by decide +kernel)) (ax_cons (ex_v (i := 0) (j := 0) B rfl rfl rfl) (ax_cons (ex_tyname (T := "int") (gi := 1) B rfl g_int (by decide +kernel)) ax_nil))) (fun _ => (ex_and (ex_not (ex_fn (j := 0) B rfl g_isinstance (by decide +kernel) call_isi (rc_isi (d := (PyData.int found)) (T := "bool") (show kitB "int" "bool" = some false by decide +kernel)) (ax_cons (ex_v (i := 0) (j := 0) B rfl rfl rfl) (ax_cons (ex_tyname (T := "bool") (gi := 2) B rfl g_bool (by decide +kernel)) ax_nil)))) (fun _ => (ex_one (ex_cmp op_eq r2_eqI (nomark _) (ex_v (i := 0) (j := 0) B rfl rfl rfl) (ex_v (i := 1) (j := 1) B rfl rfl rfl)))) (fun _ => rfl) rfl)) (fun _ => rfl) rfl) (fun F H v e o c => R.rt F H v e o c)
theorem cal_l_is_integer {P : Program} {w : World} {K : PySem.W.Frag} {mg : Str → Option Value} {base : Heap} {f : Addr} {fd : FuncData} (Fn : Fun K "_law_is_integer" "_law_is_integer" s_l_is_integer f fd) (hmg : mg "_law_is_integer" = some (.ref f)) (hb : Binds K fd ["_law_found", "_law_due"] []) (g_isinstance : mg "isinstance" = none) (g_int : mg "int" = none) (g_bool : mg "bool" = none) : Cal P w K mg base 1 "_law_is_integer" s_l_is_integer ["_law_found", "_law_due"] (sp_l_is_integer K) := by
  obtain ⟨sts_, hst_⟩ : ∃ z_, defBody s_l_is_integer = z_ := ⟨_, rfl⟩
  exact cal_ZQ (V := V_l_is_integer) (Gs := G_l_is_integer) (nl := 0) hst_ Fn sc_l_is_integer (by decide +kernel) (by decide +kernel) hmg hb (fun _ => rfl) rfl fun _ _ _ _ _ _ _ a b F0 os D B T hm R => body_l_is_integer rfl hst_ B T g_isinstance g_int g_bool a.1 a.2 b F0 os D hm R
/-! ### _law_one_right -/
abbrev s_l_one_right : Stmt := top 37
def N_l_one_right : List Str := ["_law_web_here", "_law_due", "_law_length"]
def V_l_one_right : List Str := ["_law_web_here", "_law_due", "_law_length"]
def G_l_one_right : List Str := ["_law_is_integer", "members_of_length", "members_to", "sum"]
theorem sc_l_one_right : FnScope N_l_one_right ["_law_web_here", "_law_due", "_law_length"] (defScope s_l_one_right) := ⟨rfl, rfl, rfl, by decide +kernel, rfl, by decide +kernel, by decide +kernel⟩
theorem kw_members_of_length_0_length_web : KwOk "members_of_length" s_p_members_of_length ["web", "length"] ["length", "web"] 0 [1, 0] := fun _ _ _ _ _ _ us ws h1 h2 => match us, ws, h1, h2 with | [], [_, _], _, _ => rfl
theorem kw_members_to_0_length_web : KwOk "members_to" s_p_members_to ["web", "length"] ["length", "web"] 0 [1, 0] := fun _ _ _ _ _ _ us ws h1 h2 => match us, ws, h1, h2 with | [], [_, _], _, _ => rfl
abbrev sp_l_one_right (K : PySem.W.Frag) : Sp := spZ (α := ((Int × (List (List Int))) × (List Int) × Int)) (β := Bool) (fun a => [(dat (PyData.tuple [(PyData.int a.1.1), (PyData.tuple (List.map (eT PyData.int) a.1.2))])), (dat (PyData.list (List.map PyData.int a.2.1))), (dat (PyData.int a.2.2))]) (fun a => []) (fun a => m_l_one_right a.1 a.2.1 a.2.2) (fun a b => (dat (PyData.bool b))) (fun a b => [])
set_option maxHeartbeats 4000000 in
theorem body_l_one_right {X : Cx} (hsc : X.env.scope = defScope s_l_one_right) {sts_ : List Stmt} (hst_ : defBody s_l_one_right = sts_) (B : Bd X N_l_one_right V_l_one_right G_l_one_right 5) (T : Bt X V_l_one_right) (c_l_is_integer : Cal X.prog X.w X.K X.mg X.base 1 "_law_is_integer" s_l_is_integer ["_law_found", "_law_due"] (sp_l_is_integer X.K)) (c_p_members_of_length : Cal X.prog X.w X.K X.mg X.base 5 "members_of_length" s_p_members_of_length ["web", "length"] (sp_p_members_of_length X.K)) (c_p_members_to : Cal X.prog X.w X.K X.mg X.base 5 "members_to" s_p_members_to ["web", "length"] (sp_p_members_to X.K)) (g_sum : X.mg "sum" = none) (web_here : (Int × (List (List Int)))) (due : (List Int)) (length : Int) (b : Bool) (F0 : Hp) (os : Os) (D : Ends) (hm : m_l_one_right web_here due length = some b) (R : RetZ F0 (os) (dat (PyData.bool b)) D) :
    SX X [sl (dat (PyData.tuple [(PyData.int web_here.1), (PyData.tuple (List.map (eT PyData.int) web_here.2))])), sl (dat (PyData.list (List.map PyData.int due))), sl (dat (PyData.int length))] (os) F0 sts_ D := by
  subst hst_
  unfold m_l_one_right at hm
  obtain ⟨t1, h1, hm⟩ := bnd hm
  obtain ⟨t2, h2, hm⟩ := bnd hm
  obtain ⟨t3, h3, hm⟩ := bnd hm
  refine sx_if (tx_not (tx_val (ex_call (a := (t1, t2)) (b := t3) (gi := 0) (rest := os) B rfl c_l_is_integer (by decide) h3 (ax_cons (ex_call (a := (web_here, length)) (b := t1) (gi := 1) (rest := os) B rfl c_p_members_of_length (by decide) h1 (ax_cons (ex_v (i := 0) (j := 0) B rfl rfl rfl) (ax_cons (ex_v (i := 2) (j := 2) B rfl rfl rfl) ax_nil))) (ax_cons (ex_idxL (enc := PyData.int) h2 rdl_dat (ex_v (i := 1) (j := 1) B rfl rfl rfl) (ex_v (i := 2) (j := 2) B rfl rfl rfl)) ax_nil))) (by intro _; rfl))) (fun hk => ?_) (fun hk => ?_)
  · have hm := ifT hm hk
    obtain rfl := som hm
    exact sx_ret ex_bool (fun F H v e o c => R.rt F H v e o c)
  · have hm := ifF hm hk
    refine sx_fall ?_ rfl
    obtain ⟨t4, h4, hm⟩ := bnd hm
    obtain ⟨t5, h5, hm⟩ := bnd hm
    refine sx_if (tx_not (tx_val (ex_call (a := (t4, (cut due none (some (length + 1))).sum)) (b := t5) (gi := 0) (rest := os) B rfl c_l_is_integer (by decide) h5 (ax_cons (ex_call (a := (web_here, length)) (b := t4) (gi := 2) (rest := os) B rfl c_p_members_to (by decide) h4 (ax_cons (ex_v (i := 0) (j := 0) B rfl rfl rfl) (ax_cons (ex_v (i := 2) (j := 2) B rfl rfl rfl) ax_nil))) (ax_cons (ex_fn (j := 3) B rfl g_sum (by decide +kernel) (cr_sum B.calm) (rc_sum rdl_dat) (ax_cons (EN.ex (en_cut (enc := PyData.int) rdl_dat (ex_v (i := 1) (j := 1) B rfl rfl rfl) px_none (px_some (ex_add (ex_v (i := 2) (j := 2) B rfl rfl rfl) ex_int)))) ax_nil)) ax_nil))) (by intro _; rfl))) (fun hk => ?_) (fun hk => ?_)
    · have hm := ifT hm hk
      obtain rfl := som hm
      exact sx_ret ex_bool (fun F H v e o c => R.rt F H v e o c)
    · have hm := ifF hm hk
      refine sx_fall ?_ rfl
      obtain ⟨t6, h6, hm⟩ := bnd hm
      obtain ⟨t7, h7, hm⟩ := bnd hm
      obtain ⟨t8, h8, hm⟩ := bnd hm
      refine sx_if (tx_not (tx_val (ex_call (a := (t6, t7)) (b := t8) (gi := 0) (rest := os) B rfl c_l_is_integer (by decide) h8 (ax_cons (ex_callk0 (a := (web_here, length)) (b := t6) (gi := 1) (rest := os) B rfl c_p_members_of_length (by decide) kw_members_of_length_0_length_web (by decide) h6 (kx_cons (ex_v (i := 2) (j := 2) B rfl rfl rfl) (kx_cons (ex_v (i := 0) (j := 0) B rfl rfl rfl) kx_nil)) rfl) (ax_cons (ex_idxL (enc := PyData.int) h7 rdl_dat (ex_v (i := 1) (j := 1) B rfl rfl rfl) (ex_v (i := 2) (j := 2) B rfl rfl rfl)) ax_nil))) (by intro _; rfl))) (fun hk => ?_) (fun hk => ?_)
      · have hm := ifT hm hk
        obtain rfl := som hm
        exact sx_ret ex_bool (fun F H v e o c => R.rt F H v e o c)
      · have hm := ifF hm hk
        refine sx_fall ?_ rfl
        obtain ⟨t9, h9, hm⟩ := bnd hm
        obtain ⟨t10, h10, hm⟩ := bnd hm
        obtain rfl := som hm
        exact sx_ret (ex_call (a := (t9, (cut due none (some (length + 1))).sum)) (b := t10) (gi := 0) (rest := os) B rfl c_l_is_integer (by decide) h10 (ax_cons (ex_callk0 (a := (web_here, length)) (b := t9) (gi := 2) (rest := os) B rfl c_p_members_to (by decide) kw_members_to_0_length_web (by decide) h9 (kx_cons (ex_v (i := 2) (j := 2) B rfl rfl rfl) (kx_cons (ex_v (i := 0) (j := 0) B rfl rfl rfl) kx_nil)) rfl) (ax_cons (ex_fn (j := 3) B rfl g_sum (by decide +kernel) (cr_sum B.calm) (rc_sum rdl_dat) (ax_cons (EN.ex (en_cut (enc := PyData.int) rdl_dat (ex_v (i := 1) (j := 1) B rfl rfl rfl) px_none (px_some (ex_add (ex_v (i := 2) (j := 2) B rfl rfl rfl) ex_int)))) ax_nil)) ax_nil))) (fun F H v e o c => R.rt F H v e o c)
theorem cal_l_one_right {P : Program} {w : World} {K : PySem.W.Frag} {mg : Str → Option Value} {base : Heap} {f : Addr} {fd : FuncData} (Fn : Fun K "_law_one_right" "_law_one_right" s_l_one_right f fd) (hmg : mg "_law_one_right" = some (.ref f)) (hb : Binds K fd ["_law_web_here", "_law_due", "_law_length"] []) (c_l_is_integer : Cal P w K mg base 1 "_law_is_integer" s_l_is_integer ["_law_found", "_law_due"] (sp_l_is_integer K)) (c_p_members_of_length : Cal P w K mg base 5 "members_of_length" s_p_members_of_length ["web", "length"] (sp_p_members_of_length K)) (c_p_members_to : Cal P w K mg base 5 "members_to" s_p_members_to ["web", "length"] (sp_p_members_to K)) (g_sum : mg "sum" = none) : Cal P w K mg base 6 "_law_one_right" s_l_one_right ["_law_web_here", "_law_due", "_law_length"] (sp_l_one_right K) := by
  obtain ⟨sts_, hst_⟩ : ∃ z_, defBody s_l_one_right = z_ := ⟨_, rfl⟩
  exact cal_ZQ (V := V_l_one_right) (Gs := G_l_one_right) (nl := 0) hst_ Fn sc_l_one_right (by decide +kernel) (by decide +kernel) hmg hb (fun _ => rfl) rfl fun _ _ _ _ _ _ _ a b F0 os D B T hm R => body_l_one_right rfl hst_ B T c_l_is_integer c_p_members_of_length c_p_members_to g_sum a.1 a.2.1 a.2.2 b F0 os D hm R
/-! ### law -/
abbrev s_l_law : Stmt := top 38
def N_l_law : List Str := ["_law_script", "_law_asked", "_law_k", "_law_pot_here", "_law_web_here", "_law_most", "_law_due", "_law_places", "_law_turn", "_law_length", "_law_other", "_law_numbers_here"]
def V_l_law : List Str := ["_law_script", "_law_asked", "_law_k", "_law_pot_here", "_law_web_here", "_law_most", "_law_due", "_law_places", "_law_turn", "_law_length", "_law_other", "_law_numbers_here"]
def G_l_law : List Str := ["range", "max", "min", "len", "_law_pot", "_law_drawn", "_law_draw", "_law_numbers", "_law_doors", "_law_one_right"]
theorem sc_l_law : FnScope N_l_law ["_law_script"] (defScope s_l_law) := ⟨rfl, rfl, rfl, by decide +kernel, rfl, by decide +kernel, by decide +kernel⟩
abbrev sp_l_law (K : PySem.W.Frag) : Sp := spZ (α := (List Int)) (β := Bool) (fun a => [(scr K a)]) (fun a => []) (fun a => m_l_law a) (fun a b => (dat (PyData.bool b))) (fun a b => [])
set_option maxHeartbeats 4000000 in
theorem body_l_law {X : Cx} (hsc : X.env.scope = defScope s_l_law) {sts_ : List Stmt} (hst_ : defBody s_l_law = sts_) (B : Bd X N_l_law V_l_law G_l_law 6) (T : Bt X V_l_law) (g_range : X.mg "range" = none) (g_max : X.mg "max" = none) (g_min : X.mg "min" = none) (g_len : X.mg "len" = none) (c_l_pot : Cal X.prog X.w X.K X.mg X.base 1 "_law_pot" s_l_pot ["_law_script", "_law_k"] (sp_l_pot X.K)) (c_l_drawn : Cal X.prog X.w X.K X.mg X.base 3 "_law_drawn" s_l_drawn ["_law_pot_here", "_law_most", "_law_top"] (sp_l_drawn X.K)) (c_l_draw : Cal X.prog X.w X.K X.mg X.base 1 "_law_draw" s_l_draw ["_law_pot_here", "_law_many"] (sp_l_draw X.K)) (c_l_numbers : Cal X.prog X.w X.K X.mg X.base 1 "_law_numbers" s_l_numbers ["_law_doors_here", "_law_most"] (sp_l_numbers X.K)) (c_l_doors : Cal X.prog X.w X.K X.mg X.base 1 "_law_doors" s_l_doors ["_law_web_here"] (sp_l_doors X.K)) (c_l_one_right : Cal X.prog X.w X.K X.mg X.base 6 "_law_one_right" s_l_one_right ["_law_web_here", "_law_due", "_law_length"] (sp_l_one_right X.K)) (script : (List Int)) (b : Bool) (F0 : Hp) (os : Os) (D : Ends) (hm : m_l_law script = some b) (R : RetZ F0 (os) (dat (PyData.bool b)) D) :
    SX X [sl (scr X.K script), un, un, un, un, un, un, un, un, un, un, un] (os) F0 sts_ D := by
  subst hst_
  unfold m_l_law at hm
  refine sx_asgN (i := 1) (vi := 1) (n := ol (List.map (eP (eP PyData.int (eT (eT PyData.int))) (eL PyData.int)) ([] : (List ((Int × (List (List Int))) × (List Int)))))) B T rfl rfl (en_lst (ds := []) ax_nil) (fun q_asked0 => ?_)
  obtain ⟨t1, h1, hm⟩ := bnd hm
  obtain ⟨f4o, h32, hm⟩ := bnd hm
  refine sx_forR (c := anyOs) _ (fun (s2 : (List ((Int × (List (List Int))) × (List Int)))) (_ : Unit) => [sl (scr X.K script), sl (own q_asked0), un, un, un, un, un, un, un, un, un, un]) (fun (s2 : (List ((Int × (List (List Int))) × (List Int)))) (_ : Unit) => (q_asked0, ol (List.map (eP (eP PyData.int (eT (eT PyData.int))) (eL PyData.int)) s2)) :: os) (fun (r : Bool) v H => ∃ F, Same F0 F ∧ Ow F (os) H ∧ Cl (dat (PyData.bool r)) F v) B T (fun k_3 => gx_name (i := 2) (vi := 2) (φ := (dat (PyData.int k_3))) B T rfl rfl) ([] : (List ((Int × (List (List Int))) × (List Int)))) () f4o h32 (ix_rng1 (gi := 0) B rfl g_range h1 (ex_fn (j := 1) B rfl g_max (by decide +kernel) (call_max2 B.calm) rc_max (ax_cons ex_int (ax_cons (ex_fn (j := 2) B rfl g_min (by decide +kernel) (call_min2 B.calm) rc_min (ax_cons ex_int (ax_cons (EX.to (ex_fn (j := 3) B rfl g_len (by decide +kernel) call_len_seq (rc_lenL (ds := List.map PyData.int script) rdl_scr) (ax_cons (ex_v (i := 0) (j := 0) B rfl rfl rfl) ax_nil)) (by rw [List.length_map])) ax_nil))) ax_nil)))) ⟨.inl rfl, .inl rfl, .inl rfl, .inl rfl, .inl rfl, .inl rfl, .inl rfl, .inl rfl, .inl rfl, .inl rfl, .inl rfl, .inl rfl, trivial⟩ (fun _ _ => trivial) (fun F6 e5 s2 _ k_3 z34 hx hm2 => ?_) (fun f4 _ ho => ?_) (fun r33 v H ho hr => ?_)
  · clear hm h32
    have hm := hm2
    obtain ⟨t7, h7, hm⟩ := bnd hm
    refine sx_asgN (i := 3) (vi := 3) (n := ol (List.map PyData.int t7)) B T rfl rfl (en_call (a := (script, k_3)) (b := t7) (gi := 4) (rest := (q_asked0, ol (List.map (eP (eP PyData.int (eT (eT PyData.int))) (eL PyData.int)) s2)) :: os) B rfl c_l_pot (by decide) h7 (ax_cons (ex_v (i := 0) (j := 0) B rfl rfl rfl) (ax_cons (ex_v (i := 2) (j := 2) B rfl rfl rfl) ax_nil))) (fun q_pot_here7 => ?_)
    obtain ⟨t8, h8, hm⟩ := bnd hm
    refine sx_asg (i := 4) (vi := 4) (φ := (dat (PyData.tuple [(PyData.int t8.1.1), (PyData.tuple (List.map (eT PyData.int) t8.1.2))]))) B T rfl rfl (ex_call (a := (q_pot_here7, t7, 12, 4)) (b := t8) (gi := 5) (rest := (q_asked0, ol (List.map (eP (eP PyData.int (eT (eT PyData.int))) (eL PyData.int)) s2)) :: os) B rfl c_l_drawn (by decide) h8 (ax_cons (ex_v (i := 3) (j := 3) B rfl rfl rfl) (ax_cons ex_int (ax_cons ex_int ax_nil)))) ?_
    obtain ⟨t9, h9, hm⟩ := bnd hm
    obtain ⟨t10, h10, hm⟩ := bnd hm
    refine sx_asg (i := 5) (vi := 5) (φ := (dat (PyData.int t10))) B T rfl rfl (ex_idxL (enc := PyData.int) h10 rdl_dat (EN.ex (en_lst (ds := [(PyData.int 6), (PyData.int 20), (PyData.int 100)]) (hl := len_ok (n := 3) rfl) (ax_cons ex_int (ax_cons ex_int (ax_cons ex_int ax_nil))))) (ex_call (a := (q_pot_here7, t8.2, 3)) (b := t9) (gi := 6) (rest := (q_asked0, ol (List.map (eP (eP PyData.int (eT (eT PyData.int))) (eL PyData.int)) s2)) :: os) B rfl c_l_draw (by decide) h9 (ax_cons (ex_v (i := 3) (j := 3) B rfl rfl rfl) (ax_cons ex_int ax_nil)))) ?_
    obtain ⟨t11, h11, hm⟩ := bnd hm
    obtain ⟨t12, h12, hm⟩ := bnd hm
    refine sx_asg (i := 6) (vi := 6) (φ := (dat (PyData.list (List.map PyData.int t12)))) B T rfl rfl (ex_call (a := (t11, t10)) (b := t12) (gi := 7) (rest := (q_pot_here7, ol (List.map PyData.int t9.2)) :: (q_asked0, ol (List.map (eP (eP PyData.int (eT (eT PyData.int))) (eL PyData.int)) s2)) :: os) B rfl c_l_numbers (by decide) h12 (ax_cons (ex_call (a := t8.1) (b := t11) (gi := 8) (rest := (q_pot_here7, ol (List.map PyData.int t9.2)) :: (q_asked0, ol (List.map (eP (eP PyData.int (eT (eT PyData.int))) (eL PyData.int)) s2)) :: os) B rfl c_l_doors (by decide) h11 (ax_cons (ex_v (i := 4) (j := 4) B rfl rfl rfl) ax_nil)) (ax_cons (ex_v (i := 5) (j := 5) B rfl rfl rfl) ax_nil))) ?_
    obtain ⟨t13, h13, hm⟩ := bnd hm
    refine sx_expr (ex_app (enc := (eP (eP PyData.int (eT (eT PyData.int))) (eL PyData.int))) (j := 1) (xs0 := s2) (xs := s2) (y := (t8.1, t12)) h13 (ex_v (i := 1) (j := 1) B rfl rfl rfl) rfl (ex_tup (ds := [(PyData.tuple [(PyData.int t8.1.1), (PyData.tuple (List.map (eT PyData.int) t8.1.2))]), (PyData.list (List.map PyData.int t12))]) (hl := len_ok (n := 2) rfl) (ax_cons (ex_v (i := 4) (j := 4) B rfl rfl rfl) (ax_cons (ex_v (i := 6) (j := 6) B rfl rfl rfl) ax_nil))) rfl) ?_
    obtain ⟨t14, h14, hm⟩ := bnd hm
    obtain ⟨t15, h15, hm⟩ := bnd hm
    refine sx_asgN (i := 7) (vi := 7) (n := ol (List.map PyData.int ([t10, 0, 1, t14.1, t15.1]))) B T rfl rfl (en_lst (ds := [(PyData.int t10), (PyData.int 0), (PyData.int 1), (PyData.int t14.1), (PyData.int t15.1)]) (hl := len_ok (n := 5) rfl) (ax_cons (ex_v (i := 5) (j := 5) B rfl rfl rfl) (ax_cons ex_int (ax_cons ex_int (ax_cons (ex_call (a := (q_pot_here7, t9.2, (t10 + 1))) (b := t14) (gi := 6) (rest := (q_asked0, ol (List.map (eP (eP PyData.int (eT (eT PyData.int))) (eL PyData.int)) t13)) :: os) B rfl c_l_draw (by decide) h14 (ax_cons (ex_v (i := 3) (j := 3) B rfl rfl rfl) (ax_cons (ex_add (ex_v (i := 5) (j := 5) B rfl rfl rfl) ex_int) ax_nil))) (ax_cons (ex_call (a := (q_pot_here7, t14.2, (t10 + 1))) (b := t15) (gi := 6) (rest := (q_asked0, ol (List.map (eP (eP PyData.int (eT (eT PyData.int))) (eL PyData.int)) t13)) :: os) B rfl c_l_draw (by decide) h15 (ax_cons (ex_v (i := 3) (j := 3) B rfl rfl rfl) (ax_cons (ex_add (ex_v (i := 5) (j := 5) B rfl rfl rfl) ex_int) ax_nil))) ax_nil)))))) (fun q_places15 => ?_)
    obtain ⟨t16, h16, hm⟩ := bnd hm
    obtain ⟨f19o, h25, hm⟩ := bnd hm
    refine sx_forR (c := anyOs) _ (fun (s17 : ((List Int) × (List Int))) (_ : Unit) => [sl (scr X.K script), sl (own q_asked0), sl (dat (PyData.int k_3)), sl (own q_pot_here7), sl (dat (PyData.tuple [(PyData.int t8.1.1), (PyData.tuple (List.map (eT PyData.int) t8.1.2))])), sl (dat (PyData.int t10)), sl (dat (PyData.list (List.map PyData.int t12))), sl (own q_places15), un, un, un, un]) (fun (s17 : ((List Int) × (List Int))) (_ : Unit) => (q_places15, ol (List.map PyData.int s17.1)) :: (q_pot_here7, ol (List.map PyData.int s17.2)) :: (q_asked0, ol (List.map (eP (eP PyData.int (eT (eT PyData.int))) (eL PyData.int)) t13)) :: os) (fun (r : Bool) v H => ∃ F, Same F0 F ∧ Ow F (os) H ∧ Cl (dat (PyData.bool r)) F v) B T (fun turn18 => gx_name (i := 8) (vi := 8) (φ := (dat (PyData.int turn18))) B T rfl rfl) ([t10, 0, 1, t14.1, t15.1], t15.2) () f19o h25 (ix_rng1 (gi := 0) B rfl g_range h16 (EX.to (ex_fn (j := 3) B rfl g_len (by decide +kernel) call_len_seq (rc_lenL (ds := List.map PyData.int ([t10, 0, 1, t14.1, t15.1])) (rdl_own 0 rfl)) (ax_cons (ex_v (i := 7) (j := 7) B rfl rfl rfl) ax_nil)) (by rw [List.length_map]))) ⟨.inl rfl, .inl rfl, .inl rfl, .inl rfl, .inl rfl, .inl rfl, .inl rfl, .inl rfl, .inl rfl, .inl rfl, .inl rfl, .inl rfl, trivial⟩ (fun _ _ => trivial) (fun F21 e20 s17 _ turn18 z31 hx hm2 => ?_) (fun f19 _ ho => ?_) (fun r30 v H ho hr => ?_)
    · clear hm h25
      have hm := hm2
      obtain ⟨t22, h22, hm⟩ := bnd hm
      obtain ⟨t23, h23, hm⟩ := bnd hm
      refine sx_asg (i := 9) (vi := 9) (φ := (dat (PyData.int t23.1))) B T rfl rfl (ex_popI2 (enc := PyData.int) (m := 0) (j := 1) (xs := s17.1) (xs0 := s17.1) h23 (ex_v (i := 7) (j := 7) B rfl rfl rfl) rfl (EX.pre (ex_call (a := (q_pot_here7, s17.2, (s17.1.length : Int))) (b := t22) (gi := 6) (rest := (q_places15, ol (List.map PyData.int s17.1)) :: (q_asked0, ol (List.map (eP (eP PyData.int (eT (eT PyData.int))) (eL PyData.int)) t13)) :: os) B rfl c_l_draw (by decide) h22 (ax_cons (ex_v (i := 3) (j := 3) B rfl rfl rfl) (ax_cons (EX.to (ex_fn (j := 3) B rfl g_len (by decide +kernel) call_len_seq (rc_lenL (ds := List.map PyData.int s17.1) (rdl_own 1 rfl)) (ax_cons (ex_v (i := 7) (j := 7) B rfl rfl rfl) ax_nil)) (by rw [List.length_map])) ax_nil))) (perm_at (k := 1) rfl)) rfl) ?_
      obtain ⟨t24, h24, hm⟩ := bnd hm
      refine sx_if (tx_not (tx_val (ex_call (a := (t8.1, t12, t23.1)) (b := t24) (gi := 9) (rest := (q_pot_here7, ol (List.map PyData.int t22.2)) :: (q_places15, ol (List.map PyData.int t23.2)) :: (q_asked0, ol (List.map (eP (eP PyData.int (eT (eT PyData.int))) (eL PyData.int)) t13)) :: os) B rfl c_l_one_right (by decide) h24 (ax_cons (ex_v (i := 4) (j := 4) B rfl rfl rfl) (ax_cons (ex_v (i := 6) (j := 6) B rfl rfl rfl) (ax_cons (ex_v (i := 9) (j := 9) B rfl rfl rfl) ax_nil)))) (by intro _; rfl))) (fun hk => ?_) (fun hk => ?_)
      · have hm := ifT hm hk
        exact sx_ret ex_bool (fun F H v e o c => ⟨_, (som hm).symm, F, ((e5.trans e20).trans e), (((o.drop).drop).drop), c⟩)
      · have hm := ifF hm hk
        refine sx_fall ?_ rfl
        exact sx_nil fun σ H a => ⟨_, (), (som hm).symm, ((((a.perm (perm_at (k := 2) rfl)).perm (perm_at (k := 1) rfl)).perm (perm_at (k := 2) rfl)).weak ⟨.inl rfl, .inl rfl, .inl rfl, .inl rfl, .inl rfl, .inl rfl, .inl rfl, .inl rfl, .inr rfl, .inr rfl, .inl rfl, .inl rfl, trivial⟩)⟩
    · cases ho
      have hm := elimR hm
      obtain ⟨t26, h26, hm⟩ := bnd hm
      obtain ⟨t27, h27, hm⟩ := bnd hm
      refine sx_unp (gx_pair B (gx_name (i := 10) (vi := 10) B T rfl rfl) (gx_name (i := 11) (vi := 11) B T rfl rfl)) (ex_idxL (enc := (eP (eP PyData.int (eT (eT PyData.int))) (eL PyData.int))) h27 (rdl_own 2 rfl) (ex_v (i := 1) (j := 1) B rfl rfl rfl) (EX.pre (ex_call (a := (q_pot_here7, f19.2, (t13.length : Int))) (b := t26) (gi := 6) (rest := (q_places15, ol (List.map PyData.int f19.1)) :: (q_asked0, ol (List.map (eP (eP PyData.int (eT (eT PyData.int))) (eL PyData.int)) t13)) :: os) B rfl c_l_draw (by decide) h26 (ax_cons (ex_v (i := 3) (j := 3) B rfl rfl rfl) (ax_cons (EX.to (ex_fn (j := 3) B rfl g_len (by decide +kernel) call_len_seq (rc_lenL (ds := List.map (eP (eP PyData.int (eT (eT PyData.int))) (eL PyData.int)) t13) (rdl_own 2 rfl)) (ax_cons (ex_v (i := 1) (j := 1) B rfl rfl rfl) ax_nil)) (by rw [List.length_map])) ax_nil))) (perm_at (k := 1) rfl))) ?_
      obtain ⟨t28, h28, hm⟩ := bnd hm
      obtain ⟨t29, h29, hm⟩ := bnd hm
      refine sx_if (tx_not (tx_val (ex_call (a := (t27.1, t27.2, t28.1)) (b := t29) (gi := 9) (rest := (q_pot_here7, ol (List.map PyData.int t28.2)) :: (q_places15, ol (List.map PyData.int f19.1)) :: (q_asked0, ol (List.map (eP (eP PyData.int (eT (eT PyData.int))) (eL PyData.int)) t13)) :: os) B rfl c_l_one_right (by decide) h29 (ax_cons (ex_v (i := 10) (j := 10) B rfl rfl rfl) (ax_cons (ex_v (i := 11) (j := 11) B rfl rfl rfl) (ax_cons (ex_call (a := (q_pot_here7, t26.2, (t27.2.length : Int))) (b := t28) (gi := 6) (rest := (q_places15, ol (List.map PyData.int f19.1)) :: (q_asked0, ol (List.map (eP (eP PyData.int (eT (eT PyData.int))) (eL PyData.int)) t13)) :: os) B rfl c_l_draw (by decide) h28 (ax_cons (ex_v (i := 3) (j := 3) B rfl rfl rfl) (ax_cons (EX.to (ex_fn (j := 3) B rfl g_len (by decide +kernel) call_len_seq (rc_lenL (ds := List.map PyData.int t27.2) rdl_dat) (ax_cons (ex_v (i := 11) (j := 11) B rfl rfl rfl) ax_nil)) (by rw [List.length_map])) ax_nil))) ax_nil)))) (by intro _; rfl))) (fun hk => ?_) (fun hk => ?_)
      · have hm := ifT hm hk
        exact sx_ret ex_bool (fun F H v e o c => ⟨_, (som hm).symm, F, (e5.trans e), (((o.drop).drop).drop), c⟩)
      · have hm := ifF hm hk
        refine sx_fall ?_ rfl
        exact sx_nil fun σ H a => ⟨_, (), (som hm).symm, (((a.drop).drop).weak ⟨.inl rfl, .inl rfl, .inr rfl, .inr rfl, .inr rfl, .inr rfl, .inr rfl, .inr rfl, .inl rfl, .inl rfl, .inr rfl, .inr rfl, trivial⟩)⟩
    · cases ho
      have hm := elimL hm
      exact ⟨_, (som hm).symm, hr⟩
  · cases ho
    have hm := elimR hm
    obtain rfl := som hm
    exact sx_ret ex_bool (fun F H v e o c => R.rt F H v e (o.drop) c)
  · cases ho
    have hm := elimL hm
    obtain rfl := som hm
    obtain ⟨F, e, o, c⟩ := hr
    exact R.rt F H v e o c
theorem cal_l_law {P : Program} {w : World} {K : PySem.W.Frag} {mg : Str → Option Value} {base : Heap} {f : Addr} {fd : FuncData} (Fn : Fun K "law" "law" s_l_law f fd) (hmg : mg "law" = some (.ref f)) (hb : Binds K fd ["_law_script"] []) (g_range : mg "range" = none) (g_max : mg "max" = none) (g_min : mg "min" = none) (g_len : mg "len" = none) (c_l_pot : Cal P w K mg base 1 "_law_pot" s_l_pot ["_law_script", "_law_k"] (sp_l_pot K)) (c_l_drawn : Cal P w K mg base 3 "_law_drawn" s_l_drawn ["_law_pot_here", "_law_most", "_law_top"] (sp_l_drawn K)) (c_l_draw : Cal P w K mg base 1 "_law_draw" s_l_draw ["_law_pot_here", "_law_many"] (sp_l_draw K)) (c_l_numbers : Cal P w K mg base 1 "_law_numbers" s_l_numbers ["_law_doors_here", "_law_most"] (sp_l_numbers K)) (c_l_doors : Cal P w K mg base 1 "_law_doors" s_l_doors ["_law_web_here"] (sp_l_doors K)) (c_l_one_right : Cal P w K mg base 6 "_law_one_right" s_l_one_right ["_law_web_here", "_law_due", "_law_length"] (sp_l_one_right K)) : Cal P w K mg base 7 "law" s_l_law ["_law_script"] (sp_l_law K) := by
  obtain ⟨sts_, hst_⟩ : ∃ z_, defBody s_l_law = z_ := ⟨_, rfl⟩
  exact cal_ZQ (V := V_l_law) (Gs := G_l_law) (nl := 11) hst_ Fn sc_l_law (by decide +kernel) (by decide +kernel) hmg hb (fun _ => rfl) rfl fun _ _ _ _ _ _ _ a b F0 os D B T hm R => body_l_law rfl hst_ B T g_range g_max g_min g_len c_l_pot c_l_drawn c_l_draw c_l_numbers c_l_doors c_l_one_right a b F0 os D hm R
end L18
namespace L18
open PySem PySem.Spec L2 Z
theorem pot_eq (a : List Int) (b : Int) : m_l_pot a b = P_pot a b := rfl
theorem draw_eq (a : List Int) (b : Int) : m_l_draw a b = P_draw a b := rfl
theorem web_eq (a : Int) (b : Dd) : m_l_web a b = P_web a b := rfl
theorem doors_eq (a : Int × List (List Int)) : m_l_doors a = P_doors a := rfl
theorem drawn_eq (a : List Int) (b c : Int) : m_l_drawn a b c = P_drawn a b c := rfl
theorem numbers_eq (a : Dd) (b : Int) : m_l_numbers a b = P_numbers a b := rfl
theorem of_eq (a : Int × List (List Int)) (b : Int) : m_p_members_of_length a b = Q_members_of_length a b := rfl
theorem to_eq (a : Int × List (List Int)) (b : Int) : m_p_members_to a b = Q_members_to a b := rfl
/-- a web and the numbers that are due -/
def Due (x : (Int × List (List Int)) × List Int) : Prop := ∃ E, Web x.1.1 x.1.2 E ∧ ∃ m : Nat, m ≤ 100 ∧ x.2 = (List.range (m + 1)).map (numA x.1.1 E)
theorem cut_sum {L : Int} {E : Dd} {m : Nat} {len : Int} (l0 : 0 ≤ len) (l1 : len ≤ m) : cut ((List.range (m + 1)).map (numA L E)) none (some (len + 1)) = (List.range (len.toNat + 1)).map (numA L E) := by
  rw [cut_to _ (by omega), ← List.map_take, List.take_range]
  congr 2
  omega
theorem right_ok {x : (Int × List (List Int)) × List Int} (h : Due x) {len : Int} (l0 : 0 ≤ len) (l1 : len < x.2.length) : m_l_one_right x.1 x.2 len = some true := by
  obtain ⟨⟨L, rows⟩, due⟩ := x
  obtain ⟨E, W, m, hm, hd⟩ := h
  have hd : due = (List.range (m + 1)).map (numA L E) := hd
  subst hd
  have l1 : len < ((List.range (m + 1)).map (numA L E)).length := l1
  rw [List.length_map, List.length_range] at l1
  have W : Web L rows E := W
  have ei : idx ((List.range (m + 1)).map (numA L E)) len = some (numA L E len.toNat) := by
    refine idx_of l0 ?_
    rw [List.getElem?_map, List.getElem?_range (by omega)]
    rfl
  have e1 : m_p_members_of_length (L, rows) len = some (numA L E len.toNat) := members_of_ok W l0 (by omega)
  have e2 : m_p_members_to (L, rows) len = some ((List.range (len.toNat + 1)).map (numA L E)).sum := members_to_ok W l0 (by omega)
  have ec := cut_sum (L := L) (E := E) (m := m) l0 (by omega)
  have ok : ∀ x : Int, m_l_is_integer x x = some true := fun x => by unfold m_l_is_integer; simp
  unfold m_l_one_right
  show ((m_p_members_of_length (L, rows) len).bind _) = some true
  refine bindS e1 (bindS ei (bindS (ok _) ((if_neg (by simp)).trans (bindS e2 ?_))))
  show ((m_l_is_integer _ (cut ((List.range (m + 1)).map (numA L E)) none (some (len + 1))).sum).bind _) = _
  rw [ec]
  refine bindS (ok _) ((if_neg (by simp)).trans (bindS e1 (bindS ei (bindS (ok _) ((if_neg (by simp)).trans (bindS e2 (bindS (ok _) rfl)))))))
theorem law_true : ∀ ns : List Int, ns.length ≤ 63 → m_l_law ns = some true := fun ns hl => by
  have key : ∃ r, m_l_law ns = some r ∧ r = true := by
    unfold m_l_law
    have hb : 1 ≤ maxI 1 (minI 4 (ns.length : Int)) ∧ maxI 1 (minI 4 (ns.length : Int)) ≤ 4 := by
      unfold maxI minI
      constructor <;> (repeat' split) <;> omega
    refine bndX (rngO_ok (by omega)) ?_
    have hlr : (range' 0 (maxI 1 (minI 4 (ns.length : Int)))).length ≤ 4 := by rw [rng_len]; omega
    refine lpRY (fun i s => s.length = i ∧ ∀ x ∈ s, Due x) ⟨rfl, (fun _ z => nomatch z)⟩ (fun i k s hk hs => ?_) (fun s hs => ⟨_, rfl, rfl⟩)
    have hi : i < 4 := by
      have := (List.getElem?_eq_some_iff.mp hk).1
      omega
    obtain ⟨hs1, hs2⟩ := hs
    have hk0 := (mem_rng (List.mem_of_getElem? hk)).1
    obtain ⟨w0, e0, k0⟩ := pot_ok (ns := ns) hk0
    obtain ⟨⟨web, w1⟩, e1, ⟨E, W⟩, _, q2, k1⟩ := drawnP_ok k0 (most := 12) (top := 4) (by decide) (by decide) (by decide) (by decide)
    have W : Web web.1 web.2 E := W
    obtain ⟨v2, w2, e2, a2, b2, k2⟩ := draw_ok k1 (many := 3) (by decide) (by decide)
    obtain ⟨m, e3, hm⟩ := idx_mem (xs := [6, 20, (100 : Int)]) a2 (by show v2 < ((3 : Nat) : Int); omega)
    have hm2 : 6 ≤ m ∧ m ≤ 100 := by
      simp only [List.mem_cons, List.not_mem_nil, or_false] at hm
      omega
    have h1 := W.reg.l1
    have h4 := W.reg.l4
    have n1 := W.n1
    have n9 := W.n9
    obtain ⟨D2, e4, r2⟩ := doorsP_ok W.reg (by omega)
    have e5 := numbers_ok r2.1 h1 h4 n1 (by omega) (most := m) (by omega) (by omega)
    have hnum : numA web.1 D2 = numA web.1 E := funext fun j => iterA_congr r2.1 (rep_eq r2 W.rep) homeF j 0 0 (Int.le_refl 0)
    rw [hnum] at e5
    have hdue : Due (web, (List.range (m.toNat + 1)).map (numA web.1 E)) := ⟨E, W, m.toNat, by omega, rfl⟩
    obtain ⟨v6, w6, e6, a6, b6, k6⟩ := draw_ok k2 (many := m + 1) (by omega) (by omega)
    obtain ⟨v7, w7, e7, a7, b7, k7⟩ := draw_ok k6 (many := m + 1) (by omega) (by omega)
    refine bndX e0 (bndX e1 (bndX e2 (bndX e3 (bndX e4 (bndX e5 (bndX (app_ok (by rw [hs1, sizeL]; omega)) (bndX e6 (bndX e7 (bndX (rngO_ok (a := 0) (b := 5) (by decide)) ?_)))))))))
    refine lpRX (fun j (s : List Int × List Int) => s.1.length + j = 5 ∧ (∀ x ∈ s.1, 0 ≤ x ∧ x ≤ m) ∧ Pot (0 + 2000 + 1 + 1 + 1 + j) s.2) ⟨rfl, fun x hx => ?_, k7⟩ (fun j x s hx hs => ?_) (fun s hs => ?_)
    · simp only [List.mem_cons, List.not_mem_nil, or_false] at hx
      omega
    · have hj : j < 5 := by
        have : j < (range' 0 5).length := (List.getElem?_eq_some_iff.mp hx).1
        have h5 : (range' 0 5).length = 5 := rfl
        omega
      obtain ⟨ps, pot⟩ := s
      obtain ⟨g1, g2, g3⟩ := hs
      have g1 : ps.length + j = 5 := g1
      have g2 : ∀ x ∈ ps, 0 ≤ x ∧ x ≤ m := g2
      obtain ⟨v, p2, ev, v0, v1, kv⟩ := draw_ok g3 (many := (ps.length : Int)) (by omega) (by omega)
      obtain ⟨g, e8, hg⟩ := popI_ok v0 v1 (by omega)
      have gb := g2 g (List.mem_of_getElem? hg)
      have er := right_ok hdue (len := g) gb.1 (by show g < (((List.range (m.toNat + 1)).map (numA web.1 E)).length : Int); rw [List.length_map, List.length_range]; omega)
      refine ⟨(ps.eraseIdx v.toNat, p2), bindS ev (bindS e8 (bindS er (if_neg (by simp)))), ?_, fun x hx => g2 x ((List.eraseIdx_sublist _ _).subset hx), kv⟩
      show (ps.eraseIdx v.toNat).length + (j + 1) = 5
      rw [List.length_eraseIdx_of_lt (by omega)]
      omega
    · obtain ⟨ps, pot⟩ := s
      obtain ⟨_, _, g3⟩ := hs
      have hall : ∀ x ∈ s ++ [(web, (List.range (m.toNat + 1)).map (numA web.1 E))], Due x := fun x hx => by
        rcases List.mem_append.mp hx with hx | hx
        · exact hs2 x hx
        · rw [List.mem_singleton.mp hx]; exact hdue
      have hlen : (s ++ [(web, (List.range (m.toNat + 1)).map (numA web.1 E))]).length = i + 1 := by rw [List.length_append, hs1]; rfl
      generalize s ++ [(web, (List.range (m.toNat + 1)).map (numA web.1 E))] = s2 at hall hlen
      obtain ⟨v8, w8, e8, a8, b8, k8⟩ := draw_ok g3 (many := (s2.length : Int)) (by omega) (by omega)
      obtain ⟨y, e9, my⟩ := idx_mem a8 b8
      obtain ⟨E2, W2, m2, hm3, hd2⟩ := hall y my
      have hy : y.2.length = m2 + 1 := by rw [hd2, List.length_map, List.length_range]
      obtain ⟨v10, w10, e10, a10, b10, k10⟩ := draw_ok k8 (many := (y.2.length : Int)) (by omega) (by omega)
      have er := right_ok (hall y my) (len := v10) a10 b10
      exact bndX e8 (bndX e9 (bndX e10 (bndX er ⟨_, if_neg (by simp), s2, rfl, hlen, hall⟩)))
  obtain ⟨r, e, rfl⟩ := key
  exact e
end L18
namespace L18
open PySem PySem.Spec PyProof.Rows L2 Z
theorem tops {l : PySem.W.OpenLaw} {w : World} {K : PySem.W.Frag} {h : Heap} {mg : Str → Option Value} {fa f0 f1 f2 f3 f4 f5 f6 f7 f8 f9 f10 f11 f12 f13 f14 f15 f16 f17 f18 f19 f20 f21 f22 f23 f24 f25 f26 f27 : Addr} (IK : K.In h) (IG : h.Ns mainGlobals mg) (hfa : mg "law" = some (.ref fa))
    {od0 od1 od2 od3 od4 od5 od6 od7 od8 od9 od10 od11 od12 od13 od14 od15 od16 od17 od18 od19 od20 od21 od22 od23 od24 od25 od26 od27 an0 an1 an2 an3 an4 an5 an6 an7 an8 an9 an10 an11 an12 an13 an14 an15 an16 an17 an18 an19 an20 an21 an22 an23 an24 an25 an26 an27 : Option Addr} {sl0 sl1 sl2 sl3 sl4 sl5 sl6 sl7 sl8 sl9 sl10 sl11 sl12 sl13 sl14 sl15 sl16 sl17 sl18 sl19 sl20 sl21 sl22 sl23 sl24 sl25 sl26 sl27 : Array (Option Value)} {oc0 oc1 oc2 oc3 oc4 oc5 oc6 oc7 oc8 oc9 oc10 oc11 oc12 oc13 oc14 oc15 oc16 oc17 oc18 oc19 oc20 oc21 oc22 oc23 oc24 oc25 oc26 oc27 kV0 kV1 kV2 kV3 kV4 kV5 kV6 kV7 kV8 kV9 kV10 kV11 kV12 kV13 kV14 kV15 kV16 kV17 kV18 kV19 kV20 kV21 kV22 kV23 kV24 kV25 kV26 kV27 dc0 dc1 dc2 dc3 dc4 dc5 dc6 dc7 dc8 dc9 dc10 dc11 dc12 dc13 dc14 dc15 dc16 dc17 dc18 dc19 dc20 dc21 dc22 dc23 dc24 dc25 dc26 dc27 pm0 pm1 pm2 pm3 pm4 pm5 pm6 pm7 pm8 pm9 pm10 pm11 pm12 pm13 pm14 pm15 pm16 pm17 pm18 pm19 pm20 pm21 pm22 pm23 pm24 pm25 pm26 pm27 cd0 cd1 cd2 cd3 cd4 cd5 cd6 cd7 cd8 cd9 cd10 cd11 cd12 cd13 cd14 cd15 cd16 cd17 cd18 cd19 cd20 cd21 cd22 cd23 cd24 cd25 cd26 cd27 ct0 ct1 ct2 ct3 ct4 ct5 ct6 ct7 ct8 ct9 ct10 ct11 ct12 ct13 ct14 ct15 ct16 ct17 ct18 ct19 ct20 ct21 ct22 ct23 ct24 ct25 ct26 ct27 : Value}
    (a0 : PySem.W.nsIn K mainGlobals "steps_of" = some (some (.ref f0)))
    (b0 : K.lookup f0 = some ⟨oc0, od0, .func (PySem.W.fnOf "steps_of" "steps_of" (defArgs s_p_steps_of) (defBody s_p_steps_of) (defScope s_p_steps_of) .none kV0 dc0 pm0 an0 cd0 ct0), sl0⟩)
    (c0 : PySem.W.codeIn K cd0 "steps_of" = true) (d0 : PySem.W.keepIn K (.ref f0) = true)
    (a1 : PySem.W.nsIn K mainGlobals "is_integer" = some (some (.ref f1)))
    (b1 : K.lookup f1 = some ⟨oc1, od1, .func (PySem.W.fnOf "is_integer" "is_integer" (defArgs s_p_is_integer) (defBody s_p_is_integer) (defScope s_p_is_integer) .none kV1 dc1 pm1 an1 cd1 ct1), sl1⟩)
    (c1 : PySem.W.codeIn K cd1 "is_integer" = true) (d1 : PySem.W.keepIn K (.ref f1) = true)
    (a2 : PySem.W.nsIn K mainGlobals "is_letters" = some (some (.ref f2)))
    (b2 : K.lookup f2 = some ⟨oc2, od2, .func (PySem.W.fnOf "is_letters" "is_letters" (defArgs s_p_is_letters) (defBody s_p_is_letters) (defScope s_p_is_letters) .none kV2 dc2 pm2 an2 cd2 ct2), sl2⟩)
    (c2 : PySem.W.codeIn K cd2 "is_letters" = true) (d2 : PySem.W.keepIn K (.ref f2) = true)
    (a3 : PySem.W.nsIn K mainGlobals "is_a_row" = some (some (.ref f3)))
    (b3 : K.lookup f3 = some ⟨oc3, od3, .func (PySem.W.fnOf "is_a_row" "is_a_row" (defArgs s_p_is_a_row) (defBody s_p_is_a_row) (defScope s_p_is_a_row) .none kV3 dc3 pm3 an3 cd3 ct3), sl3⟩)
    (c3 : PySem.W.codeIn K cd3 "is_a_row" = true) (d3 : PySem.W.keepIn K (.ref f3) = true)
    (a4 : PySem.W.nsIn K mainGlobals "doors_of" = some (some (.ref f4)))
    (b4 : K.lookup f4 = some ⟨oc4, od4, .func (PySem.W.fnOf "doors_of" "doors_of" (defArgs s_p_doors_of) (defBody s_p_doors_of) (defScope s_p_doors_of) .none kV4 dc4 pm4 an4 cd4 ct4), sl4⟩)
    (c4 : PySem.W.codeIn K cd4 "doors_of" = true) (d4 : PySem.W.keepIn K (.ref f4) = true)
    (a5 : PySem.W.nsIn K mainGlobals "is_one_way" = some (some (.ref f5)))
    (b5 : K.lookup f5 = some ⟨oc5, od5, .func (PySem.W.fnOf "is_one_way" "is_one_way" (defArgs s_p_is_one_way) (defBody s_p_is_one_way) (defScope s_p_is_one_way) .none kV5 dc5 pm5 an5 cd5 ct5), sl5⟩)
    (c5 : PySem.W.codeIn K cd5 "is_one_way" = true) (d5 : PySem.W.keepIn K (.ref f5) = true)
    (a6 : PySem.W.nsIn K mainGlobals "first_order" = some (some (.ref f6)))
    (b6 : K.lookup f6 = some ⟨oc6, od6, .func (PySem.W.fnOf "first_order" "first_order" (defArgs s_p_first_order) (defBody s_p_first_order) (defScope s_p_first_order) .none kV6 dc6 pm6 an6 cd6 ct6), sl6⟩)
    (c6 : PySem.W.codeIn K cd6 "first_order" = true) (d6 : PySem.W.keepIn K (.ref f6) = true)
    (a7 : PySem.W.nsIn K mainGlobals "is_a_web" = some (some (.ref f7)))
    (b7 : K.lookup f7 = some ⟨oc7, od7, .func (PySem.W.fnOf "is_a_web" "is_a_web" (defArgs s_p_is_a_web) (defBody s_p_is_a_web) (defScope s_p_is_a_web) .none kV7 dc7 pm7 an7 cd7 ct7), sl7⟩)
    (c7 : PySem.W.codeIn K cd7 "is_a_web" = true) (d7 : PySem.W.keepIn K (.ref f7) = true)
    (a8 : PySem.W.nsIn K mainGlobals "need_web" = some (some (.ref f8)))
    (b8 : K.lookup f8 = some ⟨oc8, od8, .func (PySem.W.fnOf "need_web" "need_web" (defArgs s_p_need_web) (defBody s_p_need_web) (defScope s_p_need_web) .none kV8 dc8 pm8 an8 cd8 ct8), sl8⟩)
    (c8 : PySem.W.codeIn K cd8 "need_web" = true) (d8 : PySem.W.keepIn K (.ref f8) = true)
    (a9 : PySem.W.nsIn K mainGlobals "need_number" = some (some (.ref f9)))
    (b9 : K.lookup f9 = some ⟨oc9, od9, .func (PySem.W.fnOf "need_number" "need_number" (defArgs s_p_need_number) (defBody s_p_need_number) (defScope s_p_need_number) .none kV9 dc9 pm9 an9 cd9 ct9), sl9⟩)
    (c9 : PySem.W.codeIn K cd9 "need_number" = true) (d9 : PySem.W.keepIn K (.ref f9) = true)
    (a10 : PySem.W.nsIn K mainGlobals "first_level" = some (some (.ref f10)))
    (b10 : K.lookup f10 = some ⟨oc10, od10, .func (PySem.W.fnOf "first_level" "first_level" (defArgs s_p_first_level) (defBody s_p_first_level) (defScope s_p_first_level) .none kV10 dc10 pm10 an10 cd10 ct10), sl10⟩)
    (c10 : PySem.W.codeIn K cd10 "first_level" = true) (d10 : PySem.W.keepIn K (.ref f10) = true)
    (a11 : PySem.W.nsIn K mainGlobals "next_level" = some (some (.ref f11)))
    (b11 : K.lookup f11 = some ⟨oc11, od11, .func (PySem.W.fnOf "next_level" "next_level" (defArgs s_p_next_level) (defBody s_p_next_level) (defScope s_p_next_level) .none kV11 dc11 pm11 an11 cd11 ct11), sl11⟩)
    (c11 : PySem.W.codeIn K cd11 "next_level" = true) (d11 : PySem.W.keepIn K (.ref f11) = true)
    (a12 : PySem.W.nsIn K mainGlobals "members_by_length" = some (some (.ref f12)))
    (b12 : K.lookup f12 = some ⟨oc12, od12, .func (PySem.W.fnOf "members_by_length" "members_by_length" (defArgs s_p_members_by_length) (defBody s_p_members_by_length) (defScope s_p_members_by_length) .none kV12 dc12 pm12 an12 cd12 ct12), sl12⟩)
    (c12 : PySem.W.codeIn K cd12 "members_by_length" = true) (d12 : PySem.W.keepIn K (.ref f12) = true)
    (a13 : PySem.W.nsIn K mainGlobals "members_of_length" = some (some (.ref f13)))
    (b13 : K.lookup f13 = some ⟨oc13, od13, .func (PySem.W.fnOf "members_of_length" "members_of_length" (defArgs s_p_members_of_length) (defBody s_p_members_of_length) (defScope s_p_members_of_length) .none kV13 dc13 pm13 an13 cd13 ct13), sl13⟩)
    (c13 : PySem.W.codeIn K cd13 "members_of_length" = true) (d13 : PySem.W.keepIn K (.ref f13) = true)
    (a14 : PySem.W.nsIn K mainGlobals "members_to" = some (some (.ref f14)))
    (b14 : K.lookup f14 = some ⟨oc14, od14, .func (PySem.W.fnOf "members_to" "members_to" (defArgs s_p_members_to) (defBody s_p_members_to) (defScope s_p_members_to) .none kV14 dc14 pm14 an14 cd14 ct14), sl14⟩)
    (c14 : PySem.W.codeIn K cd14 "members_to" = true) (d14 : PySem.W.keepIn K (.ref f14) = true)
    (a15 : PySem.W.nsIn K mainGlobals "_law_pot" = some (some (.ref f15)))
    (b15 : K.lookup f15 = some ⟨oc15, od15, .func (PySem.W.fnOf "_law_pot" "_law_pot" (defArgs s_l_pot) (defBody s_l_pot) (defScope s_l_pot) .none kV15 dc15 pm15 an15 cd15 ct15), sl15⟩)
    (c15 : PySem.W.codeIn K cd15 "_law_pot" = true) (d15 : PySem.W.keepIn K (.ref f15) = true)
    (a16 : PySem.W.nsIn K mainGlobals "_law_draw" = some (some (.ref f16)))
    (b16 : K.lookup f16 = some ⟨oc16, od16, .func (PySem.W.fnOf "_law_draw" "_law_draw" (defArgs s_l_draw) (defBody s_l_draw) (defScope s_l_draw) .none kV16 dc16 pm16 an16 cd16 ct16), sl16⟩)
    (c16 : PySem.W.codeIn K cd16 "_law_draw" = true) (d16 : PySem.W.keepIn K (.ref f16) = true)
    (a17 : PySem.W.nsIn K mainGlobals "_law_steps" = some (some (.ref f17)))
    (b17 : K.lookup f17 = some ⟨oc17, od17, .func (PySem.W.fnOf "_law_steps" "_law_steps" (defArgs s_l_steps) (defBody s_l_steps) (defScope s_l_steps) .none kV17 dc17 pm17 an17 cd17 ct17), sl17⟩)
    (c17 : PySem.W.codeIn K cd17 "_law_steps" = true) (d17 : PySem.W.keepIn K (.ref f17) = true)
    (a18 : PySem.W.nsIn K mainGlobals "_law_web" = some (some (.ref f18)))
    (b18 : K.lookup f18 = some ⟨oc18, od18, .func (PySem.W.fnOf "_law_web" "_law_web" (defArgs s_l_web) (defBody s_l_web) (defScope s_l_web) .none kV18 dc18 pm18 an18 cd18 ct18), sl18⟩)
    (c18 : PySem.W.codeIn K cd18 "_law_web" = true) (d18 : PySem.W.keepIn K (.ref f18) = true)
    (a19 : PySem.W.nsIn K mainGlobals "_law_doors" = some (some (.ref f19)))
    (b19 : K.lookup f19 = some ⟨oc19, od19, .func (PySem.W.fnOf "_law_doors" "_law_doors" (defArgs s_l_doors) (defBody s_l_doors) (defScope s_l_doors) .none kV19 dc19 pm19 an19 cd19 ct19), sl19⟩)
    (c19 : PySem.W.codeIn K cd19 "_law_doors" = true) (d19 : PySem.W.keepIn K (.ref f19) = true)
    (a20 : PySem.W.nsIn K mainGlobals "_law_straight" = some (some (.ref f20)))
    (b20 : K.lookup f20 = some ⟨oc20, od20, .func (PySem.W.fnOf "_law_straight" "_law_straight" (defArgs s_l_straight) (defBody s_l_straight) (defScope s_l_straight) .none kV20 dc20 pm20 an20 cd20 ct20), sl20⟩)
    (c20 : PySem.W.codeIn K cd20 "_law_straight" = true) (d20 : PySem.W.keepIn K (.ref f20) = true)
    (a21 : PySem.W.nsIn K mainGlobals "_law_tables" = some (some (.ref f21)))
    (b21 : K.lookup f21 = some ⟨oc21, od21, .func (PySem.W.fnOf "_law_tables" "_law_tables" (defArgs s_l_tables) (defBody s_l_tables) (defScope s_l_tables) .none kV21 dc21 pm21 an21 cd21 ct21), sl21⟩)
    (c21 : PySem.W.codeIn K cd21 "_law_tables" = true) (d21 : PySem.W.keepIn K (.ref f21) = true)
    (a22 : PySem.W.nsIn K mainGlobals "_law_rings" = some (some (.ref f22)))
    (b22 : K.lookup f22 = some ⟨oc22, od22, .func (PySem.W.fnOf "_law_rings" "_law_rings" (defArgs s_l_rings) (defBody s_l_rings) (defScope s_l_rings) .none kV22 dc22 pm22 an22 cd22 ct22), sl22⟩)
    (c22 : PySem.W.codeIn K cd22 "_law_rings" = true) (d22 : PySem.W.keepIn K (.ref f22) = true)
    (a23 : PySem.W.nsIn K mainGlobals "_law_drawn" = some (some (.ref f23)))
    (b23 : K.lookup f23 = some ⟨oc23, od23, .func (PySem.W.fnOf "_law_drawn" "_law_drawn" (defArgs s_l_drawn) (defBody s_l_drawn) (defScope s_l_drawn) .none kV23 dc23 pm23 an23 cd23 ct23), sl23⟩)
    (c23 : PySem.W.codeIn K cd23 "_law_drawn" = true) (d23 : PySem.W.keepIn K (.ref f23) = true)
    (a24 : PySem.W.nsIn K mainGlobals "_law_numbers" = some (some (.ref f24)))
    (b24 : K.lookup f24 = some ⟨oc24, od24, .func (PySem.W.fnOf "_law_numbers" "_law_numbers" (defArgs s_l_numbers) (defBody s_l_numbers) (defScope s_l_numbers) .none kV24 dc24 pm24 an24 cd24 ct24), sl24⟩)
    (c24 : PySem.W.codeIn K cd24 "_law_numbers" = true) (d24 : PySem.W.keepIn K (.ref f24) = true)
    (a25 : PySem.W.nsIn K mainGlobals "_law_is_integer" = some (some (.ref f25)))
    (b25 : K.lookup f25 = some ⟨oc25, od25, .func (PySem.W.fnOf "_law_is_integer" "_law_is_integer" (defArgs s_l_is_integer) (defBody s_l_is_integer) (defScope s_l_is_integer) .none kV25 dc25 pm25 an25 cd25 ct25), sl25⟩)
    (c25 : PySem.W.codeIn K cd25 "_law_is_integer" = true) (d25 : PySem.W.keepIn K (.ref f25) = true)
    (a26 : PySem.W.nsIn K mainGlobals "_law_one_right" = some (some (.ref f26)))
    (b26 : K.lookup f26 = some ⟨oc26, od26, .func (PySem.W.fnOf "_law_one_right" "_law_one_right" (defArgs s_l_one_right) (defBody s_l_one_right) (defScope s_l_one_right) .none kV26 dc26 pm26 an26 cd26 ct26), sl26⟩)
    (c26 : PySem.W.codeIn K cd26 "_law_one_right" = true) (d26 : PySem.W.keepIn K (.ref f26) = true)
    (a27 : PySem.W.nsIn K mainGlobals "law" = some (some (.ref f27)))
    (b27 : K.lookup f27 = some ⟨oc27, od27, .func (PySem.W.fnOf "law" "law" (defArgs s_l_law) (defBody s_l_law) (defScope s_l_law) .none kV27 dc27 pm27 an27 cd27 ct27), sl27⟩)
    (c27 : PySem.W.codeIn K cd27 "law" = true) (d27 : PySem.W.keepIn K (.ref f27) = true)
    (g_range : PySem.W.nsIn K mainGlobals "range" = some none)
    (g_isinstance : PySem.W.nsIn K mainGlobals "isinstance" = some none)
    (g_int : PySem.W.nsIn K mainGlobals "int" = some none)
    (g_bool : PySem.W.nsIn K mainGlobals "bool" = some none)
    {tk_MOST_LETTERS : Tok}
    (g_MOST_LETTERS : PySem.W.nsIn K mainGlobals "MOST_LETTERS" = some (some (.int 4 tk_MOST_LETTERS)))
    (g_tuple : PySem.W.nsIn K mainGlobals "tuple" = some none)
    (g_len : PySem.W.nsIn K mainGlobals "len" = some none)
    (g_all : PySem.W.nsIn K mainGlobals "all" = some none)
    (g_enumerate : PySem.W.nsIn K mainGlobals "enumerate" = some none)
    (g_set : PySem.W.nsIn K mainGlobals "set" = some none)
    (g_any : PySem.W.nsIn K mainGlobals "any" = some none)
    (g_list : PySem.W.nsIn K mainGlobals "list" = some none)
    (g_sum : PySem.W.nsIn K mainGlobals "sum" = some none)
    (g_max : PySem.W.nsIn K mainGlobals "max" = some none)
    (g_abs : PySem.W.nsIn K mainGlobals "abs" = some none)
    (g_dict : PySem.W.nsIn K mainGlobals "dict" = some none)
    (g_min : PySem.W.nsIn K mainGlobals "min" = some none)
    : ∃ fd : FuncData, (∀ (s : Shared) (v : Value), BindsTo s fd ⟨[v], []⟩ [("_law_script", v)]) ∧ ∀ base : Heap, K.In base → base.Ns mainGlobals mg → FnG l.prog w K mg base CX0 7 fa fd ["_law_script"] (LawSp K m_l_law) := by
  have e := hfa.symm.trans (PySem.W.mg_of IK IG a27)
  cases e
  have h_g_range := PySem.W.mg_none_of IK IG g_range
  have h_g_isinstance := PySem.W.mg_none_of IK IG g_isinstance
  have h_g_int := PySem.W.mg_none_of IK IG g_int
  have h_g_bool := PySem.W.mg_none_of IK IG g_bool
  have h_g_MOST_LETTERS := PySem.W.mg_of IK IG g_MOST_LETTERS
  have h_g_tuple := PySem.W.mg_none_of IK IG g_tuple
  have h_g_len := PySem.W.mg_none_of IK IG g_len
  have h_g_all := PySem.W.mg_none_of IK IG g_all
  have h_g_enumerate := PySem.W.mg_none_of IK IG g_enumerate
  have h_g_set := PySem.W.mg_none_of IK IG g_set
  have h_g_any := PySem.W.mg_none_of IK IG g_any
  have h_g_list := PySem.W.mg_none_of IK IG g_list
  have h_g_sum := PySem.W.mg_none_of IK IG g_sum
  have h_g_max := PySem.W.mg_none_of IK IG g_max
  have h_g_abs := PySem.W.mg_none_of IK IG g_abs
  have h_g_dict := PySem.W.mg_none_of IK IG g_dict
  have h_g_min := PySem.W.mg_none_of IK IG g_min
  have F0 := fun_mk (st := s_p_steps_of) b0 c0 d0
  have B0 := F0.binds (ps := ["letters"]) fun _ _ _ _ _ _ us hl => match us, hl with | [_], _ => rfl
  have F1 := fun_mk (st := s_p_is_integer) b1 c1 d1
  have B1 := F1.binds (ps := ["value"]) fun _ _ _ _ _ _ us hl => match us, hl with | [_], _ => rfl
  have F2 := fun_mk (st := s_p_is_letters) b2 c2 d2
  have B2 := F2.binds (ps := ["value"]) fun _ _ _ _ _ _ us hl => match us, hl with | [_], _ => rfl
  have F3 := fun_mk (st := s_p_is_a_row) b3 c3 d3
  have B3 := F3.binds (ps := ["value", "letters", "rooms"]) fun _ _ _ _ _ _ us hl => match us, hl with | [_, _, _], _ => rfl
  have F4 := fun_mk (st := s_p_doors_of) b4 c4 d4
  have B4 := F4.binds (ps := ["rows"]) fun _ _ _ _ _ _ us hl => match us, hl with | [_], _ => rfl
  have F5 := fun_mk (st := s_p_is_one_way) b5 c5 d5
  have B5 := F5.binds (ps := ["rows", "letters"]) fun _ _ _ _ _ _ us hl => match us, hl with | [_, _], _ => rfl
  have F6 := fun_mk (st := s_p_first_order) b6 c6 d6
  have B6 := F6.binds (ps := ["letters", "doors", "home"]) fun _ _ _ _ _ _ us hl => match us, hl with | [_, _, _], _ => rfl
  have F7 := fun_mk (st := s_p_is_a_web) b7 c7 d7
  have B7 := F7.binds (ps := ["value"]) fun _ _ _ _ _ _ us hl => match us, hl with | [_], _ => rfl
  have F8 := fun_mk (st := s_p_need_web) b8 c8 d8
  have B8 := F8.binds (ps := ["web"]) fun _ _ _ _ _ _ us hl => match us, hl with | [_], _ => rfl
  have F9 := fun_mk (st := s_p_need_number) b9 c9 d9
  have B9 := F9.binds (ps := ["number", "low", "high"]) fun _ _ _ _ _ _ us hl => match us, hl with | [_, _, _], _ => rfl
  have F10 := fun_mk (st := s_p_first_level) b10 c10 d10
  have B10 := F10.binds (ps := ["doors"]) fun _ _ _ _ _ _ us hl => match us, hl with | [_], _ => rfl
  have F11 := fun_mk (st := s_p_next_level) b11 c11 d11
  have B11 := F11.binds (ps := ["doors", "level"]) fun _ _ _ _ _ _ us hl => match us, hl with | [_, _], _ => rfl
  have F12 := fun_mk (st := s_p_members_by_length) b12 c12 d12
  have B12 := F12.binds (ps := ["web", "length"]) fun _ _ _ _ _ _ us hl => match us, hl with | [_, _], _ => rfl
  have F13 := fun_mk (st := s_p_members_of_length) b13 c13 d13
  have B13 := F13.binds (ps := ["web", "length"]) fun _ _ _ _ _ _ us hl => match us, hl with | [_, _], _ => rfl
  have F14 := fun_mk (st := s_p_members_to) b14 c14 d14
  have B14 := F14.binds (ps := ["web", "length"]) fun _ _ _ _ _ _ us hl => match us, hl with | [_, _], _ => rfl
  have F15 := fun_mk (st := s_l_pot) b15 c15 d15
  have B15 := F15.binds (ps := ["_law_script", "_law_k"]) fun _ _ _ _ _ _ us hl => match us, hl with | [_, _], _ => rfl
  have F16 := fun_mk (st := s_l_draw) b16 c16 d16
  have B16 := F16.binds (ps := ["_law_pot_here", "_law_many"]) fun _ _ _ _ _ _ us hl => match us, hl with | [_, _], _ => rfl
  have F17 := fun_mk (st := s_l_steps) b17 c17 d17
  have B17 := F17.binds (ps := ["_law_letters"]) fun _ _ _ _ _ _ us hl => match us, hl with | [_], _ => rfl
  have F18 := fun_mk (st := s_l_web) b18 c18 d18
  have B18 := F18.binds (ps := ["_law_letters", "_law_doors_here"]) fun _ _ _ _ _ _ us hl => match us, hl with | [_, _], _ => rfl
  have F19 := fun_mk (st := s_l_doors) b19 c19 d19
  have B19 := F19.binds (ps := ["_law_web_here"]) fun _ _ _ _ _ _ us hl => match us, hl with | [_], _ => rfl
  have F20 := fun_mk (st := s_l_straight) b20 c20 d20
  have B20 := F20.binds (ps := ["_law_pot_here", "_law_letters", "_law_size"]) fun _ _ _ _ _ _ us hl => match us, hl with | [_, _, _], _ => rfl
  have F21 := fun_mk (st := s_l_tables) b21 c21 d21
  have B21 := F21.binds (ps := ["_law_pot_here", "_law_letters", "_law_count", "_law_gaps"]) fun _ _ _ _ _ _ us hl => match us, hl with | [_, _, _, _], _ => rfl
  have F22 := fun_mk (st := s_l_rings) b22 c22 d22
  have B22 := F22.binds (ps := ["_law_walks"]) fun _ _ _ _ _ _ us hl => match us, hl with | [_], _ => rfl
  have F23 := fun_mk (st := s_l_drawn) b23 c23 d23
  have B23 := F23.binds (ps := ["_law_pot_here", "_law_most", "_law_top"]) fun _ _ _ _ _ _ us hl => match us, hl with | [_, _, _], _ => rfl
  have F24 := fun_mk (st := s_l_numbers) b24 c24 d24
  have B24 := F24.binds (ps := ["_law_doors_here", "_law_most"]) fun _ _ _ _ _ _ us hl => match us, hl with | [_, _], _ => rfl
  have F25 := fun_mk (st := s_l_is_integer) b25 c25 d25
  have B25 := F25.binds (ps := ["_law_found", "_law_due"]) fun _ _ _ _ _ _ us hl => match us, hl with | [_, _], _ => rfl
  have F26 := fun_mk (st := s_l_one_right) b26 c26 d26
  have B26 := F26.binds (ps := ["_law_web_here", "_law_due", "_law_length"]) fun _ _ _ _ _ _ us hl => match us, hl with | [_, _, _], _ => rfl
  have F27 := fun_mk (st := s_l_law) b27 c27 d27
  have B27 := F27.binds (ps := ["_law_script"]) fun _ _ _ _ _ _ us hl => match us, hl with | [_], _ => rfl
  refine ⟨PySem.W.fnOf "law" "law" (defArgs s_l_law) (defBody s_l_law) (defScope s_l_law) .none kV27 dc27 pm27 an27 cd27 ct27, fun s v => .of_eq rfl, fun base _ _ => ?_⟩
  have C_p_steps_of := cal_p_steps_of (P := l.prog) (w := w) (base := base) F0 (PySem.W.mg_of IK IG a0) B0 h_g_range
  have C_p_is_integer := cal_p_is_integer (P := l.prog) (w := w) (base := base) F1 (PySem.W.mg_of IK IG a1) B1 h_g_isinstance h_g_int h_g_bool
  have C_p_is_letters := cal_p_is_letters (P := l.prog) (w := w) (base := base) F2 (PySem.W.mg_of IK IG a2) B2 C_p_is_integer h_g_MOST_LETTERS
  have C_p_is_a_row := cal_p_is_a_row (P := l.prog) (w := w) (base := base) F3 (PySem.W.mg_of IK IG a3) B3 h_g_isinstance h_g_tuple h_g_len h_g_all C_p_is_integer
  have C_p_doors_of := cal_p_doors_of (P := l.prog) (w := w) (base := base) F4 (PySem.W.mg_of IK IG a4) B4 h_g_enumerate
  have C_p_is_one_way := cal_p_is_one_way (P := l.prog) (w := w) (base := base) F5 (PySem.W.mg_of IK IG a5) B5 h_g_range h_g_len h_g_set
  have C_p_first_order := cal_p_first_order (P := l.prog) (w := w) (base := base) F6 (PySem.W.mg_of IK IG a6) B6 h_g_len C_p_steps_of
  have C_p_is_a_web := cal_p_is_a_web (P := l.prog) (w := w) (base := base) F7 (PySem.W.mg_of IK IG a7) B7 h_g_isinstance h_g_tuple h_g_len C_p_is_letters h_g_all C_p_is_a_row C_p_is_one_way C_p_doors_of h_g_any C_p_first_order h_g_list h_g_range
  have C_p_need_web := cal_p_need_web (P := l.prog) (w := w) (base := base) F8 (PySem.W.mg_of IK IG a8) B8 C_p_is_a_web
  have C_p_need_number := cal_p_need_number (P := l.prog) (w := w) (base := base) F9 (PySem.W.mg_of IK IG a9) B9 
  have C_p_first_level := cal_p_first_level (P := l.prog) (w := w) (base := base) F10 (PySem.W.mg_of IK IG a10) B10 h_g_int
  have C_p_next_level := cal_p_next_level (P := l.prog) (w := w) (base := base) F11 (PySem.W.mg_of IK IG a11) B11 h_g_sum
  have C_p_members_by_length := cal_p_members_by_length (P := l.prog) (w := w) (base := base) F12 (PySem.W.mg_of IK IG a12) B12 C_p_doors_of C_p_first_level h_g_range h_g_sum C_p_next_level
  have C_p_members_of_length := cal_p_members_of_length (P := l.prog) (w := w) (base := base) F13 (PySem.W.mg_of IK IG a13) B13 C_p_need_web C_p_need_number C_p_members_by_length
  have C_p_members_to := cal_p_members_to (P := l.prog) (w := w) (base := base) F14 (PySem.W.mg_of IK IG a14) B14 C_p_need_web C_p_need_number h_g_sum C_p_members_by_length
  have C_l_pot := cal_l_pot (P := l.prog) (w := w) (base := base) F15 (PySem.W.mg_of IK IG a15) B15 h_g_len h_g_int h_g_max h_g_abs
  have C_l_draw := cal_l_draw (P := l.prog) (w := w) (base := base) F16 (PySem.W.mg_of IK IG a16) B16 h_g_int
  have C_l_steps := cal_l_steps (P := l.prog) (w := w) (base := base) F17 (PySem.W.mg_of IK IG a17) B17 h_g_range
  have C_l_web := cal_l_web (P := l.prog) (w := w) (base := base) F18 (PySem.W.mg_of IK IG a18) B18 h_g_dict h_g_range h_g_len h_g_list C_l_steps h_g_tuple
  have C_l_doors := cal_l_doors (P := l.prog) (w := w) (base := base) F19 (PySem.W.mg_of IK IG a19) B19 h_g_range h_g_len
  have C_l_straight := cal_l_straight (P := l.prog) (w := w) (base := base) F20 (PySem.W.mg_of IK IG a20) B20 h_g_range C_l_steps C_l_draw h_g_len h_g_tuple
  have C_l_tables := cal_l_tables (P := l.prog) (w := w) (base := base) F21 (PySem.W.mg_of IK IG a21) B21 h_g_range h_g_list C_l_draw h_g_len
  have C_l_rings := cal_l_rings (P := l.prog) (w := w) (base := base) F22 (PySem.W.mg_of IK IG a22) B22 h_g_range h_g_len h_g_list h_g_min h_g_max
  have C_l_drawn := cal_l_drawn (P := l.prog) (w := w) (base := base) F23 (PySem.W.mg_of IK IG a23) B23 C_l_draw h_g_range C_l_straight C_l_web C_l_rings C_l_tables
  have C_l_numbers := cal_l_numbers (P := l.prog) (w := w) (base := base) F24 (PySem.W.mg_of IK IG a24) B24 h_g_range h_g_sum
  have C_l_is_integer := cal_l_is_integer (P := l.prog) (w := w) (base := base) F25 (PySem.W.mg_of IK IG a25) B25 h_g_isinstance h_g_int h_g_bool
  have C_l_one_right := cal_l_one_right (P := l.prog) (w := w) (base := base) F26 (PySem.W.mg_of IK IG a26) B26 C_l_is_integer C_p_members_of_length C_p_members_to h_g_sum
  have C_l_law := cal_l_law (P := l.prog) (w := w) (base := base) F27 (PySem.W.mg_of IK IG a27) B27 h_g_range h_g_max h_g_min h_g_len C_l_pot C_l_drawn C_l_draw C_l_numbers C_l_doors C_l_one_right
  obtain ⟨f_, fd_, Fn_, G_, hm_, _⟩ := C_l_law.ex
  have e := hm_.symm.trans (PySem.W.mg_of IK IG a27)
  cases e
  obtain ⟨_, _, _, _, _, _, _, _, _, rfl, lk_, _⟩ := Fn_.ex
  rw [b27] at lk_
  cases lk_
  exact G_
end L18
open PySem PySem.W PyProof.Rows
set_option maxRecDepth 100000 in
set_option maxHeartbeats 0 in
theorem PySem.Challenge.cw_walkclubs_k18_members_of_each_length_holds : PySem.Challenge.rw_walkclubs_k18_members_of_each_length.Holds := by
  w_on; o_law; k_head; (case hw => w_witness2)
  k_fill
  refine Z.walk_ofG (l := PySem.Challenge.rw_walkclubs_k18_members_of_each_length) (n := 63) (k := 7) (x := "_law_script") (m := L18.m_l_law) rfl (by decide) rfl ⟨rfl, by decide, by decide⟩ (fun w h Y => PySem.W.kIn_of Y) ?F L18.law_true
  case F =>
    intro w mg fa h KI KG hmg
    refine' L18.tops KI KG hmg ?a0 ?b0 ?c0 ?d0 ?a1 ?b1 ?c1 ?d1 ?a2 ?b2 ?c2 ?d2 ?a3 ?b3 ?c3 ?d3 ?a4 ?b4 ?c4 ?d4 ?a5 ?b5 ?c5 ?d5 ?a6 ?b6 ?c6 ?d6 ?a7 ?b7 ?c7 ?d7 ?a8 ?b8 ?c8 ?d8 ?a9 ?b9 ?c9 ?d9 ?a10 ?b10 ?c10 ?d10 ?a11 ?b11 ?c11 ?d11 ?a12 ?b12 ?c12 ?d12 ?a13 ?b13 ?c13 ?d13 ?a14 ?b14 ?c14 ?d14 ?a15 ?b15 ?c15 ?d15 ?a16 ?b16 ?c16 ?d16 ?a17 ?b17 ?c17 ?d17 ?a18 ?b18 ?c18 ?d18 ?a19 ?b19 ?c19 ?d19 ?a20 ?b20 ?c20 ?d20 ?a21 ?b21 ?c21 ?d21 ?a22 ?b22 ?c22 ?d22 ?a23 ?b23 ?c23 ?d23 ?a24 ?b24 ?c24 ?d24 ?a25 ?b25 ?c25 ?d25 ?a26 ?b26 ?c26 ?d26 ?a27 ?b27 ?c27 ?d27 ?g_range ?g_isinstance ?g_int ?g_bool ?g_MOST_LETTERS ?g_tuple ?g_len ?g_all ?g_enumerate ?g_set ?g_any ?g_list ?g_sum ?g_max ?g_abs ?g_dict ?g_min
    (case a0 => k_is)
    (case b0 => k_is)
    (case c0 => k_is)
    (case d0 => k_is)
    (case a1 => k_is)
    (case b1 => k_is)
    (case c1 => k_is)
    (case d1 => k_is)
    (case a2 => k_is)
    (case b2 => k_is)
    (case c2 => k_is)
    (case d2 => k_is)
    (case a3 => k_is)
    (case b3 => k_is)
    (case c3 => k_is)
    (case d3 => k_is)
    (case a4 => k_is)
    (case b4 => k_is)
    (case c4 => k_is)
    (case d4 => k_is)
    (case a5 => k_is)
    (case b5 => k_is)
    (case c5 => k_is)
    (case d5 => k_is)
    (case a6 => k_is)
    (case b6 => k_is)
    (case c6 => k_is)
    (case d6 => k_is)
    (case a7 => k_is)
    (case b7 => k_is)
    (case c7 => k_is)
    (case d7 => k_is)
    (case a8 => k_is)
    (case b8 => k_is)
    (case c8 => k_is)
    (case d8 => k_is)
    (case a9 => k_is)
    (case b9 => k_is)
    (case c9 => k_is)
    (case d9 => k_is)
    (case a10 => k_is)
    (case b10 => k_is)
    (case c10 => k_is)
    (case d10 => k_is)
    (case a11 => k_is)
    (case b11 => k_is)
    (case c11 => k_is)
    (case d11 => k_is)
    (case a12 => k_is)
    (case b12 => k_is)
    (case c12 => k_is)
    (case d12 => k_is)
    (case a13 => k_is)
    (case b13 => k_is)
    (case c13 => k_is)
    (case d13 => k_is)
    (case a14 => k_is)
    (case b14 => k_is)
    (case c14 => k_is)
    (case d14 => k_is)
    (case a15 => k_is)
    (case b15 => k_is)
    (case c15 => k_is)
    (case d15 => k_is)
    (case a16 => k_is)
    (case b16 => k_is)
    (case c16 => k_is)
    (case d16 => k_is)
    (case a17 => k_is)
    (case b17 => k_is)
    (case c17 => k_is)
    (case d17 => k_is)
    (case a18 => k_is)
    (case b18 => k_is)
    (case c18 => k_is)
    (case d18 => k_is)
    (case a19 => k_is)
    (case b19 => k_is)
    (case c19 => k_is)
    (case d19 => k_is)
    (case a20 => k_is)
    (case b20 => k_is)
    (case c20 => k_is)
    (case d20 => k_is)
    (case a21 => k_is)
    (case b21 => k_is)
    (case c21 => k_is)
    (case d21 => k_is)
    (case a22 => k_is)
    (case b22 => k_is)
    (case c22 => k_is)
    (case d22 => k_is)
    (case a23 => k_is)
    (case b23 => k_is)
    (case c23 => k_is)
    (case d23 => k_is)
    (case a24 => k_is)
    (case b24 => k_is)
    (case c24 => k_is)
    (case d24 => k_is)
    (case a25 => k_is)
    (case b25 => k_is)
    (case c25 => k_is)
    (case d25 => k_is)
    (case a26 => k_is)
    (case b26 => k_is)
    (case c26 => k_is)
    (case d26 => k_is)
    (case a27 => k_is)
    (case b27 => k_is)
    (case c27 => k_is)
    (case d27 => k_is)
    (case g_range => k_is)
    (case g_isinstance => k_is)
    (case g_int => k_is)
    (case g_bool => k_is)
    (case g_MOST_LETTERS => k_is)
    (case g_tuple => k_is)
    (case g_len => k_is)
    (case g_all => k_is)
    (case g_enumerate => k_is)
    (case g_set => k_is)
    (case g_any => k_is)
    (case g_list => k_is)
    (case g_sum => k_is)
    (case g_max => k_is)
    (case g_abs => k_is)
    (case g_dict => k_is)
    (case g_min => k_is)
