import PyProof.Rows.All
import Wide.All
import OpenK.AllK
import Wide.FinOn
import HandS.ForMost
import HandS.Wide
import HandS.TupAny
import HandS.RaiseMore
import PyProof.ReprRoads
import HandS.Style
import HandS.IsInst
import HandS.Gcd
import KE.KMathGC
import HandS.Conv
import HandS.TupMul
import HandS.RevTup
import PyProof.ListMulRoad
import PyProof.FactsAll.tuple_2
import HandS.Iter
import KE.GoesEnum
import KE.GoesMore
import PySem.Challenge.RW_walkclubs_k05_walks_in_their_order
set_option Elab.async false
set_option linter.all false
set_option maxRecDepth 100000
set_option maxHeartbeats 1000000
/-! Z, part A: owned and frozen objects, slots, the judgements EX, TX, AX, SX over HandS. -/
namespace Z
open PySem PySem.Spec PyProof.Rows L2

/-! ### data: what a value stands for, all of it tracked -/
mutual
inductive Dq (H : Hp) : V → PyData → Prop
  | non : Dq H .non .none
  | bl (b : Bool) : Dq H (.bl b) (.bool b)
  | int (i : Int) : Dq H (.int i) (.int i)
  | str (x : Str) : Dq H (.str x) (.str x)
  | lst {a : Addr} {xs : List V} {ds : List PyData} : H a = some (.lst xs) → DqAll H xs ds → Dq H (.ref a) (.list ds)
  | tup {a : Addr} {xs : List V} {ds : List PyData} : H a = some (.tup xs) → DqAll H xs ds → Dq H (.ref a) (.tuple ds)
inductive DqAll (H : Hp) : List V → List PyData → Prop
  | nil : DqAll H [] []
  | cons {v : V} {vs : List V} {d : PyData} {ds : List PyData} : Dq H v d → DqAll H vs ds → DqAll H (v :: vs) (d :: ds)
end
mutual
theorem dq_mono {H H' : Hp} (e : Same H H') : ∀ (d : PyData) (v : V), Dq H v d → Dq H' v d
  | .none, _, h => by cases h; exact .non
  | .bool _, _, h => by cases h; exact .bl _
  | .int _, _, h => by cases h; exact .int _
  | .str _, _, h => by cases h; exact .str _
  | .list ds, _, h => by
    cases h with
    | lst hs ha => exact .lst (e _ _ hs) (dqall_mono e ds _ ha)
  | .tuple ds, _, h => by
    cases h with
    | tup hs ha => exact .tup (e _ _ hs) (dqall_mono e ds _ ha)
  | .dict _, _, h => by cases h
theorem dqall_mono {H H' : Hp} (e : Same H H') : ∀ (ds : List PyData) (vs : List V), DqAll H vs ds → DqAll H' vs ds
  | [], _, h => by cases h; exact .nil
  | d :: ds, _, h => by
    cases h with
    | cons h1 h2 => exact .cons (dq_mono e d _ h1) (dqall_mono e ds _ h2)
end
mutual
theorem dq_dp (K : PySem.W.Frag) {H : Hp} : ∀ (d : PyData) (v : V), Dq H v d → Dp K H v d
  | .none, _, h => by cases h; exact .non
  | .bool _, _, h => by cases h; exact .bl _
  | .int _, _, h => by cases h; exact .int _
  | .str _, _, h => by cases h; exact .str _
  | .list ds, _, h => by
    cases h with
    | lst hs ha => exact .lst (.of hs) (dqall_dp K ds _ ha)
  | .tuple ds, _, h => by
    cases h with
    | tup hs ha => exact .tup (.of hs) (dqall_dp K ds _ ha)
  | .dict _, _, h => by cases h
theorem dqall_dp (K : PySem.W.Frag) {H : Hp} : ∀ (ds : List PyData) (vs : List V), DqAll H vs ds → DpAll K H vs ds
  | [], _, h => by cases h; exact .nil
  | d :: ds, _, h => by
    cases h with
    | cons h1 h2 => exact .cons (dq_dp K d _ h1) (dqall_dp K ds _ h2)
end
theorem same_upd {H : Hp} {p : Addr} {o : HO} (h : H p = none) : Same H (upd H p o) := fun b x e => by
  rw [upd_ne (ne_of_none e h)]
  exact e
theorem dqall_len {H : Hp} : ∀ {ds : List PyData} {vs : List V}, DqAll H vs ds → vs.length = ds.length
  | [], _, h => by cases h; rfl
  | d :: ds, _, h => by
    cases h with
    | cons h1 h2 => rw [List.length_cons, List.length_cons, dqall_len h2]
theorem dqall_get {H : Hp} : ∀ {ds : List PyData} {vs : List V} {i : Nat} {v : V}, DqAll H vs ds → vs[i]? = some v → ∃ d, ds[i]? = some d ∧ Dq H v d
  | [], _, i, v, h, e => by cases h; simp at e
  | d :: ds, _, i, v, h, e => by
    cases h with
    | cons h1 h2 =>
      cases i with
      | zero =>
        simp at e
        subst e
        exact ⟨d, rfl, h1⟩
      | succ i => exact dqall_get (i := i) h2 (by simpa using e)
theorem dqall_get' {H : Hp} : ∀ {ds : List PyData} {vs : List V} {i : Nat} {d : PyData}, DqAll H vs ds → ds[i]? = some d → ∃ v, vs[i]? = some v ∧ Dq H v d
  | [], _, i, v, h, e => by simp at e
  | d :: ds, _, i, v, h, e => by
    cases h with
    | cons h1 h2 =>
      cases i with
      | zero =>
        simp at e
        subst e
        exact ⟨_, rfl, h1⟩
      | succ i => exact dqall_get' (i := i) h2 (by simpa using e)
theorem dqall_app {H : Hp} : ∀ {ds es : List PyData} {vs us : List V}, DqAll H vs ds → DqAll H us es → DqAll H (vs ++ us) (ds ++ es)
  | [], _, _, _, h, g => by cases h; exact g
  | d :: ds, _, _, _, h, g => by
    cases h with
    | cons h1 h2 => exact .cons h1 (dqall_app h2 g)
theorem dqall_take {H : Hp} : ∀ {ds : List PyData} {vs : List V} (n : Nat), DqAll H vs ds → DqAll H (vs.take n) (ds.take n)
  | _, _, 0, _ => .nil
  | [], _, n + 1, h => by cases h; exact .nil
  | d :: ds, _, n + 1, h => by
    cases h with
    | cons h1 h2 => exact .cons h1 (dqall_take n h2)
theorem dqall_drop {H : Hp} : ∀ {ds : List PyData} {vs : List V} (n : Nat), DqAll H vs ds → DqAll H (vs.drop n) (ds.drop n)
  | _, _, 0, h => h
  | [], _, n + 1, h => by cases h; exact .nil
  | d :: ds, _, n + 1, h => by
    cases h with
    | cons h1 h2 => exact dqall_drop n h2
theorem dqall_set {H : Hp} {v : V} {d : PyData} (hd : Dq H v d) : ∀ {ds : List PyData} {vs : List V} (i : Nat), DqAll H vs ds → DqAll H (vs.set i v) (ds.set i d)
  | [], _, _, h => by cases h; exact .nil
  | d :: ds, _, 0, h => by
    cases h with
    | cons h1 h2 => exact .cons hd h2
  | d :: ds, _, i + 1, h => by
    cases h with
    | cons h1 h2 => exact .cons h1 (dqall_set hd i h2)
theorem dqall_ints {H : Hp} : ∀ (ns : List Int), DqAll H (ns.map V.int) (ns.map PyData.int)
  | [] => .nil
  | n :: ns => .cons (.int n) (dqall_ints ns)
theorem dqall_of_ints {H : Hp} : ∀ (ns : List Int) {vs : List V}, DqAll H vs (ns.map PyData.int) → vs = ns.map V.int
  | [], _, h => by cases h; rfl
  | n :: ns, _, h => by
    cases h with
    | cons h1 h2 =>
      cases h1
      rw [dqall_of_ints ns h2, List.map_cons]
theorem dqall_of_bools {H : Hp} : ∀ (ns : List Bool) {vs : List V}, DqAll H vs (ns.map PyData.bool) → vs = ns.map V.bl
  | [], _, h => by cases h; rfl
  | n :: ns, _, h => by
    cases h with
    | cons h1 h2 =>
      cases h1
      rw [dqall_of_bools ns h2, List.map_cons]

/-! ### what is owned, what is frozen -/
abbrev Ent := Hp → HO → Prop
abbrev Os := List (Addr × Ent)
abbrev VP := Hp → V → Prop
abbrev Slot := Hp → Option V → Prop
def Cl (φ : VP) (F : Hp) (v : V) : Prop := ∀ F', Same F F' → φ F' v
theorem Cl.mono {φ : VP} {F F' : Hp} {v : V} (h : Cl φ F v) (e : Same F F') : Cl φ F' v := fun G g => h G (e.trans g)
theorem Cl.now {φ : VP} {F : Hp} {v : V} (h : Cl φ F v) : φ F v := h F (Same.refl F)
def dat (d : PyData) : VP := fun F v => Dq F v d
def own (p : Addr) : VP := fun _ v => v = .ref p
theorem cl_dat {d : PyData} {F : Hp} {v : V} (h : Dq F v d) : Cl (dat d) F v := fun _ e => dq_mono e d v h
theorem cl_own {p : Addr} {F : Hp} : Cl (own p) F (.ref p) := fun _ _ => rfl
/-- a list of one's own, its items data -/
def ol (ds : List PyData) : Ent := fun F o => ∃ vs, o = .lst vs ∧ DqAll F vs ds
def sl (φ : VP) : Slot := fun F o => ∃ v, o = some v ∧ φ F v
def un : Slot := fun _ _ => True

structure Ow (F : Hp) (os : Os) (H : Hp) : Prop where
  ex : Same F H
  nd : (os.map (·.1)).Nodup
  own : ∀ q ∈ os, F q.1 = none ∧ ∃ o, H q.1 = some o ∧ ∀ F', Same F F' → q.2 F' o

section
variable {F F' H H' : Hp} {os os' : Os} {p : Addr} {e e' : Ent} {o : HO}
theorem Ow.perm (h : Ow F os H) (hp : os.Perm os') : Ow F os' H :=
  ⟨h.ex, (hp.map _).nodup_iff.mp h.nd, fun q hq => h.own q (hp.mem_iff.mpr hq)⟩
theorem Ow.frozen (h : Ow F os H) (hp : H p = none) : Ow (upd F p o) os (upd H p o) := by
  have fp : F p = none := h.ex.free hp
  refine ⟨fun b x eb => ?_, h.nd, fun q hq => ?_⟩
  · by_cases hb : b = p
    · subst hb
      rw [upd_same] at eb ⊢
      exact eb
    · rw [upd_ne hb] at eb ⊢
      exact h.ex b x eb
  · obtain ⟨f, u, hu, k⟩ := h.own q hq
    have ne : q.1 ≠ p := ne_of_none hu hp
    exact ⟨by rw [upd_ne ne]; exact f, u, by rw [upd_ne ne]; exact hu, fun G g => k G ((same_upd fp).trans g)⟩
theorem Ow.new (h : Ow F os H) (hp : H p = none) (he : ∀ F', Same F F' → e F' o) : Ow F ((p, e) :: os) (upd H p o) := by
  have fp : F p = none := h.ex.free hp
  have key : ∀ q ∈ os, q.1 ≠ p := fun q hq => by
    obtain ⟨f, u, hu, k⟩ := h.own q hq
    exact ne_of_none hu hp
  refine ⟨h.ex.trans (same_upd hp), ?_, fun q hq => ?_⟩
  · rw [List.map_cons, List.nodup_cons]
    refine ⟨fun hm => ?_, h.nd⟩
    obtain ⟨q, hq, eq⟩ := List.mem_map.mp hm
    exact key q hq eq
  · rcases List.mem_cons.mp hq with rfl | hq
    · exact ⟨fp, o, upd_same, he⟩
    · obtain ⟨f, u, hu, k⟩ := h.own q hq
      exact ⟨f, u, by rw [upd_ne (key q hq)]; exact hu, k⟩
theorem Ow.at (h : Ow F ((p, e) :: os) H) : F p = none ∧ ∃ o, H p = some o ∧ ∀ F', Same F F' → e F' o := h.own (p, e) List.mem_cons_self
theorem Ow.put (h : Ow F ((p, e) :: os) H) (he : ∀ F', Same F F' → e' F' o) : Ow F ((p, e') :: os) (upd H p o) := by
  obtain ⟨fp, _, _, _⟩ := h.at
  have nd := h.nd
  rw [List.map_cons, List.nodup_cons] at nd
  refine ⟨fun b x eb => ?_, by rw [List.map_cons, List.nodup_cons]; exact nd, fun q hq => ?_⟩
  · have ne : b ≠ p := ne_of_none eb fp
    rw [upd_ne ne]
    exact h.ex b x eb
  · rcases List.mem_cons.mp hq with rfl | hq
    · exact ⟨fp, o, upd_same, he⟩
    · obtain ⟨f, u, hu, k⟩ := h.own q (List.mem_cons_of_mem _ hq)
      have ne : q.1 ≠ p := fun z => nd.1 (z ▸ List.mem_map_of_mem (f := (·.1)) hq)
      exact ⟨f, u, by rw [upd_ne ne]; exact hu, k⟩
theorem Ow.drop (h : Ow F ((p, e) :: os) H) : Ow F os H := by
  have nd := h.nd
  rw [List.map_cons, List.nodup_cons] at nd
  exact ⟨h.ex, nd.2, fun q hq => h.own q (List.mem_cons_of_mem _ hq)⟩
theorem Ow.freeze (h : Ow F ((p, e) :: os) H) : ∃ o, H p = some o ∧ (∀ F', Same F F' → e F' o) ∧ Same F (upd F p o) ∧ Ow (upd F p o) os H := by
  obtain ⟨fp, o, ho, k⟩ := h.at
  have nd := h.nd
  rw [List.map_cons, List.nodup_cons] at nd
  refine ⟨o, ho, k, same_upd fp, fun b x eb => ?_, nd.2, fun q hq => ?_⟩
  · by_cases hb : b = p
    · subst hb
      rw [upd_same] at eb
      rw [ho]
      exact eb
    · rw [upd_ne hb] at eb
      exact h.ex b x eb
  · obtain ⟨f, u, hu, k⟩ := h.own q (List.mem_cons_of_mem _ hq)
    have ne : q.1 ≠ p := fun z => nd.1 (z ▸ List.mem_map_of_mem (f := (·.1)) hq)
    exact ⟨by rw [upd_ne ne]; exact f, u, hu, fun G g => k G ((same_upd fp).trans g)⟩
theorem Ow.grow (h : Ow F os H) (k : Same H H') : Ow F os H' :=
  ⟨h.ex.trans k, h.nd, fun q hq => let ⟨f, u, hu, z⟩ := h.own q hq; ⟨f, u, k _ _ hu, z⟩⟩
end
theorem perm_at {α : Type} : ∀ {l : List α} {k : Nat} {q : α}, l[k]? = some q → l.Perm (q :: l.eraseIdx k)
  | [], k, q, h => by simp at h
  | x :: l, 0, q, h => by
    simp at h
    subst h
    exact List.Perm.refl _
  | x :: l, k + 1, q, h => by
    have h1 : l[k]? = some q := by simpa using h
    exact ((perm_at h1).cons x).trans (List.Perm.swap q x _)
theorem perm_set {α : Type} : ∀ {l : List α} {k : Nat} {q q' : α}, l[k]? = some q → (q' :: l.eraseIdx k).Perm (l.set k q')
  | [], k, q, q', h => by simp at h
  | x :: l, 0, q, q', h => List.Perm.refl _
  | x :: l, k + 1, q, q', h => by
    have h1 : l[k]? = some q := by simpa using h
    exact (List.Perm.swap x q' _).trans ((perm_set (q' := q') h1).cons x)

/-! ### slots -/
structure Sl (F : Hp) (es : List Slot) (σ : L2.St) : Prop where
  len : σ.length = es.length
  get : ∀ (i : Nat) (s : Slot), es[i]? = some s → ∃ v : Option V, σ[i]? = some v ∧ ∀ F', Same F F' → s F' v
section
variable {F F' H : Hp} {es : List Slot} {σ : L2.St} {i : Nat} {φ : VP} {v : V}
theorem Sl.mono (h : Sl F es σ) (e : Same F F') : Sl F' es σ := ⟨h.len, fun i s q => let ⟨v, a, b⟩ := h.get i s q; ⟨v, a, fun G g => b G (e.trans g)⟩⟩
theorem Sl.val (h : Sl F es σ) (q : es[i]? = some (sl φ)) : ∃ v, σ[i]? = some (some v) ∧ Cl φ F v := by
  obtain ⟨o, a, b⟩ := h.get i _ q
  obtain ⟨v, rfl, _⟩ := b F (Same.refl F)
  refine ⟨v, a, fun G g => ?_⟩
  obtain ⟨u, e, z⟩ := b G g
  cases e
  exact z
theorem Sl.set (h : Sl F es σ) {s : Slot} {o : Option V} (k : ∀ F', Same F F' → s F' o) : Sl F (es.set i s) (σ.set i o) := by
  refine ⟨by rw [List.length_set, List.length_set, h.len], fun j t q => ?_⟩
  by_cases hj : i = j
  · subst hj
    have hi : i < es.length := by
      have := (List.getElem?_eq_some_iff.mp q).1
      rw [List.length_set] at this
      exact this
    rw [List.getElem?_set_self hi] at q
    cases q
    exact ⟨o, List.getElem?_set_self (by rw [h.len]; exact hi), k⟩
  · rw [List.getElem?_set_ne hj] at q ⊢
    exact h.get j t q
theorem Sl.put (h : Sl F es σ) (k : Cl φ F v) : Sl F (es.set i (sl φ)) (σ.set i (some v)) := h.set fun G g => ⟨v, rfl, k G g⟩
theorem Sl.forget (h : Sl F es σ) : Sl F (es.set i un) σ := by
  refine ⟨by rw [List.length_set, h.len], fun j t q => ?_⟩
  by_cases hj : i = j
  · subst hj
    have hi : i < es.length := by
      have := (List.getElem?_eq_some_iff.mp q).1
      rw [List.length_set] at this
      exact this
    rw [List.getElem?_set_self hi] at q
    cases q
    have h2 : i < σ.length := by rw [h.len]; exact hi
    exact ⟨σ[i], List.getElem?_eq_getElem h2, fun _ _ => trivial⟩
  · rw [List.getElem?_set_ne hj] at q
    exact h.get j t q
/-- slots may be forgotten: each new one is the old one or un -/
def Wk : List Slot → List Slot → Prop
  | [], [] => True
  | s :: ss, t :: ts => (t = s ∨ t = un) ∧ Wk ss ts
  | _, _ => False
theorem wk_refl : ∀ es : List Slot, Wk es es
  | [] => trivial
  | _ :: ss => ⟨.inl rfl, wk_refl ss⟩
theorem wk_get : ∀ {es es' : List Slot} {i : Nat} {t : Slot}, Wk es es' → es'[i]? = some t → ∃ s, es[i]? = some s ∧ (t = s ∨ t = un)
  | [], [], i, t, _, h => by simp at h
  | [], _ :: _, _, _, h, _ => h.elim
  | _ :: _, [], _, _, h, _ => h.elim
  | s :: ss, t :: ts, 0, u, h, e => by
    simp at e
    subst e
    exact ⟨s, rfl, h.1⟩
  | s :: ss, t :: ts, i + 1, u, h, e => wk_get (i := i) h.2 (by simpa using e)
theorem wk_len : ∀ {es es' : List Slot}, Wk es es' → es.length = es'.length
  | [], [], _ => rfl
  | [], _ :: _, h => h.elim
  | _ :: _, [], h => h.elim
  | s :: ss, t :: ts, h => by rw [List.length_cons, List.length_cons, wk_len h.2]
theorem Sl.weak {es' : List Slot} (h : Sl F es σ) (w : Wk es es') : Sl F es' σ := by
  refine ⟨h.len.trans (wk_len w), fun i t q => ?_⟩
  obtain ⟨s, a, b⟩ := wk_get w q
  obtain ⟨v, c, d⟩ := h.get i s a
  refine ⟨v, c, fun G g => ?_⟩
  rcases b with rfl | rfl
  · exact d G g
  · trivial
end

/-! ### the judgements -/
section
variable (X : Cx)
def WE (e : Expr) (σ : L2.St) (H : Hp) (Q : VK) : Prop := ∀ pins s, Inv X pins σ H s → wpAny (model X.prog X.w) X.A (eval e X.env) (EP X pins σ Q) X.xe s
def WT (e : Expr) (σ : L2.St) (H : Hp) (Q : Bool → Hp → Prop) : Prop := ∀ pins s, Inv X pins σ H s → wpAny (model X.prog X.w) X.A (isTrue e X.env (eval e X.env)) (TP X pins σ Q) X.xe s
def WW (e : Expr) (σ : L2.St) (H : Hp) (Q : Bool → Hp → Prop) : Prop := ∀ (whole : Sem Value) pins s, Inv X pins σ H s → wpAny (model X.prog X.w) X.A (isTrue e X.env whole) (TP X pins σ Q) X.xe s
def WA (es : List Expr) (σ : L2.St) (H : Hp) (Q : List V → Hp → Prop) : Prop := ∀ pos pins s, Inv X pins σ H s → wpAny (model X.prog X.w) X.A (spliced (backTo pos (starEach es X.env))) (AP X pins σ Q) X.xe s
def WS (st : Stmt) (D : Ends) (σ : L2.St) (H : Hp) : Prop := ∀ pins s, Inv X pins σ H s → wpAny (model X.prog X.w) X.A (exec st X.env) (SP X pins D) X.xe s
def WPs (sts : List Stmt) (D : Ends) (σ : L2.St) (H : Hp) : Prop := ∀ pins s, Inv X pins σ H s → wpAny (model X.prog X.w) X.A (execs sts X.env) (SP X pins D) X.xe s
end
section
variable {X : Cx} {e : Expr} {es : List Expr} {st : Stmt} {sts : List Stmt} {σ : L2.St} {H : Hp} {Q : VK} {te : TE} {tt : TT} {ta : TA} {ts : TS}
theorem pe_u : PE X e (WE X e) := ⟨fun pins s _ _ _ I h => h pins s I⟩
theorem pt_u : PT X e (WT X e) := ⟨fun pins s _ _ _ I h => h pins s I⟩
theorem pw_u : PW X e (WW X e) := ⟨fun w pins s _ _ _ I h => h w pins s I⟩
theorem pa_u : PA X es (WA X es) := ⟨fun pos pins s _ _ _ I h => h pos pins s I⟩
theorem ps_u : PS X st (WS X st) := ⟨fun pins s _ _ _ I h => h pins s I⟩
theorem pss_u : PSs X sts (WPs X sts) := ⟨fun pins s _ _ _ I h => h pins s I⟩
theorem we_of (h : PE X e te) (q : te σ H Q) : WE X e σ H Q := fun pins s I => h.run pins s σ H Q I q
theorem wt_of {Q : Bool → Hp → Prop} (h : PT X e tt) (q : tt σ H Q) : WT X e σ H Q := fun pins s I => h.run pins s σ H Q I q
theorem ww_of {Q : Bool → Hp → Prop} (h : PW X e tt) (q : tt σ H Q) : WW X e σ H Q := fun w pins s I => h.run w pins s σ H Q I q
theorem wa_of {Q : List V → Hp → Prop} (h : PA X es ta) (q : ta σ H Q) : WA X es σ H Q := fun pos pins s I => h.run pos pins s σ H Q I q
theorem ws_of {D : Ends} (h : PS X st ts) (q : ts D σ H) : WS X st D σ H := fun pins s I => h.run pins s σ H D I q
theorem wps_of {D : Ends} (h : PSs X sts ts) (q : ts D σ H) : WPs X sts D σ H := fun pins s I => h.run pins s σ H D I q
theorem wps_cons {D : Ends} (h : WS X st { D with nx := WPs X sts D } σ H) : WPs X (st :: sts) D σ H := wps_of (pss_cons ps_u pss_u) h
theorem wps_nil {D : Ends} (h : D.nx σ H) : WPs X [] D σ H := wps_of pss_nil h
end

def ClA : List VP → Hp → List V → Prop
  | [], _, vs => vs = []
  | φ :: φs, F, vs => ∃ v r, vs = v :: r ∧ Cl φ F v ∧ ClA φs F r
theorem cla_mono {F F' : Hp} (e : Same F F') : ∀ {φs : List VP} {vs : List V}, ClA φs F vs → ClA φs F' vs
  | [], _, h => h
  | φ :: φs, _, ⟨v, r, e1, h1, h2⟩ => ⟨v, r, e1, h1.mono e, cla_mono e h2⟩
theorem cla_len {F : Hp} : ∀ {φs : List VP} {vs : List V}, ClA φs F vs → vs.length = φs.length
  | [], _, h => by rw [h]; rfl
  | φ :: φs, _, ⟨v, r, e1, h1, h2⟩ => by rw [e1, List.length_cons, List.length_cons, cla_len h2]
section
variable (X : Cx) (es : List Slot) (os : Os)
/-- e gives a value of which φ holds; what is owned goes from os to os' -/
def EX (e : Expr) (φ : VP) (os' : Os) : Prop := ∀ F σ H Q, Ow F os H → Sl F es σ → (∀ F' H' v, Same F F' → Ow F' os' H' → Cl φ F' v → Q v H') → WE X e σ H Q
/-- e gives a new list, owned from now on -/
def EN (e : Expr) (n : Ent) (os' : Os) : Prop := ∀ F σ H Q, Ow F os H → Sl F es σ → (∀ F' H' p, Same F F' → Ow F' ((p, n) :: os') H' → Q (.ref p) H') → WE X e σ H Q
def TX (e : Expr) (b : Bool) (os' : Os) : Prop := ∀ F σ H Q, Ow F os H → Sl F es σ → (∀ F' H', Same F F' → Ow F' os' H' → Q b H') → WT X e σ H Q
def WX (e : Expr) (b : Bool) (os' : Os) : Prop := ∀ F σ H Q, Ow F os H → Sl F es σ → (∀ F' H', Same F F' → Ow F' os' H' → Q b H') → WW X e σ H Q
def AX (as : List Expr) (φs : List VP) (os' : Os) : Prop := ∀ F σ H Q, Ow F os H → Sl F es σ → (∀ F' H' vs, Same F F' → Ow F' os' H' → ClA φs F' vs → Q vs H') → WA X as σ H Q
def SX (F0 : Hp) (sts : List Stmt) (D : Ends) : Prop := ∀ F σ H, Same F0 F → Ow F os H → Sl F es σ → WPs X sts D σ H
end
end Z
/-! Z, part B: rules for expressions. -/
namespace Z
open PySem PySem.Spec PyProof.Rows L2

section
variable {X : Cx} {es : List Slot} {os os1 os2 os3 : Os} {a b c : Expr} {pos : Pos}

theorem EX.is {φ ψ : VP} {e : Expr} (h : EX X es os e φ os1) (k : φ = ψ) : EX X es os e ψ os1 := k ▸ h
theorem EX.perm {φ : VP} {e : Expr} (h : EX X es os e φ os1) (k : os1.Perm os2) : EX X es os e φ os2 := fun F σ H Q ow sl q =>
  h F σ H Q ow sl fun F' H' v e o c => q F' H' v e (o.perm k) c
theorem EX.pre {φ : VP} {e : Expr} (h : EX X es os e φ os1) (k : os2.Perm os) : EX X es os2 e φ os1 := fun F σ H Q ow sl q => h F σ H Q (ow.perm k) sl q
/-- a new list, given away: it is data from now on -/
theorem EN.ex {e : Expr} {ds : List PyData} (h : EN X es os e (ol ds) os1) : EX X es os e (dat (.list ds)) os1 := fun F σ H Q ow sl q =>
  h F σ H Q ow sl fun F' H' p e o => by
    obtain ⟨u, hu, k, s, o2⟩ := o.freeze
    obtain ⟨vs, rfl, hv⟩ := k _ s
    exact q _ H' (.ref p) (e.trans s) o2 (cl_dat (.lst upd_same hv))

/-! ### names, constants -/
theorem ex_name {i : Nat} {x : Str} {φ : VP} (hN : X.N[i]? = some x) (hv : Vis X.env.scope x) (hd : (x == ("__debug__" : Str)) = false) (hcd : (x == ("__classdict__" : Str)) = false) (h : es[i]? = some (sl φ)) : EX X es os (.Name x pos) φ os := fun F σ H Q ow sl q => by
  obtain ⟨v, e, k⟩ := sl.val h
  exact we_of (pe_var hN hv hd hcd) ⟨v, e, q F H v (Same.refl F) ow k⟩
theorem ex_int {i : Int} {j} : EX X es os (.Constant (.int i) j pos) (dat (.int i)) os := fun F σ H Q ow sl q => we_of pe_int (q F H _ (Same.refl F) ow (cl_dat (.int i)))
theorem ex_bool {i : Bool} {j} : EX X es os (.Constant (.bool i) j pos) (dat (.bool i)) os := fun F σ H Q ow sl q => we_of pe_bl (q F H _ (Same.refl F) ow (cl_dat (.bl i)))
theorem ex_none {j} : EX X es os (.Constant .none j pos) (dat .none) os := fun F σ H Q ow sl q => we_of pe_non (q F H _ (Same.refl F) ow (cl_dat .non))
theorem ex_str {x : Str} {j} : EX X es os (.Constant (.str x) j pos) (dat (.str x)) os := fun F σ H Q ow sl q => we_of pe_str (q F H _ (Same.refl F) ow (cl_dat (.str x)))
/-- a module's constant that holds an int -/
theorem ex_gint {x : Str} {i : Int} {t : Tok} (hg : Gl X x) (hm : X.mg x = some (.int i t)) (hd : (x == ("__debug__" : Str)) = false) : EX X es os (.Name x pos) (dat (.int i)) os := fun F σ H Q ow sl q =>
  we_of (pe_glob (v := .int i) hg hm ⟨t, rfl⟩ hd) (q F H _ (Same.refl F) ow (cl_dat (.int i)))

/-! ### what a datum's value is -/
theorem clv_int {F : Hp} {v : V} {i : Int} (h : Cl (dat (.int i)) F v) : v = .int i := by
  have := h.now
  cases this
  rfl
theorem clv_bool {F : Hp} {v : V} {i : Bool} (h : Cl (dat (.bool i)) F v) : v = .bl i := by
  have := h.now
  cases this
  rfl
theorem clv_str {F : Hp} {v : V} {i : Str} (h : Cl (dat (.str i)) F v) : v = .str i := by
  have := h.now
  cases this
  rfl
theorem clv_none {F : Hp} {v : V} (h : Cl (dat .none) F v) : v = .non := by
  have := h.now
  cases this
  rfl

/-! ### two operands -/
/-- by values: r gives a datum where the operands are φ and ψ -/
def R2X (X : Cx) (r : R2) (φ ψ : VP) (os : Os) (d : VP) : Prop := ∀ F H x y Q, Ow F os H → Cl φ F x → Cl ψ F y → (∀ F' H' v, Same F F' → Ow F' os H' → Cl d F' v → Q v H') → r x y H Q
theorem ex_bin {op : Operator} {r : R2} {φ ψ d : VP} (ho : OpR X (binaryOp op) r) (hr : R2X X r φ ψ os2 d) (ha : EX X es os a φ os1) (hb : EX X es os1 b ψ os2) : EX X es os (.BinOp a op b pos) d os2 := fun F σ H Q ow sl q =>
  we_of (pe_op ho pe_u pe_u) (ha F σ H _ ow sl fun F1 H1 x e1 o1 c1 => hb F1 σ H1 _ o1 (sl.mono e1) fun F2 H2 y e2 o2 c2 =>
    hr F2 H2 x y Q o2 (c1.mono e2) c2 fun F3 H3 v e3 o3 c3 => q F3 H3 v ((e1.trans e2).trans e3) o3 c3)
theorem r2_I {C : Int → Int → Prop} {g : Int → Int → Int} {i j : Int} (h : C i j) : R2X X (rI C fun i j => .int (g i j)) (dat (.int i)) (dat (.int j)) os (dat (.int (g i j))) := fun F H x y Q ow cx cy q =>
  ⟨i, j, clv_int cx, clv_int cy, h, q F H _ (Same.refl F) ow (cl_dat (.int _))⟩
theorem r2_I0 {g : Int → Int → Int} {i j : Int} : R2X X (rI0 fun i j => .int (g i j)) (dat (.int i)) (dat (.int j)) os (dat (.int (g i j))) := fun F H x y Q ow cx cy q =>
  ⟨i, j, clv_int cx, clv_int cy, q F H _ (Same.refl F) ow (cl_dat (.int _))⟩
theorem r2_B0 {g : Int → Int → Bool} {i j : Int} : R2X X (rI0 fun i j => .bl (g i j)) (dat (.int i)) (dat (.int j)) os (dat (.bool (g i j))) := fun F H x y Q ow cx cy q =>
  ⟨i, j, clv_int cx, clv_int cy, q F H _ (Same.refl F) ow (cl_dat (.bl _))⟩
theorem ex_add {i j : Int} (ha : EX X es os a (dat (.int i)) os1) (hb : EX X es os1 b (dat (.int j)) os2) : EX X es os (.BinOp a .Add b pos) (dat (.int (i + j))) os2 := ex_bin op_add r2_I0 ha hb
theorem ex_sub {i j : Int} (ha : EX X es os a (dat (.int i)) os1) (hb : EX X es os1 b (dat (.int j)) os2) : EX X es os (.BinOp a .Sub b pos) (dat (.int (i - j))) os2 := ex_bin op_sub r2_I0 ha hb
/-- a product: told by mulO, which is none where both factors are very great -/
def mulO (i j : Int) : Option Int := if i.natAbs.log2 + j.natAbs.log2 < 1000000 then some (i * j) else none
theorem ex_mul {i j m : Int} (hm : mulO i j = some m) (ha : EX X es os a (dat (.int i)) os1) (hb : EX X es os1 b (dat (.int j)) os2) : EX X es os (.BinOp a .Mult b pos) (dat (.int m)) os2 := by
  unfold mulO at hm
  split at hm
  · rename_i h
    cases hm
    exact ex_bin op_mulW (r2_I h) ha hb
  · cases hm
/-- a product with a written factor -/
theorem ex_mulL {i j : Int} (h : -(2 ^ 64) < i ∧ i < 2 ^ 64) (ha : EX X es os a (dat (.int i)) os1) (hb : EX X es os1 b (dat (.int j)) os2) : EX X es os (.BinOp a .Mult b pos) (dat (.int (i * j))) os2 := ex_bin op_mul (r2_I (.inl h)) ha hb
theorem ex_mulR {i j : Int} (h : -(2 ^ 64) < j ∧ j < 2 ^ 64) (ha : EX X es os a (dat (.int i)) os1) (hb : EX X es os1 b (dat (.int j)) os2) : EX X es os (.BinOp a .Mult b pos) (dat (.int (i * j))) os2 := ex_bin op_mul (r2_I (.inr h)) ha hb
/-- i // j, i % j: for a positive j below 2 ^ 9000 -/
def fdivO (i j : Int) : Option Int := if 0 < j ∧ j.natAbs.log2 < 9000 then some (i / j) else none
def modO (i j : Int) : Option Int := if 0 < j then some (i % j) else none
theorem ex_fdiv {i j m : Int} (hm : fdivO i j = some m) (ha : EX X es os a (dat (.int i)) os1) (hb : EX X es os1 b (dat (.int j)) os2) : EX X es os (.BinOp a .FloorDiv b pos) (dat (.int m)) os2 := by
  unfold fdivO at hm
  split at hm
  · rename_i h
    cases hm
    exact ex_bin op_fdivW (r2_I h) ha hb
  · cases hm
theorem ex_mod {i j m : Int} (hm : modO i j = some m) (ha : EX X es os a (dat (.int i)) os1) (hb : EX X es os1 b (dat (.int j)) os2) : EX X es os (.BinOp a .Mod b pos) (dat (.int m)) os2 := by
  unfold modO at hm
  split at hm
  · rename_i h
    cases hm
    exact ex_bin op_mod (r2_I (C := fun _ j => 0 < j) h) ha hb
  · cases hm
/-- i ** j -/
def powO (i j : Int) : Option Int := if 0 ≤ j ∧ (Builtin.Int.intBits i : Int) * j ≤ 2 ^ 27 then some (i ^ j.toNat) else none
theorem op_powW : OpR X (binaryOp .Pow) (rI (fun i j => 0 ≤ j ∧ (Builtin.Int.intBits i : Int) * j ≤ 2 ^ 27) fun i j => .int (i ^ j.toNat)) := opI fun _ _ _ _ _ _ _ hc q => pow_int hc.1 hc.2 q
theorem ex_pow {i j m : Int} (hm : powO i j = some m) (ha : EX X es os a (dat (.int i)) os1) (hb : EX X es os1 b (dat (.int j)) os2) : EX X es os (.BinOp a .Pow b pos) (dat (.int m)) os2 := by
  unfold powO at hm
  split at hm
  · rename_i h
    cases hm
    exact ex_bin op_powW (r2_I h) ha hb
  · cases hm
theorem ex_neg {i : Int} (ha : EX X es os a (dat (.int i)) os1) : EX X es os (.UnaryOp .USub a pos) (dat (.int (-i))) os1 := fun F σ H Q ow sl q =>
  we_of (pe_un un_neg pe_u) (ha F σ H _ ow sl fun F1 H1 x e1 o1 c1 => ⟨i, clv_int c1, q F1 H1 _ e1 o1 (cl_dat (.int _))⟩)

/-! ### comparisons -/
theorem ex_cmp {op : CmpOp} {r : R2} {φ ψ d : VP} (ho : OpR X (compareOp op) r) (hr : R2X X r φ ψ os2 d) (hm : behindInMarks op b = false) (ha : EX X es os a φ os1) (hb : EX X es os1 b ψ os2) : EX X es os (.Compare a [op] [b] pos) d os2 := fun F σ H Q ow sl q =>
  we_of (pe_cmpR ho pe_u pe_u hm) (ha F σ H _ ow sl fun F1 H1 x e1 o1 c1 => hb F1 σ H1 _ o1 (sl.mono e1) fun F2 H2 y e2 o2 c2 =>
    hr F2 H2 x y Q o2 (c1.mono e2) c2 fun F3 H3 v e3 o3 c3 => q F3 H3 v ((e1.trans e2).trans e3) o3 c3)
theorem tx_cmp {op : CmpOp} {r : R2} {φ ψ : VP} {k : Bool} (ho : OpR X (compareOp op) r) (hr : R2X X r φ ψ os2 (dat (.bool k))) (hm : behindInMarks op b = false) (ha : EX X es os a φ os1) (hb : EX X es os1 b ψ os2) : TX X es os (.Compare a [op] [b] pos) k os2 := fun F σ H Q ow sl q =>
  wt_of (pt_cmpR ho pe_u pe_u hm) (ha F σ H _ ow sl fun F1 H1 x e1 o1 c1 => hb F1 σ H1 _ o1 (sl.mono e1) fun F2 H2 y e2 o2 c2 =>
    hr F2 H2 x y _ o2 (c1.mono e2) c2 fun F3 H3 v e3 o3 c3 => ⟨k, clv_bool c3, q F3 H3 ((e1.trans e2).trans e3) o3⟩)
theorem r2_lt {i j : Int} : R2X X (rI0 fun i j => .bl (decide (i < j))) (dat (.int i)) (dat (.int j)) os (dat (.bool (decide (i < j)))) := r2_B0
theorem r2_le {i j : Int} : R2X X (rI0 fun i j => .bl (decide (i ≤ j))) (dat (.int i)) (dat (.int j)) os (dat (.bool (decide (i ≤ j)))) := r2_B0
theorem r2_gt {i j : Int} : R2X X (rI0 fun i j => .bl (decide (j < i))) (dat (.int i)) (dat (.int j)) os (dat (.bool (decide (j < i)))) := r2_B0
theorem r2_ge {i j : Int} : R2X X (rI0 fun i j => .bl (decide (j ≤ i))) (dat (.int i)) (dat (.int j)) os (dat (.bool (decide (j ≤ i)))) := r2_B0
/-- == of data -/
theorem r2_eq {d e : PyData} {k : Bool} (h1 : SeqAt.shaped d = true) (h2 : SeqAt.shaped e = true) (hk : PyData.eqv d e = k) : R2X X (rEqD X.K) (dat d) (dat e) os (dat (.bool k)) := fun F H x y Q ow cx cy q =>
  ⟨d, e, dq_dp _ _ _ (dq_mono ow.ex _ _ cx.now), dq_dp _ _ _ (dq_mono ow.ex _ _ cy.now), h1, h2, by rw [hk]; exact q F H _ (Same.refl F) ow (cl_dat (.bl _))⟩
theorem r2_ne {d e : PyData} {k : Bool} (h1 : SeqAt.shaped d = true) (h2 : SeqAt.shaped e = true) (hk : (!PyData.eqv d e) = k) : R2X X (rNeD X.K) (dat d) (dat e) os (dat (.bool k)) := fun F H x y Q ow cx cy q =>
  ⟨d, e, dq_dp _ _ _ (dq_mono ow.ex _ _ cx.now), dq_dp _ _ _ (dq_mono ow.ex _ _ cy.now), h1, h2, by rw [hk]; exact q F H _ (Same.refl F) ow (cl_dat (.bl _))⟩
theorem r2_eqI {i j : Int} : R2X X rEq (dat (.int i)) (dat (.int j)) os (dat (.bool (decide (i = j)))) := fun F H x y Q ow cx cy q => by
  rw [clv_int cx, clv_int cy]
  refine ⟨rfl, ?_⟩
  rw [dec_int, Bool.beq_eq_decide_eq]
  exact q F H _ (Same.refl F) ow (cl_dat (.bl _))
theorem r2_neI {i j : Int} : R2X X rNe (dat (.int i)) (dat (.int j)) os (dat (.bool (!decide (i = j)))) := fun F H x y Q ow cx cy q => by
  rw [clv_int cx, clv_int cy]
  refine ⟨rfl, ?_⟩
  rw [dec_int, Bool.beq_eq_decide_eq]
  exact q F H _ (Same.refl F) ow (cl_dat (.bl _))
theorem r2_eqS {i j : Str} : R2X X rEq (dat (.str i)) (dat (.str j)) os (dat (.bool (decide (i = j)))) := fun F H x y Q ow cx cy q => by
  rw [clv_str cx, clv_str cy]
  refine ⟨rfl, ?_⟩
  have e : decide (V.str i = V.str j) = decide (i = j) := by simp only [V.str.injEq]
  rw [e]
  exact q F H _ (Same.refl F) ow (cl_dat (.bl _))
theorem r2_neS {i j : Str} : R2X X rNe (dat (.str i)) (dat (.str j)) os (dat (.bool (!decide (i = j)))) := fun F H x y Q ow cx cy q => by
  rw [clv_str cx, clv_str cy]
  refine ⟨rfl, ?_⟩
  have e : decide (V.str i = V.str j) = decide (i = j) := by simp only [V.str.injEq]
  rw [e]
  exact q F H _ (Same.refl F) ow (cl_dat (.bl _))
/-- a < b < c -/
theorem ex_chain {op op' : CmpOp} {r r' : R2} {φ ψ χ : VP} {k k' : Bool} (ho : OpR X (compareOp op) r) (ho' : OpR X (compareOp op') r') (hr : R2X X r φ ψ os2 (dat (.bool k))) (hr' : R2X X r' ψ χ os3 (dat (.bool k'))) (h23 : k = false → os2 = os3)
    (ha : EX X es os a φ os1) (hb : EX X es os1 b ψ os2) (hc : k = true → EX X es os2 c χ os3) (hlm : lastMarks [op, op'] [b, c] = false := by rfl) : EX X es os (.Compare a [op, op'] [b, c] pos) (dat (.bool (k && k'))) os3 := fun F σ H Q ow sl q =>
  we_of (pe_chain ho ho' pe_u pe_u pe_u hlm) (ha F σ H _ ow sl fun F1 H1 x e1 o1 c1 => hb F1 σ H1 _ o1 (sl.mono e1) fun F2 H2 y e2 o2 c2 =>
    hr F2 H2 x y _ o2 (c1.mono e2) c2 fun F3 H3 v e3 o3 c3 => ⟨k, clv_bool c3, by
      have e := (e1.trans e2).trans e3
      cases k with
      | true =>
        rw [if_pos rfl]
        refine hc rfl F3 σ H3 _ o3 (sl.mono e) fun F4 H4 z e4 o4 c4 => ?_
        exact hr' F4 H4 y z Q o4 ((c2.mono e3).mono e4) c4 fun F5 H5 v e5 o5 c5 => q F5 H5 v ((e.trans e4).trans e5) o5 (by simpa using c5)
      | false =>
        rw [if_neg Bool.false_ne_true]
        exact q F3 H3 _ e (h23 rfl ▸ o3) (cl_dat (.bl _))⟩)

/-! ### tests -/
theorem tx_val {e : Expr} {k : Bool} (h : EX X es os e (dat (.bool k)) os1) (he : ∀ whole, isTrue e X.env whole = (do let v ← whole; standAt e.pos; holding [v] (truthy v)) := by intro _; rfl) : TX X es os e k os1 := fun F σ H Q ow sl q =>
  wt_of (pt_val pe_u he) (h F σ H _ ow sl fun F1 H1 x e1 o1 c1 => ⟨k, clv_bool c1, q F1 H1 e1 o1⟩)
theorem tx_not {k : Bool} (h : TX X es os a k os1) : TX X es os (.UnaryOp .Not a pos) (!k) os1 := fun F σ H Q ow sl q =>
  wt_of (pt_not pt_u) (h F σ H _ ow sl fun F1 H1 e1 o1 => q F1 H1 e1 o1)
theorem WX.tx {e : Expr} {k : Bool} (h : WX X es os e k os1) : TX X es os e k os1 := fun F σ H Q ow sl q => wt_of (PW.pt pw_u) (h F σ H Q ow sl q)
theorem wx_and1 {k : Bool} (h : TX X es os a k os1) : WX X es os (.BoolOp .And [a] pos) k os1 := fun F σ H Q ow sl q => ww_of (pw_and1 pt_u) (h F σ H Q ow sl q)
theorem wx_or1 {k : Bool} (h : TX X es os a k os1) : WX X es os (.BoolOp .Or [a] pos) k os1 := fun F σ H Q ow sl q => ww_of (pw_or1 pt_u) (h F σ H Q ow sl q)
theorem wx_and {rest : List Expr} {k l m : Bool} (h1 : TX X es os a k os1) (h2 : k = true → WX X es os1 (.BoolOp .And (b :: rest) pos) l os2) (hf : k = false → os1 = os2) (hm : (k && l) = m) : WX X es os (.BoolOp .And (a :: b :: rest) pos) m os2 := fun F σ H Q ow sl q =>
  ww_of (pw_and pt_u pw_u) (h1 F σ H _ ow sl fun F1 H1 e1 o1 => by
    cases k with
    | true =>
      rw [if_pos rfl]
      exact h2 rfl F1 σ H1 Q o1 (sl.mono e1) fun F2 H2 e2 o2 => by rw [← hm] at q; exact q F2 H2 (e1.trans e2) o2
    | false =>
      rw [if_neg Bool.false_ne_true]
      rw [← hm] at q
      exact q F1 H1 e1 (hf rfl ▸ o1))
theorem wx_or {rest : List Expr} {k l m : Bool} (h1 : TX X es os a k os1) (h2 : k = false → WX X es os1 (.BoolOp .Or (b :: rest) pos) l os2) (hf : k = true → os1 = os2) (hm : (k || l) = m) : WX X es os (.BoolOp .Or (a :: b :: rest) pos) m os2 := fun F σ H Q ow sl q =>
  ww_of (pw_or pt_u pw_u) (h1 F σ H _ ow sl fun F1 H1 e1 o1 => by
    cases k with
    | false =>
      rw [if_neg Bool.false_ne_true]
      exact h2 rfl F1 σ H1 Q o1 (sl.mono e1) fun F2 H2 e2 o2 => by rw [← hm] at q; exact q F2 H2 (e1.trans e2) o2
    | true =>
      rw [if_pos rfl]
      rw [← hm] at q
      exact q F1 H1 e1 (hf rfl ▸ o1))
/-- as values -/
theorem ex_one {op} {φ : VP} (h : EX X es os a φ os1) : EX X es os (.BoolOp op [a] pos) φ os1 := fun F σ H Q ow sl q => we_of (pe_one pe_u) (h F σ H Q ow sl q)
theorem ex_and {rest : List Expr} {k l m : Bool} (h1 : EX X es os a (dat (.bool k)) os1) (h2 : k = true → EX X es os1 (.BoolOp .And (b :: rest) pos) (dat (.bool l)) os2) (hf : k = false → os1 = os2) (hm : (k && l) = m) :
    EX X es os (.BoolOp .And (a :: b :: rest) pos) (dat (.bool m)) os2 := fun F σ H Q ow sl q =>
  we_of (pe_and pe_u pe_u) (h1 F σ H _ ow sl fun F1 H1 x e1 o1 c1 => ⟨k, clv_bool c1, by
    subst hm
    cases k with
    | true =>
      rw [if_pos rfl]
      exact h2 rfl F1 σ H1 Q o1 (sl.mono e1) fun F2 H2 v e2 o2 c2 => q F2 H2 v (e1.trans e2) o2 (by simpa using c2)
    | false =>
      rw [if_neg Bool.false_ne_true]
      exact q F1 H1 _ e1 (hf rfl ▸ o1) (cl_dat (.bl _))⟩)
theorem ex_or {rest : List Expr} {k l m : Bool} (h1 : EX X es os a (dat (.bool k)) os1) (h2 : k = false → EX X es os1 (.BoolOp .Or (b :: rest) pos) (dat (.bool l)) os2) (hf : k = true → os1 = os2) (hm : (k || l) = m) :
    EX X es os (.BoolOp .Or (a :: b :: rest) pos) (dat (.bool m)) os2 := fun F σ H Q ow sl q =>
  we_of (pe_or pe_u pe_u) (h1 F σ H _ ow sl fun F1 H1 x e1 o1 c1 => ⟨k, clv_bool c1, by
    subst hm
    cases k with
    | false =>
      rw [if_neg Bool.false_ne_true]
      exact h2 rfl F1 σ H1 Q o1 (sl.mono e1) fun F2 H2 v e2 o2 c2 => q F2 H2 v (e1.trans e2) o2 (by simpa using c2)
    | true =>
      rw [if_pos rfl]
      exact q F1 H1 _ e1 (hf rfl ▸ o1) (cl_dat (.bl _))⟩)
theorem ex_not {k : Bool} (h : EX X es os a (dat (.bool k)) os1) : EX X es os (.UnaryOp .Not a pos) (dat (.bool (!k))) os1 := fun F σ H Q ow sl q =>
  we_of (pe_not pe_u) (h F σ H _ ow sl fun F1 H1 x e1 o1 c1 => ⟨k, clv_bool c1, q F1 H1 _ e1 o1 (cl_dat (.bl _))⟩)
theorem ex_if {k : Bool} {φ : VP} (hc : TX X es os c k os1) (ha : k = true → EX X es os1 a φ os2) (hb : k = false → EX X es os1 b φ os2) : EX X es os (.IfExp c a b pos) φ os2 := fun F σ H Q ow sl q =>
  we_of (pe_ifExp pt_u pe_u pe_u) (hc F σ H _ ow sl fun F1 H1 e1 o1 => by
    cases k with
    | true =>
      rw [if_pos rfl]
      exact ha rfl F1 σ H1 Q o1 (sl.mono e1) fun F2 H2 v e2 => q F2 H2 v (e1.trans e2)
    | false =>
      rw [if_neg Bool.false_ne_true]
      exact hb rfl F1 σ H1 Q o1 (sl.mono e1) fun F2 H2 v e2 => q F2 H2 v (e1.trans e2))
theorem en_if {k : Bool} {n : Ent} (hc : TX X es os c k os1) (ha : k = true → EN X es os1 a n os2) (hb : k = false → EN X es os1 b n os2) : EN X es os (.IfExp c a b pos) n os2 := fun F σ H Q ow sl q =>
  we_of (pe_ifExp pt_u pe_u pe_u) (hc F σ H _ ow sl fun F1 H1 e1 o1 => by
    cases k with
    | true =>
      rw [if_pos rfl]
      exact ha rfl F1 σ H1 Q o1 (sl.mono e1) fun F2 H2 p e2 => q F2 H2 p (e1.trans e2)
    | false =>
      rw [if_neg Bool.false_ne_true]
      exact hb rfl F1 σ H1 Q o1 (sl.mono e1) fun F2 H2 p e2 => q F2 H2 p (e1.trans e2))

/-! ### argument lists, displays -/
theorem ax_nil : AX X es os [] [] os := fun F σ H Q ow sl q => wa_of pa_nil (q F H [] (Same.refl F) ow rfl)
theorem ax_cons {as : List Expr} {φ : VP} {φs : List VP} (ha : EX X es os a φ os1) (hr : AX X es os1 as φs os2) (hs : starEach (a :: as) X.env = (false, eval a X.env) :: starEach as X.env := by rfl) : AX X es os (a :: as) (φ :: φs) os2 := fun F σ H Q ow sl q =>
  wa_of (pa_cons pe_u pa_u hs) (ha F σ H _ ow sl fun F1 H1 x e1 o1 c1 => hr F1 σ H1 _ o1 (sl.mono e1) fun F2 H2 vs e2 o2 c2 => q F2 H2 _ (e1.trans e2) o2 ⟨x, vs, rfl, c1.mono e2, c2⟩)
theorem cla_dq {F : Hp} : ∀ {ds : List PyData} {vs : List V}, ClA (ds.map dat) F vs → DqAll F vs ds
  | [], _, h => by
    have e : _ = [] := h
    rw [e]
    exact .nil
  | d :: ds, _, ⟨v, r, e, h1, h2⟩ => by
    rw [e]
    exact .cons h1.now (cla_dq h2)
theorem ex_tup {as : List Expr} {x1} {ds : List PyData} (h : AX X es os as (ds.map dat) os1) (hl : ds.length ≤ sizeLine := by decide) : EX X es os (.Tuple as x1 pos) (dat (.tuple ds)) os1 := fun F σ H Q ow sl q =>
  we_of (pe_tup pa_u) (h F σ H _ ow sl fun F1 H1 vs e1 o1 c1 => by
    have hd := cla_dq c1
    refine ⟨by rw [dqall_len hd]; exact hl, fun p hp => ?_⟩
    have fp := o1.ex.free hp
    exact q _ _ _ (e1.trans (same_upd fp)) (o1.frozen hp) (cl_dat (.tup upd_same (dqall_mono (same_upd fp) _ _ hd))))
theorem en_lst {as : List Expr} {ds : List PyData} (h : AX X es os as (ds.map dat) os1) (hl : ds.length ≤ sizeLine := by decide) : EN X es os (.List as pos) (ol ds) os1 := fun F σ H Q ow sl q =>
  we_of (pe_lst pa_u) (h F σ H _ ow sl fun F1 H1 vs e1 o1 c1 => by
    have hd := cla_dq c1
    refine ⟨by rw [dqall_len hd]; exact hl, fun p hp => ?_⟩
    exact q _ _ _ e1 (o1.new hp fun G g => ⟨vs, rfl, dqall_mono g _ _ hd⟩))

/-! ### what may be read as a list, a tuple -/
/-- of every value of φ (its object owned or not): it is read as a list of ds -/
def RdL (X : Cx) (φ : VP) (os : Os) (ds : List PyData) : Prop := ∀ F H v, Ow F os H → Cl φ F v → ∃ a vs, v = .ref a ∧ SqL X.K H a vs ∧ DqAll F vs ds
def RdT (φ : VP) (ds : List PyData) : Prop := ∀ F v, Cl φ F v → ∃ a vs, v = .ref a ∧ F a = some (.tup vs) ∧ DqAll F vs ds
theorem rdl_dat {ds : List PyData} : RdL X (dat (.list ds)) os ds := fun F H v ow c => by
  have h := c.now
  cases h with
  | lst h1 h2 => exact ⟨_, _, rfl, .of (ow.ex _ _ h1), h2⟩
theorem rdl_own {p : Addr} {ds : List PyData} (k : Nat) (h : os[k]? = some (p, ol ds)) : RdL X (own p) os ds := fun F H v ow c => by
  obtain ⟨_, o, ho, z⟩ := ow.own _ (List.mem_of_getElem? h)
  obtain ⟨vs, rfl, hv⟩ := z F (Same.refl F)
  exact ⟨p, vs, c.now, .of ho, hv⟩
/-- the script -/
def scr (K : PySem.W.Frag) (ns : List Int) : VP := fun F v => ∃ a, v = .ref a ∧ SqL K F a (ns.map V.int)
theorem rdl_scr {ns : List Int} : RdL X (scr X.K ns) os (ns.map PyData.int) := fun F H v ow c => by
  obtain ⟨a, rfl, h⟩ := c.now
  exact ⟨a, _, rfl, ow.ex.seq h, dqall_ints ns⟩
theorem rdt_dat {ds : List PyData} : RdT (dat (.tuple ds)) ds := fun F v c => by
  have h := c.now
  cases h with
  | tup h1 h2 => exact ⟨_, _, rfl, h1, h2⟩

/-! ### subscripts -/
/-- xs[i], i of any sign -/
def idx {α : Type} (xs : List α) (i : Int) : Option α := atI xs i
theorem atI_map {α β : Type} (f : α → β) {xs : List α} {i : Int} {v : α} (h : atI xs i = some v) : atI (xs.map f) i = some (f v) := by
  unfold atI at h ⊢
  rw [List.length_map]
  cases e : ixN xs.length i with
  | none => rw [e] at h; cases h
  | some j =>
    rw [e] at h
    have h' : xs[j]? = some v := h
    show (xs.map f)[j]? = some (f v)
    rw [List.getElem?_map, h']
    rfl
theorem atI_dq {F : Hp} {vs : List V} {ds : List PyData} {i : Int} {d : PyData} (h : DqAll F vs ds) (k : atI ds i = some d) : ∃ v, atI vs i = some v ∧ Dq F v d := by
  unfold atI at k ⊢
  rw [dqall_len h]
  cases e : ixN ds.length i with
  | none => rw [e] at k; cases k
  | some j =>
    rw [e] at k
    exact dqall_get' h k
theorem ex_ixL {φ : VP} {ds : List PyData} {i : Int} {d : PyData} (hr : RdL X φ os2 ds) (hk : atI ds i = some d) (ha : EX X es os a φ os1) (hb : EX X es os1 b (dat (.int i)) os2) (hp : PlainIx b := by exact fun _ _ => rfl) : EX X es os (.Subscript a b pos) (dat d) os2 := fun F σ H Q ow sl q =>
  we_of (pe_ix ix_list pe_u pe_u hp) (ha F σ H _ ow sl fun F1 H1 x e1 o1 c1 => hb F1 σ H1 _ o1 (sl.mono e1) fun F2 H2 y e2 o2 c2 => by
    obtain ⟨p, vs, rfl, hs, hv⟩ := hr F2 H2 x o2 (c1.mono e2)
    obtain ⟨v, hi, hd⟩ := atI_dq hv hk
    exact ⟨p, vs, i, v, rfl, clv_int c2, hs, hi, q F2 H2 v (e1.trans e2) o2 (cl_dat hd)⟩)
theorem ex_ixT {φ : VP} {ds : List PyData} {i : Int} {d : PyData} (hr : RdT φ ds) (hk : atI ds i = some d) (ha : EX X es os a φ os1) (hb : EX X es os1 b (dat (.int i)) os2) (hp : PlainIx b := by exact fun _ _ => rfl) : EX X es os (.Subscript a b pos) (dat d) os2 := fun F σ H Q ow sl q =>
  we_of (pe_ix ix_tup pe_u pe_u hp) (ha F σ H _ ow sl fun F1 H1 x e1 o1 c1 => hb F1 σ H1 _ o1 (sl.mono e1) fun F2 H2 y e2 o2 c2 => by
    obtain ⟨p, vs, rfl, hs, hv⟩ := hr F2 x (c1.mono e2)
    obtain ⟨v, hi, hd⟩ := atI_dq hv hk
    exact ⟨p, vs, i, v, rfl, clv_int c2, .of (o2.ex _ _ hs), hi, q F2 H2 v (e1.trans e2) o2 (cl_dat hd)⟩)
end
end Z
/-! Z, part C: defs and their calls (with the list of running reprs known to be empty), builtin calls. -/
namespace Z
open PySem PySem.Spec PyProof.Rows L2

/-! ### a def's promise -/
structure FnG (P : Program) (w : World) (K : PySem.W.Frag) (mg : Str → Option Value) (base : Heap) (C : CXT) (k : Nat) (f : Addr) (fd : FuncData) (ps : List Str) (sp : Sp) : Prop where
  len : ∀ vs H Q E, sp vs H Q E → vs.length = ps.length
  run : ∀ (A : Around) (outer : List Env) (s : Shared) (H : Hp) (args : Args) (us : List Value) (vs : List V) (Q : VK) (E : XK), A.guards = some [] → Room k A →
    Env0 P w K mg base A outer s H → BindsTo s fd args (ps.zip us) → Vals vs us → sp vs H Q E → codeAny (model P w) A (.call (.ref f) args) (CR C outer P w H s Q E) s
section
variable {P : Program} {w : World} {K : PySem.W.Frag} {mg : Str → Option Value} {base : Heap} {C : CXT}
theorem FnG.mono {j k : Nat} {f : Addr} {fd : FuncData} {ps : List Str} {sp : Sp} (F : FnG P w K mg base C j f fd ps sp) (h : j ≤ k) : FnG P w K mg base C k f fd ps sp :=
  ⟨F.len, fun A outer s H args us vs Q E hg hr => F.run A outer s H args us vs Q E hg (hr.mono h)⟩
/-- the body of a def is looked at once -/
theorem fun_ok {x qual : Str} {st : Stmt} {f : Addr} {fd : FuncData} {N ps : List Str} {k : Nat} {sp : Sp} (G : Fun K x qual st f fd) (S : FnScope N ps (defScope st)) (len : ∀ vs H Q E, sp vs H Q E → vs.length = ps.length)
    (body : ∀ (cdv : Value) (A : Around) (outer : List Env) (s : Shared) (H : Hp) (vs : List V) (Q : VK) (E : XK), A.guards = some [] → Room k (A.deeper (envOfC qual (defScope st) s.heap.objs.size f cdv)) → sp vs H Q E →
      WPs (cxOf C P w K mg base N qual (defScope st) f cdv A outer s H E) (defBody st) { nx := fun _ H' => Q .non H', rt := Q } (start N vs) H) : FnG P w K mg base C (k + 1) f fd ps sp := by
  obtain ⟨oc, od, kV, doc, pm, an, cdv, ct, osl, rfl, lk, hcd⟩ := G.ex
  refine ⟨len, ?_⟩
  intro A outer s H args us vs Q E hg hr e0 hb r hsp
  have inh : K.In s.heap := e0.mod.kin.keeps fun b o q => (e0.bs b o q).1
  have nol : s.heap.NoLimit := e0.mod.nolimit.keeps fun b o q => (e0.bs b o q).1
  refine codeAny_call_function hr.depth (inh _ _ lk) rfl S.co S.gen rfl (PySem.W.codeRec_of inh hcd) (hb _ _ _ _ ?_)
  refine wpAny_newFunctionEnv_cells S.kind ?_ ?_
  · rintro ⟨n, v⟩ hy
    rcases S.par n (List.of_mem_zip hy).1 with q | q
    · exact .inl q
    · exact .inr ⟨q, PySem.W.cellsFrom_some _ _ _ (.inl q)⟩
  · intro env he s1 x
    subst he
    refine ⟨nol.keeps x.toInCall.keep, codeAny_func ?_⟩
    have I := inv_start (CX := C) (P := P) (w := w) (E := E) S hr.hd e0 (len _ _ _ _ hsp) r x
    refine wpAny_mono (body cdv A outer s H vs Q E hg (hr.deeper _) hsp [] s1 I) ?_ fun _ _ z => z
    intro fl s' z
    cases fl with
    | ret u =>
      obtain ⟨v, σ', H', J, rv, q⟩ := z
      exact ⟨v, H', J.os, J.bare, J.base, J.hok, rv, q⟩
    | next =>
      obtain ⟨σ', H', J, q⟩ := z
      exact ⟨.non, H', J.os, J.bare, J.base, J.hok, rfl, q⟩
    | brk =>
      obtain ⟨_, _, _, q⟩ := z
      exact q.elim
    | cont =>
      obtain ⟨_, _, _, q⟩ := z
      exact q.elim
end

/-! ### what a body knows -/
def visB (sc : Scope) (x : Str) : Bool := match sc.names.lookup x with
  | some .local => true
  | some .cell => true
  | some .free => true
  | _ => false
def locB (sc : Scope) (x : Str) : Bool := match sc.names.lookup x with
  | some .local => true
  | some .cell => true
  | _ => false
def glB (sc : Scope) (x : Str) : Bool := match sc.names.lookup x with
  | some .globalImplicit => true
  | _ => false
def dunB (x : Str) : Bool := !(x == ("__debug__" : Str)) && !(x == ("__classdict__" : Str)) && !(x == ("__name__" : Str))
theorem vis_of {sc : Scope} {x : Str} (h : visB sc x = true) : Vis sc x := by
  unfold visB at h
  split at h
  · exact .inl (by assumption)
  · exact .inr (.inl (by assumption))
  · exact .inr (.inr (by assumption))
  · cases h
theorem loc_of {sc : Scope} {x : Str} (h : locB sc x = true) : Loc sc x := by
  unfold locB at h
  split at h
  · exact .inl (by assumption)
  · exact .inr (by assumption)
  · cases h
/-- in X: the i-th name stands at its slot and is seen; the j-th global one is one -/
structure Bd (X : Cx) (N : List Str) (V G : List Str) (k : Nat) : Prop where
  hN : X.N = N
  nd : N.Nodup
  calm : X.calm = true
  gd : X.A.guards = some []
  room : Room k X.A
  vis : ∀ x ∈ V, Vis X.env.scope x ∧ dunB x = true
  gl : ∀ x ∈ G, Gl X x ∧ dunB x = true
theorem dun_d {x : Str} (h : dunB x = true) : (x == ("__debug__" : Str)) = false := by
  unfold dunB at h
  simp only [Bool.and_eq_true, Bool.not_eq_true'] at h
  exact h.1.1
theorem dun_c {x : Str} (h : dunB x = true) : (x == ("__classdict__" : Str)) = false := by
  unfold dunB at h
  simp only [Bool.and_eq_true, Bool.not_eq_true'] at h
  exact h.1.2
theorem dun_n {x : Str} (h : dunB x = true) : x ≠ "__name__" := by
  unfold dunB at h
  simp only [Bool.and_eq_true, Bool.not_eq_true', beq_eq_false_iff_ne, ne_eq] at h
  exact h.2
/-- the names of a body, all at once -/
def namB (sc : Scope) (V G : List Str) : Bool := (V.all fun x => visB sc x && dunB x) && (G.all fun x => glB sc x && dunB x)
theorem nam_vis {sc : Scope} {V G : List Str} (h : namB sc V G = true) : ∀ x ∈ V, Vis sc x ∧ dunB x = true := fun x hx => by
  unfold namB at h
  rw [Bool.and_eq_true, List.all_eq_true] at h
  have := h.1 x hx
  rw [Bool.and_eq_true] at this
  exact ⟨vis_of this.1, this.2⟩
theorem nam_gl {sc : Scope} {V G : List Str} (h : namB sc V G = true) : ∀ x ∈ G, sc.names.lookup x = some .globalImplicit ∧ dunB x = true := fun x hx => by
  unfold namB at h
  rw [Bool.and_eq_true, List.all_eq_true, List.all_eq_true] at h
  have := h.2 x hx
  rw [Bool.and_eq_true] at this
  refine ⟨?_, this.2⟩
  have q := this.1
  unfold glB at q
  split at q
  · assumption
  · cases q
/-- what a def's body may store into -/
structure Bs (X : Cx) (V : List Str) : Prop where
  fn : ∀ x, X.fn x = true
  loc : ∀ x ∈ V, Loc X.env.scope x
section
variable {X : Cx} {es : List Slot} {os os1 os2 os3 : Os} {N V G : List Str} {k : Nat} {x : Str} {p pos : Pos} {e : Expr} {as : List Expr}
theorem ex_v {i j : Nat} {φ : VP} (B : Bd X N V G k) (hi : N[i]? = some x) (hj : V[j]? = some x) (h : es[i]? = some (sl φ)) : EX X es os (.Name x pos) φ os :=
  let ⟨a, b⟩ := B.vis x (List.mem_of_getElem? hj)
  ex_name (B.hN ▸ hi) a (dun_d b) (dun_c b) h
theorem ex_g {j : Nat} {i : Int} {t : Tok} (B : Bd X N V G k) (hj : G[j]? = some x) (hm : X.mg x = some (.int i t)) : EX X es os (.Name x pos) (dat (.int i)) os :=
  let ⟨a, b⟩ := B.gl x (List.mem_of_getElem? hj)
  ex_gint a hm (dun_d b)

/-! ### builtins by name -/
def RCX (r : List L2.V → Hp → VK → Prop) (φs : List VP) (os : Os) (d : VP) (os' : Os) : Prop := ∀ F H vs Q, Ow F os H → ClA φs F vs → (∀ F' H' v, Same F F' → Ow F' os' H' → Cl d F' v → Q v H') → r vs H Q
def RCN (r : List L2.V → Hp → VK → Prop) (φs : List VP) (os : Os) (n : Ent) (os' : Os) : Prop := ∀ F H vs Q, Ow F os H → ClA φs F vs → (∀ F' H' p, Same F F' → Ow F' ((p, n) :: os') H' → Q (.ref p) H') → r vs H Q
theorem ex_fn {id : String} {r : List L2.V → Hp → VK → Prop} {φs : List VP} {d : VP} {j : Nat} (B : Bd X N V G k) (hj : G[j]? = some x) (hm : X.mg x = none) (hv : bootBuiltins x = some (.builtin id)) (hc : CallR X (.builtin id) r) (hr : RCX r φs os1 d os2)
    (ha : AX X es os (e :: as) φs os1) (he : starEach (e :: as) X.env = (false, eval e X.env) :: starEach as X.env := by rfl) (hpl : (backTo pos (starEach as X.env)).any (·.1) = false := by rfl) : EX X es os (.Call (.Name x p) (e :: as) [] pos) d os2 := fun F σ H Q ow sl q =>
  let ⟨a, b⟩ := B.gl x (List.mem_of_getElem? hj)
  we_of (pe_callB hc a hm hv pa_u (dun_n b) (dun_d b) he hpl) (ha F σ H _ ow sl fun F1 H1 vs e1 o1 c1 => hr F1 H1 vs Q o1 c1 fun F2 H2 v e2 => q F2 H2 v (e1.trans e2))
theorem en_fn {id : String} {r : List L2.V → Hp → VK → Prop} {φs : List VP} {n : Ent} {j : Nat} (B : Bd X N V G k) (hj : G[j]? = some x) (hm : X.mg x = none) (hv : bootBuiltins x = some (.builtin id)) (hc : CallR X (.builtin id) r) (hr : RCN r φs os1 n os2)
    (ha : AX X es os (e :: as) φs os1) (he : starEach (e :: as) X.env = (false, eval e X.env) :: starEach as X.env := by rfl) (hpl : (backTo pos (starEach as X.env)).any (·.1) = false := by rfl) : EN X es os (.Call (.Name x p) (e :: as) [] pos) n os2 := fun F σ H Q ow sl q =>
  let ⟨a, b⟩ := B.gl x (List.mem_of_getElem? hj)
  we_of (pe_callB hc a hm hv pa_u (dun_n b) (dun_d b) he hpl) (ha F σ H _ ow sl fun F1 H1 vs e1 o1 c1 => hr F1 H1 vs Q o1 c1 fun F2 H2 v e2 => q F2 H2 v (e1.trans e2))
theorem ex_ty {T : String} {r : List L2.V → Hp → VK → Prop} {φs : List VP} {d : VP} {j : Nat} (B : Bd X N V G k) (hj : G[j]? = some x) (hm : X.mg x = none) (hv : bootBuiltins x = some (.type T)) (hc : CallR X (.type T) r) (hr : RCX r φs os1 d os2)
    (ha : AX X es os (e :: as) φs os1) (he : starEach (e :: as) X.env = (false, eval e X.env) :: starEach as X.env := by rfl) (hpl : (backTo pos (starEach as X.env)).any (·.1) = false := by rfl) : EX X es os (.Call (.Name x p) (e :: as) [] pos) d os2 := fun F σ H Q ow sl q =>
  let ⟨a, b⟩ := B.gl x (List.mem_of_getElem? hj)
  we_of (pe_callTy hc a hm hv pa_u (dun_n b) (dun_d b) he hpl) (ha F σ H _ ow sl fun F1 H1 vs e1 o1 c1 => hr F1 H1 vs Q o1 c1 fun F2 H2 v e2 => q F2 H2 v (e1.trans e2))
theorem en_ty {T : String} {r : List L2.V → Hp → VK → Prop} {φs : List VP} {n : Ent} {j : Nat} (B : Bd X N V G k) (hj : G[j]? = some x) (hm : X.mg x = none) (hv : bootBuiltins x = some (.type T)) (hc : CallR X (.type T) r) (hr : RCN r φs os1 n os2)
    (ha : AX X es os (e :: as) φs os1) (he : starEach (e :: as) X.env = (false, eval e X.env) :: starEach as X.env := by rfl) (hpl : (backTo pos (starEach as X.env)).any (·.1) = false := by rfl) : EN X es os (.Call (.Name x p) (e :: as) [] pos) n os2 := fun F σ H Q ow sl q =>
  let ⟨a, b⟩ := B.gl x (List.mem_of_getElem? hj)
  we_of (pe_callTy hc a hm hv pa_u (dun_n b) (dun_d b) he hpl) (ha F σ H _ ow sl fun F1 H1 vs e1 o1 c1 => hr F1 H1 vs Q o1 c1 fun F2 H2 v e2 => q F2 H2 v (e1.trans e2))

/-! ### their readings -/
theorem cla1 {φ : VP} {F : Hp} {vs : List L2.V} (h : ClA [φ] F vs) : ∃ v, vs = [v] ∧ Cl φ F v := by
  obtain ⟨v, r, e, h1, h2⟩ := h
  have e2 : r = [] := h2
  subst e2
  exact ⟨v, e, h1⟩
theorem cla2 {φ ψ : VP} {F : Hp} {vs : List L2.V} (h : ClA [φ, ψ] F vs) : ∃ v u, vs = [v, u] ∧ Cl φ F v ∧ Cl ψ F u := by
  obtain ⟨v, r, e, h1, h2⟩ := h
  obtain ⟨u, e2, h3⟩ := cla1 h2
  subst e2
  exact ⟨v, u, e, h1, h3⟩
theorem rc_abs {i : Int} : RCX (fun xs H Q => ∃ i, xs = [L2.V.int i] ∧ Q (.int (if i < 0 then -i else i)) H) [dat (.int i)] os (dat (.int (if i < 0 then -i else i))) os := fun F H vs Q ow c q => by
  obtain ⟨v, rfl, h⟩ := cla1 c
  exact ⟨i, by rw [clv_int h], q F H _ (Same.refl F) ow (cl_dat (.int _))⟩
theorem rc_max {i j : Int} : RCX (fun xs H Q => ∃ i j, xs = [L2.V.int i, .int j] ∧ Q (.int (if j > i then j else i)) H) [dat (.int i), dat (.int j)] os (dat (.int (if j > i then j else i))) os := fun F H vs Q ow c q => by
  obtain ⟨v, u, rfl, h, h2⟩ := cla2 c
  exact ⟨i, j, by rw [clv_int h, clv_int h2], q F H _ (Same.refl F) ow (cl_dat (.int _))⟩
theorem rc_min {i j : Int} : RCX (fun xs H Q => ∃ i j, xs = [L2.V.int i, .int j] ∧ Q (.int (if j < i then j else i)) H) [dat (.int i), dat (.int j)] os (dat (.int (if j < i then j else i))) os := fun F H vs Q ow c q => by
  obtain ⟨v, u, rfl, h, h2⟩ := cla2 c
  exact ⟨i, j, by rw [clv_int h, clv_int h2], q F H _ (Same.refl F) ow (cl_dat (.int _))⟩
theorem rc_intI {i : Int} : RCX (fun xs H Q => (∃ i, xs = [L2.V.int i] ∧ Q (.int i) H) ∨ ∃ k, xs = [.bl k] ∧ Q (.int (if k then 1 else 0)) H) [dat (.int i)] os (dat (.int i)) os := fun F H vs Q ow c q => by
  obtain ⟨v, rfl, h⟩ := cla1 c
  exact .inl ⟨i, by rw [clv_int h], q F H _ (Same.refl F) ow (cl_dat (.int _))⟩
theorem rc_intB {i : Bool} : RCX (fun xs H Q => (∃ i, xs = [L2.V.int i] ∧ Q (.int i) H) ∨ ∃ k, xs = [.bl k] ∧ Q (.int (if k then 1 else 0)) H) [dat (.bool i)] os (dat (.int (if i then 1 else 0))) os := fun F H vs Q ow c q => by
  obtain ⟨v, rfl, h⟩ := cla1 c
  exact .inr ⟨i, by rw [clv_bool h], q F H _ (Same.refl F) ow (cl_dat (.int _))⟩
/-- str(i), repr(d): none where it would be too long -/
def strO (i : Int) : Option Str := if i.natAbs.log2 < 1920 then some (toString i) else none
theorem rc_str {i : Int} {t : Str} (h : strO i = some t) : RCX (fun xs H Q => ∃ i, xs = [L2.V.int i] ∧ i.natAbs.log2 < 1920 ∧ Q (.str (toString i)) H) [dat (.int i)] os (dat (.str t)) os := fun F H vs Q ow c q => by
  unfold strO at h
  split at h
  · rename_i hl
    cases h
    obtain ⟨v, rfl, h⟩ := cla1 c
    exact ⟨i, by rw [clv_int h], hl, q F H _ (Same.refl F) ow (cl_dat (.str _))⟩
  · cases h
theorem rc_lenL {φ : VP} {ds : List PyData} (hr : RdL X φ os ds) : RCX (fun xs H Q => ∃ p ys, xs = [L2.V.ref p] ∧ (SqL X.K H p ys ∨ SqT X.K H p ys) ∧ Q (.int ys.length) H) [φ] os (dat (.int (ds.length : Int))) os := fun F H vs Q ow c q => by
  obtain ⟨v, rfl, h⟩ := cla1 c
  obtain ⟨a, us, rfl, h1, h2⟩ := hr F H v ow h
  exact ⟨a, us, rfl, .inl h1, by rw [dqall_len h2]; exact q F H _ (Same.refl F) ow (cl_dat (.int _))⟩
theorem rc_lenT {φ : VP} {ds : List PyData} (hr : RdT φ ds) : RCX (fun xs H Q => ∃ p ys, xs = [L2.V.ref p] ∧ (SqL X.K H p ys ∨ SqT X.K H p ys) ∧ Q (.int ys.length) H) [φ] os (dat (.int (ds.length : Int))) os := fun F H vs Q ow c q => by
  obtain ⟨v, rfl, h⟩ := cla1 c
  obtain ⟨a, us, rfl, h1, h2⟩ := hr F v h
  exact ⟨a, us, rfl, .inr (.of (ow.ex _ _ h1)), by rw [dqall_len h2]; exact q F H _ (Same.refl F) ow (cl_dat (.int _))⟩
theorem rc_sum {φ : VP} {ns : List Int} (hr : RdL X φ os (ns.map PyData.int)) : RCX (rSum X.K) [φ] os (dat (.int ns.sum)) os := fun F H vs Q ow c q => by
  obtain ⟨v, rfl, h⟩ := cla1 c
  obtain ⟨a, us, rfl, h1, h2⟩ := hr F H v ow h
  have e := dqall_of_ints ns h2
  subst e
  exact ⟨a, ns, rfl, h1, q F H _ (Same.refl F) ow (cl_dat (.int _))⟩
theorem rc_all {φ : VP} {bs : List Bool} (hr : RdL X φ os (bs.map PyData.bool)) : RCX (rAll X.K) [φ] os (dat (.bool (bs.all id))) os := fun F H vs Q ow c q => by
  obtain ⟨v, rfl, h⟩ := cla1 c
  obtain ⟨a, us, rfl, h1, h2⟩ := hr F H v ow h
  have e := dqall_of_bools bs h2
  subst e
  exact ⟨a, bs, rfl, h1, q F H _ (Same.refl F) ow (cl_dat (.bl _))⟩
theorem rc_any {φ : VP} {bs : List Bool} (hr : RdL X φ os (bs.map PyData.bool)) : RCX (rAny X.K) [φ] os (dat (.bool (bs.any id))) os := fun F H vs Q ow c q => by
  obtain ⟨v, rfl, h⟩ := cla1 c
  obtain ⟨a, us, rfl, h1, h2⟩ := hr F H v ow h
  have e := dqall_of_bools bs h2
  subst e
  exact ⟨a, bs, rfl, h1, q F H _ (Same.refl F) ow (cl_dat (.bl _))⟩
theorem rc_tupL {φ : VP} {ds : List PyData} (hr : RdL X φ os ds) : RCX (fun xs H Q => ∃ p ys, xs = [L2.V.ref p] ∧ ((SqL X.K H p ys ∧ ∀ l, H l = none → Q (.ref l) (upd H l (.tup ys))) ∨ (SqT X.K H p ys ∧ Q (.ref p) H))) [φ] os (dat (.tuple ds)) os := fun F H vs Q ow c q => by
  obtain ⟨v, rfl, h⟩ := cla1 c
  obtain ⟨a, us, rfl, h1, h2⟩ := hr F H v ow h
  refine ⟨a, us, rfl, .inl ⟨h1, fun l hl => ?_⟩⟩
  have fp := ow.ex.free hl
  exact q _ _ _ (same_upd fp) (ow.frozen hl) (cl_dat (.tup upd_same (dqall_mono (same_upd fp) _ _ h2)))
theorem rc_tupT {φ : VP} {ds : List PyData} (hr : RdT φ ds) : RCX (fun xs H Q => ∃ p ys, xs = [L2.V.ref p] ∧ ((SqL X.K H p ys ∧ ∀ l, H l = none → Q (.ref l) (upd H l (.tup ys))) ∨ (SqT X.K H p ys ∧ Q (.ref p) H))) [φ] os (dat (.tuple ds)) os := fun F H vs Q ow c q => by
  obtain ⟨v, rfl, h⟩ := cla1 c
  obtain ⟨a, us, rfl, h1, h2⟩ := hr F v h
  exact ⟨a, us, rfl, .inr ⟨.of (ow.ex _ _ h1), q F H _ (Same.refl F) ow (cl_dat (.tup h1 h2))⟩⟩
theorem rc_lstL {φ : VP} {ds : List PyData} (hr : RdL X φ os ds) : RCN (fun xs H Q => ∃ p ys, xs = [L2.V.ref p] ∧ (SqL X.K H p ys ∨ SqT X.K H p ys) ∧ ∀ l, H l = none → Q (.ref l) (upd H l (.lst ys))) [φ] os (ol ds) os := fun F H vs Q ow c q => by
  obtain ⟨v, rfl, h⟩ := cla1 c
  obtain ⟨a, us, rfl, h1, h2⟩ := hr F H v ow h
  exact ⟨a, us, rfl, .inl h1, fun l hl => q F _ l (Same.refl F) (ow.new hl fun G g => ⟨us, rfl, dqall_mono g _ _ h2⟩)⟩
theorem rc_lstT {φ : VP} {ds : List PyData} (hr : RdT φ ds) : RCN (fun xs H Q => ∃ p ys, xs = [L2.V.ref p] ∧ (SqL X.K H p ys ∨ SqT X.K H p ys) ∧ ∀ l, H l = none → Q (.ref l) (upd H l (.lst ys))) [φ] os (ol ds) os := fun F H vs Q ow c q => by
  obtain ⟨v, rfl, h⟩ := cla1 c
  obtain ⟨a, us, rfl, h1, h2⟩ := hr F v h
  exact ⟨a, us, rfl, .inr (.of (ow.ex _ _ h1)), fun l hl => q F _ l (Same.refl F) (ow.new hl fun G g => ⟨us, rfl, dqall_mono g _ _ h2⟩)⟩
def isI : PyData → Bool
  | .int _ => true
  | _ => false
def shortO (d : PyData) : Bool := isI d || decide (d.shown.length ≤ sizeLine)
/-- repr of data -/
def rRepr (K : PySem.W.Frag) : List L2.V → Hp → VK → Prop := fun xs H Q => ∃ v d, xs = [v] ∧ Dp K H v d ∧ d.showable = true ∧ d.hasDict = false ∧ d.depth ≤ 60 ∧ shortO d = true ∧ Q (.str d.shown) H
theorem call_repr (gd : X.A.guards = some []) (room : Room k X.A) : CallR X (.builtin "repr") (rRepr X.K) := by
  intro pins s σ H vs us Q I r h
  obtain ⟨v, d, rfl, hd, h1, h2, h3, h4, q⟩ := h
  obtain ⟨u, rfl, ru⟩ := vals1 r
  have un := room.un
  have h5 : isI d = false → d.shown.length ≤ sizeLine := fun z => by
    unfold shortO at h4
    rw [z, Bool.false_or] at h4
    exact of_decide_eq_true h4
  cases hd with
  | non =>
    obtain rfl : u = Value.none := ru
    have e : (PyData.none).shown = ("None" : Str) := by simp only [PyData.shown]
    rw [e] at q
    exact PySem.P.repr_of_none ⟨.str _, H, I.tok _, ⟨_, rfl⟩, q⟩
  | bl b =>
    obtain rfl : u = Value.bool b := ru
    have e : (PyData.bool b).shown = (if b then "True" else "False" : Str) := by simp only [PyData.shown]
    rw [e] at q
    exact PySem.P.repr_of_bool ⟨.str _, H, I.tok _, ⟨_, rfl⟩, q⟩
  | int i =>
    obtain ⟨t, rfl⟩ := ru
    have e : (PyData.int i).shown = toString i := by simp only [PyData.shown]
    have h1' : i.natAbs.log2 < 1920 := by simpa only [PyData.showable, decide_eq_true_eq] using h1
    rw [e] at q
    exact PySem.P.repr_of_int h1' ⟨.str _, H, I.tok _, ⟨_, rfl⟩, q⟩
  | str x =>
    obtain ⟨t, rfl⟩ := ru
    have e : (PyData.str x).shown = reprText x := by simp only [PyData.shown]
    have h6 := h5 rfl
    rw [e] at q h6
    exact PySem.P.repr_of_str ⟨.str _, H, I.tok _, ⟨_, rfl⟩, q⟩ h6
  | lst hs ha =>
    obtain rfl : u = Value.ref _ := ru
    obtain ⟨as, hr⟩ := Dp.reads I _ _ (.ref _) (Dp.lst hs ha) rfl
    exact repr_of_reads' hr h1 (PyData.noDict_hsm h2) gd (by omega) (fun _ _ e => e) (fun h' tk t' hk => ⟨.str _, H, I.kept hk, ⟨_, rfl⟩, q⟩) (h5 rfl)
  | tup hs ha =>
    obtain rfl : u = Value.ref _ := ru
    obtain ⟨as, hr⟩ := Dp.reads I _ _ (.ref _) (Dp.tup hs ha) rfl
    exact repr_of_reads' hr h1 (PyData.noDict_hsm h2) gd (by omega) (fun _ _ e => e) (fun h' tk t' hk => ⟨.str _, H, I.kept hk, ⟨_, rfl⟩, q⟩) (h5 rfl)
def reprO (d : PyData) : Option Str := if d.showable = true ∧ d.hasDict = false ∧ d.depth ≤ 60 ∧ shortO d = true then some d.shown else none
theorem rc_repr {d : PyData} {t : Str} (h : reprO d = some t) : RCX (rRepr X.K) [dat d] os (dat (.str t)) os := fun F H vs Q ow c q => by
  unfold reprO at h
  split at h
  · rename_i hl
    cases h
    obtain ⟨v, rfl, h⟩ := cla1 c
    exact ⟨v, d, rfl, dq_dp _ _ _ (dq_mono ow.ex _ _ h.now), hl.1, hl.2.1, hl.2.2.1, hl.2.2.2, q F H _ (Same.refl F) ow (cl_dat (.str _))⟩
  · cases h
end
end Z
/-! Z, part D: calls of defs, by place and by name. -/
namespace Z
open PySem PySem.Spec PyProof.Rows L2

/-- a def of the text that keeps a promise, as callers see it -/
structure Cal (P : Program) (w : World) (K : PySem.W.Frag) (mg : Str → Option Value) (base : Heap) (k : Nat) (x : Str) (st : Stmt) (ps : List Str) (sp : Sp) : Prop where
  ex : ∃ (f : Addr) (fd : FuncData), Fun K x x st f fd ∧ FnG P w K mg base CX0 k f fd ps sp ∧ mg x = some (.ref f) ∧ Binds K fd ps []
theorem Cal.mono {P : Program} {w : World} {K : PySem.W.Frag} {mg : Str → Option Value} {base : Heap} {j k : Nat} {x : Str} {st : Stmt} {ps : List Str} {sp : Sp} (c : Cal P w K mg base j x st ps sp) (h : j ≤ k) : Cal P w K mg base k x st ps sp :=
  let ⟨f, fd, a, b, d⟩ := c.ex
  ⟨f, fd, a, b.mono h, d⟩
section
variable {X : Cx} {k : Nat} {f : Addr} {fd : FuncData} {ps : List Str} {sp : Sp} {x : Str} {p pos : Pos} {e : Expr} {as : List Expr} {t tk : TA} {kws : List Keyword}
theorem run_g {pins : List (Addr × Obj)} {σ : L2.St} {H : Hp} {s : Shared} {Q : VK} {us zs : List Value} {kv : List (Str × Value)} {vs : List L2.V} (c : FnG X.prog X.w X.K X.mg X.base CX0 k f fd ps sp) (gd : X.A.guards = some []) (hr : Room k X.A)
    (I : Inv X pins σ H s) (b : BindsTo s fd ⟨us, kv⟩ (ps.zip zs)) (r : Vals vs zs) (h : sp vs H Q E0) : wpAny (model X.prog X.w) X.A (call (.ref f) us kv) (EP X pins σ Q) X.xe s := by
  refine wpAny_call (codeAny_mono (c.run X.A X.stack s H ⟨us, kv⟩ zs vs Q E0 gd hr I.env0 b r h) ?_)
  intro res s' hq
  cases res with
  | error e => exact hq.elim
  | ok fl =>
    cases fl with
    | ret u => exact I.after hq
    | next => exact hq.elim
    | brk => exact hq.elim
    | cont => exact hq.elim
theorem pe_g {st : Stmt} (c : Cal X.prog X.w X.K X.mg X.base k x st ps sp) (gd : X.A.guards = some []) (hr : Room k X.A) (hg : Gl X x) (ha : PA X (e :: as) t) (hdb : (x == ("__debug__" : Str)) = false)
    (he : starEach (e :: as) X.env = (false, eval e X.env) :: starEach as X.env := by rfl) (hpl : (backTo pos (starEach as X.env)).any (·.1) = false := by rfl) : PE X (.Call (.Name x p) (e :: as) [] pos) (fun σ H Q => t σ H fun vs H1 => sp vs H1 Q E0) := by
  obtain ⟨f, fd, Fn, G, hm, hb⟩ := c.ex
  refine ⟨fun pins s σ H Q I h => wpAny_Call_Name_kw (ld_glob I hg hm ?_ hdb)⟩
  refine PySem.W.callWith_K (h₀ := X.base) I.ok.mod.kin Fn.kp (thn (ha.run pos pins s σ H _ I h) ?_) he hpl
  rintro us s1 ⟨vs, H1, I1, r, q⟩
  refine ⟨I1.kIn, run_g G gd hr I1 ?_ r q⟩
  have := hb s1 us I1.kIn (by rw [List.append_nil, ← r.length]; exact G.len _ _ _ _ q)
  rw [List.append_nil] at this
  exact this
theorem pe_g0 {st : Stmt} (c : Cal X.prog X.w X.K X.mg X.base k x st ps sp) (gd : X.A.guards = some []) (hr : Room k X.A) (hg : Gl X x) (hdb : (x == ("__debug__" : Str)) = false) : PE X (.Call (.Name x p) [] [] pos) (fun _ H Q => sp [] H Q E0) := by
  obtain ⟨f, fd, Fn, G, hm, hb⟩ := c.ex
  refine ⟨fun pins s σ H Q I h => wpAny_Call_Name_kw (ld_glob I hg hm ?_ hdb)⟩
  refine PySem.W.callWith_K0 I.kIn Fn.kp (run_g (us := []) G gd hr I ?_ .nil h)
  have := hb s [] I.kIn (by rw [List.append_nil]; exact G.len _ _ _ _ h)
  exact this

/-! ### keywords: the pi-th of all values stands for the parameters, one by one -/
def kperm {α : Type} (n m : Nat) (pi : List Nat) (us ws : List α) : List α := if us.length = n ∧ ws.length = m then pi.filterMap fun i => (us ++ ws)[i]? else []
theorem vals_fm {vs : List L2.V} {us : List Value} (h : Vals vs us) : ∀ pi : List Nat, Vals (pi.filterMap fun i => vs[i]?) (pi.filterMap fun i => us[i]?)
  | [] => .nil
  | i :: pi => by
    rw [List.filterMap_cons, List.filterMap_cons]
    cases e : vs[i]? with
    | none =>
      rw [h.none_of e]
      exact vals_fm h pi
    | some v =>
      obtain ⟨u, e2, r⟩ := h.get e
      rw [e2]
      exact .cons r (vals_fm h pi)
theorem vals_kperm {n m : Nat} {pi : List Nat} {vs zs : List L2.V} {us ws : List Value} (h : Vals vs us) (h' : Vals zs ws) : Vals (kperm n m pi vs zs) (kperm n m pi us ws) := by
  unfold kperm
  rw [h.length, h'.length]
  split
  · exact vals_fm (h.append h') pi
  · exact .nil
/-- how the def st binds positional values and keywords ks -/
def KwOk (x : Str) (st : Stmt) (ps ks : List Str) (n : Nat) (pi : List Nat) : Prop := ∀ (kV doc pm : Value) (an : Option Addr) (cdv ct : Value) (us ws : List Value), us.length = n → ws.length = ks.length →
  bindArgs (PySem.W.fnOf x x (defArgs st) (defBody st) (defScope st) .none kV doc pm an cdv ct) ⟨us, ks.zip ws⟩ = pure (ps.zip (pi.filterMap fun i => (us ++ ws)[i]?))
theorem pe_gk {st : Stmt} {ks : List Str} {n : Nat} {pi : List Nat} (c : Cal X.prog X.w X.K X.mg X.base k x st ps sp) (kw : KwOk x st ps ks n pi) (hps : 0 < ps.length) (gd : X.A.guards = some []) (hr : Room k X.A) (hg : Gl X x) (ha : PA X (e :: as) t) (hk : PK X kws tk) (hdb : (x == ("__debug__" : Str)) = false)
    (hall : (backToKw pos (keywordEach kws X.env)).all (·.1.isSome) = true := by rfl) (hks : (backToKw pos (keywordEach kws X.env)).filterMap (·.1) = ks := by rfl)
    (he : starEach (e :: as) X.env = (false, eval e X.env) :: starEach as X.env := by rfl)
    (hpl : ((backTo pos (starEach (e :: as) X.env)).any (·.1) || (backToKw pos (keywordEach kws X.env)).any (·.1.isNone)) = false := by rfl) :
    PE X (.Call (.Name x p) (e :: as) kws pos) (fun σ H Q => t σ H fun vs H1 => tk σ H1 fun zs H2 => sp (kperm n ks.length pi vs zs) H2 Q E0) := by
  obtain ⟨f, fd, Fn, G, hm, hb⟩ := c.ex
  refine ⟨fun pins s σ H Q I h => wpAny_Call_Name_kw (ld_glob I hg hm ?_ hdb)⟩
  refine PySem.W.callWith_KW (h₀ := X.base) I.ok.mod.kin Fn.kp hall (thn (ha.run pos pins s σ H _ I h) ?_) hpl he
  rintro us s1 ⟨vs, H1, I1, r, q⟩
  refine thn (hk.run pos pins s1 σ H1 _ I1 q) ?_
  rintro ws s2 ⟨zs, H2, I2, rz, q2⟩
  refine ⟨I2.kIn, ?_⟩
  rw [hks]
  have rk := vals_kperm (n := n) (m := ks.length) (pi := pi) r rz
  refine run_g G gd hr I2 (.of_eq ?_) rk q2
  have hl := G.len _ _ _ _ q2
  obtain ⟨oc, od, kV, doc, pm, an, cdv, ct, osl, rfl, _, _⟩ := Fn.ex
  unfold kperm at hl ⊢
  split at hl
  · rename_i hh
    rw [if_pos (by rw [← r.length, ← rz.length]; exact hh)]
    exact kw kV doc pm an cdv ct us ws (by rw [← r.length]; exact hh.1) (by rw [← rz.length]; exact hh.2)
  · have : ps.length = 0 := hl.symm
    omega
theorem pe_gk0 {st : Stmt} {ks : List Str} {pi : List Nat} (c : Cal X.prog X.w X.K X.mg X.base k x st ps sp) (kw : KwOk x st ps ks 0 pi) (hps : 0 < ps.length) (gd : X.A.guards = some []) (hr : Room k X.A) (hg : Gl X x) (hk : PK X kws tk) (hdb : (x == ("__debug__" : Str)) = false)
    (hall : (backToKw pos (keywordEach kws X.env)).all (·.1.isSome) = true := by rfl) (hks : (backToKw pos (keywordEach kws X.env)).filterMap (·.1) = ks := by rfl)
    (hpl : ((backTo pos (starEach [] X.env)).any (·.1) || (backToKw pos (keywordEach kws X.env)).any (·.1.isNone)) = false := by rfl) :
    PE X (.Call (.Name x p) [] kws pos) (fun σ H Q => tk σ H fun zs H2 => sp (kperm 0 ks.length pi [] zs) H2 Q E0) := by
  obtain ⟨f, fd, Fn, G, hm, hb⟩ := c.ex
  refine ⟨fun pins s σ H Q I h => wpAny_Call_Name_kw (ld_glob I hg hm ?_ hdb)⟩
  refine PySem.W.callWith_KW0 (h₀ := X.base) I.ok.mod.kin Fn.kp hall ?_ hpl
  refine thn (hk.run pos pins s σ H _ I h) ?_
  rintro ws s2 ⟨zs, H2, I2, rz, q2⟩
  refine ⟨I2.kIn, ?_⟩
  rw [hks]
  have rk := vals_kperm (n := 0) (m := ks.length) (pi := pi) (show Vals [] [] from .nil) rz
  refine run_g (us := []) G gd hr I2 (.of_eq ?_) rk q2
  have hl := G.len _ _ _ _ q2
  obtain ⟨oc, od, kV, doc, pm, an, cdv, ct, osl, rfl, _, _⟩ := Fn.ex
  unfold kperm at hl ⊢
  split at hl
  · rename_i hh
    rw [if_pos (by rw [← rz.length]; exact hh)]
    exact kw kV doc pm an cdv ct [] ws rfl (by rw [← rz.length]; exact hh.2)
  · have : ps.length = 0 := hl.symm
    omega
end

/-! ### the promises that are made here -/
/-- it hands back the value of which res tells -/
def spZ {α β : Type} (ps : α → List VP) (pre : α → Os) (m : α → Option β) (res : α → β → VP) (post : α → β → Os) : Sp := fun vs H Q _ =>
  ∃ (a : α) (b : β) (F : Hp) (os : Os), ClA (ps a) F vs ∧ Ow F (pre a ++ os) H ∧ m a = some b ∧ ∀ F' H' v, Same F F' → Ow F' (post a b ++ os) H' → Cl (res a b) F' v → Q v H'
/-- it hands back a new list -/
def spN {α β : Type} (ps : α → List VP) (pre : α → Os) (m : α → Option β) (n : α → β → Ent) (post : α → β → Os) : Sp := fun vs H Q _ =>
  ∃ (a : α) (b : β) (F : Hp) (os : Os), ClA (ps a) F vs ∧ Ow F (pre a ++ os) H ∧ m a = some b ∧ ∀ F' H' p, Same F F' → Ow F' ((p, n a b) :: (post a b ++ os)) H' → Q (.ref p) H'
theorem spZ_len {α β : Type} {ps : α → List VP} {pre : α → Os} {m : α → Option β} {res : α → β → VP} {post : α → β → Os} {n : Nat} (h : ∀ a, (ps a).length = n) : ∀ vs H Q E, spZ ps pre m res post vs H Q E → vs.length = n :=
  fun vs H Q E ⟨a, b, F, os, c, _⟩ => (cla_len c).trans (h a)
theorem spN_len {α β : Type} {ps : α → List VP} {pre : α → Os} {m : α → Option β} {n : α → β → Ent} {post : α → β → Os} {k : Nat} (h : ∀ a, (ps a).length = k) : ∀ vs H Q E, spN ps pre m n post vs H Q E → vs.length = k :=
  fun vs H Q E ⟨a, b, F, os, c, _⟩ => (cla_len c).trans (h a)

section
variable {X : Cx} {es : List Slot} {os os1 os2 rest : Os} {N V G : List Str} {k j : Nat} {x : Str} {p pos : Pos} {e : Expr} {as : List Expr} {kws : List Keyword} {ks : List Str} {st : Stmt} {pn : List Str} {α β : Type} {ps : α → List VP} {pre : α → Os} {m : α → Option β} {res : α → β → VP} {post : α → β → Os} {n : α → β → Ent} {gi : Nat}
theorem ex_call (B : Bd X N V G k) (hj : G[gi]? = some x) (c : Cal X.prog X.w X.K X.mg X.base j x st pn (spZ ps pre m res post)) (hl : j ≤ k) {a : α} {b : β} (hm : m a = some b) (ha : AX X es os (e :: as) (ps a) (pre a ++ rest))
    (he : starEach (e :: as) X.env = (false, eval e X.env) :: starEach as X.env := by rfl) (hpl : (backTo pos (starEach as X.env)).any (·.1) = false := by rfl) : EX X es os (.Call (.Name x p) (e :: as) [] pos) (res a b) (post a b ++ rest) := fun F σ H Q ow sl q =>
  let ⟨u, v⟩ := B.gl x (List.mem_of_getElem? hj)
  we_of (pe_g (c.mono hl) B.gd B.room u pa_u (dun_d v) he hpl) (ha F σ H _ ow sl fun F1 H1 vs e1 o1 c1 => ⟨a, b, F1, rest, c1, o1, hm, fun F2 H2 v e2 o2 c2 => q F2 H2 v (e1.trans e2) o2 c2⟩)
theorem ex_call0 (B : Bd X N V G k) (hj : G[gi]? = some x) (c : Cal X.prog X.w X.K X.mg X.base j x st pn (spZ ps pre m res post)) (hl : j ≤ k) {a : α} {b : β} (hm : m a = some b) (hp : ps a = []) (ho : os = pre a ++ rest) : EX X es os (.Call (.Name x p) [] [] pos) (res a b) (post a b ++ rest) := fun F σ H Q ow sl q =>
  let ⟨u, v⟩ := B.gl x (List.mem_of_getElem? hj)
  we_of (pe_g0 (c.mono hl) B.gd B.room u (dun_d v)) ⟨a, b, F, rest, by rw [hp]; rfl, ho ▸ ow, hm, q⟩
theorem en_call (B : Bd X N V G k) (hj : G[gi]? = some x) (c : Cal X.prog X.w X.K X.mg X.base j x st pn (spN ps pre m n post)) (hl : j ≤ k) {a : α} {b : β} (hm : m a = some b) (ha : AX X es os (e :: as) (ps a) (pre a ++ rest))
    (he : starEach (e :: as) X.env = (false, eval e X.env) :: starEach as X.env := by rfl) (hpl : (backTo pos (starEach as X.env)).any (·.1) = false := by rfl) : EN X es os (.Call (.Name x p) (e :: as) [] pos) (n a b) (post a b ++ rest) := fun F σ H Q ow sl q =>
  let ⟨u, v⟩ := B.gl x (List.mem_of_getElem? hj)
  we_of (pe_g (c.mono hl) B.gd B.room u pa_u (dun_d v) he hpl) (ha F σ H _ ow sl fun F1 H1 vs e1 o1 c1 => ⟨a, b, F1, rest, c1, o1, hm, fun F2 H2 v e2 o2 => q F2 H2 v (e1.trans e2) o2⟩)
/-- the values of keywords -/
def KX (X : Cx) (es : List Slot) (os : Os) (kws : List Keyword) (φs : List VP) (os' : Os) : Prop := ∀ F σ H, Ow F os H → Sl F es σ → ∀ Q : List L2.V → Hp → Prop, (∀ F' H' vs, Same F F' → Ow F' os' H' → ClA φs F' vs → Q vs H') →
  ∀ pos pins s, Inv X pins σ H s → wpAny (model X.prog X.w) X.A (evalAll ((backToKw pos (keywordEach kws X.env)).map (·.2))) (AP X pins σ Q) X.xe s
def WK (X : Cx) (kws : List Keyword) (σ : L2.St) (H : Hp) (Q : List L2.V → Hp → Prop) : Prop := ∀ pos pins s, Inv X pins σ H s → wpAny (model X.prog X.w) X.A (evalAll ((backToKw pos (keywordEach kws X.env)).map (·.2))) (AP X pins σ Q) X.xe s
theorem pk_u : PK X kws (WK X kws) := ⟨fun pos pins s _ _ _ I h => h pos pins s I⟩
theorem kx_nil : KX X es os [] [] os := fun F σ H ow sl Q q pos pins s I => pk_nil.run pos pins s σ H Q I (q F H [] (Same.refl F) ow rfl)
theorem kx_cons {nm : Option Str} {kpos : Pos} {φ : VP} {φs : List VP} (ha : EX X es os e φ os1) (hr : KX X es os1 kws φs os2) : KX X es os (⟨nm, e, kpos⟩ :: kws) (φ :: φs) os2 := fun F σ H ow sl Q q pos pins s I =>
  (pk_cons pe_u pk_u).run pos pins s σ H Q I (ha F σ H _ ow sl fun F1 H1 x e1 o1 c1 => hr F1 σ H1 o1 (sl.mono e1) _ fun F2 H2 vs e2 o2 c2 => q F2 H2 _ (e1.trans e2) o2 ⟨x, vs, rfl, c1.mono e2, c2⟩)
theorem cla_get {F : Hp} : ∀ {φs : List VP} {vs : List L2.V} {i : Nat}, ClA φs F vs → (φs[i]? = none ∧ vs[i]? = none) ∨ ∃ φ v, φs[i]? = some φ ∧ vs[i]? = some v ∧ Cl φ F v
  | [], _, i, h => by
    have e : _ = [] := h
    subst e
    exact .inl ⟨rfl, rfl⟩
  | φ :: φs, _, 0, ⟨v, r, e, h1, h2⟩ => by
    subst e
    exact .inr ⟨φ, v, rfl, rfl, h1⟩
  | φ :: φs, _, i + 1, ⟨v, r, e, h1, h2⟩ => by
    subst e
    rw [List.getElem?_cons_succ, List.getElem?_cons_succ]
    exact cla_get h2
theorem cla_fm {F : Hp} {φs : List VP} {vs : List L2.V} (h : ClA φs F vs) : ∀ pi : List Nat, ClA (pi.filterMap fun i => φs[i]?) F (pi.filterMap fun i => vs[i]?)
  | [] => rfl
  | i :: pi => by
    rw [List.filterMap_cons, List.filterMap_cons]
    rcases cla_get (i := i) h with ⟨e1, e2⟩ | ⟨φ, v, e1, e2, c⟩
    · rw [e1, e2]
      exact cla_fm h pi
    · rw [e1, e2]
      exact ⟨v, _, rfl, c, cla_fm h pi⟩
theorem cla_app {F : Hp} : ∀ {φs ψs : List VP} {vs us : List L2.V}, ClA φs F vs → ClA ψs F us → ClA (φs ++ ψs) F (vs ++ us)
  | [], _, _, _, h, g => by
    have e : _ = [] := h
    subst e
    exact g
  | φ :: φs, _, _, _, ⟨v, r, e, h1, h2⟩, g => by
    subst e
    exact ⟨v, _, rfl, h1, cla_app h2 g⟩
theorem cla_kperm {F : Hp} {φs ψs : List VP} {vs us : List L2.V} {n m : Nat} {pi : List Nat} (h : ClA φs F vs) (g : ClA ψs F us) : ClA (kperm n m pi φs ψs) F (kperm n m pi vs us) := by
  unfold kperm
  rw [cla_len h, cla_len g]
  split
  · exact cla_fm (cla_app h g) pi
  · rfl
theorem ex_callk {φs ψs : List VP} {nn : Nat} {pi : List Nat} (B : Bd X N V G k) (hj : G[gi]? = some x) (c : Cal X.prog X.w X.K X.mg X.base j x st pn (spZ ps pre m res post)) (hl : j ≤ k) (kw : KwOk x st pn ks nn pi) (hpn : 0 < pn.length) {a : α} {b : β} (hm : m a = some b) (ha : AX X es os (e :: as) φs os1) (hk : KX X es os1 kws ψs (pre a ++ rest))
    (hp : ps a = kperm nn ks.length pi φs ψs)
    (hall : (backToKw pos (keywordEach kws X.env)).all (·.1.isSome) = true := by rfl) (hks : (backToKw pos (keywordEach kws X.env)).filterMap (·.1) = ks := by rfl)
    (he : starEach (e :: as) X.env = (false, eval e X.env) :: starEach as X.env := by rfl)
    (hpl : ((backTo pos (starEach (e :: as) X.env)).any (·.1) || (backToKw pos (keywordEach kws X.env)).any (·.1.isNone)) = false := by rfl) : EX X es os (.Call (.Name x p) (e :: as) kws pos) (res a b) (post a b ++ rest) := fun F σ H Q ow sl q =>
  let ⟨u, v⟩ := B.gl x (List.mem_of_getElem? hj)
  we_of (pe_gk (c.mono hl) kw hpn B.gd B.room u pa_u pk_u (dun_d v) hall hks he hpl) (ha F σ H _ ow sl fun F1 H1 vs e1 o1 c1 => hk F1 σ H1 o1 (sl.mono e1) _ fun F2 H2 zs e2 o2 c2 =>
    ⟨a, b, F2, rest, by rw [hp]; exact cla_kperm (cla_mono e2 c1) c2, o2, hm, fun F3 H3 v e3 o3 c3 => q F3 H3 v ((e1.trans e2).trans e3) o3 c3⟩)
theorem ex_callk0 {ψs : List VP} {pi : List Nat} (B : Bd X N V G k) (hj : G[gi]? = some x) (c : Cal X.prog X.w X.K X.mg X.base j x st pn (spZ ps pre m res post)) (hl : j ≤ k) (kw : KwOk x st pn ks 0 pi) (hpn : 0 < pn.length) {a : α} {b : β} (hm : m a = some b) (hk : KX X es os kws ψs (pre a ++ rest))
    (hp : ps a = kperm 0 ks.length pi [] ψs)
    (hall : (backToKw pos (keywordEach kws X.env)).all (·.1.isSome) = true := by rfl) (hks : (backToKw pos (keywordEach kws X.env)).filterMap (·.1) = ks := by rfl)
    (hpl : ((backTo pos (starEach [] X.env)).any (·.1) || (backToKw pos (keywordEach kws X.env)).any (·.1.isNone)) = false := by rfl) : EX X es os (.Call (.Name x p) [] kws pos) (res a b) (post a b ++ rest) := fun F σ H Q ow sl q =>
  let ⟨u, v⟩ := B.gl x (List.mem_of_getElem? hj)
  we_of (pe_gk0 (c.mono hl) kw hpn B.gd B.room u pk_u (dun_d v) hall hks hpl) (hk F σ H ow sl _ fun F2 H2 zs e2 o2 c2 =>
    ⟨a, b, F2, rest, by rw [hp]; exact cla_kperm (φs := []) (vs := []) rfl c2, o2, hm, fun F3 H3 v e3 o3 c3 => q F3 H3 v (e2.trans e3) o3 c3⟩)
theorem en_callk {φs ψs : List VP} {nn : Nat} {pi : List Nat} (B : Bd X N V G k) (hj : G[gi]? = some x) (c : Cal X.prog X.w X.K X.mg X.base j x st pn (spN ps pre m n post)) (hl : j ≤ k) (kw : KwOk x st pn ks nn pi) (hpn : 0 < pn.length) {a : α} {b : β} (hm : m a = some b) (ha : AX X es os (e :: as) φs os1) (hk : KX X es os1 kws ψs (pre a ++ rest))
    (hp : ps a = kperm nn ks.length pi φs ψs)
    (hall : (backToKw pos (keywordEach kws X.env)).all (·.1.isSome) = true := by rfl) (hks : (backToKw pos (keywordEach kws X.env)).filterMap (·.1) = ks := by rfl)
    (he : starEach (e :: as) X.env = (false, eval e X.env) :: starEach as X.env := by rfl)
    (hpl : ((backTo pos (starEach (e :: as) X.env)).any (·.1) || (backToKw pos (keywordEach kws X.env)).any (·.1.isNone)) = false := by rfl) : EN X es os (.Call (.Name x p) (e :: as) kws pos) (n a b) (post a b ++ rest) := fun F σ H Q ow sl q =>
  let ⟨u, v⟩ := B.gl x (List.mem_of_getElem? hj)
  we_of (pe_gk (c.mono hl) kw hpn B.gd B.room u pa_u pk_u (dun_d v) hall hks he hpl) (ha F σ H _ ow sl fun F1 H1 vs e1 o1 c1 => hk F1 σ H1 o1 (sl.mono e1) _ fun F2 H2 zs e2 o2 c2 =>
    ⟨a, b, F2, rest, by rw [hp]; exact cla_kperm (cla_mono e2 c1) c2, o2, hm, fun F3 H3 v e3 o3 => q F3 H3 v ((e1.trans e2).trans e3) o3⟩)
theorem en_callk0 {ψs : List VP} {pi : List Nat} (B : Bd X N V G k) (hj : G[gi]? = some x) (c : Cal X.prog X.w X.K X.mg X.base j x st pn (spN ps pre m n post)) (hl : j ≤ k) (kw : KwOk x st pn ks 0 pi) (hpn : 0 < pn.length) {a : α} {b : β} (hm : m a = some b) (hk : KX X es os kws ψs (pre a ++ rest))
    (hp : ps a = kperm 0 ks.length pi [] ψs)
    (hall : (backToKw pos (keywordEach kws X.env)).all (·.1.isSome) = true := by rfl) (hks : (backToKw pos (keywordEach kws X.env)).filterMap (·.1) = ks := by rfl)
    (hpl : ((backTo pos (starEach [] X.env)).any (·.1) || (backToKw pos (keywordEach kws X.env)).any (·.1.isNone)) = false := by rfl) : EN X es os (.Call (.Name x p) [] kws pos) (n a b) (post a b ++ rest) := fun F σ H Q ow sl q =>
  let ⟨u, v⟩ := B.gl x (List.mem_of_getElem? hj)
  we_of (pe_gk0 (c.mono hl) kw hpn B.gd B.room u pk_u (dun_d v) hall hks hpl) (hk F σ H ow sl _ fun F2 H2 zs e2 o2 c2 =>
    ⟨a, b, F2, rest, by rw [hp]; exact cla_kperm (φs := []) (vs := []) rfl c2, o2, hm, fun F3 H3 v e3 o3 => q F3 H3 v (e2.trans e3) o3⟩)
end
end Z
/-! Z, part E: statements. -/
namespace Z
open PySem PySem.Spec PyProof.Rows L2

/-- what a body's statements need beside Bd -/
structure Bt (X : Cx) (V : List Str) : Prop where
  fn : ∀ x, X.fn x = true
  loc : ∀ x ∈ V, Loc X.env.scope x
  po : PassesOwn (model X.prog X.w) X.A X.env X.xe
/-- the state fits -/
def At (F0 : Hp) (es : List Slot) (os : Os) (σ : L2.St) (H : Hp) : Prop := ∃ F, Same F0 F ∧ Ow F os H ∧ Sl F es σ
section
variable {X : Cx} {es es' : List Slot} {os os1 os2 : Os} {F0 : Hp} {rest : List Stmt} {D : Ends} {N V G W : List Str} {k i vi : Nat} {x : Str} {pos pos' : Pos} {e : Expr} {φ : VP} {n : Ent}
theorem sx_at (h : ∀ σ H, At F0 es os σ H → WPs X rest D σ H) : SX X es os F0 rest D := fun F σ H s ow sl => h σ H ⟨F, s, ow, sl⟩
theorem SX.at (h : SX X es os F0 rest D) {σ : L2.St} {H : Hp} (a : At F0 es os σ H) : WPs X rest D σ H := let ⟨F, s, ow, sl⟩ := a; h F σ H s ow sl
theorem SX.perm (h : SX X es os F0 rest D) (p : os1.Perm os) : SX X es os1 F0 rest D := fun F σ H s ow sl => h F σ H s (ow.perm p) sl
theorem SX.weak (h : SX X es' os F0 rest D) (w : Wk es es') : SX X es os F0 rest D := fun F σ H s ow sl => h F σ H s ow (sl.weak w)
theorem SX.drop {q : Addr × Ent} (h : SX X es os F0 rest D) : SX X es (q :: os) F0 rest D := fun F σ H s ow sl => h F σ H s ow.drop sl
theorem sx_nil (h : ∀ σ H, At F0 es os σ H → D.nx σ H) : SX X es os F0 [] D := fun F σ H s ow sl => wps_nil (h σ H ⟨F, s, ow, sl⟩)
/-- behind a branch the rest goes on -/
theorem sx_fall {D' : Ends} (h : SX X es os F0 rest D') (e : D.nx = WPs X rest D') : SX X es os F0 [] D := sx_nil fun σ H a => by
  rw [e]
  exact h.at a
theorem sx_asg (B : Bd X N W G k) (T : Bt X V) (hi : N[i]? = some x) (hv : V[vi]? = some x) (he : EX X es os e φ os1) (h : SX X (es.set i (sl φ)) os1 F0 rest D) (hs : swapsWith e (some (.Name x pos')) pos.line X.env = pure false := by rfl) :
    SX X es os F0 (.Assign [.Name x pos'] e pos :: rest) D := fun F σ H s ow sl =>
  wps_cons (ws_of (ps_set (B.hN ▸ B.nd) (B.hN ▸ hi) (T.loc x (List.mem_of_getElem? hv)) pe_u hs (.inl (T.fn x))) (he F σ H _ ow sl fun F1 H1 v e1 o1 c1 => h F1 _ H1 (s.trans e1) o1 ((sl.mono e1).put c1)))
theorem sx_asgN (B : Bd X N W G k) (T : Bt X V) (hi : N[i]? = some x) (hv : V[vi]? = some x) (he : EN X es os e n os1) (h : ∀ p, SX X (es.set i (sl (own p))) ((p, n) :: os1) F0 rest D) (hs : swapsWith e (some (.Name x pos')) pos.line X.env = pure false := by rfl) :
    SX X es os F0 (.Assign [.Name x pos'] e pos :: rest) D := fun F σ H s ow sl =>
  wps_cons (ws_of (ps_set (B.hN ▸ B.nd) (B.hN ▸ hi) (T.loc x (List.mem_of_getElem? hv)) pe_u hs (.inl (T.fn x))) (he F σ H _ ow sl fun F1 H1 p e1 o1 => h p F1 _ H1 (s.trans e1) o1 ((sl.mono e1).put cl_own)))
theorem sx_expr (he : EX X es os e φ os1) (h : SX X es os1 F0 rest D) (hs : swapsWith e none pos.line X.env = pure false := by rfl) : SX X es os F0 (.Expr e pos :: rest) D := fun F σ H s ow sl =>
  wps_cons (ws_of (ps_expr pe_u hs) (he F σ H _ ow sl fun F1 H1 v e1 o1 c1 => h F1 σ H1 (s.trans e1) o1 (sl.mono e1)))
theorem sx_ret (he : EX X es os e φ os1) (h : ∀ F H v, Same F0 F → Ow F os1 H → Cl φ F v → D.rt v H) : SX X es os F0 (.Return (some e) pos :: rest) D := fun F σ H s ow sl =>
  wps_cons (ws_of (ps_ret pe_u) (he F σ H _ ow sl fun F1 H1 v e1 o1 c1 => h F1 H1 v (s.trans e1) o1 c1))
theorem sx_retN (he : EN X es os e n os1) (h : ∀ F H p, Same F0 F → Ow F ((p, n) :: os1) H → D.rt (.ref p) H) : SX X es os F0 (.Return (some e) pos :: rest) D := fun F σ H s ow sl =>
  wps_cons (ws_of (ps_ret pe_u) (he F σ H _ ow sl fun F1 H1 v e1 o1 => h F1 H1 v (s.trans e1) o1))
theorem sx_if {c : Expr} {a b : List Stmt} {t : Bool} (hc : TX X es os c t os1) (ha : t = true → SX X es os1 F0 a { D with nx := WPs X rest D }) (hb : t = false → SX X es os1 F0 b { D with nx := WPs X rest D }) : SX X es os F0 (.If c a b pos :: rest) D := fun F σ H s ow sl =>
  wps_cons (ws_of (ps_if pt_u pss_u pss_u) (hc F σ H _ ow sl fun F1 H1 e1 o1 => by
    cases t with
    | true =>
      rw [if_pos rfl]
      exact ha rfl F1 σ H1 (s.trans e1) o1 (sl.mono e1)
    | false =>
      rw [if_neg Bool.false_ne_true]
      exact hb rfl F1 σ H1 (s.trans e1) o1 (sl.mono e1)))
theorem sx_never (h : False) : SX X es os F0 rest D := h.elim
theorem sx_brk (h : ∀ σ H, At F0 es os σ H → D.bk σ H) : SX X es os F0 (.Break pos :: rest) D := fun F σ H s ow sl => wps_cons (ws_of ps_break (h σ H ⟨F, s, ow, sl⟩))
theorem sx_cont (h : ∀ σ H, At F0 es os σ H → D.ct σ H) : SX X es os F0 (.Continue pos :: rest) D := fun F σ H s ow sl => wps_cons (ws_of ps_continue (h σ H ⟨F, s, ow, sl⟩))
theorem sx_pass (h : SX X es os F0 rest D) : SX X es os F0 (.Pass pos :: rest) D := fun F σ H s ow sl => wps_cons (ws_of ps_pass (h F σ H s ow sl))
/-- x += e (ints) -/
theorem sx_addI {a b : Int} (B : Bd X N W G k) (T : Bt X V) (hi : N[i]? = some x) (hv : V[vi]? = some x) (hx : es[i]? = some (sl (dat (.int a)))) (he : EX X es os e (dat (.int b)) os1) (h : SX X (es.set i (sl (dat (.int (a + b))))) os1 F0 rest D) :
    SX X es os F0 (.AugAssign (.Name x pos') .Add e pos :: rest) D := fun F σ H s ow sl => by
  obtain ⟨v, ev, cv⟩ := sl.val hx
  refine wps_cons (ws_of (ps_aug (B.hN ▸ B.nd) (B.hN ▸ hi) (T.loc x (List.mem_of_getElem? hv)) pe_u ip_add (.inl (T.fn x))) ⟨v, ev, he F σ H _ ow sl fun F1 H1 y e1 o1 c1 => ?_⟩)
  exact ⟨a, b, clv_int cv, clv_int c1, h F1 _ H1 (s.trans e1) o1 ((sl.mono e1).put (cl_dat (.int _)))⟩
/-- a, b = e1, e2 of plain local names -/
theorem sx_par {j : Nat} {y : Str} {a b : Expr} {px py pt p2 : Pos} {kt k2 : Nat} {φ ψ : VP} (B : Bd X N W G k) (hi : N[i]? = some x) (hj : N[j]? = some y) (hij : i ≠ j) (hx : X.env.scope.names.lookup x = some .local) (hy : X.env.scope.names.lookup y = some .local)
    (ha : AX X es os [a, b] [φ, ψ] os1) (hw : swappedStores [.Tuple [.Name x px, .Name y py] kt pt] (.Tuple [a, b] k2 p2) X.env = pure (some [x, y])) (h : SX X ((es.set i (sl φ)).set j (sl ψ)) os1 F0 rest D)
    (hs : swapsWithSole [.Tuple [.Name x px, .Name y py] kt pt] (.Tuple [a, b] k2 p2) pos.line X.env = pure false := by rfl) : SX X es os F0 (.Assign [.Tuple [.Name x px, .Name y py] kt pt] (.Tuple [a, b] k2 p2) pos :: rest) D := fun F σ H s ow sl =>
  wps_cons (ws_of (ps_par B.calm (B.hN ▸ B.nd) (B.hN ▸ hi) (B.hN ▸ hj) hij hx hy pa_u hw hs) (ha F σ H _ ow sl fun F1 H1 vs e1 o1 c1 => by
    obtain ⟨v, u, rfl, h1, h2⟩ := cla2 c1
    exact ⟨v, u, rfl, h F1 _ H1 (s.trans e1) o1 (((sl.mono e1).put h1).put h2)⟩))

/-! ### targets -/
def WG (X : Cx) (tg : Expr) : TG := fun v σ H Q => ∀ pins s u, Inv X pins σ H s → RelV v u → wpAny (model X.prog X.w) X.A (assign tg X.env u) (fun _ s' => ∃ σ' H', Inv X pins σ' H' s' ∧ Q σ' H') X.xe s
theorem pg_u {tg : Expr} : PG X tg (WG X tg) := ⟨fun pins s _ _ _ u _ I r h => h pins s u I r⟩
theorem wg_of {tg : Expr} {g : TG} {v : L2.V} {σ : L2.St} {H : Hp} {Q : L2.St → Hp → Prop} (h : PG X tg g) (q : g v σ H Q) : WG X tg v σ H Q := fun pins s u I r => h.run pins s σ H v u Q I r q
/-- to assign a value of φ to tg changes the slots as f tells -/
def GX (X : Cx) (tg : Expr) (φ : VP) (f : List Slot → List Slot) : Prop := ∀ es os F σ H v Q, Ow F os H → Sl F es σ → Cl φ F v → (∀ σ', Sl F (f es) σ' → Q σ' H) → WG X tg v σ H Q
theorem gx_name (B : Bd X N W G k) (T : Bt X V) (hi : N[i]? = some x) (hv : V[vi]? = some x) : GX X (.Name x pos) φ (fun es => es.set i (sl φ)) := fun es os F σ H v Q ow sl c q =>
  wg_of (pg_name (B.hN ▸ B.nd) (B.hN ▸ hi) (T.loc x (List.mem_of_getElem? hv)) (.inl (T.fn x))) (q _ (sl.put c))
theorem gx_pair {a b : Expr} {kk : Nat} {d1 d2 : PyData} {f g : List Slot → List Slot} (B : Bd X N W G k) (h1 : GX X a (dat d1) f) (h2 : GX X b (dat d2) g) (hn : (assignEach [a, b] X.env).length = 2 := by rfl) (hst : (assignEach [a, b] X.env).findIdx? (·.1) = none := by rfl)
    (hs : (assignEach [a, b] X.env).map (·.2) = assign a X.env :: (assignEach [b] X.env).map (·.2) := by rfl) (hs2 : (assignEach [b] X.env).map (·.2) = assign b X.env :: (assignEach [] X.env).map (·.2) := by rfl) :
    GX X (.Tuple [a, b] kk pos) (dat (.tuple [d1, d2])) (fun es => g (f es)) := fun es os F σ H v Q ow sl c q => by
  obtain ⟨p, vs, rfl, hp, hv⟩ := rdt_dat F v c
  cases hv with
  | cons k1 r =>
    cases r with
    | cons k2 r =>
      cases r
      refine wg_of (pg_tup (n := 2) B.calm (pgs_cons pg_u (pgs_cons pg_u pgs_nil hs2) hs) hn hst) ⟨p, _, rfl, .of (ow.ex _ _ hp), rfl, _, _, rfl, ?_⟩
      refine h1 es os F σ H _ _ ow sl (cl_dat k1) fun σ1 s1 => ⟨_, _, rfl, ?_⟩
      exact h2 _ os F σ1 H _ _ ow s1 (cl_dat k2) fun σ2 s2 => ⟨rfl, q σ2 s2⟩
theorem gx_triple {a b c : Expr} {kk : Nat} {d1 d2 d3 : PyData} {f g h : List Slot → List Slot} (B : Bd X N W G k) (h1 : GX X a (dat d1) f) (h2 : GX X b (dat d2) g) (h3 : GX X c (dat d3) h) (hn : (assignEach [a, b, c] X.env).length = 3 := by rfl) (hst : (assignEach [a, b, c] X.env).findIdx? (·.1) = none := by rfl)
    (hs : (assignEach [a, b, c] X.env).map (·.2) = assign a X.env :: (assignEach [b, c] X.env).map (·.2) := by rfl) (hs2 : (assignEach [b, c] X.env).map (·.2) = assign b X.env :: (assignEach [c] X.env).map (·.2) := by rfl) (hs3 : (assignEach [c] X.env).map (·.2) = assign c X.env :: (assignEach [] X.env).map (·.2) := by rfl) :
    GX X (.Tuple [a, b, c] kk pos) (dat (.tuple [d1, d2, d3])) (fun es => h (g (f es))) := fun es os F σ H v Q ow sl c q => by
  obtain ⟨p, vs, rfl, hp, hv⟩ := rdt_dat F v c
  cases hv with
  | cons k1 r =>
    cases r with
    | cons k2 r =>
      cases r with
      | cons k3 r =>
        cases r
        refine wg_of (pg_tup (n := 3) B.calm (pgs_cons pg_u (pgs_cons pg_u (pgs_cons pg_u pgs_nil hs3) hs2) hs) hn hst) ⟨p, _, rfl, .of (ow.ex _ _ hp), rfl, _, _, rfl, ?_⟩
        refine h1 es os F σ H _ _ ow sl (cl_dat k1) fun σ1 s1 => ⟨_, _, rfl, ?_⟩
        refine h2 _ os F σ1 H _ _ ow s1 (cl_dat k2) fun σ2 s2 => ⟨_, _, rfl, ?_⟩
        exact h3 _ os F σ2 H _ _ ow s2 (cl_dat k3) fun σ3 s3 => ⟨rfl, q σ3 s3⟩
/-- a, b = e: e a tuple -/
theorem sx_unp {tg : Expr} {f : List Slot → List Slot} (hg : GX X tg φ f) (he : EX X es os e φ os1) (h : SX X (f es) os1 F0 rest D) (hs : swapsWithSole [tg] e pos.line X.env = pure false := by rfl) (hw : swappedStores [tg] e X.env = pure none := by rfl)
    (h1 : (assignEach [tg] X.env).map (·.2) = [assign tg X.env] := by rfl) : SX X es os F0 (.Assign [tg] e pos :: rest) D := fun F σ H s ow sl =>
  wps_cons (ws_of (ps_asg pe_u pg_u hs hw h1) (he F σ H _ ow sl fun F1 H1 v e1 o1 c1 => hg es os1 F1 σ H1 v _ o1 (sl.mono e1) c1 fun σ1 s1 => h F1 σ1 H1 (s.trans e1) o1 s1))

/-! ### methods of one's own lists -/
theorem ty_own {F H : Hp} {K : PySem.W.Frag} {p : Addr} {ds : List PyData} {j : Nat} (ow : Ow F os H) (hj : os[j]? = some (p, ol ds)) : ∃ vs, H p = some (.lst vs) ∧ DqAll F vs ds ∧ tyV K "list" (.ref p) H := by
  obtain ⟨_, o, ho, z⟩ := ow.own _ (List.mem_of_getElem? hj)
  obtain ⟨vs, rfl, hv⟩ := z F (Same.refl F)
  exact ⟨vs, ho, hv, .inl ⟨rfl, vs, .of ho⟩⟩
/-- a list that is one's own is rewritten -/
theorem ow_set {F H : Hp} {p : Addr} {ds ds' : List PyData} {vs' : List L2.V} {j : Nat} (ow : Ow F os H) (hj : os[j]? = some (p, ol ds)) (h : DqAll F vs' ds') : Ow F (os.set j (p, ol ds')) (upd H p (.lst vs')) :=
  ((ow.perm (perm_at hj)).put fun G g => ⟨vs', rfl, dqall_mono g _ _ h⟩).perm (perm_set hj)
theorem ex_append {a : Expr} {apos cpos : Pos} {p : Addr} {ds : List PyData} {d : PyData} {j : Nat} (ho : EX X es os a (own p) os) (he : EX X es os e (dat d) os1) (h0 : os[j]? = some (p, ol ds0)) (hj : os1[j]? = some (p, ol ds)) (hz : ds.length < sizeLine)
    (hbase : attributeBase a "append" X.env (eval a X.env) = eval a X.env := by rfl) (hline : (apos.endLine == cpos.line) = true := by rfl) (hs : starEach [e] X.env = (false, eval e X.env) :: starEach [] X.env := by rfl)
    (hfew : ((backTo cpos (starEach [e] X.env)).all (fun x => !x.1) && (backToKw cpos (keywordEach [] X.env)).all (fun x => x.1.isSome) && decide ([e].length + ([] : List Keyword).length + (if ([] : List Keyword).isEmpty then 0 else 1) < 30)) = true := by rfl)
    (hplain : (backTo cpos (starEach [] X.env)).any (·.1) = false := by rfl) : EX X es os (.Call (.Attribute a "append" apos) [e] [] cpos) (dat .none) (os1.set j (p, ol (ds ++ [d]))) := fun F σ H Q ow sl q =>
  we_of (pe_bm PySem.F.plainAttrs_list PySem.F.slot_list_append PySem.F.type_list_append mt_append pe_u pa_u hbase hfew hline hs hplain) (ho F σ H _ ow sl fun F1 H1 v e1 o1 c1 => by
    obtain rfl : v = .ref p := c1.now
    obtain ⟨_, _, _, ty⟩ := ty_own (K := X.K) o1 h0
    refine ⟨ty, wa_of (pa_cons pe_u pa_nil hs) (he F1 σ H1 _ o1 (sl.mono e1) fun F2 H2 u e2 o2 c2 => ?_)⟩
    obtain ⟨vs, hp, hv, _⟩ := ty_own (K := X.K) o2 hj
    exact ⟨p, vs, u, rfl, rfl, hp, by rw [dqall_len hv]; exact hz, q F2 _ .non (e1.trans e2) (ow_set o2 hj (dqall_app hv (.cons c2.now .nil))) (cl_dat .non)⟩)
theorem dqall_last {F : Hp} : ∀ {ds : List PyData} {vs : List L2.V} {d : PyData}, DqAll F vs ds → ds.getLast? = some d → ∃ v, vs[vs.length - 1]? = some v ∧ Dq F v d ∧ DqAll F vs.dropLast ds.dropLast := fun {ds vs d} h e => by
  rw [List.getLast?_eq_getElem?] at e
  obtain ⟨v, e2, hd⟩ := dqall_get' h e
  refine ⟨v, by rw [dqall_len h]; exact e2, hd, ?_⟩
  rw [List.dropLast_eq_take, List.dropLast_eq_take, dqall_len h]
  exact dqall_take _ h
theorem ex_pop {a : Expr} {apos cpos : Pos} {p : Addr} {ds : List PyData} {d : PyData} {j : Nat} (ho : EX X es os a (own p) os) (hj : os[j]? = some (p, ol ds)) (hd : ds.getLast? = some d)
    (hbase : attributeBase a "pop" X.env (eval a X.env) = eval a X.env := by rfl) (hline : (apos.endLine == cpos.line) = true := by rfl) : EX X es os (.Call (.Attribute a "pop" apos) [] [] cpos) (dat d) (os.set j (p, ol ds.dropLast)) := fun F σ H Q ow sl q =>
  we_of (pe_bm0 PySem.F.plainAttrs_list PySem.F.slot_list_pop PySem.F.type_list_pop mt_pop pe_u hbase hline) (ho F σ H _ ow sl fun F1 H1 v e1 o1 c1 => by
    obtain rfl : v = .ref p := c1.now
    obtain ⟨vs, hp, hv, ty⟩ := ty_own (K := X.K) o1 hj
    obtain ⟨u, eu, hu, hr⟩ := dqall_last hv hd
    exact ⟨ty, p, vs, u, rfl, rfl, hp, eu, q F1 _ u e1 (ow_set o1 hj hr) (cl_dat hu)⟩)
/-- xs[i] = e -/
theorem sx_setL {a b : Expr} {tpos : Pos} {p : Addr} {ds : List PyData} {d : PyData} {j m : Nat} {z : Int} (he : EX X es os e (dat d) os1) (ho : EX X es os1 a (own p) os1) (hb : EX X es os1 b (dat (.int z)) os2) (hj : os2[j]? = some (p, ol ds)) (hz : ixN ds.length z = some m) (h : SX X es (os2.set j (p, ol (ds.set m d))) F0 rest D)
    (hs : swapsWithSole [.Subscript a b tpos] e pos.line X.env = pure false := by rfl) (hw : swappedStores [.Subscript a b tpos] e X.env = pure none := by rfl) (h1 : (assignEach [.Subscript a b tpos] X.env).map (·.2) = [assign (.Subscript a b tpos) X.env] := by rfl)
    (hsub : ∀ v, assign (.Subscript a b tpos) X.env v = (do
      let ov ← holding [v] (eval a X.env)
      let iv ← holding [v, ov] (eval b X.env)
      standAt tpos
      holding [v, ov, iv] (setItem ov iv v)
      release [v, ov, iv] []) := by intro _; rfl) : SX X es os F0 (.Assign [.Subscript a b tpos] e pos :: rest) D := fun F σ H s ow sl =>
  wps_cons (ws_of (ps_asg pe_u (pg_sub pe_u pe_u set_list hsub) hs hw h1) (he F σ H _ ow sl fun F1 H1 v e1 o1 c1 => ho F1 σ H1 _ o1 (sl.mono e1) fun F2 H2 w e2 o2 c2 => hb F2 σ H2 _ o2 (sl.mono (e1.trans e2)) fun F3 H3 u e3 o3 c3 => by
    obtain rfl : w = .ref p := c2.now
    obtain ⟨vs, hp, hv, _⟩ := ty_own (K := X.K) o3 hj
    refine ⟨p, vs, z, m, rfl, clv_int c3, hp, by rw [dqall_len hv]; exact hz, ?_⟩
    have e := (e1.trans e2).trans e3
    exact h F3 σ _ (s.trans e) (ow_set o3 hj (dqall_set ((c1.mono e2).mono e3).now m hv)) (sl.mono e)))
end
end Z
/-! Z, part F: loops and list comprehensions. -/
namespace Z
open PySem PySem.Spec PyProof.Rows L2

/-! ### the mirrors of loops -/
/-- one turn after another; none: it raises -/
def lp {α S : Type} (f : S → α → Option S) : List α → S → Option S
  | [], s => some s
  | x :: xs, s => (f s x).bind (lp f xs)
inductive Step (R S : Type) where
  | go (s : S) | brk (s : S) | ret (r : R)
/-- what follows a turn -/
def Step.aft {R S : Type} (k : S → Option (Sum R S)) : Step R S → Option (Sum R S)
  | .go s => k s
  | .brk s => some (.inr s)
  | .ret r => some (.inl r)
/-- .. that may be left: inl, what is handed back; inr, the state behind -/
def lpR {α R S : Type} (f : S → α → Option (Step R S)) : List α → S → Option (Sum R S)
  | [], s => some (.inr s)
  | x :: xs, s => (f s x).bind (Step.aft (lpR f xs))
/-- while, at most so many turns -/
def wh {R S : Type} (c : S → Option Bool) (f : S → Option (Step R S)) : Nat → S → Option (Sum R S)
  | 0, _ => none
  | n + 1, s => (c s).bind fun b => if b = true then (f s).bind (Step.aft (wh c f n)) else some (.inr s)
/-- a comprehension whose element may change the state -/
def lcS {α β S : Type} (f : S → α → Option (Option β × S)) : List α → S → Option (List β × S)
  | [], s => some ([], s)
  | x :: xs, s => (f s x).bind fun t => (lcS f xs t.2).bind fun u => some (t.1.toList ++ u.1, u.2)
def range' (a b : Int) : List Int := (List.range (b - a).toNat).map fun (i : Nat) => a + (i : Int)

section
variable {X : Cx} {es : List Slot} {os os1 os2 : Os} {F0 : Hp} {rest : List Stmt} {D : Ends} {N V G W : List Str} {k i vi gi : Nat} {x : Str} {p pos : Pos} {e e2 : Expr} {α : Type}

/-! ### what is walked -/
def WI (X : Cx) (tg iter : Expr) (σ : L2.St) (H : Hp) (R : It → Hp → Prop) : Prop := ∀ pins s, Inv X pins σ H s →
    wpAny (model X.prog X.w) X.A (eval iter X.env) (fun v s1 => wpAny (model X.prog X.w) X.A (pyIter v) (PIE X pins σ tg R) X.xe s1) X.xe s
theorem pi_u {tg iter : Expr} : PI X tg iter (WI X tg iter) := ⟨fun pins s _ _ _ I h => h pins s I⟩
theorem wi_of {tg iter : Expr} {w : TI} {σ : L2.St} {H : Hp} {R : It → Hp → Prop} (h : PI X tg iter w) (q : w σ H R) : WI X tg iter σ H R := fun pins s I => h.run pins s σ H R I q
/-- J yields the xs, as vp tells of each, from F on, while c holds of what is owned -/
def Good (J : It) (F : Hp) (xs : List α) (vp : α → VP) (c : Os → Prop) : Prop := ∀ F2 H2 os2 i, Same F F2 → Ow F2 os2 H2 → c os2 →
  (xs.length ≤ i → J.stop i H2) ∧ ∀ x, xs[i]? = some x → J.go i H2 ∧ ∀ v H3, J.yld i H2 v H3 → ∃ F3, Same F2 F3 ∧ Ow F3 os2 H3 ∧ Cl (vp x) F3 v
def IX (X : Cx) (tg : Expr) (es : List Slot) (os : Os) (iter : Expr) (xs : List α) (vp : α → VP) (c : Os → Prop) (os' : Os) : Prop := ∀ F σ H R, Ow F os H → Sl F es σ → (∀ F' H' J, Same F F' → Ow F' os' H' → Good J F' xs vp c → R J H') → WI X tg iter σ H R
def anyOs : Os → Prop := fun _ => True
theorem range_get {n i : Nat} {lo x : Int} (h : ((List.range n).map fun (i : Nat) => lo + (i : Int))[i]? = some x) : i < n ∧ x = lo + (i : Int) := by
  rw [List.getElem?_map] at h
  by_cases hi : i < n
  · rw [List.getElem?_range hi] at h
    exact ⟨hi, (Option.some.inj h).symm⟩
  · rw [List.getElem?_eq_none (by rw [List.length_range]; omega)] at h
    cases h
theorem good_range {F : Hp} {lo : Int} {n : Nat} : Good (Itr lo n) F ((List.range n).map fun (i : Nat) => lo + (i : Int)) (fun x => dat (.int x)) anyOs := fun F2 H2 os2 i s ow _ => by
  refine ⟨fun h => show n ≤ i by simpa using h, fun x hx => ?_⟩
  obtain ⟨h1, rfl⟩ := range_get hx
  refine ⟨h1, fun v H3 y => ?_⟩
  obtain ⟨rfl, rfl⟩ := y
  exact ⟨F2, Same.refl F2, ow, cl_dat (.int _)⟩
theorem ix_range1 {tg : Expr} {b : Int} (B : Bd X N W G k) (hj : G[gi]? = some "range") (hm : X.mg "range" = none) (hb : -(2 ^ 62) ≤ b ∧ b < 2 ^ 62) (ha : EX X es os e (dat (.int b)) os1) (hs : starEach [e] X.env = [(false, eval e X.env)] := by rfl) :
    IX X tg es os (.Call (.Name "range" p) [e] [] pos) (range' 0 b) (fun x => dat (.int x)) anyOs os1 := fun F σ H R ow sl q =>
  wi_of (pi_range1 (B.gl _ (List.mem_of_getElem? hj)).1 hm pa_u hs) (wa_of (pa_cons pe_u pa_nil hs) (ha F σ H _ ow sl fun F1 H1 v e1 o1 c1 => ⟨b, by rw [clv_int c1], hb.1, hb.2, q F1 H1 _ e1 o1 (by
    have := good_range (F := F1) (lo := 0) (n := b.toNat)
    unfold range'
    rw [Int.sub_zero]
    exact this)⟩))
theorem ix_range2 {tg : Expr} {a b : Int} (B : Bd X N W G k) (hj : G[gi]? = some "range") (hm : X.mg "range" = none) (hab : -(2 ^ 62) ≤ a ∧ a < 2 ^ 62 ∧ -(2 ^ 62) ≤ b ∧ b < 2 ^ 62) (ha : EX X es os e (dat (.int a)) os1) (hb : EX X es os1 e2 (dat (.int b)) os2)
    (hs : starEach [e, e2] X.env = [(false, eval e X.env), (false, eval e2 X.env)] := by rfl) (hs2 : starEach [e2] X.env = [(false, eval e2 X.env)] := by rfl) :
    IX X tg es os (.Call (.Name "range" p) [e, e2] [] pos) (range' a b) (fun x => dat (.int x)) anyOs os2 := fun F σ H R ow sl q =>
  wi_of (pi_range2 (B.gl _ (List.mem_of_getElem? hj)).1 hm pa_u hs hs2) (wa_of (pa_cons pe_u (pa_cons pe_u pa_nil hs2) (by rw [hs, hs2])) (ha F σ H _ ow sl fun F1 H1 v e1 o1 c1 => hb F1 σ H1 _ o1 (sl.mono e1) fun F2 H2 u e2 o2 c2 =>
    ⟨a, b, by rw [clv_int c1, clv_int c2], hab, q F2 H2 _ (e1.trans e2) o2 good_range⟩))
theorem dqall_map {F : Hp} {xs : List α} {enc : α → PyData} {vs : List L2.V} {i : Nat} {x : α} (h : DqAll F vs (xs.map enc)) (e : xs[i]? = some x) : ∃ v, vs[i]? = some v ∧ Dq F v (enc x) := dqall_get' h (by rw [List.getElem?_map, e]; rfl)
/-- a list (read as rl tells) -/
theorem ix_list {tg : Expr} {φ : VP} {xs : List α} {enc : α → PyData} {c : Os → Prop} (he : EX X es os e φ os1) (hc : ∀ o, c o → RdL X φ o (xs.map enc)) (h0 : c os1) : IX X tg es os e xs (fun x => dat (enc x)) c os1 := fun F σ H R ow sl q =>
  wi_of (pi_list pe_u) (he F σ H _ ow sl fun F1 H1 v e1 o1 c1 => by
    obtain ⟨a, vs, rfl, h1, h2⟩ := hc os1 h0 F1 H1 v o1 c1
    refine ⟨a, rfl, ⟨vs, h1⟩, q F1 H1 _ e1 o1 fun F2 H2 os2 i s ow2 k2 => ?_⟩
    obtain ⟨a', us, ea, g1, g2⟩ := hc os2 k2 F2 H2 _ ow2 (c1.mono s)
    cases ea
    have hl := dqall_len g2
    rw [List.length_map] at hl
    refine ⟨fun h => ⟨us, g1, by omega⟩, fun x hx => ?_⟩
    obtain ⟨u, hu, hd⟩ := dqall_map g2 hx
    refine ⟨⟨us, u, g1, hu⟩, fun w H3 y => ?_⟩
    obtain ⟨rfl, hy⟩ := y
    have ew : us[i]? = some w := hy us g1
    rw [hu] at ew
    cases ew
    exact ⟨F2, Same.refl F2, ow2, cl_dat hd⟩)
theorem ix_tup {tg : Expr} {φ : VP} {xs : List α} {enc : α → PyData} (he : EX X es os e φ os1) (hr : RdT φ (xs.map enc)) : IX X tg es os e xs (fun x => dat (enc x)) anyOs os1 := fun F σ H R ow sl q =>
  wi_of (pi_tup pe_u) (he F σ H _ ow sl fun F1 H1 v e1 o1 c1 => by
    obtain ⟨a, vs, rfl, h1, h2⟩ := hr F1 v c1
    refine ⟨a, rfl, ⟨vs, .of (o1.ex _ _ h1)⟩, q F1 H1 _ e1 o1 fun F2 H2 os2 i s ow2 k2 => ?_⟩
    have g1 := ow2.ex _ _ (s _ _ h1)
    have g2 := dqall_mono s _ _ h2
    have hl := dqall_len g2
    rw [List.length_map] at hl
    refine ⟨fun h => ⟨vs, .of g1, by omega⟩, fun x hx => ?_⟩
    obtain ⟨u, hu, hd⟩ := dqall_map g2 hx
    refine ⟨⟨vs, u, .of g1, hu⟩, fun w H3 y => ?_⟩
    obtain ⟨rfl, hy⟩ := y
    have ew : vs[i]? = some w := hy vs (.of g1)
    rw [hu] at ew
    cases ew
    exact ⟨F2, Same.refl F2, ow2, cl_dat hd⟩)
theorem zipIdx_get {xs : List α} {i : Nat} {z : Int × α} (h : (xs.zipIdx.map fun y => ((y.2 : Int), y.1))[i]? = some z) : z.1 = (i : Int) ∧ xs[i]? = some z.2 := by
  rw [List.getElem?_map, List.getElem?_zipIdx] at h
  cases e : xs[i]? with
  | none =>
    rw [e] at h
    cases h
  | some x =>
    rw [e] at h
    have := Option.some.inj h
    subst this
    exact ⟨by simp, rfl⟩
/-- enumerate(a list) -/
def enum {α : Type} (xs : List α) : List (Int × α) := xs.zipIdx.map fun y => ((y.2 : Int), y.1)
theorem enum_len {xs : List α} : (enum xs).length = xs.length := by
  unfold enum
  rw [List.length_map, List.length_zipIdx]
theorem ix_enum {elts : List Expr} {kk : Nat} {tpos : Pos} {φ : VP} {xs : List α} {enc : α → PyData} {c : Os → Prop} (B : Bd X N W G k) (hj : G[gi]? = some "enumerate") (hm : X.mg "enumerate" = none) (he : EX X es os e φ os1) (hc : ∀ o, c o → RdL X φ o (xs.map enc)) (h0 : c os1) (hs : starEach [e] X.env = [(false, eval e X.env)] := by rfl) :
    IX X (.Tuple elts kk tpos) es os (.Call (.Name "enumerate" p) [e] [] pos) (enum xs) (fun x => dat (.tuple [.int x.1, enc x.2])) c os1 := fun F σ H R ow sl q =>
  wi_of (pi_enum (B.gl _ (List.mem_of_getElem? hj)).1 hm pa_u hs) (wa_of (pa_cons pe_u pa_nil hs) (he F σ H _ ow sl fun F1 H1 v e1 o1 c1 => by
    obtain ⟨a, vs, rfl, h1, h2⟩ := hc os1 h0 F1 H1 v o1 c1
    refine ⟨a, vs, rfl, h1, q F1 H1 _ e1 o1 fun F2 H2 os2 i s ow2 k2 => ?_⟩
    obtain ⟨a', us, ea, g1, g2⟩ := hc os2 k2 F2 H2 _ ow2 (c1.mono s)
    cases ea
    have hl := dqall_len g2
    rw [List.length_map] at hl
    refine ⟨fun h => ⟨us, g1, by rw [enum_len] at h; omega⟩, fun x hx => ?_⟩
    obtain ⟨hz1, hz2⟩ := zipIdx_get hx
    obtain ⟨u, hu, hd⟩ := dqall_map g2 hz2
    refine ⟨⟨us, u, g1, hu⟩, fun w H3 y => ?_⟩
    obtain ⟨T, w2, rfl, hT, rfl, hy⟩ := y
    have ew : us[i]? = some w2 := hy us g1
    rw [hu] at ew
    cases ew
    have fT := ow2.ex.free hT
    refine ⟨_, same_upd fT, ow2.frozen hT, cl_dat (.tup upd_same ?_)⟩
    rw [hz1]
    exact .cons (.int _) (.cons (dq_mono (same_upd fT) _ _ hd) .nil)))

/-! ### for -/
theorem drop_cons' {xs : List α} {i : Nat} {x : α} (h : xs[i]? = some x) : xs.drop i = x :: xs.drop (i + 1) := by
  obtain ⟨h1, h2⟩ := List.getElem?_eq_some_iff.mp h
  rw [List.drop_eq_getElem_cons h1, h2]
/-- what a turn is to reach -/
def LpD {R S γ : Type} (F0 : Hp) (ES : S → γ → List Slot) (OS : S → γ → Os) (RT : R → L2.V → Hp → Prop) (t : Step R S) : Ends where
  nx := fun σ H => ∃ s g, t = .go s ∧ At F0 (ES s g) (OS s g) σ H
  ct := fun σ H => ∃ s g, t = .go s ∧ At F0 (ES s g) (OS s g) σ H
  bk := fun σ H => ∃ s g, t = .brk s ∧ At F0 (ES s g) (OS s g) σ H
  rt := fun v H => ∃ r, t = .ret r ∧ RT r v H
/-- a loop that may be left. γ: what changes beside the mirror's state (addresses) -/
theorem sx_forR {R S γ : Type} {tg iter : Expr} {body : List Stmt} {xs : List α} {vp : α → VP} {c : Os → Prop} {up : α → List Slot → List Slot} {fpos : Pos} (f : S → α → Option (Step R S)) (ES : S → γ → List Slot) (OS : S → γ → Os) (RT : R → L2.V → Hp → Prop)
    (B : Bd X N W G k) (T : Bt X V) (hg : ∀ x, GX X tg (vp x) (up x)) (s0 : S) (g0 : γ) (o : Sum R S) (hl : lpR f xs s0 = some o) (hi : IX X tg es os iter xs vp c (OS s0 g0)) (h0 : Wk es (ES s0 g0)) (hc : ∀ s g, c (OS s g))
    (hb : ∀ F1, Same F0 F1 → ∀ s g x t, x ∈ xs → f s x = some t → SX X (up x (ES s g)) (OS s g) F1 body (LpD F1 ES OS RT t))
    (hn : ∀ s g, o = .inr s → SX X (ES s g) (OS s g) F0 rest D) (hr : ∀ r v H, o = .inl r → RT r v H → D.rt v H) (hs : ∀ x, foldedSetIterable iter X.env x = pure x := by intro _; rfl) : SX X es os F0 (.For tg iter body [] fpos :: rest) D := fun F σ H s ow sl => by
  refine wps_cons (ws_of (ps_for T.po B.calm pi_u pg_u pss_u hs) (hi F σ H _ ow sl fun F1 H1 J e1 o1 good => ?_))
  refine ⟨fun i m σ' H' => m = xs.length - i ∧ i ≤ xs.length ∧ ∃ s' g', lpR f (xs.drop i) s' = some o ∧ ∃ F', Same F1 F' ∧ Ow F' (OS s' g') H' ∧ Sl F' (ES s' g') σ', ⟨_, rfl, Nat.zero_le _, s0, g0, hl, F1, Same.refl F1, o1, (sl.mono e1).weak h0⟩, ?_⟩
  rintro i m σ' H' ⟨rfl, hi, s', g', hl', F', e', o', sl'⟩
  obtain ⟨stop, go⟩ := good F' H' (OS s' g') i e' o' (hc s' g')
  cases hx : xs[i]? with
  | none =>
    have hi2 : xs.length ≤ i := List.getElem?_eq_none_iff.mp hx
    refine .inl ⟨stop hi2, ?_⟩
    rw [List.drop_eq_nil_of_le hi2] at hl'
    cases hl'
    exact hn s' g' rfl F' σ' H' ((s.trans e1).trans e') o' sl'
  | some x =>
    obtain ⟨hgo, hy⟩ := go x hx
    have hlt : i < xs.length := (List.getElem?_eq_some_iff.mp hx).1
    rw [drop_cons' hx] at hl'
    cases hf : f s' x with
    | none =>
      unfold lpR at hl'
      rw [hf] at hl'
      cases hl'
    | some t =>
      unfold lpR at hl'
      rw [hf] at hl'
      have hl2 : Step.aft (lpR f (xs.drop (i + 1))) t = some o := hl'
      refine .inr ⟨hgo, fun σ2 H2 => ∃ s2 g2, t = .go s2 ∧ ∃ F2, Same F1 F2 ∧ Ow F2 (OS s2 g2) H2 ∧ Sl F2 (ES s2 g2) σ2, ?_, ?_⟩
      · rintro σ2 H2 ⟨s2, g2, rfl, F2, e2, o2, sl2⟩
        exact ⟨_, by omega, rfl, by omega, s2, g2, hl2, F2, e2, o2, sl2⟩
      · intro v H3 yv
        obtain ⟨F3, e3, o3, c3⟩ := hy v H3 yv
        refine hg x _ _ F3 σ' H3 v _ o3 (sl'.mono e3) c3 fun σ4 sl4 => ?_
        have key := hb F1 (s.trans e1) s' g' x t (List.mem_of_getElem? hx) hf
        have q3 : Same F1 F3 := e'.trans e3
        -- the body, from F3; its ends are at least as strong as is wanted
        intro pins sh I
        refine wpAny_mono (key F3 σ4 H3 q3 o3 sl4 pins sh I) (fun fl s5 z => ?_) fun _ _ z => z
        cases fl with
        | next =>
          obtain ⟨σ5, H5, J5, s5', g5, et, F5, e5, o5, sl5⟩ := z
          exact ⟨σ5, H5, J5, s5', g5, et, F5, e5, o5, sl5⟩
        | cont =>
          obtain ⟨σ5, H5, J5, s5', g5, et, F5, e5, o5, sl5⟩ := z
          exact ⟨σ5, H5, J5, s5', g5, et, F5, e5, o5, sl5⟩
        | brk =>
          obtain ⟨σ5, H5, J5, s5', g5, et, F5, e5, o5, sl5⟩ := z
          subst et
          cases hl2
          exact ⟨σ5, H5, J5, hn s5' g5 rfl F5 σ5 H5 ((s.trans e1).trans e5) o5 sl5⟩
        | ret u =>
          obtain ⟨w, σ5, H5, J5, rv, r, et, rr⟩ := z
          subst et
          cases hl2
          exact ⟨w, σ5, H5, J5, rv, hr r w H5 rfl rr⟩
end
end Z
/-! Z, part G: plain loops, while, list comprehensions. -/
namespace Z
open PySem PySem.Spec PyProof.Rows L2

theorem lp_lpR {α S : Type} (f : S → α → Option S) : ∀ (xs : List α) (s fin : S), lp f xs s = some fin → lpR (R := Empty) (fun s x => (f s x).map Step.go) xs s = some (.inr fin)
  | [], s, fin, h => by
    cases h
    rfl
  | x :: xs, s, fin, h => by
    unfold lp at h
    unfold lpR
    cases e : f s x with
    | none =>
      rw [e] at h
      cases h
    | some s' =>
      rw [e] at h
      exact lp_lpR f xs s' fin h
section
variable {X : Cx} {es : List Slot} {os os1 os2 : Os} {F0 : Hp} {rest : List Stmt} {D : Ends} {N V G W : List Str} {k i vi gi : Nat} {x : Str} {p pos : Pos} {e e2 : Expr} {α : Type}
/-- what a turn of a plain loop is to reach -/
def LgD {S γ : Type} (F0 : Hp) (ES : S → γ → List Slot) (OS : S → γ → Os) (s : S) : Ends where
  nx := fun σ H => ∃ g, At F0 (ES s g) (OS s g) σ H
  ct := fun σ H => ∃ g, At F0 (ES s g) (OS s g) σ H
  bk := fun _ _ => False
  rt := fun _ _ => False
theorem sx_for {S γ : Type} {tg iter : Expr} {body : List Stmt} {xs : List α} {vp : α → VP} {c : Os → Prop} {up : α → List Slot → List Slot} {fpos : Pos} (f : S → α → Option S) (ES : S → γ → List Slot) (OS : S → γ → Os)
    (B : Bd X N W G k) (T : Bt X V) (hg : ∀ x, GX X tg (vp x) (up x)) (s0 : S) (g0 : γ) (fin : S) (hl : lp f xs s0 = some fin) (hi : IX X tg es os iter xs vp c (OS s0 g0)) (h0 : Wk es (ES s0 g0)) (hc : ∀ s g, c (OS s g))
    (hb : ∀ F1, Same F0 F1 → ∀ s g x s', x ∈ xs → f s x = some s' → SX X (up x (ES s g)) (OS s g) F1 body (LgD F1 ES OS s'))
    (hn : ∀ g, SX X (ES fin g) (OS fin g) F0 rest D) (hs : ∀ x, foldedSetIterable iter X.env x = pure x := by intro _; rfl) : SX X es os F0 (.For tg iter body [] fpos :: rest) D := by
  refine sx_forR (R := Empty) (fun s x => (f s x).map Step.go) ES OS (fun _ _ _ => False) B T hg s0 g0 (.inr fin) (lp_lpR f xs s0 fin hl) hi h0 hc (fun F1 h1 s g x t hx ht => ?_) (fun s g e => ?_) (fun r _ _ _ z => z.elim) hs
  · cases e : f s x with
    | none =>
      rw [e] at ht
      cases ht
    | some s' =>
      rw [e] at ht
      cases ht
      intro F σ H a b c pins sh I
      refine wpAny_mono (hb F1 h1 s g x s' hx e F σ H a b c pins sh I) (fun fl s5 z => ?_) fun _ _ z => z
      cases fl with
      | next =>
        obtain ⟨σ5, H5, J5, g5, a5⟩ := z
        exact ⟨σ5, H5, J5, s', g5, rfl, a5⟩
      | cont =>
        obtain ⟨σ5, H5, J5, g5, a5⟩ := z
        exact ⟨σ5, H5, J5, s', g5, rfl, a5⟩
      | brk =>
        obtain ⟨σ5, H5, J5, z⟩ := z
        exact z.elim
      | ret u =>
        obtain ⟨w, σ5, H5, J5, rv, z⟩ := z
        exact z.elim
  · cases e
    exact hn g

/-! ### while -/
theorem sx_while {R S γ : Type} {cd : Expr} {body : List Stmt} {fpos : Pos} (c : S → Option Bool) (f : S → Option (Step R S)) (ES : S → γ → List Slot) (OS : S → γ → Os) (RT : R → L2.V → Hp → Prop)
    (T : Bt X V) (n : Nat) (s0 : S) (g0 : γ) (o : Sum R S) (hl : wh c f n s0 = some o) (h0 : Wk es (ES s0 g0)) (ho : os = OS s0 g0)
    (hc : ∀ s g b, c s = some b → TX X (ES s g) (OS s g) cd b (OS s g))
    (hb : ∀ F1, Same F0 F1 → ∀ s g t, c s = some true → f s = some t → SX X (ES s g) (OS s g) F1 body (LpD F1 ES OS RT t))
    (hn : ∀ s g, o = .inr s → SX X (ES s g) (OS s g) F0 rest D) (hr : ∀ r v H, o = .inl r → RT r v H → D.rt v H) : SX X es os F0 (.While cd body [] fpos :: rest) D := fun F σ H s ow sl => by
  subst ho
  refine wps_cons (ws_of (ps_while T.po pt_u pss_u) ⟨fun m σ' H' => ∃ s' g', wh c f m s' = some o ∧ At F (ES s' g') (OS s' g') σ' H', ⟨n, s0, g0, hl, F, Same.refl F, ow, sl.weak h0⟩, ?_⟩)
  rintro m σ' H' ⟨s', g', hl', F', e', o', sl'⟩
  cases m with
  | zero => cases hl'
  | succ m =>
    unfold wh at hl'
    cases hcs : c s' with
    | none =>
      rw [hcs] at hl'
      cases hl'
    | some b =>
      rw [hcs] at hl'
      refine hc s' g' b hcs F' σ' H' _ o' sl' fun F1 H1 e1 o1 => ?_
      cases b with
      | false =>
        have hl2 : some (.inr s') = some o := hl'
        cases hl2
        rw [if_neg Bool.false_ne_true]
        exact hn s' g' rfl F1 σ' H1 ((s.trans e').trans e1) o1 (sl'.mono e1)
      | true =>
        have hl2 : (f s').bind (Step.aft (wh c f m)) = some o := hl'
        rw [if_pos rfl]
        cases hf : f s' with
        | none =>
          rw [hf] at hl2
          cases hl2
        | some t =>
          rw [hf] at hl2
          have hl3 : Step.aft (wh c f m) t = some o := hl2
          refine ⟨fun σ2 H2 => ∃ s2 g2, t = .go s2 ∧ At F (ES s2 g2) (OS s2 g2) σ2 H2, ?_, ?_⟩
          · rintro σ2 H2 ⟨s2, g2, rfl, a2⟩
            exact ⟨m, Nat.lt_succ_self m, s2, g2, hl3, a2⟩
          · intro pins sh I
            refine wpAny_mono (hb F s s' g' t hcs hf F1 σ' H1 (e'.trans e1) o1 (sl'.mono e1) pins sh I) (fun fl s5 z => ?_) fun _ _ z => z
            cases fl with
            | next => exact z
            | cont => exact z
            | brk =>
              obtain ⟨σ5, H5, J5, s5', g5, et, F5, e5, o5, sl5⟩ := z
              subst et
              cases hl3
              exact ⟨σ5, H5, J5, hn s5' g5 rfl F5 σ5 H5 (s.trans e5) o5 sl5⟩
            | ret u =>
              obtain ⟨w, σ5, H5, J5, rv, r, et, rr⟩ := z
              subst et
              cases hl3
              exact ⟨w, σ5, H5, J5, rv, hr r w H5 rfl rr⟩

/-! ### list comprehensions -/
theorem sl_wipe {F : Hp} {σ : L2.St} (h : Sl F es σ) : ∀ vs : List Nat, (∀ j ∈ vs, ∃ s, es[j]? = some s ∧ s = un) → Sl F es (wipe σ vs)
  | [], _ => h
  | v :: vs, hv => by
    have ih := sl_wipe h vs fun j hj => hv j (List.mem_cons_of_mem _ hj)
    obtain ⟨s, e, eu⟩ := hv v List.mem_cons_self
    subst eu
    have := ih.set (i := v) (s := un) (o := none) fun _ _ => trivial
    have e2 : es.set v un = es := by
      refine List.ext_getElem? fun j => ?_
      by_cases hj : v = j
      · subst hj
        rw [List.getElem?_set_self (List.getElem?_eq_some_iff.mp e).1, e]
      · rw [List.getElem?_set_ne hj]
    rw [e2] at this
    exact this

/-- the contexts in which the block of a comprehension runs -/
def Fam (X : Cx) (scope : Scope) (X' : Cx) : Prop := ∃ s H C cl fp, X' = X.blk s H scope (compEnvC scope cl C X.env) fp
/-- the tests of a comprehension: none, or one -/
inductive PTX (X : Cx) (es : List Slot) (os : Os) : List Expr → Bool → Os → Prop
  | nil : PTX X es os [] true os
  | one {c : Expr} {b : Bool} {os' : Os} : TX X es os c b os' → PTX X es os [c] b os'
def tIfs (X : Cx) (scope : Scope) (ifs : List Expr) : TT := fun σ H Q => match ifs with
  | [] => Q true H
  | [c] => ∀ X', Fam X scope X' → WT X' c σ H Q
  | _ => False
theorem pts_u {scope : Scope} {X' : Cx} (hf : Fam X scope X') : ∀ ifs : List Expr, PTs X' ifs (tIfs X scope ifs)
  | [] => pts_nil
  | [c] => pts_one ⟨fun pins s _ _ _ I h => h X' hf pins s I⟩
  | _ :: _ :: _ => ⟨fun _ _ _ _ _ _ h => h.elim⟩
def tElt (X : Cx) (scope : Scope) (e : Expr) : TE := fun σ H Q => ∀ X', Fam X scope X' → WE X' e σ H Q
theorem pe_elt {scope : Scope} {X' : Cx} (hf : Fam X scope X') : PE X' e (tElt X scope e) := ⟨fun pins s _ _ _ I h => h X' hf pins s I⟩
/-- the own names of a comprehension may be stored -/
def ownB (scope sc : Scope) (x : Str) : Bool := match (relS scope sc).names.lookup x with
  | some .local => true
  | some .cell => scope.names.lookup x == some .cell
  | _ => false
theorem pg_own {scope : Scope} {X' : Cx} {j : Nat} {y : Str} {tpos : Pos} (hf : Fam X scope X') (B : Bd X N W G k) (hj : N[j]? = some y) (ho : ownB scope X.env.scope y = true) : PG X' (.Name y tpos) (gName j) := by
  obtain ⟨s, H, C, cl, fp, rfl⟩ := hf
  unfold ownB at ho
  have e : (X.blk s H scope (compEnvC scope cl C X.env) fp).env.scope = relS scope X.env.scope := rfl
  split at ho
  · rename_i hl
    exact pg_name (B.hN ▸ B.nd) (B.hN ▸ hj) (.inl (by rw [e]; exact hl)) (.inr (by rw [e]; exact hl))
  · rename_i hl
    exact pg_name (B.hN ▸ B.nd) (B.hN ▸ hj) (.inr (by rw [e]; exact hl)) (.inl ho)
  · cases ho
/-- the state of a comprehension: the list so far, what is still to come -/
def LcS {S β : Type} (f : S → α → Option (Option β × S)) (OS : S → Os → Os) (enc : β → PyData) (xs : List α) (ys : List β) (sf : S) (os0 : Os) (Dl : Addr) (F1 : Hp) (i : Nat) (H : Hp) : Prop :=
  ∃ s d r F, lcS f (xs.drop i) s = some (r, sf) ∧ ys = d ++ r ∧ d.length ≤ i ∧ Same F1 F ∧ Ow F (OS s ((Dl, ol (d.map enc)) :: os0)) H
theorem lc_elt {S β : Type} {elt : Expr} {scope : Scope} {xs : List α} {enc : β → PyData} {f : S → α → Option (Option β × S)} {OS : S → Os → Os} {ys : List β} {sf : S} {os0 : Os} {Dl : Addr} {F1 F4 : Hp} {i : Nat} {up : List Slot} {t : Option β × S} {d r : List β} {σ : L2.St} {H4 : Hp} {os1 : Os}
    (hperm : ∀ s q tl, (OS s (q :: tl)).Perm (q :: OS s tl)) (hi : i < xs.length) (hz : xs.length < sizeLine) (hd : d.length ≤ i) (hr : ((lcS f (xs.drop (i + 1)) t.2).bind fun u => some (t.1.toList ++ u.1, u.2)) = some (r, sf)) (hy : ys = d ++ r)
    (e4 : Same F1 F4) (o4 : Ow F4 os1 H4) (sl : Sl F4 up σ) (key : ∀ X', Fam X scope X' → ∃ y, t.1 = some y ∧ EX X' up os1 elt (dat (enc y)) (OS t.2 ((Dl, ol (d.map enc)) :: os0))) :
    tElt X scope elt σ H4 fun y H5 => ∃ acc, H5 Dl = some (.lst acc) ∧ acc.length < sizeLine ∧ LcS f OS enc xs ys sf os0 Dl F1 (i + 1) (upd H5 Dl (.lst (acc ++ [y]))) := by
  intro X' hX'
  obtain ⟨y, hy1, he⟩ := key X' hX'
  refine he F4 σ H4 _ o4 sl fun F5 H5 v e5 o5 c5 => ?_
  have o6 := o5.perm (hperm t.2 _ os0)
  obtain ⟨_, u, hu, z⟩ := o6.at
  obtain ⟨vs, rfl, hv⟩ := z F5 (Same.refl F5)
  have hl := dqall_len hv
  rw [List.length_map] at hl
  refine ⟨vs, hu, by omega, ?_⟩
  cases hu2 : lcS f (xs.drop (i + 1)) t.2 with
  | none =>
    rw [hu2] at hr
    cases hr
  | some w =>
    rw [hu2, hy1] at hr
    have hr2 : (y :: w.1, w.2) = (r, sf) := Option.some.inj hr
    obtain ⟨rfl, rfl⟩ := Prod.mk.inj hr2
    refine ⟨t.2, d ++ [y], w.1, F5, by rw [hu2], by rw [hy, List.append_assoc]; rfl, by rw [List.length_append, List.length_singleton]; omega, e4.trans e5, ?_⟩
    refine (o6.put (e' := ol ((d ++ [y]).map enc)) fun G g => ⟨_, rfl, ?_⟩).perm (hperm t.2 _ os0).symm
    rw [List.map_append]
    exact dqall_mono g _ _ (dqall_app hv (.cons c5.now .nil))
theorem lc_read {S β : Type} {elt iter tg : Expr} {ifs : List Expr} {scope : Scope} {vs : List Nat} {xs : List α} {vp : α → VP} {c : Os → Prop} {g : TG} {up : α → List Slot → List Slot} {enc : β → PyData} {f : S → α → Option (Option β × S)} {OS : S → Os → Os}
    {s0 : S} {os0 : Os} {ys : List β} {sf : S} (hv : ∀ j ∈ vs, es[j]? = some un) (hid : ∀ σ : L2.St, wipe (wipe σ vs) vs = wipe σ vs)
    (hg : ∀ x F σ H v Q os2, Sl F es σ → wipe σ vs = σ → Ow F os2 H → Cl (vp x) F v → (∀ σ', Sl F (up x es) σ' → wipe σ' vs = σ → Q σ' H) → g v σ H Q)
    (hif : ifs.length ≤ 1) (hl : lcS f xs s0 = some (ys, sf)) (hz : xs.length < sizeLine) (hi : IX X tg es os iter xs vp c (OS s0 os0)) (hc : ∀ s tl, c (OS s tl)) (hperm : ∀ s q tl, (OS s (q :: tl)).Perm (q :: OS s tl))
    (hb : ∀ s x t tl, x ∈ xs → f s x = some t → ∃ b os1, ∀ X', Fam X scope X' → PTX X' (up x es) (OS s tl) ifs b os1 ∧ (b = true → ∃ y, t.1 = some y ∧ EX X' (up x es) os1 elt (dat (enc y)) (OS t.2 tl)) ∧ (b = false → t.1 = none ∧ os1 = OS t.2 tl))
    {F σ H Q} (ow : Ow F os H) (sl : Sl F es σ) (q : ∀ F' H' p, Same F F' → Ow F' ((p, ol (ys.map enc)) :: OS sf os0) H' → Q (.ref p) H') : tLc (WI X tg iter) g (tIfs X scope ifs) (tElt X scope elt) vs σ H Q := by
  refine hi F σ H _ ow sl fun F1 H1 J e1 o1 good Dl hD => ?_
  refine ⟨fun i m H => m = xs.length - i ∧ i ≤ xs.length ∧ LcS f OS enc xs ys sf os0 Dl F1 i H, ⟨_, rfl, Nat.zero_le _, s0, [], ys, F1, hl, rfl, Nat.le_refl _, Same.refl F1, ?_⟩, ?_⟩
  · exact (o1.new hD fun G g => ⟨[], rfl, .nil⟩).perm (hperm s0 _ os0).symm
  · rintro i m H' ⟨rfl, hi, s, d, r, F', hr, hy, hdl, e', o'⟩
    obtain ⟨stop, go⟩ := good F' H' _ i e' o' (hc s _)
    cases hx : xs[i]? with
    | none =>
      have hi2 : xs.length ≤ i := List.getElem?_eq_none_iff.mp hx
      rw [List.drop_eq_nil_of_le hi2] at hr
      cases hr
      refine .inl ⟨stop hi2, q F' H' Dl (e1.trans e') ?_⟩
      rw [hy, List.append_nil]
      exact o'.perm (hperm _ _ os0)
    | some x =>
      obtain ⟨hgo, hyl⟩ := go x hx
      have hlt : i < xs.length := (List.getElem?_eq_some_iff.mp hx).1
      rw [drop_cons' hx] at hr
      unfold lcS at hr
      cases hf : f s x with
      | none =>
        rw [hf] at hr
        cases hr
      | some t =>
        rw [hf] at hr
        have hr : ((lcS f (xs.drop (i + 1)) t.2).bind fun u => some (t.1.toList ++ u.1, u.2)) = some (r, sf) := hr
        refine .inr ⟨hgo, LcS f OS enc xs ys sf os0 Dl F1 (i + 1), fun H2 hH2 => ⟨_, by omega, rfl, by omega, hH2⟩, fun v H3 yv => ?_⟩
        obtain ⟨F3, e3, o3, c3⟩ := hyl v H3 yv
        have slw : Sl F3 es (wipe σ vs) := sl_wipe (sl.mono ((e1.trans e').trans e3)) vs fun j hj => ⟨un, hv j hj, rfl⟩
        refine hg x F3 (wipe σ vs) H3 v _ _ slw (hid σ) o3 c3 fun σ' sl' hw => ⟨hw, ?_⟩
        obtain ⟨b, os1, key⟩ := hb s x t ((Dl, ol (d.map enc)) :: os0) (List.mem_of_getElem? hx) hf
        have e4 := e'.trans e3
        match ifs, hif, key with
        | [], _, key =>
          refine lc_elt hperm hlt hz hdl hr hy e4 o3 sl' fun X' hX' => ?_
          obtain ⟨k1, k2, _⟩ := key X' hX'
          cases k1
          exact k2 rfl
        | [cd], _, key =>
          intro X' hX'
          obtain ⟨k1, k2, k3⟩ := key X' hX'
          cases k1 with
          | one ht =>
            refine ht F3 σ' H3 _ o3 sl' fun F4 H4 e5 o4 => ?_
            cases b with
            | true =>
              rw [if_pos rfl]
              exact lc_elt hperm hlt hz hdl hr hy (e4.trans e5) o4 (sl'.mono e5) fun X'' hX'' => (key X'' hX'').2.1 rfl
            | false =>
              rw [if_neg Bool.false_ne_true]
              obtain ⟨k4, rfl⟩ := k3 rfl
              cases hu2 : lcS f (xs.drop (i + 1)) t.2 with
              | none =>
                rw [hu2] at hr
                cases hr
              | some w =>
                rw [hu2, k4] at hr
                have hr2 : (w.1, w.2) = (r, sf) := Option.some.inj hr
                obtain ⟨rfl, rfl⟩ := Prod.mk.inj hr2
                exact ⟨t.2, d, w.1, F4, by rw [hu2], hy, by omega, e4.trans e5, o4⟩
        | _ :: _ :: _, hif, key =>
          rw [List.length_cons, List.length_cons] at hif
          omega

/-- all that a comprehension asks -/
structure LcOk (X : Cx) (es : List Slot) (os : Os) {α S β : Type} (tg iter elt : Expr) (ifs : List Expr) (scope : Scope) (own : List (Str × Nat)) (xs : List α) (vp : α → VP) (c : Os → Prop) (g : TG) (up : α → List Slot → List Slot) (enc : β → PyData)
    (f : S → α → Option (Option β × S)) (OS : S → Os → Os) (s0 : S) (os0 : Os) (ys : List β) (sf : S) : Prop where
  calm : X.calm = true
  nd : X.N.Nodup
  ok : BlkOk X.N X.env.scope scope own
  pg : ∀ X', Fam X scope X' → PG X' tg g
  hv : ∀ j ∈ own.map (·.2), es[j]? = some un
  hid : ∀ σ : L2.St, wipe (wipe σ (own.map (·.2))) (own.map (·.2)) = wipe σ (own.map (·.2))
  hg : ∀ x F σ H v Q os2, Sl F es σ → wipe σ (own.map (·.2)) = σ → Ow F os2 H → Cl (vp x) F v → (∀ σ', Sl F (up x es) σ' → wipe σ' (own.map (·.2)) = σ → Q σ' H) → g v σ H Q
  hif : ifs.length ≤ 1
  hl : lcS f xs s0 = some (ys, sf)
  hz : xs.length < sizeLine
  hi : IX X tg es os iter xs vp c (OS s0 os0)
  hc : ∀ s tl, c (OS s tl)
  hperm : ∀ s q tl, (OS s (q :: tl)).Perm (q :: OS s tl)
  hb : ∀ s x t tl, x ∈ xs → f s x = some t → ∃ b os1, ∀ X', Fam X scope X' → PTX X' (up x es) (OS s tl) ifs b os1 ∧ (b = true → ∃ y, t.1 = some y ∧ EX X' (up x es) os1 elt (dat (enc y)) (OS t.2 tl)) ∧ (b = false → t.1 = none ∧ os1 = OS t.2 tl)
section
variable {α S β : Type} {tg iter elt : Expr} {ifs : List Expr} {scope : Scope} {own : List (Str × Nat)} {xs : List α} {vp : α → VP} {c : Os → Prop} {g : TG} {up : α → List Slot → List Slot} {enc : β → PyData}
    {f : S → α → Option (Option β × S)} {OS : S → Os → Os} {s0 : S} {os0 : Os} {ys : List β} {sf : S}
theorem en_lc (h : LcOk X es os tg iter elt ifs scope own xs vp c g up enc f OS s0 os0 ys sf) (hs : ∀ x, foldedSetIterable iter X.env x = pure x := by intro _; rfl) : EN X es os (.ListComp elt [⟨tg, iter, ifs, 0⟩] scope pos) (ol (ys.map enc)) (OS sf os0) := fun F σ H Q ow sl q =>
  we_of (pe_lc h.calm h.nd pi_u h.ok (fun s H C cl fp => h.pg _ ⟨s, H, C, cl, fp, rfl⟩) (fun s H C cl fp => pts_u ⟨s, H, C, cl, fp, rfl⟩ ifs) (fun s H C cl fp => pe_elt ⟨s, H, C, cl, fp, rfl⟩) hs)
    (lc_read h.hv h.hid h.hg h.hif h.hl h.hz h.hi h.hc h.hperm h.hb ow sl q)
theorem sx_asgLc {y : Str} {py spos : Pos} (B : Bd X N W G k) (T : Bt X V) (hi : N[i]? = some y) (hyl : X.env.scope.names.lookup y = some .local) (h : LcOk X es os tg iter elt ifs scope own xs vp c g up enc f OS s0 os0 ys sf)
    (hsw : swapsWith (.ListComp elt [⟨tg, iter, ifs, 0⟩] scope pos) (some (.Name y py)) spos.line X.env = pure true)
    (hn : ∀ p, SX X (es.set i (sl (Z.own p))) ((p, ol (ys.map enc)) :: OS sf os0) F0 rest D) (hs : ∀ x, foldedSetIterable iter X.env x = pure x := by intro _; rfl) : SX X es os F0 (.Assign [.Name y py] (.ListComp elt [⟨tg, iter, ifs, 0⟩] scope pos) spos :: rest) D := fun F σ H s ow sl =>
  wps_cons (ws_of (ps_setLc h.calm h.nd (B.hN ▸ hi) hyl hsw pi_u h.ok (fun s H C cl fp => h.pg _ ⟨s, H, C, cl, fp, rfl⟩) (fun s H C cl fp => pts_u ⟨s, H, C, cl, fp, rfl⟩ ifs) (fun s H C cl fp => pe_elt ⟨s, H, C, cl, fp, rfl⟩) hs)
    (lc_read (Q := fun v H1 => gName i v σ H1 (WPs X rest D)) h.hv h.hid h.hg h.hif h.hl h.hz h.hi h.hc h.hperm h.hb ow sl fun F1 H1 p e1 o1 => hn p F1 _ H1 (s.trans e1) o1 ((sl.mono e1).put cl_own)))
end
/-- the target is one name -/
theorem lc_gname {α : Type} {vp : α → VP} {j : Nat} (x : α) (F : Hp) (σ : L2.St) (H : Hp) (v : L2.V) (Q : L2.St → Hp → Prop) (os2 : Os) (sl : Sl F es σ) (hw : wipe σ [j] = σ) (ow : Ow F os2 H) (c : Cl (vp x) F v) (q : ∀ σ', Sl F (es.set j (Z.sl (vp x))) σ' → wipe σ' [j] = σ → Q σ' H) : gName j v σ H Q := by
  refine q _ (sl.put c) ?_
  show (σ.set j (some v)).set j none = σ
  rw [List.set_set]
  exact hw
theorem lc_id1 {j : Nat} (σ : L2.St) : wipe (wipe σ [j]) [j] = wipe σ [j] := by
  show (σ.set j none).set j none = σ.set j none
  rw [List.set_set]
/-- a pair of names -/
theorem lc_id2 {i j : Nat} (hij : i ≠ j) (σ : L2.St) : wipe (wipe σ [i, j]) [i, j] = wipe σ [i, j] := by
  show (((σ.set j none).set i none).set j none).set i none = (σ.set j none).set i none
  rw [List.set_comm _ _ hij, List.set_set, List.set_set]
theorem lc_gpair {α : Type} {K : PySem.W.Frag} {d1 d2 : α → PyData} {i j : Nat} (hij : i ≠ j) (x : α) (F : Hp) (σ : L2.St) (H : Hp) (v : L2.V) (Q : L2.St → Hp → Prop) (os2 : Os) (sl : Sl F es σ) (hw : wipe σ [i, j] = σ) (ow : Ow F os2 H) (c : Cl (dat (.tuple [d1 x, d2 x])) F v)
    (q : ∀ σ', Sl F ((es.set i (Z.sl (dat (d1 x)))).set j (Z.sl (dat (d2 x)))) σ' → wipe σ' [i, j] = σ → Q σ' H) : gTup K 2 (gCons (gName i) (gCons (gName j) gNil)) v σ H Q := by
  obtain ⟨p, vs, rfl, hp, hv⟩ := rdt_dat F v c
  cases hv with
  | cons k1 r =>
    cases r with
    | cons k2 r =>
      cases r
      refine ⟨p, _, rfl, .of (ow.ex _ _ hp), rfl, _, _, rfl, _, _, rfl, rfl, ?_⟩
      refine q _ ((sl.put (cl_dat k1)).put (cl_dat k2)) ?_
      have hw2 : (σ.set j none).set i none = σ := hw
      show (((σ.set i _).set j _).set j none).set i none = σ
      rw [List.set_set, List.set_comm _ _ hij, List.set_set, List.set_comm _ _ (Ne.symm hij)]
      rw [List.set_comm _ _ hij]
      exact hw2
theorem pg_own2 {scope : Scope} {X' : Cx} {i j : Nat} {y z : Str} {p1 p2 tpos : Pos} {kk : Nat} (hf : Fam X scope X') (B : Bd X N W G k) (hi : N[i]? = some y) (hj : N[j]? = some z) (ho : ownB scope X.env.scope y = true) (ho2 : ownB scope X.env.scope z = true) :
    PG X' (.Tuple [.Name y p1, .Name z p2] kk tpos) (gTup X'.K 2 (gCons (gName i) (gCons (gName j) gNil))) := by
  have hc : X'.calm = true := by
    obtain ⟨s, H, C, cl, fp, rfl⟩ := hf
    exact B.calm
  exact pg_tup hc (pgs_cons (pg_own hf B hi ho) (pgs_cons (pg_own hf B hj ho2) pgs_nil))
/-- a body's facts hold in a comprehension's block -/
theorem Bd.fam {scope : Scope} {X' : Cx} {W' G' : List Str} (B : Bd X N W G k) (hf : Fam X scope X') (h : namB (relS scope X.env.scope) W' G' = true) : Bd X' N W' G' k := by
  obtain ⟨s, H, C, cl, fp, rfl⟩ := hf
  exact ⟨B.hN, B.nd, B.calm, B.gd, B.room, nam_vis h, nam_gl h⟩
end
end Z
/-! Z, part H: from bodies to promises, and the law's own call. -/
namespace Z
open PySem PySem.Spec PyProof.Rows L2

section
variable {P : Program} {w : World} {K : PySem.W.Frag} {mg : Str → Option Value} {base : Heap}
theorem pass_nox {N : List Str} {qual : Str} {sc : Scope} {f : Addr} {cdv : Value} {A : Around} {outer : List Env} {s : Shared} {H : Hp} {E : XK} {sts : List Stmt} {D : Ends} {σ : L2.St} {H' : Hp}
    (h : WPs (cxOf CX0 P w K mg base N qual sc f cdv A outer s H E).nox sts D σ H') : WPs (cxOf CX0 P w K mg base N qual sc f cdv A outer s H E) sts D σ H' :=
  wps_of (PSs.nox (pss_u (X := (cxOf CX0 P w K mg base N qual sc f cdv A outer s H E).nox))) h
theorem cla_start {F : Hp} : ∀ {φs : List VP} {vs : List L2.V} (n : Nat), ClA φs F vs → Sl F (φs.map sl ++ List.replicate n un) (vs.map some ++ List.replicate n none)
  | [], _, n, h => by
    have e : _ = [] := h
    subst e
    refine ⟨by simp, fun i t q => ?_⟩
    have q' : (List.replicate n un)[i]? = some t := q
    rw [List.getElem?_replicate] at q'
    split at q'
    · rename_i hi
      cases q'
      refine ⟨none, ?_, fun _ _ => trivial⟩
      show (List.replicate n none)[i]? = some none
      rw [List.getElem?_replicate, if_pos hi]
    · cases q'
  | φ :: φs, _, n, ⟨v, r, e, h1, h2⟩ => by
    subst e
    have ih := cla_start n h2
    refine ⟨by simpa using ih.len, fun i t q => ?_⟩
    cases i with
    | zero =>
      have q' : some (sl φ) = some t := q
      cases q'
      exact ⟨some v, rfl, fun G g => ⟨v, rfl, h1 G g⟩⟩
    | succ i => exact ih.get i t q
/-- how a body hands back what a promise tells -/
structure RetZ (F0 : Hp) (os : Os) (φ : VP) (D : Ends) : Prop where
  rt : ∀ F H v, Same F0 F → Ow F os H → Cl φ F v → D.rt v H
  nx : ∀ σ H, D.rt .non H → D.nx σ H
structure RetN (F0 : Hp) (os : Os) (n : Ent) (D : Ends) : Prop where
  rt : ∀ F H p, Same F0 F → Ow F ((p, n) :: os) H → D.rt (.ref p) H
variable {α β : Type} {ps : α → List VP} {pre : α → Os} {m : α → Option β} {res : α → β → VP} {post : α → β → Os} {n : α → β → Ent} {x : Str} {st : Stmt} {f : Addr} {fd : FuncData} {N V Gs pn : List Str} {k nl : Nat}
theorem cal_Z (Fn : Fun K x x st f fd) (S : FnScope N pn (defScope st)) (nam : namB (defScope st) V Gs = true) (loc : V.all (locB (defScope st)) = true) (hmg : mg x = some (.ref f)) (hb : Binds K fd pn []) (hps : ∀ a, (ps a).length = pn.length) (hN : N.length = pn.length + nl)
    (body : ∀ (f : Addr) (cdv : Value) (A : Around) (outer : List Env) (s : Shared) (H : Hp) (E : XK) (a : α) (b : β) (F0 : Hp) (os : Os) (D : Ends), Bd (cxOf CX0 P w K mg base N x (defScope st) f cdv A outer s H E).nox N V Gs k → Bt (cxOf CX0 P w K mg base N x (defScope st) f cdv A outer s H E).nox V →
      m a = some b → RetZ F0 (post a b ++ os) (res a b) D → SX (cxOf CX0 P w K mg base N x (defScope st) f cdv A outer s H E).nox ((ps a).map sl ++ List.replicate nl un) (pre a ++ os) F0 (defBody st) D) : Cal P w K mg base (k + 1) x st pn (spZ ps pre m res post) := by
  refine ⟨f, fd, Fn, fun_ok Fn S (spZ_len hps) ?_, hmg, hb⟩
  rintro cdv A outer s H vs Q E hg hr ⟨a, b, F, os, c, ow, hm, q⟩
  refine pass_nox ?_
  have hl := (cla_len c).trans (hps a)
  have hst : L2.start N vs = vs.map some ++ List.replicate nl none := by
    unfold L2.start
    rw [hl, hN, Nat.add_sub_cancel_left]
  rw [hst]
  refine body f cdv A outer s H E a b F os _ ⟨rfl, S.nd, rfl, hg, hr, nam_vis nam, nam_gl nam⟩ ⟨fun _ => rfl, fun y hy => loc_of (List.all_eq_true.mp loc y hy), PassesOwn.never⟩ hm ⟨fun F' H' v e o c => q F' H' v e o c, fun _ _ z => z⟩ F _ H (Same.refl F) ow (cla_start nl c)
theorem cal_N (Fn : Fun K x x st f fd) (S : FnScope N pn (defScope st)) (nam : namB (defScope st) V Gs = true) (loc : V.all (locB (defScope st)) = true) (hmg : mg x = some (.ref f)) (hb : Binds K fd pn []) (hps : ∀ a, (ps a).length = pn.length) (hN : N.length = pn.length + nl)
    (body : ∀ (f : Addr) (cdv : Value) (A : Around) (outer : List Env) (s : Shared) (H : Hp) (E : XK) (a : α) (b : β) (F0 : Hp) (os : Os) (D : Ends), Bd (cxOf CX0 P w K mg base N x (defScope st) f cdv A outer s H E).nox N V Gs k → Bt (cxOf CX0 P w K mg base N x (defScope st) f cdv A outer s H E).nox V →
      m a = some b → RetN F0 (post a b ++ os) (n a b) D → SX (cxOf CX0 P w K mg base N x (defScope st) f cdv A outer s H E).nox ((ps a).map sl ++ List.replicate nl un) (pre a ++ os) F0 (defBody st) D) : Cal P w K mg base (k + 1) x st pn (spN ps pre m n post) := by
  refine ⟨f, fd, Fn, fun_ok Fn S (spN_len hps) ?_, hmg, hb⟩
  rintro cdv A outer s H vs Q E hg hr ⟨a, b, F, os, c, ow, hm, q⟩
  refine pass_nox ?_
  have hl := (cla_len c).trans (hps a)
  have hst : L2.start N vs = vs.map some ++ List.replicate nl none := by
    unfold L2.start
    rw [hl, hN, Nat.add_sub_cancel_left]
  rw [hst]
  refine body f cdv A outer s H E a b F os _ ⟨rfl, S.nd, rfl, hg, hr, nam_vis nam, nam_gl nam⟩ ⟨fun _ => rfl, fun y hy => loc_of (List.all_eq_true.mp loc y hy), PassesOwn.never⟩ hm ⟨fun F' H' p e o => q F' H' p e o⟩ F _ H (Same.refl F) ow (cla_start nl c)
end

/-! ### the law -/
/-- the law's call keeps a promise -/
def LawSp (K : PySem.W.Frag) (m : List Int → Option Bool) : Sp := spZ (fun ns => [scr K ns]) (fun _ => []) m (fun _ b => dat (.bool b)) (fun _ _ => [])
theorem law_run {P : Program} {w : World} {K : PySem.W.Frag} {mg mb : Str → Option Value} {k : Nat} {fa a : Addr} {fd : FuncData} {x : Str} {sp : Sp} {s1 : Shared} {vs : List Value} {ns : List Int}
    (KX : K.In s1.heap) (hns : s1.heap.Ns mainGlobals mg) (hb : s1.heap.Ns builtinsNs mb) (hbb : ∀ x : Str, x ≠ "__name__" → mb x = bootBuiltins x) (hlim : s1.heap.NoLimit) (hg : s1.gens = #[])
    (ha : s1.heap.get? a = some { cls := .type "list", data := .seq vs.toArray }) (hi : IntsAre vs ns) (hl : ns.length ≤ sizeLine) (hr : Room k callerA)
    (F : ∀ base : Heap, K.In base → base.Ns mainGlobals mg → FnG P w K mg base CX0 k fa fd [x] sp) (hbind : ∀ (s : Shared) (u : Value), BindsTo s fd ⟨[u], []⟩ [(x, u)])
    (hsp : ∀ H : Hp, Only H → SqL K H a (ns.map V.int) → sp [.ref a] H (fun v _ => v = .bl true) E0) :
    codeAny (model P w) callerA (.call (.ref fa) ⟨[.ref a], []⟩) (fun r s' => r = .ok (.ret (.bool true)) ∧ OldK s1.heap s'.heap ∧ s'.os = s1.os ∧ AllBare s'.gens) s1 := by
  have rv := vals_ints hi
  have step : ∀ H : Hp, Only H → SqL K H a (ns.map V.int) → HOk P w H s1.heap → (∀ b, H b ≠ none → b = a) → (H a ≠ none → K.lookup a = none) →
      codeAny (model P w) callerA (.call (.ref fa) ⟨[.ref a], []⟩) (fun r s' => r = .ok (.ret (.bool true)) ∧ OldK s1.heap s'.heap ∧ s'.os = s1.os ∧ AllBare s'.gens) s1 := by
    intro H only seq hok single lone
    have nsH : ∀ {b : Addr} {m : Str → Option Value}, s1.heap.Ns b m → (hidT s1.heap H).Ns b m := by
      rintro b m ⟨o, es, ep, e, d, r⟩
      refine ⟨o, es, ep, hidT_get e ?_, d, r⟩
      cases q : H b with
      | none => rfl
      | some u =>
        obtain rfl : b = a := single b (by rw [q]; simp)
        rw [ha] at e
        cases e
        have d' : Data.seq vs.toArray _ = Data.dict es ep := d
        cases d'
    have kin : K.In (hidT s1.heap H) := by
      intro b o e
      refine hidT_get (KX b o e) ?_
      cases q : H b with
      | none => rfl
      | some u =>
        obtain rfl : b = a := single b (by rw [q]; simp)
        have := lone (by rw [q]; simp)
        rw [this] at e
        cases e
    obtain ⟨mc, lim1, lim2⟩ := hlim
    have e0 : Env0 P w K mg (hidT s1.heap H) callerA [] s1 H :=
      { frames := rfl
        mod := ⟨kin, nsH hns, ⟨mb, nsH hb, hbb⟩, ⟨mc, nsH lim1, lim2⟩⟩
        bs := fun b o e => of_hidT e
        bsz := Nat.le_of_eq (hidT_size _ _)
        funs := trivial
        frf := fun b hb => nomatch (show b ∈ ([] : List Addr) from hb)
        hok := hok
        bare := .of_eq hg }
    refine codeAny_mono ((F _ kin (nsH hns)).run callerA [] s1 H ⟨[.ref a], []⟩ [.ref a] [.ref a] _ _ rfl hr e0 (hbind s1 (.ref a)) (.cons rfl .nil) (hsp H only seq)) ?_
    intro r s' h
    cases r with
    | error e => exact h.elim
    | ok fl =>
      cases fl with
      | next => exact h.elim
      | brk => exact h.elim
      | cont => exact h.elim
      | ret u =>
        obtain ⟨v, H', os, bare, un, hok', r', q⟩ := h
        obtain rfl : v = .bl true := q
        obtain rfl : u = Value.bool true := r'
        refine ⟨rfl, OldK.of_keep ?_, os, bare⟩
        intro b o e
        cases q : H b with
        | none => exact un.keep b o e q (fun z => nomatch (show b ∈ ([] : List Addr) from z)) (fun z => nomatch z)
        | some u =>
          rcases only b with z | ⟨ob, xs, z⟩
          · rw [q] at z
            cases z
          · obtain ⟨e1, _⟩ := hok b _ z
            obtain ⟨e2, _⟩ := hok' b _ (un.frzs b ob _ z)
            rw [e] at e1
            cases e1
            exact e2
  cases hk : K.lookup a with
  | some o =>
    have e := KX a o hk
    rw [ha] at e
    cases e
    exact step (fun _ => none) (fun _ => .inl rfl) (.inr ⟨_, vs.toArray, _, hk, rfl, rfl, rfl, by rw [List.size_toArray, hi.length]; exact hl, by simpa using rv⟩) (fun b u z => nomatch z) (fun b z => absurd rfl z) fun z => absurd rfl z
  | none =>
    let Hs : Hp := fun b => if b = a then some (.frz { cls := .type "list", data := .seq vs.toArray } (.lst (ns.map V.int))) else none
    have at_ : Hs a = some (.frz { cls := .type "list", data := .seq vs.toArray } (.lst (ns.map V.int))) := if_pos rfl
    have off : ∀ b, b ≠ a → Hs b = none := fun b h => if_neg h
    refine step Hs (fun b => ?_) (.inl (.inr ⟨_, at_⟩)) (fun b u z => ?_) (fun b z => Classical.byContradiction fun h => z (off b h)) fun _ => hk
    · by_cases h : b = a
      · exact .inr ⟨_, _, h ▸ at_⟩
      · exact .inl (off b h)
    · by_cases h : b = a
      · subst h
        rw [at_] at z
        cases z
        exact ⟨ha, by rw [List.length_map]; exact hl, vs, _, rv, ha⟩
      · rw [off b h] at z
        cases z
theorem law_sp {K : PySem.W.Frag} {m : List Int → Option Bool} {H : Hp} {a : Addr} {ns : List Int} (hm : m ns = some true) (hS : SqL K H a (ns.map V.int)) : LawSp K m [.ref a] H (fun v _ => v = .bl true) E0 :=
  ⟨ns, true, H, [], ⟨_, [], rfl, fun G g => ⟨a, rfl, g.seq hS⟩, rfl⟩, ⟨Same.refl H, List.nodup_nil, fun _ z => nomatch z⟩, hm, fun F' H' v _ _ c => clv_bool c⟩
/-- the goal that k_head leaves -/
theorem walk_ofG {l : PySem.W.OpenLaw} {n k : Nat} {q : Program} {loose : List Str} {XP : (Str → Option Value) → Heap → Prop} {YP : World → Heap → Prop} {d : DefRec} {K : Params → PySem.W.Frag} {m : List Int → Option Bool} {x : Str}
    (hn : l.most = some n) (hn2 : n ≤ sizeLine) (hdf : d.params.defaults = []) (hr : Room k callerA) (hY : ∀ (w : World) (h : Heap), YP w h → (K w.params).In h)
    (F : ∀ (w : World) (mg : Str → Option Value) (fa : Addr) (h : Heap), (K w.params).In h → h.Ns mainGlobals mg → mg d.name = some (.ref fa) →
      ∃ fd : FuncData, (∀ (s : Shared) (u : Value), BindsTo s fd ⟨[u], []⟩ [(x, u)]) ∧ ∀ base : Heap, (K w.params).In base → base.Ns mainGlobals mg → FnG l.prog w (K w.params) mg base CX0 k fa fd [x] (LawSp (K w.params) m))
    (hm : ∀ ns : List Int, ns.length ≤ n → m ns = some true) : PySem.W.WalkO q loose XP YP l.row.toRowW d [] (fun f vs => PySem.call f vs) := by
  refine Att.attach_call hn hdf ?_
  intro w s0 s1 mg mb fa o pm cd doc a vs ns G Y ho hd hcd hmg hobj hints hlen hg
  have KX := hY w _ Y
  obtain ⟨fd, hb, hF⟩ := F w mg fa _ KX G.T.g hmg
  exact law_run KX G.T.g G.T.b G.T.builtins G.T.nolimit hg hobj hints (Nat.le_trans hlen hn2) hr hF hb fun H _ hS => law_sp (hm ns hlen) hS
end Z
/-! Z, part I: small words for printed proofs. -/
namespace Z
open PySem PySem.Spec PyProof.Rows L2

theorem bnd {α β : Type} {m : Option α} {k : α → Option β} {b : β} (h : m.bind k = some b) : ∃ a, m = some a ∧ k a = some b := by
  cases m with
  | none => cases h
  | some a => exact ⟨a, rfl, h⟩
theorem ifT {α : Type} {c : Bool} {a b : Option α} {r : α} (h : (if c = true then a else b) = some r) (hc : c = true) : a = some r := by
  rw [if_pos hc] at h
  exact h
theorem ifF {α : Type} {c : Bool} {a b : Option α} {r : α} (h : (if c = true then a else b) = some r) (hc : c = false) : b = some r := by
  rw [if_neg (by rw [hc]; exact Bool.false_ne_true)] at h
  exact h
theorem som {α : Type} {a b : α} (h : some a = some b) : a = b := Option.some.inj h
/-- the ends of range(..) in bounds -/
def rngO (a b : Int) : Option (List Int) := if -(2 ^ 62) ≤ a ∧ a < 2 ^ 62 ∧ -(2 ^ 62) ≤ b ∧ b < 2 ^ 62 then some (range' a b) else none
/-- a list may grow by so many -/
def appO {α : Type} (xs : List α) (x : α) : Option (List α) := if xs.length < sizeLine then some (xs ++ [x]) else none
def popO {α : Type} (xs : List α) : Option (α × List α) := match xs.getLast? with
  | some x => some (x, xs.dropLast)
  | none => none
def setO {α : Type} (xs : List α) (i : Int) (x : α) : Option (List α) := (ixN xs.length i).bind fun m => some (xs.set m x)
abbrev eL {α : Type} (e : α → PyData) : List α → PyData := fun xs => .list (xs.map e)
abbrev eT {α : Type} (e : α → PyData) : List α → PyData := fun xs => .tuple (xs.map e)
abbrev eP {α β : Type} (e : α → PyData) (f : β → PyData) : α × β → PyData := fun x => .tuple [e x.1, f x.2]
structure Tri (α β γ : Type) where
  a : α
  b : β
  c : γ
  deriving DecidableEq
abbrev eP3 {α β γ : Type} (e : α → PyData) (f : β → PyData) (g : γ → PyData) : Tri α β γ → PyData := fun x => .tuple [e x.a, f x.b, g x.c]
abbrev eN : Unit → PyData := fun _ => .none
abbrev eO {α : Type} (e : α → PyData) : Option α → PyData := fun
  | none => .none
  | some a => e a

section
variable {X : Cx} {es es' : List Slot} {os os1 os2 : Os} {F0 : Hp} {rest : List Stmt} {D : Ends} {N V G W : List Str} {k i vi gi : Nat} {x : Str} {p pos : Pos} {e e2 a b : Expr} {φ : VP} {n : Ent} {α : Type}
theorem At.weak {σ : L2.St} {H : Hp} (h : At F0 es os σ H) (w : Wk es es') : At F0 es' os σ H := let ⟨F, s, o, l⟩ := h; ⟨F, s, o, l.weak w⟩
theorem At.perm {σ : L2.St} {H : Hp} (h : At F0 es os σ H) (w : os.Perm os1) : At F0 es os1 σ H := let ⟨F, s, o, l⟩ := h; ⟨F, s, o.perm w, l⟩
theorem At.drop {σ : L2.St} {H : Hp} {q : Addr × Ent} (h : At F0 es (q :: os) σ H) : At F0 es os σ H := let ⟨F, s, o, l⟩ := h; ⟨F, s, o.drop, l⟩
theorem EX.weak (h : EX X es' os e φ os1) (w : Wk es es') : EX X es os e φ os1 := fun F σ H Q ow sl q => h F σ H Q ow (sl.weak w) q
theorem EN.weak (h : EN X es' os e n os1) (w : Wk es es') : EN X es os e n os1 := fun F σ H Q ow sl q => h F σ H Q ow (sl.weak w) q
theorem EN.perm (h : EN X es os e n os1) (k : os1.Perm os2) : EN X es os e n os2 := fun F σ H Q ow sl q => h F σ H Q ow sl fun F' H' v e o => q F' H' v e (o.perm (k.cons _))
theorem EN.pre (h : EN X es os e n os1) (k : os2.Perm os) : EN X es os2 e n os1 := fun F σ H Q ow sl q => h F σ H Q (ow.perm k) sl q
/-- the owned object at the k-th place ahead -/
theorem perm_fro {l : Os} {k : Nat} {q : Addr × Ent} (h : l[k]? = some q) : (q :: l.eraseIdx k).Perm l := (perm_at h).symm
/-- an own list at the slot i is data from now on -/
theorem sx_frz {j : Nat} {q : Addr} {ds : List PyData} (hj : os[j]? = some (q, ol ds)) (hi : es[i]? = some (sl (own q))) (h : SX X (es.set i (sl (dat (.list ds)))) (os.eraseIdx j) F0 rest D) : SX X es os F0 rest D := fun F σ H s ow sl => by
  obtain ⟨u, hu, kk, e1, o1⟩ := (ow.perm (perm_at hj)).freeze
  obtain ⟨vs, rfl, hv⟩ := kk _ e1
  obtain ⟨v, ev, cv⟩ := sl.val hi
  obtain rfl : v = .ref q := cv.now
  have sl2 := (sl.mono e1).put (i := i) (v := .ref q) (φ := dat (.list ds)) (cl_dat (.lst upd_same hv))
  have e2 : σ.set i (some (.ref q)) = σ := by
    refine List.ext_getElem? fun m => ?_
    by_cases hm : i = m
    · subst hm
      rw [List.getElem?_set_self (List.getElem?_eq_some_iff.mp ev).1, ev]
    · rw [List.getElem?_set_ne hm]
  rw [e2] at sl2
  exact h _ σ H (s.trans e1) o1 sl2
theorem ix_rng1 {tg : Expr} {b : Int} {xs : List Int} (B : Bd X N W G k) (hj : G[gi]? = some "range") (hm : X.mg "range" = none) (hr : rngO 0 b = some xs) (ha : EX X es os e (dat (.int b)) os1) (hs : starEach [e] X.env = [(false, eval e X.env)] := by rfl) :
    IX X tg es os (.Call (.Name "range" p) [e] [] pos) xs (fun x => dat (.int x)) anyOs os1 := by
  unfold rngO at hr
  split at hr
  · rename_i h
    cases hr
    exact ix_range1 B hj hm h.2.2 ha hs
  · cases hr
theorem ix_rng2 {tg : Expr} {a b : Int} {xs : List Int} (B : Bd X N W G k) (hj : G[gi]? = some "range") (hm : X.mg "range" = none) (hr : rngO a b = some xs) (ha : EX X es os e (dat (.int a)) os1) (hb : EX X es os1 e2 (dat (.int b)) os2)
    (hs : starEach [e, e2] X.env = [(false, eval e X.env), (false, eval e2 X.env)] := by rfl) (hs2 : starEach [e2] X.env = [(false, eval e2 X.env)] := by rfl) :
    IX X tg es os (.Call (.Name "range" p) [e, e2] [] pos) xs (fun x => dat (.int x)) anyOs os2 := by
  unfold rngO at hr
  split at hr
  · rename_i h
    cases hr
    exact ix_range2 B hj hm h ha hb hs hs2
  · cases hr
/-- xs.append(e) of an own list -/
theorem ex_app {β : Type} {apos cpos : Pos} {q : Addr} {enc : β → PyData} {xs xs0 ys : List β} {y : β} {j : Nat} (ha : appO xs y = some ys) (ho : EX X es os a (own q) os) (h0 : os[j]? = some (q, ol (xs0.map enc))) (he : EX X es os e (dat (enc y)) os1) (hj : os1[j]? = some (q, ol (xs.map enc)))
    (hbase : attributeBase a "append" X.env (eval a X.env) = eval a X.env := by rfl) (hline : (apos.endLine == cpos.line) = true := by rfl) (hs : starEach [e] X.env = (false, eval e X.env) :: starEach [] X.env := by rfl)
    (hfew : ((backTo cpos (starEach [e] X.env)).all (fun x => !x.1) && (backToKw cpos (keywordEach [] X.env)).all (fun x => x.1.isSome) && decide ([e].length + ([] : List Keyword).length + (if ([] : List Keyword).isEmpty then 0 else 1) < 30)) = true := by rfl)
    (hplain : (backTo cpos (starEach [] X.env)).any (·.1) = false := by rfl) : EX X es os (.Call (.Attribute a "append" apos) [e] [] cpos) (dat .none) (os1.set j (q, ol (ys.map enc))) := by
  unfold appO at ha
  split at ha
  · rename_i h
    cases ha
    rw [List.map_append]
    exact ex_append ho he h0 hj (by rw [List.length_map]; exact h) hbase hline hs hfew hplain
  · cases ha
theorem ex_popO {β : Type} {apos cpos : Pos} {q : Addr} {enc : β → PyData} {xs : List β} {r : β × List β} {j : Nat} (hr : popO xs = some r) (ho : EX X es os a (own q) os) (hj : os[j]? = some (q, ol (xs.map enc)))
    (hbase : attributeBase a "pop" X.env (eval a X.env) = eval a X.env := by rfl) (hline : (apos.endLine == cpos.line) = true := by rfl) : EX X es os (.Call (.Attribute a "pop" apos) [] [] cpos) (dat (enc r.1)) (os.set j (q, ol (r.2.map enc))) := by
  unfold popO at hr
  split at hr
  · rename_i z hz
    cases hr
    have e : (xs.map enc).getLast? = some (enc z) := by rw [List.getLast?_map, hz]; rfl
    have h := ex_pop ho hj e hbase hline
    rw [← List.map_dropLast] at h
    exact h
  · cases hr
theorem sx_setO {β : Type} {tpos : Pos} {q : Addr} {enc : β → PyData} {xs ys : List β} {y : β} {j : Nat} {z : Int} (hy : setO xs z y = some ys) (he : EX X es os e (dat (enc y)) os1) (ho : EX X es os1 a (own q) os1) (hb : EX X es os1 b (dat (.int z)) os2) (hj : os2[j]? = some (q, ol (xs.map enc))) (h : SX X es (os2.set j (q, ol (ys.map enc))) F0 rest D)
    (hs : swapsWithSole [.Subscript a b tpos] e pos.line X.env = pure false := by rfl) (hw : swappedStores [.Subscript a b tpos] e X.env = pure none := by rfl) (h1 : (assignEach [.Subscript a b tpos] X.env).map (·.2) = [assign (.Subscript a b tpos) X.env] := by rfl)
    (hsub : ∀ v, assign (.Subscript a b tpos) X.env v = (do
      let ov ← holding [v] (eval a X.env)
      let iv ← holding [v, ov] (eval b X.env)
      standAt tpos
      holding [v, ov, iv] (setItem ov iv v)
      release [v, ov, iv] []) := by intro _; rfl) : SX X es os F0 (.Assign [.Subscript a b tpos] e pos :: rest) D := by
  obtain ⟨m, hm, h2⟩ := bnd hy
  cases h2
  rw [List.map_set] at h
  exact sx_setL he ho hb hj (by rw [List.length_map]; exact hm) h hs hw h1 hsub
theorem ex_idxL {β : Type} {enc : β → PyData} {xs : List β} {y : β} {z : Int} (hk : idx xs z = some y) (hr : RdL X φ os2 (xs.map enc)) (ha : EX X es os a φ os1) (hb : EX X es os1 b (dat (.int z)) os2) (hp : PlainIx b := by exact fun _ _ => rfl) : EX X es os (.Subscript a b pos) (dat (enc y)) os2 := ex_ixL hr (atI_map enc hk) ha hb hp
theorem ex_idxT {β : Type} {enc : β → PyData} {xs : List β} {y : β} {z : Int} (hk : idx xs z = some y) (hr : RdT φ (xs.map enc)) (ha : EX X es os a φ os1) (hb : EX X es os1 b (dat (.int z)) os2) (hp : PlainIx b := by exact fun _ _ => rfl) : EX X es os (.Subscript a b pos) (dat (enc y)) os2 := ex_ixT hr (atI_map enc hk) ha hb hp
/-- a literal list or tuple of one kind is a map -/
theorem EN.list {ds ds' : List PyData} (h : EN X es os e (ol ds) os1) (k : ds = ds') : EN X es os e (ol ds') os1 := k ▸ h
theorem EX.to {d d' : PyData} (h : EX X es os e (dat d) os1) (k : d = d') : EX X es os e (dat d') os1 := k ▸ h
theorem TX.to {t t' : Bool} (h : TX X es os e t os1) (k : t = t') : TX X es os e t' os1 := k ▸ h
end
/-- two lists of data are equal exactly if they are alike -/
def EqvOk {α : Type} [DecidableEq α] (e : α → PyData) : Prop := ∀ a b, PyData.eqv (e a) (e b) = decide (a = b)
theorem eqv_int : EqvOk PyData.int := fun a b => by
  simp only [PyData.eqv]
  exact Bool.beq_eq_decide_eq a b
theorem eqv_bool : EqvOk PyData.bool := fun a b => by
  simp only [PyData.eqv]
  exact Bool.beq_eq_decide_eq a b
theorem eqv_str : EqvOk PyData.str := fun a b => by
  simp only [PyData.eqv]
  by_cases h : a = b
  · subst h
    simp
  · simp [h]
theorem eqv_unit : EqvOk eN := fun a b => by
  simp only [PyData.eqv]
  simp
theorem eqvAll_map {α : Type} [DecidableEq α] {e : α → PyData} (h : EqvOk e) : ∀ xs ys : List α, PyData.eqvAll (xs.map e) (ys.map e) = decide (xs = ys)
  | [], [] => by simp [PyData.eqvAll]
  | [], y :: ys => by simp [PyData.eqvAll]
  | x :: xs, [] => by simp [PyData.eqvAll]
  | x :: xs, y :: ys => by
    simp only [List.map_cons, PyData.eqvAll, h x y, eqvAll_map h xs ys, List.cons.injEq, Bool.decide_and]
theorem eqv_list {α : Type} [DecidableEq α] {e : α → PyData} (h : EqvOk e) : EqvOk (eL e) := fun a b => by
  simp only [PyData.eqv]
  exact eqvAll_map h a b
theorem eqv_tup {α : Type} [DecidableEq α] {e : α → PyData} (h : EqvOk e) : EqvOk (eT e) := fun a b => by
  simp only [PyData.eqv]
  exact eqvAll_map h a b
theorem eqv_pair {α β : Type} [DecidableEq α] [DecidableEq β] {e : α → PyData} {f : β → PyData} (h : EqvOk e) (g : EqvOk f) : EqvOk (eP e f) := fun a b => by
  simp only [PyData.eqv, PyData.eqvAll, Bool.and_true]
  rw [h, g, ← Bool.decide_and]
  exact decide_eq_decide.mpr ⟨fun ⟨p, q⟩ => Prod.ext p q, fun p => by rw [p]; exact ⟨rfl, rfl⟩⟩
theorem eqv_tri {α β γ : Type} [DecidableEq α] [DecidableEq β] [DecidableEq γ] {e : α → PyData} {f : β → PyData} {g : γ → PyData} (h : EqvOk e) (h2 : EqvOk f) (h3 : EqvOk g) : EqvOk (eP3 e f g) := fun a b => by
  simp only [PyData.eqv, PyData.eqvAll, Bool.and_true]
  rw [h, h2, h3, ← Bool.decide_and, ← Bool.decide_and]
  refine decide_eq_decide.mpr ⟨fun ⟨p, q, r⟩ => ?_, fun p => by rw [p]; exact ⟨rfl, rfl, rfl⟩⟩
  cases a
  cases b
  simp only at p q r
  rw [p, q, r]
/-- data of bounded depth without dicts -/
structure ShOk {α : Type} (e : α → PyData) (n : Nat) : Prop where
  lay : ∀ a, (e a).canLay0 = true
  dep : ∀ a, (e a).depth ≤ n
theorem ShOk.shaped {α : Type} {e : α → PyData} {n : Nat} (h : ShOk e n) (hn : n ≤ 64) (a : α) : SeqAt.shaped (e a) = true := by
  unfold SeqAt.shaped
  rw [h.lay a, Bool.true_and]
  exact decide_eq_true (Nat.le_trans (h.dep a) hn)
theorem sh_int : ShOk PyData.int 0 := ⟨fun _ => by simp only [PyData.canLay0], fun _ => by simp only [PyData.depth]; exact Nat.le_refl 0⟩
theorem sh_bool : ShOk PyData.bool 0 := ⟨fun _ => by simp only [PyData.canLay0], fun _ => by simp only [PyData.depth]; exact Nat.le_refl 0⟩
theorem sh_unit : ShOk eN 0 := ⟨fun _ => by simp only [PyData.canLay0], fun _ => by simp only [PyData.depth]; exact Nat.le_refl 0⟩
theorem layAll_map {α : Type} {e : α → PyData} {n : Nat} (h : ShOk e n) : ∀ xs : List α, PyData.canLayAll0 (xs.map e) = true ∧ PyData.depthAll (xs.map e) ≤ n
  | [] => by
    simp only [List.map_nil, PyData.canLayAll0, PyData.depthAll]
    exact ⟨trivial, Nat.zero_le _⟩
  | x :: xs => by
    obtain ⟨a, b⟩ := layAll_map h xs
    simp only [List.map_cons, PyData.canLayAll0, PyData.depthAll, h.lay x, a]
    exact ⟨rfl, Nat.max_le.mpr ⟨h.dep x, b⟩⟩
theorem sh_list {α : Type} {e : α → PyData} {n : Nat} (h : ShOk e n) : ShOk (eL e) (n + 1) :=
  ⟨fun xs => by simp only [PyData.canLay0]; exact (layAll_map h xs).1, fun xs => by simp only [PyData.depth]; exact Nat.succ_le_succ (layAll_map h xs).2⟩
theorem sh_tup {α : Type} {e : α → PyData} {n : Nat} (h : ShOk e n) : ShOk (eT e) (n + 1) :=
  ⟨fun xs => by simp only [PyData.canLay0]; exact (layAll_map h xs).1, fun xs => by simp only [PyData.depth]; exact Nat.succ_le_succ (layAll_map h xs).2⟩
theorem sh_pair {α β : Type} {e : α → PyData} {f : β → PyData} {n m : Nat} (h : ShOk e n) (g : ShOk f m) : ShOk (eP e f) (max n m + 1) :=
  ⟨fun x => by simp only [PyData.canLay0, PyData.canLayAll0, h.lay, g.lay]; rfl, fun x => by
    simp only [PyData.depth, PyData.depthAll]
    have h1 := h.dep x.1
    have h2 := g.dep x.2
    omega⟩
theorem sh_tri {α β γ : Type} {e : α → PyData} {f : β → PyData} {g : γ → PyData} {n m k : Nat} (h : ShOk e n) (h2 : ShOk f m) (h3 : ShOk g k) : ShOk (eP3 e f g) (max n (max m k) + 1) :=
  ⟨fun x => by simp only [PyData.canLay0, PyData.canLayAll0, h.lay, h2.lay, h3.lay]; rfl, fun x => by
    simp only [PyData.depth, PyData.depthAll]
    have q1 := h.dep x.a
    have q2 := h2.dep x.b
    have q3 := h3.dep x.c
    omega⟩
section
variable {X : Cx} {es : List Slot} {os os1 os2 : Os} {N V G W : List Str} {k : Nat} {pos : Pos} {a b : Expr} {α : Type} [DecidableEq α] {e : α → PyData} {n : Nat} {x y : α}
theorem ex_eqD (B : Bd X N W G k) (h : EqvOk e) (s : ShOk e n) (hn : n ≤ 64) (ha : EX X es os a (dat (e x)) os1) (hb : EX X es os1 b (dat (e y)) os2) : EX X es os (.Compare a [.Eq] [b] pos) (dat (.bool (decide (x = y)))) os2 :=
  ex_cmp (op_eqD B.room.units) (r2_eq (s.shaped hn x) (s.shaped hn y) (h x y)) (nomark _) ha hb
theorem ex_neD (B : Bd X N W G k) (h : EqvOk e) (s : ShOk e n) (hn : n ≤ 64) (ha : EX X es os a (dat (e x)) os1) (hb : EX X es os1 b (dat (e y)) os2) : EX X es os (.Compare a [.NotEq] [b] pos) (dat (.bool (!decide (x = y)))) os2 :=
  ex_cmp (op_neD B.room.units) (r2_ne (s.shaped hn x) (s.shaped hn y) (by rw [h x y])) (nomark _) ha hb
theorem tx_eqD (B : Bd X N W G k) (h : EqvOk e) (s : ShOk e n) (hn : n ≤ 64) (ha : EX X es os a (dat (e x)) os1) (hb : EX X es os1 b (dat (e y)) os2) : TX X es os (.Compare a [.Eq] [b] pos) (decide (x = y)) os2 :=
  tx_cmp (op_eqD B.room.units) (r2_eq (s.shaped hn x) (s.shaped hn y) (h x y)) (nomark _) ha hb
theorem tx_neD (B : Bd X N W G k) (h : EqvOk e) (s : ShOk e n) (hn : n ≤ 64) (ha : EX X es os a (dat (e x)) os1) (hb : EX X es os1 b (dat (e y)) os2) : TX X es os (.Compare a [.NotEq] [b] pos) (!decide (x = y)) os2 :=
  tx_cmp (op_neD B.room.units) (r2_ne (s.shaped hn x) (s.shaped hn y) (by rw [h x y])) (nomark _) ha hb
end
end Z
/-! Z, part J: parallel assignments, isinstance, factorial, mirrors of comprehensions, +, slices. -/
namespace Z
open PySem PySem.Spec PyProof.Rows L2

section
variable {X : Cx} {es es' : List Slot} {os os1 os2 : Os} {F0 : Hp} {rest : List Stmt} {D : Ends} {N V G W : List Str} {k i j l vi gi : Nat} {x y z : Str} {p pos : Pos} {e e2 a b c : Expr} {φ : VP} {n : Ent} {α : Type}

/-! ### values side by side, new lists among them -/
def AQ (X : Cx) (es : List Slot) (as : List Expr) (os : Os) (Rel : List VP → Os → Prop) : Prop := ∀ F σ H Q, Ow F os H → Sl F es σ → (∀ F' H' vs φs os', Same F F' → Rel φs os' → Ow F' os' H' → ClA φs F' vs → Q vs H') → WA X as σ H Q
theorem aq_nil : AQ X es [] os (fun φs os' => φs = [] ∧ os' = os) := fun F σ H Q ow sl q => wa_of pa_nil (q F H [] [] os (Same.refl F) ⟨rfl, rfl⟩ ow rfl)
theorem aq_x {as : List Expr} {Rel : List VP → Os → Prop} (ha : EX X es os a φ os1) (hr : AQ X es as os1 Rel) (hs : starEach (a :: as) X.env = (false, eval a X.env) :: starEach as X.env := by rfl) : AQ X es (a :: as) os (fun φs os' => ∃ r, φs = φ :: r ∧ Rel r os') := fun F σ H Q ow sl q =>
  wa_of (pa_cons pe_u pa_u hs) (ha F σ H _ ow sl fun F1 H1 v e1 o1 c1 => hr F1 σ H1 _ o1 (sl.mono e1) fun F2 H2 vs φs os' e2 rel o2 c2 => q F2 H2 _ _ os' (e1.trans e2) ⟨φs, rfl, rel⟩ o2 ⟨v, vs, rfl, c1.mono e2, c2⟩)
theorem aq_n {as : List Expr} {Rel : Addr → List VP → Os → Prop} (ha : EN X es os a n os1) (hr : ∀ p, AQ X es as ((p, n) :: os1) (Rel p)) (hs : starEach (a :: as) X.env = (false, eval a X.env) :: starEach as X.env := by rfl) : AQ X es (a :: as) os (fun φs os' => ∃ p r, φs = own p :: r ∧ Rel p r os') := fun F σ H Q ow sl q =>
  wa_of (pa_cons pe_u pa_u hs) (ha F σ H _ ow sl fun F1 H1 p e1 o1 => hr p F1 σ H1 _ o1 (sl.mono e1) fun F2 H2 vs φs os' e2 rel o2 c2 => q F2 H2 _ _ os' (e1.trans e2) ⟨p, φs, rfl, rel⟩ o2 ⟨_, vs, rfl, cl_own, c2⟩)
/-- the names are stored from the right -/
def swpB (sc : Scope) (ts : List Expr) (v : Expr) (xs : List Str) : Prop := ∀ env : Env, env.scope = sc → swappedStores ts v env = pure (some xs)
def nswB (sc : Scope) (ts : List Expr) (v : Expr) : Prop := ∀ env : Env, env.scope = sc → swappedStores ts v env = pure none
def lclB (sc : Scope) (x : Str) : Bool := match sc.names.lookup x with
  | some .local => true
  | _ => false
theorem lcl_of {sc : Scope} {x : Str} (h : lclB sc x = true) : sc.names.lookup x = some .local := by
  unfold lclB at h
  split at h
  · assumption
  · cases h
theorem sx_par2 {px py pt p2 : Pos} {kt k2 : Nat} {Rel : List VP → Os → Prop} (sc : Scope) (hsc : X.env.scope = sc) (B : Bd X N W G k) (hi : N[i]? = some x) (hj : N[j]? = some y) (hij : i ≠ j) (hx : lclB sc x = true) (hy : lclB sc y = true) (hw : swpB sc [.Tuple [.Name x px, .Name y py] kt pt] (.Tuple [a, b] k2 p2) [x, y])
    (ha : AQ X es [a, b] os Rel) (h : ∀ φ ψ os', Rel [φ, ψ] os' → SX X ((es.set i (sl φ)).set j (sl ψ)) os' F0 rest D) (hR : ∀ φs os', Rel φs os' → ∃ φ ψ, φs = [φ, ψ])
    (hs : swapsWithSole [.Tuple [.Name x px, .Name y py] kt pt] (.Tuple [a, b] k2 p2) pos.line X.env = pure false := by rfl) : SX X es os F0 (.Assign [.Tuple [.Name x px, .Name y py] kt pt] (.Tuple [a, b] k2 p2) pos :: rest) D := fun F σ H s ow sl =>
  wps_cons (ws_of (ps_par B.calm (B.hN ▸ B.nd) (B.hN ▸ hi) (B.hN ▸ hj) hij (by rw [hsc]; exact lcl_of hx) (by rw [hsc]; exact lcl_of hy) pa_u (hw _ hsc) hs) (ha F σ H _ ow sl fun F1 H1 vs φs os' e1 rel o1 c1 => by
    obtain ⟨φ, ψ, rfl⟩ := hR φs os' rel
    obtain ⟨v, u, rfl, h1, h2⟩ := cla2 c1
    exact ⟨v, u, rfl, h φ ψ os' rel F1 _ H1 (s.trans e1) o1 (((sl.mono e1).put h1).put h2)⟩))
theorem cla3 {φ ψ χ : VP} {F : Hp} {vs : List L2.V} (h : ClA [φ, ψ, χ] F vs) : ∃ v u w, vs = [v, u, w] ∧ Cl φ F v ∧ Cl ψ F u ∧ Cl χ F w := by
  obtain ⟨v, r, e, h1, h2⟩ := h
  obtain ⟨u, w, e2, h3, h4⟩ := cla2 h2
  subst e2
  exact ⟨v, u, w, e, h1, h3, h4⟩
theorem sx_par3 {px py pz pt p2 : Pos} {kt k2 : Nat} {Rel : List VP → Os → Prop} (sc : Scope) (hsc : X.env.scope = sc) (B : Bd X N W G k) (hi : N[i]? = some x) (hj : N[j]? = some y) (hl : N[l]? = some z) (hij : i ≠ j) (hil : i ≠ l) (hjl : j ≠ l) (hx : lclB sc x = true) (hy : lclB sc y = true) (hz : lclB sc z = true)
    (hw : swpB sc [.Tuple [.Name x px, .Name y py, .Name z pz] kt pt] (.Tuple [a, b, c] k2 p2) [x, y, z])
    (ha : AQ X es [a, b, c] os Rel) (h : ∀ φ ψ χ os', Rel [φ, ψ, χ] os' → SX X (((es.set i (sl φ)).set j (sl ψ)).set l (sl χ)) os' F0 rest D) (hR : ∀ φs os', Rel φs os' → ∃ φ ψ χ, φs = [φ, ψ, χ])
    (hs : swapsWithSole [.Tuple [.Name x px, .Name y py, .Name z pz] kt pt] (.Tuple [a, b, c] k2 p2) pos.line X.env = pure false := by rfl) : SX X es os F0 (.Assign [.Tuple [.Name x px, .Name y py, .Name z pz] kt pt] (.Tuple [a, b, c] k2 p2) pos :: rest) D := fun F σ H s ow sl =>
  wps_cons (ws_of (ps_par3 B.calm (B.hN ▸ B.nd) (B.hN ▸ hi) (B.hN ▸ hj) (B.hN ▸ hl) hij hil hjl (by rw [hsc]; exact lcl_of hx) (by rw [hsc]; exact lcl_of hy) (by rw [hsc]; exact lcl_of hz) pa_u (hw _ hsc) hs) (ha F σ H _ ow sl fun F1 H1 vs φs os' e1 rel o1 c1 => by
    obtain ⟨φ, ψ, χ, rfl⟩ := hR φs os' rel
    obtain ⟨v, u, w, rfl, h1, h2, h3⟩ := cla3 c1
    exact ⟨v, u, w, rfl, h φ ψ χ os' rel F1 _ H1 (s.trans e1) o1 ((((sl.mono e1).put h1).put h2).put h3)⟩))
/-- a, b = (e1, e2): the tuple is made, then taken apart -/
theorem sx_mk2 {t1 t2 pt p2 : Pos} {kt k2 : Nat} {Rel : List VP → Os → Prop} (sc : Scope) (hsc : X.env.scope = sc) (B : Bd X N W G k) (T : Bt X V) (hi : N[i]? = some x) (hj : N[j]? = some y) (hx : V[vi]? = some x) (hy : V[gi]? = some y) (hw : nswB sc [.Tuple [.Name x t1, .Name y t2] kt pt] (.Tuple [a, b] k2 p2))
    (ha : AQ X es [a, b] os Rel) (h : ∀ φ ψ os', Rel [φ, ψ] os' → SX X ((es.set i (sl φ)).set j (sl ψ)) os' F0 rest D) (hR : ∀ φs os', Rel φs os' → ∃ φ ψ, φs = [φ, ψ])
    (hs : swapsWithSole [.Tuple [.Name x t1, .Name y t2] kt pt] (.Tuple [a, b] k2 p2) pos.line X.env = pure false := by rfl) (h1 : (assignEach [.Tuple [.Name x t1, .Name y t2] kt pt] X.env).map (·.2) = [assign (.Tuple [.Name x t1, .Name y t2] kt pt) X.env] := by rfl) :
    SX X es os F0 (.Assign [.Tuple [.Name x t1, .Name y t2] kt pt] (.Tuple [a, b] k2 p2) pos :: rest) D := fun F σ H s ow sl =>
  wps_cons (ws_of (ps_asg (pe_tup pa_u) (pg_tup (n := 2) B.calm (pgs_cons (pg_name (B.hN ▸ B.nd) (B.hN ▸ hi) (T.loc x (List.mem_of_getElem? hx)) (.inl (T.fn x))) (pgs_cons (pg_name (B.hN ▸ B.nd) (B.hN ▸ hj) (T.loc y (List.mem_of_getElem? hy)) (.inl (T.fn y))) pgs_nil)) rfl rfl) hs (hw _ hsc) h1) (ha F σ H _ ow sl fun F1 H1 vs φs os' e1 rel o1 c1 => by
    obtain ⟨φ, ψ, rfl⟩ := hR φs os' rel
    obtain ⟨v, u, rfl, h1, h2⟩ := cla2 c1
    refine ⟨by show 2 ≤ sizeLine; decide, fun p hp => ?_⟩
    refine ⟨p, _, rfl, .of upd_same, rfl, _, _, rfl, _, _, rfl, rfl, ?_⟩
    exact h φ ψ os' rel F1 _ _ (s.trans e1) (o1.grow (same_upd hp)) (((sl.mono e1).put h1).put h2)))
theorem sx_mk3 {m : Nat} {t1 t2 t3 pt p2 : Pos} {kt k2 : Nat} {Rel : List VP → Os → Prop} (sc : Scope) (hsc : X.env.scope = sc) (B : Bd X N W G k) (T : Bt X V) (hi : N[i]? = some x) (hj : N[j]? = some y) (hl : N[l]? = some z) (hx : V[vi]? = some x) (hy : V[gi]? = some y) (hz : V[m]? = some z) (hw : nswB sc [.Tuple [.Name x t1, .Name y t2, .Name z t3] kt pt] (.Tuple [a, b, c] k2 p2))
    (ha : AQ X es [a, b, c] os Rel) (h : ∀ φ ψ χ os', Rel [φ, ψ, χ] os' → SX X (((es.set i (sl φ)).set j (sl ψ)).set l (sl χ)) os' F0 rest D) (hR : ∀ φs os', Rel φs os' → ∃ φ ψ χ, φs = [φ, ψ, χ])
    (hs : swapsWithSole [.Tuple [.Name x t1, .Name y t2, .Name z t3] kt pt] (.Tuple [a, b, c] k2 p2) pos.line X.env = pure false := by rfl) (h1 : (assignEach [.Tuple [.Name x t1, .Name y t2, .Name z t3] kt pt] X.env).map (·.2) = [assign (.Tuple [.Name x t1, .Name y t2, .Name z t3] kt pt) X.env] := by rfl) :
    SX X es os F0 (.Assign [.Tuple [.Name x t1, .Name y t2, .Name z t3] kt pt] (.Tuple [a, b, c] k2 p2) pos :: rest) D := fun F σ H s ow sl =>
  wps_cons (ws_of (ps_asg (pe_tup pa_u) (pg_tup (n := 3) B.calm (pgs_cons (pg_name (B.hN ▸ B.nd) (B.hN ▸ hi) (T.loc x (List.mem_of_getElem? hx)) (.inl (T.fn x))) (pgs_cons (pg_name (B.hN ▸ B.nd) (B.hN ▸ hj) (T.loc y (List.mem_of_getElem? hy)) (.inl (T.fn y))) (pgs_cons (pg_name (B.hN ▸ B.nd) (B.hN ▸ hl) (T.loc z (List.mem_of_getElem? hz)) (.inl (T.fn z))) pgs_nil))) rfl rfl) hs (hw _ hsc) h1) (ha F σ H _ ow sl fun F1 H1 vs φs os' e1 rel o1 c1 => by
    obtain ⟨φ, ψ, χ, rfl⟩ := hR φs os' rel
    obtain ⟨v, u, w, rfl, h1, h2, h3⟩ := cla3 c1
    refine ⟨by show 3 ≤ sizeLine; decide, fun p hp => ?_⟩
    refine ⟨p, _, rfl, .of upd_same, rfl, _, _, rfl, _, _, rfl, _, _, rfl, rfl, ?_⟩
    exact h φ ψ χ os' rel F1 _ _ (s.trans e1) (o1.grow (same_upd hp)) ((((sl.mono e1).put h1).put h2).put h3)))

/-! ### isinstance of a datum -/
def isTy : PyData → String → Bool
  | .none, s => s == "NoneType"
  | .bool _, s => s == "bool" || s == "int"
  | .int _, s => s == "int"
  | .str _, s => s == "str"
  | .list _, s => s == "list"
  | .tuple _, s => s == "tuple"
  | .dict _, s => s == "dict"
theorem ex_tyname {T : String} (B : Bd X N W G k) (hj : G[gi]? = some x) (hm : X.mg x = none) (hv : bootBuiltins x = some (.type T)) : EX X es os (.Name x pos) (fun _ v => v = .ty T) os := fun F σ H Q ow sl q =>
  let ⟨u, v⟩ := B.gl x (List.mem_of_getElem? hj)
  we_of (pe_bltn (v := .ty T) u hm hv rfl (dun_n v) (dun_d v)) (q F H _ (Same.refl F) ow fun _ _ => rfl)

def tyName : PyData → String
  | .none => "NoneType"
  | .bool _ => "bool"
  | .int _ => "int"
  | .str _ => "str"
  | .list _ => "list"
  | .tuple _ => "tuple"
  | .dict _ => "dict"
theorem rc_isi {d : PyData} {T : String} {r : Bool} (h : kitB (tyName d) T = some r) : RCX (rIsi X.K) [dat d, fun _ v => v = .ty T] os (dat (.bool r)) os := fun F H vs Q ow c q => by
  obtain ⟨v, u, rfl, h1, h2⟩ := cla2 c
  obtain rfl : u = .ty T := h2.now
  have fin := q F H _ (Same.refl F) ow (cl_dat (.bl r))
  have hd := h1.now
  have key : ∀ t : String, tyName d = t → TyX X.K H v (.type t) → rIsi X.K [v, .ty T] H Q := fun t e k => ⟨v, _, _, _, r, rfl, .ty T, k, kit_ty (e ▸ h), fin⟩
  cases hd with
  | non => exact key _ rfl (.base .non)
  | bl b => exact key _ rfl (.base (.bl b))
  | int i => exact key _ rfl (.base (.int i))
  | str x => exact key _ rfl (.base (.str x))
  | lst k1 k2 => exact key _ rfl (.base (.lst (ow.ex _ _ k1)))
  | tup k1 k2 => exact key _ rfl (.base (.tup (ow.ex _ _ k1)))

/-! ### factorial -/
def facO (a : Int) : Option Int := if 0 ≤ a ∧ a ≤ 20000 then some ((Builtin.Math.factorialNat a.toNat : Nat) : Int) else none
def rFac : List L2.V → Hp → VK → Prop := fun vs H Q => ∃ a : Int, vs = [.int a] ∧ 0 ≤ a ∧ a ≤ 20000 ∧ Q (.int ((Builtin.Math.factorialNat a.toNat : Nat) : Int)) H
theorem cr_fac : CallR X (.builtin "math.factorial") rFac := by
  intro pins s σ H vs us Q I r h
  obtain ⟨a, rfl, h0, h1, q⟩ := h
  obtain ⟨u, rfl, t, rfl⟩ := vals1 r
  exact PySem.W.mc_factorial h0 h1 fun _ => ⟨.int _, H, I.tok _, ⟨_, rfl⟩, q⟩
theorem rc_fac {a m : Int} (h : facO a = some m) : RCX rFac [dat (.int a)] os (dat (.int m)) os := fun F H vs Q ow c q => by
  unfold facO at h
  split at h
  · rename_i hh
    cases h
    obtain ⟨v, rfl, h⟩ := cla1 c
    exact ⟨a, by rw [clv_int h], hh.1, hh.2, q F H _ (Same.refl F) ow (cl_dat (.int _))⟩
  · cases h
/-- a module's name for a built-in function -/
theorem ex_mfn {as : List Expr} {id : String} {r : List L2.V → Hp → VK → Prop} {φs : List VP} {d : VP} (B : Bd X N V G k) (hj : G[gi]? = some x) (hm : X.mg x = some (.builtin id)) (hc : CallR X (.builtin id) r) (hr : RCX r φs os1 d os2)
    (ha : AX X es os (e :: as) φs os1) (he : starEach (e :: as) X.env = (false, eval e X.env) :: starEach as X.env := by rfl) (hpl : (backTo pos (starEach as X.env)).any (·.1) = false := by rfl) : EX X es os (.Call (.Name x p) (e :: as) [] pos) d os2 := fun F σ H Q ow sl q =>
  let ⟨a, b⟩ := B.gl x (List.mem_of_getElem? hj)
  we_of (pe_callBfun hc a hm pa_u (dun_d b) he hpl) (ha F σ H _ ow sl fun F1 H1 vs e1 o1 c1 => hr F1 H1 vs Q o1 c1 fun F2 H2 v e2 => q F2 H2 v (e1.trans e2))

/-! ### +, slices -/
def catO {α : Type} (xs ys : List α) : Option (List α) := if xs.length + ys.length ≤ sizeLine then some (xs ++ ys) else none
theorem dqall_rev {F : Hp} : ∀ {ds : List PyData} {vs : List L2.V}, DqAll F vs ds → DqAll F vs.reverse ds.reverse
  | [], _, h => by
    cases h
    exact .nil
  | d :: ds, _, h => by
    cases h with
    | cons h1 h2 =>
      rw [List.reverse_cons, List.reverse_cons]
      exact dqall_app (dqall_rev h2) (.cons h1 .nil)
theorem dat_list {F H : Hp} {v : L2.V} {ds : List PyData} (ow : Ow F os H) (c : Cl (dat (.list ds)) F v) : ∃ p vs, v = .ref p ∧ H p = some (.lst vs) ∧ DqAll F vs ds := by
  have h := c.now
  cases h with
  | lst h1 h2 => exact ⟨_, _, rfl, ow.ex _ _ h1, h2⟩
theorem en_cat {α : Type} {enc : α → PyData} {xs ys zs : List α} (h : catO xs ys = some zs) (ha : EX X es os a (dat (.list (xs.map enc))) os1) (hb : EX X es os1 b (dat (.list (ys.map enc))) os2) : EN X es os (.BinOp a .Add b pos) (ol (zs.map enc)) os2 := fun F σ H Q ow sl q => by
  unfold catO at h
  split at h
  · rename_i hl
    cases h
    refine we_of (pe_op op_cat pe_u pe_u) (ha F σ H _ ow sl fun F1 H1 v e1 o1 c1 => hb F1 σ H1 _ o1 (sl.mono e1) fun F2 H2 u e2 o2 c2 => ?_)
    obtain ⟨p, vs, rfl, h1, h2⟩ := dat_list o2 (c1.mono e2)
    obtain ⟨r, us, rfl, h3, h4⟩ := dat_list o2 c2
    refine ⟨p, r, vs, us, rfl, rfl, h1, h3, by rw [dqall_len h2, dqall_len h4, List.length_map, List.length_map]; exact hl, fun m hm => ?_⟩
    refine q F2 _ m (e1.trans e2) (o2.new hm fun G g => ⟨_, rfl, ?_⟩)
    rw [List.map_append]
    exact dqall_mono g _ _ (dqall_app h2 h4)
  · cases h
theorem ex_catT {α : Type} {enc : α → PyData} {xs ys zs : List α} (h : catO xs ys = some zs) (ha : EX X es os a (dat (.tuple (xs.map enc))) os1) (hb : EX X es os1 b (dat (.tuple (ys.map enc))) os2) : EX X es os (.BinOp a .Add b pos) (dat (.tuple (zs.map enc))) os2 := fun F σ H Q ow sl q => by
  unfold catO at h
  split at h
  · rename_i hl
    cases h
    refine we_of (pe_op op_catA pe_u pe_u) (ha F σ H _ ow sl fun F1 H1 v e1 o1 c1 => hb F1 σ H1 _ o1 (sl.mono e1) fun F2 H2 u e2 o2 c2 => ?_)
    obtain ⟨p, vs, rfl, h1, h2⟩ := rdt_dat F2 v (c1.mono e2)
    obtain ⟨r, us, rfl, h3, h4⟩ := rdt_dat F2 u c2
    have e := e1.trans e2
    have hd := dqall_app h2 h4
    rw [← List.map_append] at hd
    refine ⟨p, r, vs, us, rfl, rfl, .of (o2.ex _ _ h1), .of (o2.ex _ _ h3), by rw [dqall_len h2, dqall_len h4, List.length_map, List.length_map]; exact hl, fun h0 => ?_, fun h0 h5 => ?_, fun h0 h5 m hm => ?_⟩
    · refine q F2 H2 _ e o2 (cl_dat (.tup h3 ?_))
      rw [h0, List.nil_append] at hd
      exact hd
    · refine q F2 H2 _ e o2 (cl_dat (.tup h1 ?_))
      rw [h5, List.append_nil] at hd
      exact hd
    · have fp := o2.ex.free hm
      exact q _ _ _ (e.trans (same_upd fp)) (o2.frozen hm) (cl_dat (.tup upd_same (dqall_mono (same_upd fp) _ _ hd)))
  · cases h
/-- xs[lo:hi] -/
def cut {α : Type} (xs : List α) (lo hi : Option Int) : List α := (xs.drop (HT.sIx xs.length 0 lo)).take (HT.sIx xs.length xs.length hi - HT.sIx xs.length 0 lo)
theorem dqall_cut {F : Hp} {ds : List PyData} {vs : List L2.V} (h : DqAll F vs ds) (lo hi : Option Int) : DqAll F (cutV vs lo hi) (cut ds lo hi) := by
  unfold cutV cut
  rw [dqall_len h]
  exact dqall_take _ (dqall_drop _ h)
theorem cut_map {α β : Type} (f : α → β) (xs : List α) (lo hi : Option Int) : cut (xs.map f) lo hi = (cut xs lo hi).map f := by
  unfold cut
  rw [List.length_map, List.map_take, List.map_drop]
def WO (X : Cx) : Option Expr → TO
  | none => tNoPart
  | some e => tPart (WE X e)
theorem po_u : ∀ e : Option Expr, PO X e (WO X e)
  | none => po_none
  | some e => po_some pe_u
/-- an end of a slice -/
def PX (X : Cx) (es : List Slot) (os : Os) (e : Option Expr) (o : Option Int) (os' : Os) : Prop := ∀ F σ H Q, Ow F os H → Sl F es σ → (∀ F' H', Same F F' → Ow F' os' H' → Q o H') → WO X e σ H Q
theorem px_none : PX X es os none none os := fun F σ H Q ow sl q => q F H (Same.refl F) ow
theorem px_some {i : Int} (h : EX X es os e (dat (.int i)) os1) : PX X es os (some e) (some i) os1 := fun F σ H Q ow sl q => h F σ H _ ow sl fun F1 H1 v e1 o1 c1 => ⟨i, clv_int c1, q F1 H1 e1 o1⟩
theorem en_cut {α : Type} {enc : α → PyData} {xs : List α} {lo hi : Option Expr} {l u : Option Int} {os3 : Os} {p2 : Pos} (hr : RdL X φ os3 (xs.map enc)) (ha : EX X es os a φ os1) (hl : PX X es os1 lo l os2) (hu : PX X es os2 hi u os3) : EN X es os (.Subscript a (.Slice lo hi none p2) pos) (ol ((cut xs l u).map enc)) os3 := fun F σ H Q ow sl q =>
  we_of (pe_slice sl_list pe_u (po_u lo) (po_u hi)) (ha F σ H _ ow sl fun F1 H1 v e1 o1 c1 => hl F1 σ H1 _ o1 (sl.mono e1) fun F2 H2 e2 o2 => hu F2 σ H2 _ o2 (sl.mono (e1.trans e2)) fun F3 H3 e3 o3 => by
    obtain ⟨p, vs, rfl, h1, h2⟩ := hr F3 H3 v o3 ((c1.mono e2).mono e3)
    refine ⟨p, vs, rfl, h1, fun m hm => q F3 _ m ((e1.trans e2).trans e3) (o3.new hm fun G g => ⟨_, rfl, ?_⟩)⟩
    rw [← cut_map]
    exact dqall_mono g _ _ (dqall_cut h2 l u))
theorem ex_cutT {α : Type} {enc : α → PyData} {xs : List α} {lo hi : Option Expr} {l u : Option Int} {os3 : Os} {p2 : Pos} (hr : RdT φ (xs.map enc)) (ha : EX X es os a φ os1) (hl : PX X es os1 lo l os2) (hu : PX X es os2 hi u os3) : EX X es os (.Subscript a (.Slice lo hi none p2) pos) (dat (.tuple ((cut xs l u).map enc))) os3 := fun F σ H Q ow sl q =>
  we_of (pe_slice sl_tupA pe_u (po_u lo) (po_u hi)) (ha F σ H _ ow sl fun F1 H1 v e1 o1 c1 => hl F1 σ H1 _ o1 (sl.mono e1) fun F2 H2 e2 o2 => hu F2 σ H2 _ o2 (sl.mono (e1.trans e2)) fun F3 H3 e3 o3 => by
    obtain ⟨p, vs, rfl, h1, h2⟩ := hr F3 v ((c1.mono e2).mono e3)
    have e := (e1.trans e2).trans e3
    have hd := dqall_cut h2 l u
    rw [cut_map] at hd
    refine ⟨p, vs, rfl, .of (o3.ex _ _ h1), fun hw => ?_, fun hw m hm => ?_⟩
    · refine q F3 H3 _ e o3 (cl_dat (.tup h1 ?_))
      have e4 : cutV vs l u = vs := by
        unfold cutV
        rw [hw.1, hw.2, List.drop_zero, Nat.sub_zero, List.take_length]
      rw [e4] at hd
      exact hd
    · have fp := o3.ex.free hm
      exact q _ _ _ (e.trans (same_upd fp)) (o3.frozen hm) (cl_dat (.tup upd_same (dqall_mono (same_upd fp) _ _ hd))))
/-- xs[::-1] of a list -/
theorem en_rev {α : Type} {enc : α → PyData} {xs : List α} {kk : Nat} {p1 p2 p3 : Pos} (hr : RdL X φ os1 (xs.map enc)) (ha : EX X es os a φ os1) : EN X es os (.Subscript a (.Slice none none (some (.UnaryOp .USub (.Constant (.int 1) kk p1) p2)) p3) pos) (ol (xs.reverse.map enc)) os1 := fun F σ H Q ow sl q =>
  we_of (pe_revL pe_u) (ha F σ H _ ow sl fun F1 H1 v e1 o1 c1 => by
    obtain ⟨p, vs, rfl, h1, h2⟩ := hr F1 H1 v o1 c1
    refine ⟨p, vs, rfl, h1, fun m hm => q F1 _ m e1 (o1.new hm fun G g => ⟨_, rfl, ?_⟩)⟩
    rw [List.map_reverse]
    exact dqall_mono g _ _ (dqall_rev h2))
/-! ### mirrors of comprehensions -/
def lcT {α β : Type} (f : α → β) (xs : List α) : Option (List β) := if xs.length < sizeLine then some (xs.map f) else none
def lcF {α β : Type} (c : α → Bool) (f : α → β) (xs : List α) : Option (List β) := if xs.length < sizeLine then some ((xs.filter c).map f) else none
def mapO {α β : Type} (f : α → Option β) : List α → Option (List β)
  | [] => some []
  | x :: xs => (f x).bind fun y => (mapO f xs).bind fun ys => some (y :: ys)
def lcO {α β : Type} (f : α → Option β) (xs : List α) : Option (List β) := if xs.length < sizeLine then mapO f xs else none
def lcE {α β S : Type} (f : S → α → Option (Option β × S)) (xs : List α) (s : S) : Option (List β × S) := if xs.length < sizeLine then lcS f xs s else none
theorem lcS_map {α β : Type} (f : α → β) : ∀ xs : List α, lcS (fun (_ : Unit) x => some (some (f x), ())) xs () = some (xs.map f, ())
  | [] => rfl
  | x :: xs => by
    unfold lcS
    show ((lcS _ xs ()).bind fun u => some ([f x] ++ u.1, u.2)) = _
    rw [lcS_map f xs]
    rfl
theorem lcS_filter {α β : Type} (c : α → Bool) (f : α → β) : ∀ xs : List α, lcS (fun (_ : Unit) x => some (if c x = true then some (f x) else none, ())) xs () = some ((xs.filter c).map f, ())
  | [] => rfl
  | x :: xs => by
    unfold lcS
    show ((lcS _ xs ()).bind fun u => some ((if c x = true then some (f x) else none).toList ++ u.1, u.2)) = _
    rw [lcS_filter c f xs]
    cases h : c x with
    | true =>
      rw [if_pos rfl, List.filter_cons, if_pos h]
      rfl
    | false =>
      rw [if_neg Bool.false_ne_true, List.filter_cons, if_neg (by rw [h]; exact Bool.false_ne_true)]
      rfl
theorem lcS_mapO {α β : Type} (f : α → Option β) : ∀ (xs : List α) (ys : List β), mapO f xs = some ys → lcS (fun (_ : Unit) x => (f x).map fun y => (some y, ())) xs () = some (ys, ())
  | [], ys, h => by
    cases h
    rfl
  | x :: xs, ys, h => by
    unfold mapO at h
    obtain ⟨y, hy, h⟩ := bnd h
    obtain ⟨zs, hz, h⟩ := bnd h
    cases h
    unfold lcS
    rw [hy]
    show ((lcS _ xs ()).bind fun u => some ([y] ++ u.1, u.2)) = _
    rw [lcS_mapO f xs zs hz]
    rfl
theorem lcT_ok {α β : Type} {f : α → β} {xs : List α} {ys : List β} (h : lcT f xs = some ys) : xs.length < sizeLine ∧ lcS (fun (_ : Unit) x => some (some (f x), ())) xs () = some (ys, ()) := by
  unfold lcT at h
  split at h
  · rename_i hl
    cases h
    exact ⟨hl, lcS_map f xs⟩
  · cases h
theorem lcF_ok {α β : Type} {c : α → Bool} {f : α → β} {xs : List α} {ys : List β} (h : lcF c f xs = some ys) : xs.length < sizeLine ∧ lcS (fun (_ : Unit) x => some (if c x = true then some (f x) else none, ())) xs () = some (ys, ()) := by
  unfold lcF at h
  split at h
  · rename_i hl
    cases h
    exact ⟨hl, lcS_filter c f xs⟩
  · cases h
theorem lcO_ok {α β : Type} {f : α → Option β} {xs : List α} {ys : List β} (h : lcO f xs = some ys) : xs.length < sizeLine ∧ lcS (fun (_ : Unit) x => (f x).map fun y => (some y, ())) xs () = some (ys, ()) := by
  unfold lcO at h
  split at h
  · rename_i hl
    exact ⟨hl, lcS_mapO f xs ys h⟩
  · cases h
theorem lcE_ok {α β S : Type} {f : S → α → Option (Option β × S)} {xs : List α} {s : S} {r : List β × S} (h : lcE f xs s = some r) : xs.length < sizeLine ∧ lcS f xs s = some (r.1, r.2) := by
  unfold lcE at h
  split at h
  · rename_i hl
    exact ⟨hl, h⟩
  · cases h
end
end Z
/-! Z, part K: what the printer names. -/
namespace Z
open PySem PySem.Spec PyProof.Rows L2

abbrev absI (i : Int) : Int := if i < 0 then -i else i
abbrev maxI (i j : Int) : Int := if j > i then j else i
abbrev minI (i j : Int) : Int := if j < i then j else i
theorem fdivO_lit {i j : Int} (h : 0 < j) (h2 : j.natAbs.log2 < 9000) : fdivO i j = some (i / j) := if_pos ⟨h, h2⟩
theorem modO_lit {i j : Int} (h : 0 < j) : modO i j = some (i % j) := if_pos h
theorem and_fix {k l : Bool} (h : k = false → l = false) : (k && l) = l := by
  cases k with
  | true => rfl
  | false => rw [h rfl]; rfl
theorem or_fix {k l : Bool} (h : k = true → l = true) : (k || l) = l := by
  cases k with
  | false => rfl
  | true => rw [h rfl]; rfl
section
variable {X X' : Cx} {es es' : List Slot} {os os1 os2 : Os} {F0 : Hp} {rest : List Stmt} {st : Stmt} {D : Ends} {N V G W : List Str} {k i j l vi gi gj : Nat} {x y z : Str} {p pos : Pos} {e e2 a b c : Expr} {φ ψ : VP} {n : Ent} {α β : Type} {scope : Scope}
theorem sx_join (es' : List Slot) (os' : Os) (h : SX X es' os' F0 rest D) (kk : SX X es' os' F0 rest D → SX X es os F0 (st :: rest) D) : SX X es os F0 (st :: rest) D := kk h
theorem sx_retO {q : Addr} (he : EX X es os e (own q) os1) (h : ∀ F H, Same F0 F → Ow F os1 H → D.rt (.ref q) H) : SX X es os F0 (.Return (some e) pos :: rest) D := sx_ret he fun F H v e o c => by
  obtain rfl : v = .ref q := c.now
  exact h F H e o
theorem sx_end (h : ∀ F σ H, Same F0 F → Ow F os H → D.nx σ H) : SX X es os F0 [] D := sx_nil fun σ H a => let ⟨F, s, o, _⟩ := a; h F σ H s o
theorem sx_doc {t : Str} {q : Nat} {p1 p2 : Pos} (h : SX X es os F0 rest D) : SX X es os F0 (.Expr (.Constant (.str t) q p1) p2 :: rest) D := fun F σ H s ow sl => wps_cons (ws_of ps_doc (h F σ H s ow sl))
theorem fam_mg {f : Str} {v : Option Value} (h : Fam X scope X') (e : X.mg f = v) : X'.mg f = v := by
  obtain ⟨_, _, _, _, _, rfl⟩ := h
  exact e
theorem fam_cal {f : Str} {s : Stmt} {ps : List Str} {sp : PySem.W.Frag → Sp} {m : Nat} (h : Fam X scope X') (c : Cal X.prog X.w X.K X.mg X.base m f s ps (sp X.K)) : Cal X'.prog X'.w X'.K X'.mg X'.base m f s ps (sp X'.K) := by
  obtain ⟨_, _, _, _, _, rfl⟩ := h
  exact c
theorem fam_scope (h : Fam X scope X') : X'.env.scope = relS scope X.env.scope := by
  obtain ⟨_, _, _, _, _, rfl⟩ := h
  rfl
/-- a stored comprehension -/
theorem sw_ok {elt : Expr} {gs : List Comprehension} {l : Nat} {py : Pos} {env : Env} (hk : (match env.scope.kind with | .function => true | _ => false) = true) (hy : env.scope.names.lookup y = some .local) (hl : (py.line == pos.line) = true)
    (ha : (scope.names.any fun q => q.1 == y && (q.2 == .local || q.2 == .cell)) = false) : swapsWith (.ListComp elt gs scope pos) (some (.Name y py)) l env = pure true := by
  refine sw_true ?_ hy hl ha
  split at hk
  · assumption
  · cases hk

/-! ### == of what may be read as data -/
def RdX (X : Cx) (φ : VP) (os : Os) (d : PyData) : Prop := ∀ F H v, Ow F os H → Cl φ F v → Dp X.K H v d
theorem rdx_dat {d : PyData} : RdX X (dat d) os d := fun F H v ow c => dq_dp _ _ _ (dq_mono ow.ex _ _ c.now)
theorem rdx_own {q : Addr} {ds : List PyData} (m : Nat) (h : os[m]? = some (q, ol ds)) : RdX X (own q) os (.list ds) := fun F H v ow c => by
  obtain ⟨_, o, ho, zz⟩ := ow.own _ (List.mem_of_getElem? h)
  obtain ⟨vs, rfl, hv⟩ := zz F (Same.refl F)
  obtain rfl : v = .ref q := c.now
  exact .lst (.of ho) (dqall_dp _ _ _ (dqall_mono ow.ex _ _ hv))
theorem r2_eqR {d d' : PyData} {t : Bool} (r1 : RdX X φ os d) (r2 : RdX X ψ os d') (h1 : SeqAt.shaped d = true) (h2 : SeqAt.shaped d' = true) (hk : PyData.eqv d d' = t) : R2X X (rEqD X.K) φ ψ os (dat (.bool t)) := fun F H x y Q ow cx cy q =>
  ⟨d, d', r1 F H x ow cx, r2 F H y ow cy, h1, h2, by rw [hk]; exact q F H _ (Same.refl F) ow (cl_dat (.bl _))⟩
theorem r2_neR {d d' : PyData} {t : Bool} (r1 : RdX X φ os d) (r2 : RdX X ψ os d') (h1 : SeqAt.shaped d = true) (h2 : SeqAt.shaped d' = true) (hk : (!PyData.eqv d d') = t) : R2X X (rNeD X.K) φ ψ os (dat (.bool t)) := fun F H x y Q ow cx cy q =>
  ⟨d, d', r1 F H x ow cx, r2 F H y ow cy, h1, h2, by rw [hk]; exact q F H _ (Same.refl F) ow (cl_dat (.bl _))⟩
section
variable [DecidableEq α] {e : α → PyData} {m : Nat} {x y : α}
theorem ex_eqR (B : Bd X N W G k) (h : EqvOk e) (s : ShOk e m) (hn : m ≤ 64) (r1 : RdX X φ os2 (e x)) (r2 : RdX X ψ os2 (e y)) (ha : EX X es os a φ os1) (hb : EX X es os1 b ψ os2) : EX X es os (.Compare a [.Eq] [b] pos) (dat (.bool (decide (x = y)))) os2 :=
  ex_cmp (op_eqD B.room.units) (r2_eqR r1 r2 (s.shaped hn x) (s.shaped hn y) (h x y)) (nomark _) ha hb
theorem ex_neR (B : Bd X N W G k) (h : EqvOk e) (s : ShOk e m) (hn : m ≤ 64) (r1 : RdX X φ os2 (e x)) (r2 : RdX X ψ os2 (e y)) (ha : EX X es os a φ os1) (hb : EX X es os1 b ψ os2) : EX X es os (.Compare a [.NotEq] [b] pos) (dat (.bool (!decide (x = y)))) os2 :=
  ex_cmp (op_neD B.room.units) (r2_neR r1 r2 (s.shaped hn x) (s.shaped hn y) (by rw [h x y])) (nomark _) ha hb
theorem tx_eqR (B : Bd X N W G k) (h : EqvOk e) (s : ShOk e m) (hn : m ≤ 64) (r1 : RdX X φ os2 (e x)) (r2 : RdX X ψ os2 (e y)) (ha : EX X es os a φ os1) (hb : EX X es os1 b ψ os2) : TX X es os (.Compare a [.Eq] [b] pos) (decide (x = y)) os2 :=
  tx_cmp (op_eqD B.room.units) (r2_eqR r1 r2 (s.shaped hn x) (s.shaped hn y) (h x y)) (nomark _) ha hb
theorem tx_neR (B : Bd X N W G k) (h : EqvOk e) (s : ShOk e m) (hn : m ≤ 64) (r1 : RdX X φ os2 (e x)) (r2 : RdX X ψ os2 (e y)) (ha : EX X es os a φ os1) (hb : EX X es os1 b ψ os2) : TX X es os (.Compare a [.NotEq] [b] pos) (!decide (x = y)) os2 :=
  tx_cmp (op_neD B.room.units) (r2_neR r1 r2 (s.shaped hn x) (s.shaped hn y) (by rw [h x y])) (nomark _) ha hb
end
theorem r2_isB {s t : Bool} : R2X X rIsB (dat (.bool s)) (dat (.bool t)) os (dat (.bool (decide (s = t)))) := fun F H x y Q ow cx cy q =>
  ⟨s, t, clv_bool cx, clv_bool cy, q F H _ (Same.refl F) ow (cl_dat (.bl _))⟩
theorem r2_notB {s t : Bool} : R2X X rNotB (dat (.bool s)) (dat (.bool t)) os (dat (.bool (!decide (s = t)))) := fun F H x y Q ow cx cy q =>
  ⟨s, t, clv_bool cx, clv_bool cy, q F H _ (Same.refl F) ow (cl_dat (.bl _))⟩
/-! ### in, of ints -/
theorem inV_ints (i : Int) : ∀ xs : List Int, inV (.int i) (xs.map L2.V.int) = xs.contains i
  | [] => rfl
  | x :: xs => by
    have ih := inV_ints i xs
    unfold inV at ih ⊢
    rw [List.map_cons, List.any_cons, ih, List.contains_cons]
    have e : eqV (.int x) (.int i) = (x == i) := by simp [eqV]
    rw [e, Bool.beq_comm]
theorem flat_ints : ∀ xs : List Int, (xs.map L2.V.int).all flatV = true
  | [] => rfl
  | x :: xs => by
    rw [List.map_cons, List.all_cons, flat_ints xs]
    rfl
theorem r2_inT {i : Int} {xs : List Int} (hr : RdT ψ (xs.map PyData.int)) : R2X X (rIn X.K false) (dat (.int i)) ψ os (dat (.bool (xs.contains i))) := fun F H x y Q ow cx cy q => by
  obtain ⟨p, vs, rfl, h1, h2⟩ := hr F y cy
  have ev := dqall_of_ints xs h2
  subst ev
  rw [clv_int cx]
  exact ⟨p, _, rfl, .inr (.of (ow.ex _ _ h1)), rfl, flat_ints xs, by rw [inV_ints]; exact q F H _ (Same.refl F) ow (cl_dat (.bl _))⟩
theorem r2_ninT {i : Int} {xs : List Int} (hr : RdT ψ (xs.map PyData.int)) : R2X X (rIn X.K true) (dat (.int i)) ψ os (dat (.bool (!xs.contains i))) := fun F H x y Q ow cx cy q => by
  obtain ⟨p, vs, rfl, h1, h2⟩ := hr F y cy
  have ev := dqall_of_ints xs h2
  subst ev
  rw [clv_int cx]
  exact ⟨p, _, rfl, .inr (.of (ow.ex _ _ h1)), rfl, flat_ints xs, by rw [inV_ints]; exact q F H _ (Same.refl F) ow (cl_dat (.bl _))⟩
theorem r2_inL {i : Int} {xs : List Int} (hr : RdL X ψ os (xs.map PyData.int)) : R2X X (rIn X.K false) (dat (.int i)) ψ os (dat (.bool (xs.contains i))) := fun F H x y Q ow cx cy q => by
  obtain ⟨p, vs, rfl, h1, h2⟩ := hr F H y ow cy
  have ev := dqall_of_ints xs h2
  subst ev
  rw [clv_int cx]
  exact ⟨p, _, rfl, .inl h1, rfl, flat_ints xs, by rw [inV_ints]; exact q F H _ (Same.refl F) ow (cl_dat (.bl _))⟩
theorem r2_ninL {i : Int} {xs : List Int} (hr : RdL X ψ os (xs.map PyData.int)) : R2X X (rIn X.K true) (dat (.int i)) ψ os (dat (.bool (!xs.contains i))) := fun F H x y Q ow cx cy q => by
  obtain ⟨p, vs, rfl, h1, h2⟩ := hr F H y ow cy
  have ev := dqall_of_ints xs h2
  subst ev
  rw [clv_int cx]
  exact ⟨p, _, rfl, .inl h1, rfl, flat_ints xs, by rw [inV_ints]; exact q F H _ (Same.refl F) ow (cl_dat (.bl _))⟩
/-! ### list * int -/
def repO {α : Type} (xs : List α) (m : Int) : Option (List α) := if -(2 ^ 63) ≤ m ∧ m < 2 ^ 63 ∧ xs.length * m.toNat ≤ sizeLine then some (List.replicate m.toNat xs).flatten else none
theorem dqall_rep {F : Hp} {ds : List PyData} {vs : List L2.V} (h : DqAll F vs ds) : ∀ m : Nat, DqAll F (List.replicate m vs).flatten (List.replicate m ds).flatten
  | 0 => .nil
  | m + 1 => by
    rw [List.replicate_succ, List.replicate_succ, List.flatten_cons, List.flatten_cons]
    exact dqall_app h (dqall_rep h m)
theorem map_rep {α β : Type} (f : α → β) (xs : List α) : ∀ m : Nat, (List.replicate m (xs.map f)).flatten = ((List.replicate m xs).flatten).map f
  | 0 => rfl
  | m + 1 => by rw [List.replicate_succ, List.replicate_succ, List.flatten_cons, List.flatten_cons, map_rep f xs m, List.map_append]
theorem en_rep {enc : α → PyData} {xs ys : List α} {m : Int} (h : repO xs m = some ys) (ha : EX X es os a (dat (.list (xs.map enc))) os1) (hb : EX X es os1 b (dat (.int m)) os2) : EN X es os (.BinOp a .Mult b pos) (ol (ys.map enc)) os2 := fun F σ H Q ow sl q => by
  unfold repO at h
  split at h
  · rename_i hl
    cases h
    refine we_of (pe_op op_rep pe_u pe_u) (ha F σ H _ ow sl fun F1 H1 v e1 o1 c1 => hb F1 σ H1 _ o1 (sl.mono e1) fun F2 H2 u e2 o2 c2 => ?_)
    obtain ⟨p, vs, rfl, h1, h2⟩ := dat_list o2 (c1.mono e2)
    refine ⟨p, m, vs, rfl, clv_int c2, h1, hl.1, hl.2.1, by rw [dqall_len h2, List.length_map]; exact hl.2.2, fun r hr => ?_⟩
    refine q F2 _ r (e1.trans e2) (o2.new hr fun G g => ⟨_, rfl, ?_⟩)
    rw [← map_rep]
    exact dqall_mono g _ _ (dqall_rep h2 _)
  · cases h
/-! ### list(range(..)), tuple(range(..)) -/
def rgO (a b : Int) : Option (List Int) := if -(2 ^ 62) ≤ a ∧ a < 2 ^ 62 ∧ -(2 ^ 62) ≤ b ∧ b < 2 ^ 62 ∧ (b - a).toNat ≤ 2 ^ 24 then some (range' a b) else none
theorem rgV_map (a b : Int) : rgV a b = (range' a b).map L2.V.int := by
  unfold rgV range'
  rw [List.map_map]
  rfl
theorem en_rgL1 {b : Int} {xs : List Int} (B : Bd X N W G k) (hj : G[gi]? = some "list") (hj2 : G[gj]? = some "range") (hm : X.mg "list" = none) (hm2 : X.mg "range" = none) (hr : rgO 0 b = some xs) (ha : EX X es os e (dat (.int b)) os1) {p2 pos2 : Pos}
    (na : starEach [(.Call (.Name "range" p2) [e] [] pos2)] X.env = (false, eval (.Call (.Name "range" p2) [e] [] pos2) X.env) :: starEach [] X.env := by rfl) (nb : starEach [e] X.env = (false, eval e X.env) :: starEach [] X.env := by rfl) :
    EN X es os (.Call (.Name "list" p) [.Call (.Name "range" p2) [e] [] pos2] [] pos) (ol (xs.map PyData.int)) os1 := fun F σ H Q ow sl q => by
  unfold rgO at hr
  split at hr
  · rename_i hl
    cases hr
    refine we_of (pe_listRg B.calm (B.gl _ (List.mem_of_getElem? hj)).1 hm (prg_1 (B.gl _ (List.mem_of_getElem? hj2)).1 hm2 pe_u nb) na) (ha F σ H _ ow sl fun F1 H1 v e1 o1 c1 => ⟨b, clv_int c1, hl, fun r hr => ?_⟩)
    rw [rgV_map]
    exact q F1 _ r e1 (o1.new hr fun G g => ⟨_, rfl, dqall_ints _⟩)
  · cases hr
theorem en_rgL2 {lo b : Int} {xs : List Int} (B : Bd X N W G k) (hj : G[gi]? = some "list") (hj2 : G[gj]? = some "range") (hm : X.mg "list" = none) (hm2 : X.mg "range" = none) (hr : rgO lo b = some xs) (ha : EX X es os e (dat (.int lo)) os1) (hb : EX X es os1 e2 (dat (.int b)) os2) {p2 pos2 : Pos}
    (na : starEach [(.Call (.Name "range" p2) [e, e2] [] pos2)] X.env = (false, eval (.Call (.Name "range" p2) [e, e2] [] pos2) X.env) :: starEach [] X.env := by rfl) (nb : starEach [e, e2] X.env = (false, eval e X.env) :: starEach [e2] X.env := by rfl) (nc : starEach [e2] X.env = (false, eval e2 X.env) :: starEach [] X.env := by rfl)
    (hpp : (backTo pos2 (starEach [e2] X.env)).any (·.1) = false := by rfl) : EN X es os (.Call (.Name "list" p) [.Call (.Name "range" p2) [e, e2] [] pos2] [] pos) (ol (xs.map PyData.int)) os2 := fun F σ H Q ow sl q => by
  unfold rgO at hr
  split at hr
  · rename_i hl
    cases hr
    refine we_of (pe_listRg B.calm (B.gl _ (List.mem_of_getElem? hj)).1 hm (prg_2 (B.gl _ (List.mem_of_getElem? hj2)).1 hm2 pe_u pe_u nb nc hpp) na) (ha F σ H _ ow sl fun F1 H1 v e1 o1 c1 => hb F1 σ H1 _ o1 (sl.mono e1) fun F2 H2 u e2 o2 c2 => ⟨lo, b, clv_int c1, clv_int c2, hl, fun r hr => ?_⟩)
    rw [rgV_map]
    exact q F2 _ r (e1.trans e2) (o2.new hr fun G g => ⟨_, rfl, dqall_ints _⟩)
  · cases hr
/-! ### comprehensions, ready to use -/
section
variable {S : Type} {elt iter : Expr} {ifs : List Expr} {xs : List α} {vp : α → VP} {enc : β → PyData} {s0 : S} {os0 : Os} {ys : List β} {sf : S} {tpos : Pos} {cc : Os → Prop}
theorem lc_mk1 {c : Os → Prop} (f : S → α → Option (Option β × S)) (OS : S → Os → Os) (s0 : S) (ys : List β) (sf : S) (B : Bd X N W G k) (hj : N[j]? = some x) (hun : (es[j]? = some un)) (hblk : blkC X.N X.env.scope scope [(x, j)] = true) (hown : ownB scope X.env.scope x = true) (hif : ifs.length ≤ 1)
    (hl : xs.length < sizeLine ∧ lcS f xs s0 = some (ys, sf)) (hi : IX X (.Name x tpos) es os iter xs vp c (OS s0 os0)) (hc : ∀ s tl, c (OS s tl)) (hperm : ∀ s q tl, (OS s (q :: tl)).Perm (q :: OS s tl))
    (hb : ∀ s x t tl, x ∈ xs → f s x = some t → ∃ b os1, ∀ X', Fam X scope X' → PTX X' (es.set j (sl (vp x))) (OS s tl) ifs b os1 ∧ (b = true → ∃ y, t.1 = some y ∧ EX X' (es.set j (sl (vp x))) os1 elt (dat (enc y)) (OS t.2 tl)) ∧ (b = false → t.1 = none ∧ os1 = OS t.2 tl)) :
    LcOk X es os (.Name x tpos) iter elt ifs scope [(x, j)] xs vp c (gName j) (fun x es => es.set j (sl (vp x))) enc f OS s0 os0 ys sf where
  calm := B.calm
  nd := B.hN ▸ B.nd
  ok := blkOk_by hblk
  pg := fun X' hX => pg_own hX B hj hown
  hv := fun m hm => by
    have e : m = j := by simpa using hm
    rw [e]
    exact hun
  hid := lc_id1
  hg := fun x F σ H v Q os2 sl hw ow c q => lc_gname x F σ H v Q os2 sl hw ow c q
  hif := hif
  hl := hl.2
  hz := hl.1
  hi := hi
  hc := hc
  hperm := hperm
  hb := hb
end
end
end Z
/-! Z, part L: None, more. -/
namespace Z
open PySem PySem.Spec PyProof.Rows L2
theorem elimL {α β γ : Type} {f : α → Option γ} {g : β → Option γ} {x : α} {c : Option γ} (h : Sum.elim f g (.inl x) = c) : f x = c := h
theorem elimR {α β γ : Type} {f : α → Option γ} {g : β → Option γ} {x : β} {c : Option γ} (h : Sum.elim f g (.inr x) = c) : g x = c := h
theorem len_ok {ds : List PyData} {n : Nat} (h : ds.length = n) (h2 : n ≤ sizeLine := by decide +kernel) : ds.length ≤ sizeLine := h ▸ h2
section
variable {X : Cx} {os : Os}
def noneB : PyData → Bool
  | .none => true
  | _ => false
theorem dq_none {F : Hp} : ∀ {v : L2.V} {d : PyData}, Dq F v d → decide (v = .non) = noneB d
  | _, _, .non => rfl
  | _, _, .bl _ => by simp [noneB]
  | _, _, .int _ => by simp [noneB]
  | _, _, .str _ => by simp [noneB]
  | _, _, .lst _ _ => by simp [noneB]
  | _, _, .tup _ _ => by simp [noneB]
theorem r2_isN {d : PyData} {t : Bool} (h : noneB d = t) : R2X X (fun x y H Q => y = .non ∧ Q (.bl (decide (x = .non))) H) (dat d) (dat .none) os (dat (.bool t)) := fun F H x y Q ow cx cy q =>
  ⟨by have := cy.now; cases this; rfl, by rw [dq_none cx.now, h]; exact q F H _ (Same.refl F) ow (cl_dat (.bl _))⟩
theorem r2_notN {d : PyData} {t : Bool} (h : (!noneB d) = t) : R2X X (fun x y H Q => y = .non ∧ Q (.bl (!decide (x = .non))) H) (dat d) (dat .none) os (dat (.bool t)) := fun F H x y Q ow cx cy q =>
  ⟨by have := cy.now; cases this; rfl, by rw [dq_none cx.now, h]; exact q F H _ (Same.refl F) ow (cl_dat (.bl _))⟩
end
theorem Ow.suf {F H : Hp} {rest : Os} : ∀ {l : Os}, Ow F (l ++ rest) H → Ow F rest H
  | [], h => h
  | _ :: l, h => Ow.suf (l := l) h.drop
section
variable {X : Cx} {es : List Slot} {os os1 rest : Os} {N V G : List Str} {k j : Nat} {x : Str} {p pos : Pos} {e : Expr} {st : Stmt} {pn : List Str} {α β : Type} {ps : α → List VP} {pre : α → Os} {m : α → Option β} {res : α → β → VP} {post : α → β → Os} {n : Ent} {gi : Nat} {φ : VP}
/-- a call whose one argument is a list made for it -/
theorem ex_calln {a : Addr → α} {b : β} (B : Bd X N V G k) (hj : G[gi]? = some x) (c : Cal X.prog X.w X.K X.mg X.base j x st pn (spZ ps pre m res post)) (hl : j ≤ k) (hm : ∀ q, m (a q) = some b) (ha : EN X es os e n rest)
    (hps : ∀ q, ps (a q) = [own q]) (hpre : ∀ q, pre (a q) = [(q, n)]) (hres : ∀ q, res (a q) b = φ)
    (he : starEach [e] X.env = (false, eval e X.env) :: starEach [] X.env := by rfl) (hpl : (backTo pos (starEach [] X.env)).any (·.1) = false := by rfl) : EX X es os (.Call (.Name x p) [e] [] pos) φ rest := fun F σ H Q ow sl q =>
  let ⟨u, v⟩ := B.gl x (List.mem_of_getElem? hj)
  we_of (pe_g (c.mono hl) B.gd B.room u (pa_cons (hs := he) pe_u pa_nil) (dun_d v) he hpl) (ha F σ H _ ow sl fun F1 H1 r e1 o1 => ⟨a r, b, F1, rest, by rw [hps]; exact ⟨_, [], rfl, cl_own, rfl⟩, by rw [hpre]; exact o1, hm r, fun F2 H2 v e2 o2 c2 => q F2 H2 v (e1.trans e2) o2.suf (hres r ▸ c2)⟩)
end
end Z
/-! Z, part M: tuples turned about and told again and again; comprehensions of parts that may fail. -/
namespace Z
open PySem PySem.Spec PyProof.Rows L2 HT
section
variable {prog : Program} {w : World} {A : Around} {E : Value → Shared → Prop} {s : Shared}
theorem places_rev (n : Nat) : Builtin.Slice.slicePlaces ((n : Int) - 1) (-1) (-1) = n := by
  unfold Builtin.Slice.slicePlaces
  have z1 : ¬ ((-1 : Int) > 0) := by omega
  have z2 : (-(-1) : Int) = 1 := by omega
  simp only [z1, if_false, z2, Int.ediv_one]
  split <;> omega
theorem applied_rev {q : Addr} {vs : Value} {n : Nat} {Q : Int × Int × Nat → Shared → Prop} (hs : s.heap.IsSliceOf q .none .none vs) (ps : IsPart vs (some (-1)))
    (h : Q ((n : Int) - 1, -1, n) s) : wpAny (model prog w) A (Builtin.Slice.sliceApplied (.ref q) (pure (n : Int))) Q E s := by
  obtain ⟨o, h1, h2, h3⟩ := id hs
  unfold Builtin.Slice.sliceApplied Builtin.Slice.sliceFields
  refine wpAny_bind (wpAny_bind (wpAny_field h1 h3 (x := Value.none) rfl (wpAny_bind (wpAny_field h1 h3 (x := Value.none) rfl (wpAny_bind (wpAny_field h1 h3 (x := vs) rfl (wpAny_pure ?_)))))))
  refine wpAny_bind (slicePart_ ps ?_)
  show wpAny _ _ (if ((-1 : Int) == 0) = true then _ else _) _ _ s
  rw [if_neg (show ¬ ((-1 : Int) == 0) = true by decide)]
  refine wpAny_bind (slicePart_none (wpAny_bind (slicePart_none (wpAny_bind (wpAny_pure ?_)))))
  show wpAny _ _ (pure ((n : Int) - 1, (-1 : Int), Builtin.Slice.slicePlaces ((n : Int) - 1) (-1) (-1))) _ _ s
  rw [places_rev]
  exact wpAny_pure h
theorem fm_all (l : List Value) : ∀ m : Nat, m ≤ l.length → ((List.range m).filterMap fun k : Nat => l[m - 1 - k]?) = (l.take m).reverse
  | 0, _ => rfl
  | m + 1, hm => by
    have ih := fm_all l m (by omega)
    rw [List.range_succ_eq_map, List.filterMap_cons, List.filterMap_map]
    have e0 : l[m + 1 - 1 - 0]? = some l[m] := by
      rw [show m + 1 - 1 - 0 = m by omega]
      exact List.getElem?_eq_getElem (by omega)
    rw [e0]
    have e1 : ((fun k : Nat => l[m + 1 - 1 - k]?) ∘ Nat.succ) = fun k : Nat => l[m - 1 - k]? := by
      funext k
      show l[m + 1 - 1 - (k + 1)]? = _
      rw [show m + 1 - 1 - (k + 1) = m - 1 - k by omega]
    rw [e1, ih]
    rw [List.take_succ_eq_append_getElem (by omega), List.reverse_append]
    rfl
theorem fm_congr {α β : Type} {f g : α → Option β} : ∀ {l : List α}, (∀ x ∈ l, f x = g x) → l.filterMap f = l.filterMap g
  | [], _ => rfl
  | x :: l, h => by rw [List.filterMap_cons, List.filterMap_cons, h x List.mem_cons_self, fm_congr fun y hy => h y (List.mem_cons_of_mem _ hy)]
theorem pick_rev (xs : Array Value) : ((List.range xs.size).filterMap fun (k : Nat) => xs[(((xs.size : Int) - 1) + (k : Int) * (-1)).toNat]?).toArray = xs.toList.reverse.toArray := by
  have key : ((List.range xs.size).filterMap fun (k : Nat) => xs[(((xs.size : Int) - 1) + (k : Int) * (-1)).toNat]?) = ((List.range xs.size).filterMap fun k : Nat => xs.toList[xs.size - 1 - k]?) := by
    refine fm_congr fun k hk => ?_
    have := List.mem_range.mp hk
    rw [show (((xs.size : Int) - 1) + (k : Int) * (-1)).toNat = xs.size - 1 - k by omega, Array.getElem?_toList]
  rw [key, fm_all xs.toList xs.size (by simp), List.take_of_length_le (by simp)]
theorem item_rev {t q : Addr} {its : Array Value} {vs : Value} {Q : Value → Shared → Prop} (ht : IsTup s.heap t its) (hs : s.heap.IsSliceOf q .none .none vs) (ps : IsPart vs (some (-1)))
    (h : Q (.ref s.heap.objs.size) { s with heap := s.heap.push { cls := .type "tuple", data := .seq its.toList.reverse.toArray } }) (hz : its.size ≤ sizeLine) : wpAny (model prog w) A (getItem (.ref t) (.ref q)) Q E s := by
  have fits : sizeOk (.seq its.toList.reverse.toArray) := by
    show its.toList.reverse.toArray.size ≤ sizeLine
    rw [List.size_toArray, List.length_reverse, Array.length_toList]
    exact hz
  obtain ⟨o, h1, h2, h3⟩ := id hs
  have tq : s.TypeIs (.ref q) "slice" := ⟨o, h1, h2⟩
  unfold getItem
  try with_reducible refine wpAny_holding ?_
  first | refine wpAny_bind (wpAny_pure ?_) | skip
  refine wpAny_bind (wpAny_sequenceKey (IsTup.typeIs ht) (by decide) ?_)
  refine wpAny_bind (wpAny_callSpecial?_slot (name := Str.ofString "__getitem__") (IsTup.typeIs ht) PyProof.Rows.slot_tuple_getitem (wpAny_call_entry PyProof.Rows.slot_tuple_getitem (IsTup.typeIs ht) entry_tuple_getitem ?_ (args_tuple_getitem _ _)))
  show wpAny _ _ (Builtin.Tuple.tupleItemsOf (.ref t) >>= _) _ _ s
  refine wpAny_bind (tupleItemsOf_ ht (wpAny_bind (wpAny_typeOf tq ?_)))
  rw [if_pos (by decide)]
  refine wpAny_bind (applied_rev hs ps ?_)
  have hno : ¬ ((((its.size : Int) - 1) == 0 && (-1 : Int) == 1 && its.size == its.size) = true) := by
    intro z
    rw [Bool.and_eq_true, Bool.and_eq_true] at z
    exact absurd (eq_of_beq z.1.2) (by decide)
  show wpAny _ _ (if (((its.size : Int) - 1) == 0 && (-1 : Int) == 1 && its.size == its.size) = true then _ else _) _ _ s
  rw [if_neg hno, pick_rev]
  exact wpAny_bind (m := Builtin.Tuple.tupleExact _) (wpAny_newObj_type (wpAny_pure ⟨_, rfl, wpAny_pure h⟩) fits)
end
def tRevT (K : PySem.W.Frag) (te : TE) : TE := fun σ H Q => te σ H fun x H1 => ∃ a xs, x = .ref a ∧ SqT K H1 a xs ∧ ∀ p, H1 p = none → Q (.ref p) (upd H1 p (.tup xs.reverse))
section
variable {X : Cx}
theorem pe_revT {e : Expr} {te : TE} {k : Nat} {p1 p2 p3 pos : Pos} (he : PE X e te) : PE X (.Subscript e (.Slice none none (some (.UnaryOp .USub (.Constant (.int 1) k p1) p2)) p3) pos) (tRevT X.K te) := by
  refine ⟨fun pins s σ H Q I h => Subscript_ (thn (he.run pins s σ H _ I h) fun v s1 ⟨x, H1, I1, r1, q1⟩ => ?_)⟩
  obtain ⟨a, xs, rfl, hx, q⟩ := q1
  cases r1
  have hst : PO X (some (.UnaryOp .USub (.Constant (.int 1) k p1) p2)) (tPart (tUn (rU fun i => .int (-i)) (tC (.int 1)))) := po_some (pe_un un_neg pe_int)
  refine wpAny_Slice (thn (po_none.run pins s1 σ H1 (fun o Hx => o = none ∧ Hx = H1) I1 ⟨rfl, rfl⟩) fun vl s2 ⟨l, H2, I2, pl, u1, u2⟩ => ?_)
  subst u1 u2
  refine thn (po_none.run pins s2 σ H2 (fun o Hx => o = none ∧ Hx = H2) I2 ⟨rfl, rfl⟩) fun vu s3 ⟨u, H3, I3, pu, u1, u2⟩ => ?_
  subst u1 u2
  refine thn (hst.run pins s3 σ H3 (fun o Hx => o = some (-1) ∧ Hx = H3) I3 ⟨1, rfl, -1, rfl, rfl, rfl⟩) fun vs s4 ⟨o, H4, I4, ps, u1, u2⟩ => ?_
  subst u1 u2
  cases pl
  cases pu
  have J : Inv X pins σ H4 { s4 with heap := s4.heap.push { cls := .type "slice", data := .fields #[.none, .none, vs] } } := I4.kept (t' := s4.toks) fun b ob z => Heap.get?_push_of_some _ z
  obtain ⟨its, r, ht, hz⟩ := J.tuple hx
  have hlen := r.length
  show wpAny (model X.prog X.w) X.A (subscriptTail e (.Slice none none (some (.UnaryOp .USub (.Constant (.int 1) k p1) p2)) p3) (.ref a) (.ref s4.heap.objs.size)) (EP X pins σ Q) X.xe { s4 with heap := s4.heap.push { cls := .type "slice", data := .fields #[.none, .none, vs] } }
  refine tail_any (ops := [.ref a, .ref s4.heap.objs.size]) (IsTup.typeIs ht) PyProof.Rows.slot_tuple_getitem.lookup ?_ (by with_unfolding_all rfl)
  refine item_rev ht (Heap.IsSliceOf.new _ Value.none Value.none vs) ps ?_ (by rw [List.size_toArray]; omega)
  refine ⟨.ref _, _, J.laid (t' := s4.toks) (o := .tup xs.reverse) (fun b ob z => Heap.get?_push_of_some _ z) (Nat.le_refl _) ?_, rfl, q _ (J.hok.fresh (Nat.le_refl _))⟩
  exact ⟨by rw [List.length_reverse]; exact hz, _, r.reverse, IsTup.new _ _⟩
end
section
variable {X : Cx} {es : List Slot} {os os1 os2 : Os} {pos : Pos} {a b : Expr} {φ : VP}
theorem ex_revT {α : Type} {enc : α → PyData} {xs : List α} {kk : Nat} {p1 p2 p3 : Pos} (hr : RdT φ (xs.map enc)) (ha : EX X es os a φ os1) : EX X es os (.Subscript a (.Slice none none (some (.UnaryOp .USub (.Constant (.int 1) kk p1) p2)) p3) pos) (dat (.tuple (xs.reverse.map enc))) os1 := fun F σ H Q ow sl q =>
  we_of (pe_revT pe_u) (ha F σ H _ ow sl fun F1 H1 v e1 o1 c1 => by
    obtain ⟨p, vs, rfl, h1, h2⟩ := hr F1 v c1
    refine ⟨p, vs, rfl, .of (o1.ex _ _ h1), fun m hm => ?_⟩
    have fp := o1.ex.free hm
    have hd := dqall_rev h2
    rw [← List.map_reverse] at hd
    exact q _ _ _ (e1.trans (same_upd fp)) (o1.frozen hm) (cl_dat (.tup upd_same (dqall_mono (same_upd fp) _ _ hd))))
end
/-! ### comprehensions of parts that may fail -/
def mapG {α β : Type} (f : α → Option (Option β)) : List α → Option (List β)
  | [] => some []
  | x :: xs => (f x).bind fun y => (mapG f xs).bind fun ys => some (y.toList ++ ys)
def lcG {α β : Type} (f : α → Option (Option β)) (xs : List α) : Option (List β) := if xs.length < sizeLine then mapG f xs else none
theorem lcS_mapG {α β : Type} (f : α → Option (Option β)) : ∀ (xs : List α) (ys : List β), mapG f xs = some ys → lcS (fun (_ : Unit) x => (f x).map fun y => (y, ())) xs () = some (ys, ())
  | [], ys, h => by
    cases h
    rfl
  | x :: xs, ys, h => by
    unfold mapG at h
    obtain ⟨y, h1, h2⟩ := bnd h
    obtain ⟨zs, h3, h4⟩ := bnd h2
    obtain rfl := som h4
    unfold lcS
    rw [h1]
    show ((lcS _ xs ()).bind fun u => some (y.toList ++ u.1, u.2)) = _
    rw [lcS_mapG f xs zs h3]
    rfl
theorem lcG_ok {α β : Type} {f : α → Option (Option β)} {xs : List α} {ys : List β} (h : lcG f xs = some ys) : xs.length < sizeLine ∧ lcS (fun (_ : Unit) x => (f x).map fun y => (y, ())) xs () = some (ys, ()) := by
  unfold lcG at h
  split at h
  · rename_i hl
    exact ⟨hl, lcS_mapG f xs ys h⟩
  · cases h
end Z
set_option maxHeartbeats 4000000
/-! Z, part N: tuple * int at every count. -/
namespace Z
open PySem PySem.Spec PyProof.Rows L2
theorem mul_same (l : Addr) (items : Array Value) (n : Nat) (dd : Option Addr) (sl : Array (Option Value)) (x : Int) (u : Tok) (c0 : (decide (x < -(2 ^ 63)) || decide (x ≥ 2 ^ 63)) = false) (c1 : (items.isEmpty || x == 1) = true) :
    Meets (Builtin.«tuple.__mul__» ⟨[.ref l, .int x u], []⟩) (fun _ R s => s.heap.get? l = some { cls := .type "tuple", dict := dd, data := .seq items n, slots := sl } ∧ R (.ok (.ret (.ref l))) s) :=
  .of_wp fun prog w A R s h => by
    obtain ⟨hp, g, d, tk, os⟩ := s
    obtain ⟨hl, h⟩ := h
    have f1 := AutoSeq1.idx_int
    wp_walk using wpAny_loadPart' hl
    repeat (first
      | (refine wpAny_ite_false (decide_eq_false (by rw [c0]; exact Bool.false_ne_true)) ?_; wp_walk using wpAny_loadPart' hl)
      | (refine wpAny_ite_true (decide_eq_true (by rw [c1])) ?_; wp_walk using wpAny_loadPart' hl))
    exact ⟨_, rfl, h⟩
theorem mul_none (l : Addr) (items : Array Value) (n : Nat) (dd : Option Addr) (sl : Array (Option Value)) (x : Int) (u : Tok) (c0 : (decide (x < -(2 ^ 63)) || decide (x ≥ 2 ^ 63)) = false) (c1 : (items.isEmpty || x == 1) = false) (c2 : (decide (x ≤ 0) || items.isEmpty) = true) :
    Meets (Builtin.«tuple.__mul__» ⟨[.ref l, .int x u], []⟩) (fun _ R s => s.heap.get? l = some { cls := .type "tuple", dict := dd, data := .seq items n, slots := sl } ∧
      R (.ok (.ret (Value.ref s.heap.objs.size))) { s with heap := s.heap.push { cls := Value.type "tuple", data := Data.seq #[] }, toks := s.toks }) :=
  .of_wp fun prog w A R s h => by
    obtain ⟨hp, g, d, tk, os⟩ := s
    obtain ⟨hl, h⟩ := h
    have f1 := AutoSeq1.idx_int
    wp_walk using wpAny_loadPart' hl
    repeat (first
      | (refine wpAny_ite_false (decide_eq_false (by rw [c0]; exact Bool.false_ne_true)) ?_; wp_walk using wpAny_loadPart' hl)
      | (refine wpAny_ite_false (decide_eq_false (by rw [c1]; exact Bool.false_ne_true)) ?_; wp_walk using wpAny_loadPart' hl)
      | (refine wpAny_ite_true (decide_eq_true (by rw [c2])) ?_; wp_walk using wpAny_loadPart' hl))
    exact ⟨_, rfl, h⟩
/-- a tuple, so many times behind one another -/
def rRepA (K : PySem.W.Frag) : R2 := fun x y H Q => ∃ l k xs, x = .ref l ∧ y = .int k ∧ SqT K H l xs ∧ -(2 ^ 63) ≤ k ∧ k < 2 ^ 63 ∧ ((xs = [] ∨ k = 1) → Q (.ref l) H) ∧ (xs ≠ [] → k ≤ 0 → ∀ p, H p = none → Q (.ref p) (upd H p (.tup []))) ∧
  (xs ≠ [] → 2 ≤ k → k ≤ 1000 ∧ xs.length ≤ 1000 ∧ ∀ p, H p = none → Q (.ref p) (upd H p (.tup (List.replicate k.toNat xs).flatten)))
section
variable {X : Cx}
theorem op_repA : OpR X (binaryOp .Mult) (rRepA X.K) := by
  intro pins s σ H x y v u Q I rx ry h
  obtain ⟨l, k, xs, rfl, rfl, hT, k0, k1, qa, qb, qc⟩ := h
  by_cases hbig : xs ≠ [] ∧ 2 ≤ k
  · obtain ⟨g1, g2, g3⟩ := qc hbig.1 hbig.2
    exact op_repT pins s σ H _ _ v u Q I rx ry ⟨l, k, xs, rfl, rfl, hT, hbig.1, hbig.2, g1, g2, g3⟩
  cases rx
  obtain ⟨t, rfl⟩ := ry
  obtain ⟨its, r, ⟨⟨cls, dd, data, sl⟩, ho, hc, n, hd⟩, hs⟩ := I.tuple hT
  simp only at hc hd
  subst hc hd
  have c0 : (decide (k < -(2 ^ 63)) || decide (k ≥ 2 ^ 63)) = false := by
    rw [Bool.or_eq_false_iff]
    exact ⟨decide_eq_false (by omega), decide_eq_false (by omega)⟩
  have emp : its.toArray.isEmpty = decide (xs = []) := by
    cases r with
    | nil => rfl
    | cons _ _ => rfl
  by_cases h1 : xs = [] ∨ k = 1
  · have c1 : (its.toArray.isEmpty || k == 1) = true := by
      rw [emp, Bool.or_eq_true, decide_eq_true_eq, beq_iff_eq]
      exact h1
    refine wpAny_binaryOp_repeat_ref (T := "tuple") (U := "int") (by decide) ⟨_, ho, rfl⟩ (fun s2 => typeIs_int s2 k t) noFill_tuple_mul F.fills_int_mul F.slot_int_rmul repeat_tuple F.slot_int_index.lookup
      (call_meets F.slot_int_rmul (typeIs_int s k t) F.entry_int_rmul (F.args_int_rmul_2 _ _) (int_rmul_tuple k t l its.toArray n dd sl) ⟨ho, rfl, ⟨_, ho, rfl⟩, call_meets F.slot_tuple_mul ⟨_, ho, rfl⟩ F.entry_tuple_mul (F.args_tuple_mul_2 _ _) (mul_same l its.toArray n dd sl k t c0 c1) ⟨ho, ?_⟩⟩)
    exact ⟨.ref l, H, I, rfl, qa h1⟩
  · have hne : xs ≠ [] := fun z => h1 (.inl z)
    have hk : k ≤ 0 := by
      have z1 : ¬ 2 ≤ k := fun z => hbig ⟨hne, z⟩
      have z2 : ¬ k = 1 := fun z => h1 (.inr z)
      omega
    have c1 : (its.toArray.isEmpty || k == 1) = false := by
      rw [emp, Bool.or_eq_false_iff]
      exact ⟨decide_eq_false hne, beq_eq_false_iff_ne.mpr (by omega)⟩
    have c2 : (decide (k ≤ 0) || its.toArray.isEmpty) = true := by
      rw [decide_eq_true hk, Bool.true_or]
    refine wpAny_binaryOp_repeat_ref (T := "tuple") (U := "int") (by decide) ⟨_, ho, rfl⟩ (fun s2 => typeIs_int s2 k t) noFill_tuple_mul F.fills_int_mul F.slot_int_rmul repeat_tuple F.slot_int_index.lookup
      (call_meets F.slot_int_rmul (typeIs_int s k t) F.entry_int_rmul (F.args_int_rmul_2 _ _) (int_rmul_tuple k t l its.toArray n dd sl) ⟨ho, rfl, ⟨_, ho, rfl⟩, call_meets F.slot_tuple_mul ⟨_, ho, rfl⟩ F.entry_tuple_mul (F.args_tuple_mul_2 _ _) (mul_none l its.toArray n dd sl k t c0 c1 c2) ⟨ho, ?_⟩⟩)
    refine ⟨.ref s.heap.objs.size, _, I.laid (t' := s.toks) (o := .tup []) (fun b ob z => Heap.get?_push_of_some _ z) (Nat.le_refl _) ?_, rfl, qb hne hk _ (I.hok.fresh (Nat.le_refl _))⟩
    exact ⟨Nat.zero_le _, [], .nil, IsTup.new _ _⟩
end
section
variable {X : Cx} {es : List Slot} {os os1 os2 : Os} {pos : Pos} {a b : Expr}
/-- the result of t * m -/
def repT {α : Type} (xs : List α) (m : Int) : Option (List α) := if -(2 ^ 63) ≤ m ∧ m ≤ 1000 ∧ xs.length ≤ 1000 then some (List.replicate m.toNat xs).flatten else none
theorem rep_nil {α : Type} : ∀ m : Nat, (List.replicate m ([] : List α)).flatten = []
  | 0 => rfl
  | m + 1 => by rw [List.replicate_succ, List.flatten_cons, rep_nil m]; rfl
theorem ex_repT {α : Type} {enc : α → PyData} {xs ys : List α} {m : Int} (h : repT xs m = some ys) (ha : EX X es os a (dat (.tuple (xs.map enc))) os1) (hb : EX X es os1 b (dat (.int m)) os2) : EX X es os (.BinOp a .Mult b pos) (dat (.tuple (ys.map enc))) os2 := fun F σ H Q ow sl q => by
  unfold repT at h
  split at h
  · rename_i hl
    cases h
    refine we_of (pe_op op_repA pe_u pe_u) (ha F σ H _ ow sl fun F1 H1 v e1 o1 c1 => hb F1 σ H1 _ o1 (sl.mono e1) fun F2 H2 u e2 o2 c2 => ?_)
    obtain ⟨p, vs, rfl, h1, h2⟩ := rdt_dat F2 v (c1.mono e2)
    have e := e1.trans e2
    have hd := dqall_rep h2 m.toNat
    rw [map_rep] at hd
    have hlen := dqall_len h2
    rw [List.length_map] at hlen
    refine ⟨p, m, vs, rfl, clv_int c2, .of (o2.ex _ _ h1), hl.1, by omega, fun h0 => ?_, fun hne hk r hr => ?_, fun hne hk => ⟨hl.2.1, by omega, fun r hr => ?_⟩⟩
    · refine q F2 H2 _ e o2 (cl_dat (.tup h1 ?_))
      rcases h0 with h0 | h0
      · subst h0
        have hx : xs = [] := List.eq_nil_of_length_eq_zero hlen.symm
        subst hx
        rw [rep_nil]
        exact h2
      · subst h0
        have e9 : (List.replicate (1 : Int).toNat xs).flatten = xs := by
          show (List.replicate 1 xs).flatten = xs
          rw [List.replicate_one, List.flatten_cons, List.flatten_nil, List.append_nil]
        rw [e9]
        exact h2
    · have fp := o2.ex.free hr
      have e9 : m.toNat = 0 := by omega
      rw [e9] at q
      exact q _ _ _ (e.trans (same_upd fp)) (o2.frozen hr) (cl_dat (.tup upd_same .nil))
    · have fp := o2.ex.free hr
      exact q _ _ _ (e.trans (same_upd fp)) (o2.frozen hr) (cl_dat (.tup upd_same (dqall_mono (same_upd fp) _ _ hd)))
  · cases h
end
end Z
/-! Z, part O: more rules. -/
namespace Z
open PySem PySem.Spec PyProof.Rows L2
section
variable {X : Cx} {os : Os}
theorem rc_len2 {d1 d2 : PyData} : RCX (fun xs H Q => ∃ p ys, xs = [L2.V.ref p] ∧ (SqL X.K H p ys ∨ SqT X.K H p ys) ∧ Q (.int ys.length) H) [dat (.tuple [d1, d2])] os (dat (.int 2)) os := rc_lenT (ds := [d1, d2]) rdt_dat
theorem rc_len3 {d1 d2 d3 : PyData} : RCX (fun xs H Q => ∃ p ys, xs = [L2.V.ref p] ∧ (SqL X.K H p ys ∨ SqT X.K H p ys) ∧ Q (.int ys.length) H) [dat (.tuple [d1, d2, d3])] os (dat (.int 3)) os := rc_lenT (ds := [d1, d2, d3]) rdt_dat
end
end Z
/-! Z, part P: enumerate over a tuple, range downwards, extend, index. -/
namespace Z
open PySem PySem.Spec PyProof.Rows L2
/-! ### enumerate(t) -/
theorem new_enum1 {v : Value} {o : Obj} {H : Heap → Prop} (B : Begins v o H) :
    Meets (Builtin.«enumerate.__new__» ⟨[.type "enumerate", v], []⟩) (fun _ R s => H s.heap ∧
      R (.ok (.ret (.ref (s.heap.push o).objs.size))) { s with heap := (s.heap.push o).push { cls := .type "enumerate", data := .fields #[.none, .bool false, .ref s.heap.objs.size, rawInt 0, .none, .none] } }) :=
  .of_wp fun prog w A R s h => by
    obtain ⟨hp, g, d, tk, os⟩ := s
    obtain ⟨h1, h⟩ := h
    have hsub := sub_enumerate
    have q1 : ∀ {A' : Around} {E : Value → Shared → Prop} {Q : Value → Shared → Prop}, Q (.ref hp.objs.size) ⟨hp.push o, g, d, tk, os⟩ → wpAny (model prog w) A' (pyIter v) Q E ⟨hp, g, d, tk, os⟩ := fun q => B.iter prog w _ _ ⟨hp, g, d, tk, os⟩ _ h1 q
    wp_walk using q1
    refine wpAny_stack_any fun st => wpAny_pure ?_
    split
    · rename_i c _ _ _ _ _
      cases (c == Value.type "enumerate") <;> (wp_walk using q1; exact ⟨_, rfl, h⟩)
    · wp_walk using q1
      exact ⟨_, rfl, h⟩
theorem enum_begins1 {prog : Program} {w : World} {A : Around} {E : Value → Shared → Prop} {s : Shared} {v : Value} {o : Obj} {H : Heap → Prop} {Q : Value → Shared → Prop} (B : Begins v o H) (h1 : H s.heap)
    (h : ∀ g, IsEnum g (s.heap.objs.size + 1) s.heap.objs.size 0 .none → g.get? s.heap.objs.size = some o → (∀ b u, s.heap.get? b = some u → g.get? b = some u) → Q (.ref (s.heap.objs.size + 1)) { s with heap := g }) :
    wpAny (model prog w) A (call (.type "enumerate") [v]) Q E s := by
  refine callType_new F.called_enumerate (by decide) (F.typeCall_enumerate_1 _) (F.newCall_enumerate_1 _) (fun obj => F.args_object_init_2 obj _) F.entry_enumerate_new (new_enum1 B) ⟨h1, ?_⟩
  have hz : (s.heap.push o).objs.size = s.heap.objs.size + 1 := Heap.size_push ..
  show _ ∧ _
  rw [hz]
  have he : IsEnum ((s.heap.push o).push { cls := .type "enumerate", data := .fields #[.none, .bool false, .ref s.heap.objs.size, rawInt 0, .none, .none] }) (s.heap.objs.size + 1) s.heap.objs.size 0 .none := by
    have q := Heap.get?_push_size (s.heap.push o) (o := { cls := .type "enumerate", data := .fields #[.none, .bool false, .ref s.heap.objs.size, rawInt 0, .none, .none] }) rfl
    rw [hz] at q
    exact q
  exact ⟨⟨_, he, rfl⟩, h _ he (Heap.get?_push_of_some _ (Heap.get?_push_size _ B.free)) fun b u x => Heap.get?_push_of_some _ (Heap.get?_push_of_some _ x)⟩
/-- the items of the tuple at a, each in a new pair -/
def IteT (K : PySem.W.Frag) (a : Addr) : It :=
  ⟨fun i H => ∃ (xs : List L2.V) (x : L2.V), SqT K H a xs ∧ xs[i]? = some x, fun i H v H' => ∃ T x, v = .ref T ∧ H T = none ∧ H' = upd H T (.tup [.int (i : Nat), x]) ∧ ∀ xs, SqT K H a xs → xs[i]? = some x, fun i H => ∃ xs : List L2.V, SqT K H a xs ∧ xs.length ≤ i⟩
/-- the tuple's items as they stand in the heap -/
def TupAt (h : Heap) (a : Addr) (n : Nat) : Prop := ∃ its : Array Value, h.IsTuple a its ∧ its.size = n
theorem turn_enumT {P : Program} {w : World} {K : PySem.W.Frag} {elts : List Expr} {kk : Nat} {tpos : Pos} (a e it : Addr) :
    Turn P w K (.Tuple elts kk tpos) (IteT K a) [e, it] e (fun i h => (∃ old, IsEnum h e it ((i : Nat) : Int) old) ∧ h.IsTupleIter it a i ∧ e ≠ it ∧ a ≠ e ∧ a ≠ it) where
  mem := by simp
  obj := fun i h st b hb => by
    obtain ⟨⟨old, he⟩, ⟨o, ho, hc, hd⟩, _⟩ := st
    have z : b = e ∨ b = it := by simpa using hb
    rcases z with z | z
    · rw [z]
      exact ⟨_, he, fun v q => nomatch q⟩
    · rw [z]
      exact ⟨o, ho, fun v q => by rw [hd] at q; cases q⟩
  keep := fun i h g st k => by
    obtain ⟨⟨old, he⟩, hi, r⟩ := st
    exact ⟨⟨old, k e (by simp) _ he⟩, hi.at fun o q => k it (by simp) o q, r⟩
  item := by
    intro X hP hw hK hc i pins s σ H E I hf st hg
    subst hP hw hK
    obtain ⟨⟨old, he⟩, hit, hne, hae, hai⟩ := st
    obtain ⟨xs, x, hq, hx⟩ := hg
    obtain ⟨its, rv, p, hz⟩ := I.tuple hq
    obtain ⟨u, hu, ru⟩ := rv.get hx
    have hel : e < s.heap.objs.size := Heap.lt_size he
    have hil : it < s.heap.objs.size := by
      obtain ⟨_, q, _⟩ := hit
      exact Heap.lt_size q
    have D := Draws.tuple (prog := X.prog) (w := X.w) (A := X.A.in1) (I.ok.hd hc) it a hai its.toArray
    have hlt : i < its.toArray.size := by
      have := (List.getElem?_eq_some_iff.mp hu).1
      simpa using this
    refine wpAny_pyNext_enum_itemD D he ⟨hit, p⟩ hlt hne (by simp [hne, Ne.symm hae]) fun x' h' tk hP' ho hst hT hsz hk => ?_
    have ex : x' = u := by
      have q : its.toArray[i]? = some u := by simpa using hu
      exact Option.some.inj (hP'.symm.trans q)
    subst ex
    refine ⟨_, rfl, wpAny_letOwnedTupleGo_enum (s := { s with heap := h', toks := tk + 1 }) ho fun h'' he' sb => ?_⟩
    have hT2 : h''.get? s.heap.objs.size = some { cls := .type "tuple", data := .seq #[.int i tk, x'] } := (sb.2 _ (Nat.ne_of_gt hel)).trans hT
    have new : ObjOk X.prog X.w (upd H s.heap.objs.size (.tup [.int (i : Nat), x])) h'' s.heap.objs.size (.tup [.int (i : Nat), x]) :=
      ⟨by show 2 ≤ sizeLine; decide, [.int i tk, x'], .cons ⟨_, rfl⟩ (.cons ru .nil), ⟨_, hT2, rfl, _, rfl⟩⟩
    have I1 : Inv X pins σ (upd H s.heap.objs.size (.tup [.int (i : Nat), x])) { s with heap := h'', toks := tk + 1 } :=
      I.turnedNew (ch := [e, it]) (fun b ob hb q => (sb.2 b (fun z => hb (by simp [z]))).trans (hk b ob (fun z => hb (by simp [z])) (fun z => hb (by simp [z])) q)) hf (Nat.le_refl _) new
    refine ⟨.ref s.heap.objs.size, _, I1, rfl, ⟨_, x, rfl, I.hok.fresh (Nat.le_refl _), rfl, fun ys hy => by rw [I.tuple_inj hy hq]; exact hx⟩, ⟨⟨x', ?_⟩, hst.1.at fun o q => (sb.2 it (Ne.symm hne)).trans q, hne, hae, hai⟩, fun b hb => ?_⟩
    · have e1 : ((i + 1 : Nat) : Int) = (i : Int) + 1 := by omega
      rw [e1]
      exact he'
    · have hb' : b < s.heap.objs.size := by
        have z : b = e ∨ b = it := by simpa using hb
        rcases z with z | z
        · rw [z]
          exact hel
        · rw [z]
          exact hil
      rw [upd_ne (Nat.ne_of_lt hb')]
      exact (hf b hb).1
  done := by
    intro X hP hw hK hc i pins s σ H E I hf st hg
    subst hP hw hK
    obtain ⟨⟨old, he⟩, hit, hne, hae, hai⟩ := st
    obtain ⟨xs, hq, hx⟩ := hg
    obtain ⟨its, rv, p, hz⟩ := I.tuple hq
    obtain ⟨f0, f1, f2, f3, f4, f5⟩ := hf it (by simp)
    have hl := rv.length
    have hT : s.TypeIs (.ref e) "enumerate" := ⟨_, he, rfl⟩
    unfold pyNext
    refine wpAny_bind (wpAny_attempt (wpAny_callSpecial?_slot (name := Str.ofString "__next__") hT F.slot_enumerate_next (wpAny_call_entry F.slot_enumerate_next hT F.entry_enumerate_next ?_ (F.args_enumerate_next_1 _))))
    show wpAny _ _ (field (.ref e) 2 >>= _) _ _ _
    refine wpAny_bind (wpAny_field he rfl (x := .ref it) rfl ?_)
    refine wpAny_bind (wpAny_nextOf_tuple_end (A := X.A.in1) (I.ok.hd hc) hit (show s.heap.IsTuple a its.toArray from p) (by simp; omega) fun h' x he' hx' => ?_)
    obtain ⟨o, ho, hcx⟩ := hx'
    refine wpAny_bind (wpAny_isInstance (T := "StopIteration") (b := true) ⟨o, ho, hcx⟩ isSubtype_stop ?_)
    exact wpAny_pure ⟨rfl, I.turned (t' := s.toks) (fun b o hb q => he' b o hb q) f0 f1 f3 f4 f5⟩
  self := fun A i s Q E st h => by
    obtain ⟨⟨_, he⟩, _⟩ := st
    exact wpAny_pyIter_enum he h
def iEnumT (K : PySem.W.Frag) (ta : TA) : TI := fun σ H R => ta σ H fun vs H1 => ∃ a xs, vs = [.ref a] ∧ SqT K H1 a xs ∧ R (IteT K a) H1
theorem pi_enumT {X : Cx} {e : Expr} {ta : TA} {p pos tpos : Pos} {elts : List Expr} {kk : Nat} (hg : Gl X "enumerate") (hm : X.mg "enumerate" = none) (ha : PA X [e] ta) (hs : starEach [e] X.env = [(false, eval e X.env)] := by rfl) :
    PI X (.Tuple elts kk tpos) (.Call (.Name "enumerate" p) [e] [] pos) (iEnumT X.K ta) := by
  refine ⟨fun pins s σ H R I h => Call_ (ld_blt I hg hm boot_enumerate (PyProof.Rows.callWith_type1 (thn (ha.run pos pins s σ H _ I h) fun us s1 ⟨vs, H1, I1, r1, q1⟩ => ?_) hs rfl))⟩
  obtain ⟨a, xs, rfl, hq, q⟩ := q1
  cases r1 with
  | cons r rr =>
    cases rr
    cases r
    obtain ⟨its, rv, p2, hz⟩ := I1.tuple hq
    have ht : s1.heap.IsTuple a its.toArray := p2
    have hal : a < s1.heap.objs.size := by
      obtain ⟨_, z, _⟩ := ht
      exact Heap.lt_size z
    refine enum_begins1 (begins_tuple a its.toArray) ht fun h' he hit hk => wpAny_pyIter_enum he ?_
    have I2 : Inv X pins σ H1 { s1 with heap := h' } := I1.kept (t' := s1.toks) hk
    refine ⟨s1.heap.objs.size + 1, [s1.heap.objs.size + 1, s1.heap.objs.size], _, _, H1, rfl, I2, turn_enumT a (s1.heap.objs.size + 1) s1.heap.objs.size, ⟨⟨.none, he⟩, ⟨_, hit, rfl, rfl⟩, Nat.succ_ne_self _, Nat.ne_of_lt (Nat.lt_succ_of_lt hal), Nat.ne_of_lt hal⟩, fun b hb => ?_, q⟩
    have z : b = s1.heap.objs.size + 1 ∨ b = s1.heap.objs.size := by simpa using hb
    have hle : s1.heap.objs.size ≤ b := by
      rcases z with z | z
      · rw [z]
        exact Nat.le_succ _
      · rw [z]
        exact Nat.le_refl _
    exact I1.fpOk hle (I1.hok.fresh hle)
section
variable {X : Cx} {es : List Slot} {os os1 os2 os3 : Os} {N V G W : List Str} {k i vi gi j : Nat} {x : Str} {p pos : Pos} {e e2 e3 a : Expr} {φ : VP} {n : Ent} {α : Type}
theorem ix_enumT {elts : List Expr} {kk : Nat} {tpos : Pos} {xs : List α} {enc : α → PyData} (B : Bd X N W G k) (hj : G[gi]? = some "enumerate") (hm : X.mg "enumerate" = none) (he : EX X es os e φ os1) (hr : RdT φ (xs.map enc)) (hs : starEach [e] X.env = [(false, eval e X.env)] := by rfl) :
    IX X (.Tuple elts kk tpos) es os (.Call (.Name "enumerate" p) [e] [] pos) (enum xs) (fun x => dat (.tuple [.int x.1, enc x.2])) anyOs os1 := fun F σ H R ow sl q =>
  wi_of (pi_enumT (B.gl _ (List.mem_of_getElem? hj)).1 hm pa_u hs) (wa_of (pa_cons pe_u pa_nil hs) (he F σ H _ ow sl fun F1 H1 v e1 o1 c1 => by
    obtain ⟨a, vs, rfl, h1, h2⟩ := hr F1 v c1
    refine ⟨a, vs, rfl, .of (o1.ex _ _ h1), q F1 H1 _ e1 o1 fun F2 H2 os2 i s ow2 k2 => ?_⟩
    have g1 := s _ _ h1
    have g2 := dqall_mono s _ _ h2
    have hl := dqall_len g2
    rw [List.length_map] at hl
    have hT : SqT X.K H2 a vs := .of (ow2.ex _ _ g1)
    refine ⟨fun h => ⟨vs, hT, by rw [enum_len] at h; omega⟩, fun x hx => ?_⟩
    obtain ⟨hz1, hz2⟩ := zipIdx_get hx
    obtain ⟨u, hu, hd⟩ := dqall_map g2 hz2
    refine ⟨⟨vs, u, hT, hu⟩, fun w H3 y => ?_⟩
    obtain ⟨T, w2, rfl, hTn, rfl, hy⟩ := y
    have ew : vs[i]? = some w2 := hy vs hT
    rw [hu] at ew
    cases ew
    have fT := ow2.ex.free hTn
    refine ⟨_, same_upd fT, ow2.frozen hTn, cl_dat (.tup upd_same ?_)⟩
    rw [hz1]
    exact .cons (.int _) (.cons (dq_mono (same_upd fT) _ _ hd) .nil)))
/-! ### range(a, b, -1) -/
def rangeD (a b : Int) : List Int := (List.range (a - b).toNat).map fun (i : Nat) => a + (i : Int) * (-1)
def rngDO (a b : Int) : Option (List Int) := if -(2 ^ 62) ≤ a ∧ a < 2 ^ 62 ∧ -(2 ^ 62) ≤ b ∧ b < 2 ^ 62 then some (rangeD a b) else none
theorem ix_rngD {tg : Expr} {lo hi : Int} {xs : List Int} (B : Bd X N W G k) (hj : G[gi]? = some "range") (hm : X.mg "range" = none) (hx : rngDO lo hi = some xs) (ha : EX X es os e (dat (.int lo)) os1) (hb : EX X es os1 e2 (dat (.int hi)) os2) (hc : EX X es os2 e3 (dat (.int (-1))) os3)
    (hs : starEach [e, e2, e3] X.env = (false, eval e X.env) :: starEach [e2, e3] X.env := by rfl) (hs2 : starEach [e2, e3] X.env = (false, eval e2 X.env) :: starEach [e3] X.env := by rfl) (hs3 : starEach [e3] X.env = (false, eval e3 X.env) :: starEach [] X.env := by rfl) (hpl : (backTo pos (starEach [e2, e3] X.env)).any (·.1) = false := by rfl) :
    IX X tg es os (.Call (.Name "range" p) [e, e2, e3] [] pos) xs (fun x => dat (.int x)) anyOs os3 := fun F σ H R ow sl q => by
  unfold rngDO at hx
  split at hx
  · rename_i h
    cases hx
    refine wi_of (pi_range3 (B.gl _ (List.mem_of_getElem? hj)).1 hm pa_u hs hpl) (wa_of (pa_cons (hs := hs) pe_u (pa_cons (hs := hs2) pe_u (pa_cons (hs := hs3) pe_u pa_nil))) (ha F σ H _ ow sl fun F1 H1 v e1 o1 c1 => hb F1 σ H1 _ o1 (sl.mono e1) fun F2 H2 u e2 o2 c2 => hc F2 σ H2 _ o2 (sl.mono (e1.trans e2)) fun F3 H3 w e3 o3 c3 => ?_))
    refine ⟨lo, hi, -1, (lo - hi).toNat, by rw [clv_int c1, clv_int c2, clv_int c3], .neg h.1 h.2.1 h.2.2.1 h.2.2.2, q F3 H3 _ ((e1.trans e2).trans e3) o3 fun F4 H4 os4 i s ow4 _ => ?_⟩
    refine ⟨fun z => show (lo - hi).toNat ≤ i by unfold rangeD at z; simpa using z, fun x hx => ?_⟩
    unfold rangeD at hx
    rw [List.getElem?_map] at hx
    by_cases hi2 : i < (lo - hi).toNat
    · rw [List.getElem?_range hi2] at hx
      cases hx
      refine ⟨hi2, fun v H5 y => ?_⟩
      obtain ⟨rfl, rfl⟩ := y
      exact ⟨F4, Same.refl F4, ow4, cl_dat (.int _)⟩
    · rw [List.getElem?_eq_none (by rw [List.length_range]; omega)] at hx
      cases hx
  · cases hx
/-! ### extend, index -/
theorem ex_extend {apos cpos : Pos} {q : Addr} {enc : α → PyData} {xs xs0 ys zs : List α} (ha : catO xs ys = some zs) (ho : EX X es os a (own q) os) (h0 : os[j]? = some (q, ol (xs0.map enc))) (he : EN X es os e (ol (ys.map enc)) os1) (hj : os1[j]? = some (q, ol (xs.map enc)))
    (hbase : attributeBase a "extend" X.env (eval a X.env) = eval a X.env := by rfl) (hline : (apos.endLine == cpos.line) = true := by rfl) (hs : starEach [e] X.env = (false, eval e X.env) :: starEach [] X.env := by rfl)
    (hfew : ((backTo cpos (starEach [e] X.env)).all (fun x => !x.1) && (backToKw cpos (keywordEach [] X.env)).all (fun x => x.1.isSome) && decide ([e].length + ([] : List Keyword).length + (if ([] : List Keyword).isEmpty then 0 else 1) < 30)) = true := by rfl)
    (hplain : (backTo cpos (starEach [] X.env)).any (·.1) = false := by rfl) : EX X es os (.Call (.Attribute a "extend" apos) [e] [] cpos) (dat .none) (os1.set j (q, ol (zs.map enc))) := fun F σ H Q ow sl qq => by
  unfold catO at ha
  split at ha
  · rename_i hz
    cases ha
    refine we_of (pe_bm PySem.F.plainAttrs_list PySem.F.slot_list_extend PySem.F.type_list_extend mt_extend pe_u pa_u hbase hfew hline hs hplain) (ho F σ H _ ow sl fun F1 H1 v e1 o1 c1 => ?_)
    obtain rfl : v = .ref q := c1.now
    obtain ⟨_, _, _, ty⟩ := ty_own (K := X.K) o1 h0
    refine ⟨ty, wa_of (pa_cons pe_u pa_nil hs) (he F1 σ H1 _ o1 (sl.mono e1) fun F2 H2 r e2 o2 => ?_)⟩
    obtain ⟨vs, hp, hv, _⟩ := ty_own (K := X.K) o2.drop hj
    obtain ⟨_, u, hu, ku⟩ := o2.at
    obtain ⟨us, rfl, hus⟩ := ku F2 (Same.refl F2)
    have l1 := dqall_len hv
    have l2 := dqall_len hus
    rw [List.length_map] at l1 l2
    have o3 := ow_set o2.drop hj (dqall_app hv hus)
    rw [← List.map_append] at o3
    exact ⟨q, r, vs, us, rfl, rfl, hp, hu, by omega, qq F2 _ .non (e1.trans e2) o3 (cl_dat .non)⟩
  · cases ha
/-- the first place at which an integer stands -/
def ixOf : List Int → Int → Option Nat
  | [], _ => none
  | x :: xs, y => if x = y then some 0 else (ixOf xs y).map (· + 1)
theorem ixOf_spec : ∀ {xs : List Int} {y : Int} {m : Nat}, ixOf xs y = some m → xs[m]? = some y ∧ ∀ l z, l < m → xs[l]? = some z → z ≠ y
  | [], _, _, h => by cases h
  | x :: xs, y, m, h => by
    unfold ixOf at h
    by_cases hx : x = y
    · rw [if_pos hx] at h
      cases h
      exact ⟨by rw [hx]; rfl, fun l z hl => absurd hl (Nat.not_lt_zero _)⟩
    · rw [if_neg hx] at h
      cases e : ixOf xs y with
      | none =>
        rw [e] at h
        cases h
      | some m' =>
        rw [e] at h
        cases h
        obtain ⟨h1, h2⟩ := ixOf_spec e
        refine ⟨by simpa using h1, fun l z hl hz => ?_⟩
        cases l with
        | zero =>
          simp at hz
          exact hz ▸ hx
        | succ l => exact h2 l z (Nat.lt_of_succ_lt_succ hl) (by simpa using hz)
theorem ex_index {apos cpos : Pos} {xs : List Int} {y : Int} {m : Nat} (hm : ixOf xs y = some m) (hr : ∀ o, o = os1 ∨ o = os2 → RdL X φ o (xs.map PyData.int)) (ho : EX X es os a φ os1) (he : EX X es os1 e (dat (.int y)) os2)
    (hbase : attributeBase a "index" X.env (eval a X.env) = eval a X.env := by rfl) (hline : (apos.endLine == cpos.line) = true := by rfl) (hs : starEach [e] X.env = (false, eval e X.env) :: starEach [] X.env := by rfl)
    (hfew : ((backTo cpos (starEach [e] X.env)).all (fun x => !x.1) && (backToKw cpos (keywordEach [] X.env)).all (fun x => x.1.isSome) && decide ([e].length + ([] : List Keyword).length + (if ([] : List Keyword).isEmpty then 0 else 1) < 30)) = true := by rfl)
    (hplain : (backTo cpos (starEach [] X.env)).any (·.1) = false := by rfl) : EX X es os (.Call (.Attribute a "index" apos) [e] [] cpos) (dat (.int (m : Int))) os2 := fun F σ H Q ow sl qq => by
  refine we_of (pe_bm PySem.F.plainAttrs_list PySem.F.slot_list_index PySem.F.type_list_index mt_index pe_u pa_u hbase hfew hline hs hplain) (ho F σ H _ ow sl fun F1 H1 v e1 o1 c1 => ?_)
  obtain ⟨b, us, rfl, h1, h2⟩ := hr os1 (.inl rfl) F1 H1 v o1 c1
  refine ⟨.inl ⟨rfl, us, h1⟩, wa_of (pa_cons pe_u pa_nil hs) (he F1 σ H1 _ o1 (sl.mono e1) fun F2 H2 u e2 o2 c2 => ?_)⟩
  obtain ⟨b', us', eb, g1, g2⟩ := hr os2 (.inr rfl) F2 H2 _ o2 (c1.mono e2)
  cases eb
  have ev := dqall_of_ints xs g2
  subst ev
  rw [clv_int c2]
  obtain ⟨s1, s2⟩ := ixOf_spec hm
  refine ⟨b, _, .int y, m, .int y, rfl, rfl, g1, rfl, flat_ints xs, by rw [List.getElem?_map, s1]; rfl, by simp [eqV], fun l z hl hz => ?_, qq F2 H2 _ (e1.trans e2) o2 (cl_dat (.int _))⟩
  rw [List.getElem?_map] at hz
  cases ez : xs[l]? with
  | none =>
    rw [ez] at hz
    cases hz
  | some z' =>
    rw [ez] at hz
    cases hz
    have := s2 l z' hl ez
    simp [eqV, this]
end
end Z
/-! Y, part A: plain facts about the words of the mirrors. -/
namespace Z
open PySem PySem.Spec L2

theorem log2_small {n k : Nat} (h : n < 2 ^ k) (hk : 0 < k) : n.log2 < k := by
  by_cases h0 : n = 0
  · subst h0
    simpa using hk
  · exact (Nat.log2_lt h0).mpr h
theorem log2_int {i : Int} {k : Nat} (h0 : 0 ≤ i) (h : i < 2 ^ k) (hk : 0 < k) : i.natAbs.log2 < k := by
  refine log2_small ?_ hk
  have e : ((2 ^ k : Nat) : Int) = (2 : Int) ^ k := by norm_cast
  omega
theorem idx_of {α : Type} {xs : List α} {i : Int} {v : α} (h0 : 0 ≤ i) (h : xs[i.toNat]? = some v) : idx xs i = some v := by
  have hl := (List.getElem?_eq_some_iff.mp h).1
  unfold idx atI ixN
  rw [if_pos h0, if_pos (by omega)]
  exact h
theorem idx_last {α : Type} {xs : List α} {v : α} (h : xs[xs.length - 1]? = some v) : idx xs (-1) = some v := by
  have hl := (List.getElem?_eq_some_iff.mp h).1
  unfold idx atI ixN
  rw [if_neg (by omega), if_pos (by omega)]
  have e : ((-1 : Int) + (xs.length : Int)).toNat = xs.length - 1 := by omega
  show xs[((-1 : Int) + (xs.length : Int)).toNat]? = _
  rw [e]
  exact h
theorem rngO_ok {a b : Int} (h : -(2 ^ 62) ≤ a ∧ a < 2 ^ 62 ∧ -(2 ^ 62) ≤ b ∧ b < 2 ^ 62) : rngO a b = some (range' a b) := if_pos h
theorem mem_rng {a b x : Int} (h : x ∈ range' a b) : a ≤ x ∧ x < b := by
  unfold range' at h
  obtain ⟨i, hi, rfl⟩ := List.mem_map.mp h
  have := List.mem_range.mp hi
  omega
theorem lpR_go {α R S : Type} {f : S → α → Option (Step R S)} (P : S → Prop) : ∀ {xs : List α}, (∀ x ∈ xs, ∀ s, P s → ∃ s', f s x = some (.go s') ∧ P s') → ∀ {s0 : S}, P s0 → ∃ s', lpR f xs s0 = some (.inr s') ∧ P s'
  | [], _, s0, h0 => ⟨s0, rfl, h0⟩
  | x :: xs, h, s0, h0 => by
    obtain ⟨s1, e, h1⟩ := h x List.mem_cons_self s0 h0
    obtain ⟨s2, e2, h2⟩ := lpR_go P (fun y hy => h y (List.mem_cons_of_mem _ hy)) h1
    refine ⟨s2, ?_, h2⟩
    unfold lpR
    rw [e]
    exact e2
theorem lpR_goN {α R S : Type} {f : S → α → Option (Step R S)} : ∀ {xs : List α} (P : Nat → S → Prop), (∀ (i : Nat) (x : α) (s : S), xs[i]? = some x → P i s → ∃ s', f s x = some (.go s') ∧ P (i + 1) s') → ∀ {s0 : S}, P 0 s0 → ∃ s', lpR f xs s0 = some (.inr s') ∧ P xs.length s'
  | [], P, _, s0, h0 => ⟨s0, rfl, h0⟩
  | x :: xs, P, h, s0, h0 => by
    obtain ⟨s1, e, h1⟩ := h 0 x s0 rfl h0
    obtain ⟨s2, e2, h2⟩ := lpR_goN (xs := xs) (fun i => P (i + 1)) (fun i y s hy hs => h (i + 1) y s (by simpa using hy) hs) h1
    refine ⟨s2, ?_, h2⟩
    unfold lpR
    rw [e]
    exact e2
theorem lp_goN {α S : Type} {f : S → α → Option S} : ∀ {xs : List α} (P : Nat → S → Prop), (∀ (i : Nat) (x : α) (s : S), xs[i]? = some x → P i s → ∃ s', f s x = some s' ∧ P (i + 1) s') → ∀ {s0 : S}, P 0 s0 → ∃ s', lp f xs s0 = some s' ∧ P xs.length s'
  | [], P, _, s0, h0 => ⟨s0, rfl, h0⟩
  | x :: xs, P, h, s0, h0 => by
    obtain ⟨s1, e, h1⟩ := h 0 x s0 rfl h0
    obtain ⟨s2, e2, h2⟩ := lp_goN (xs := xs) (fun i => P (i + 1)) (fun i y s hy hs => h (i + 1) y s (by simpa using hy) hs) h1
    refine ⟨s2, ?_, h2⟩
    unfold lp
    rw [e]
    exact e2
theorem reprO_int (i : Int) : reprO (.int i) = strO i := by
  unfold reprO strO
  by_cases h : i.natAbs.log2 < 1920
  · rw [if_pos h, if_pos ⟨by simpa only [PyData.showable, decide_eq_true_eq] using h, by simp only [PyData.hasDict], by simp only [PyData.depth]; omega, rfl⟩]
    simp only [PyData.shown]
  · rw [if_neg h, if_neg]
    intro z
    exact h (by simpa only [PyData.showable, decide_eq_true_eq] using z.1)
theorem strO_ok {i : Int} (h : i.natAbs.log2 < 1920) : strO i = some (toString i) := if_pos h

/-! ### what the laws draw from -/
def springM (script : List Int) (k_ : Int) : Option (List Int) :=
  ((if (decide (k_ < (script.length : Int))) = true then ((idx script k_).bind fun t1 => some t1) else some (((53 * k_) + 11) + (script.length : Int)) : Option Int).bind fun s2 => ((lcT (fun (other3 : Int) => (other3 % 1000000000000000000000007)) script).bind fun t5 => ((some (((((absI s2) * 92821) + (7 * (if (decide (s2 < 0)) = true then 1 else 0))) + (t5.sum * 131071)) + (977 * k_))).bind fun mixed6 => some [(maxI 0 (s2 - 1000000000000000000)), (mixed6 % 1000000000000000000000000000057), 0])))
def dropM (w_spring_here : List Int) (many : Int) : Option (Int × List Int) :=
  ((idx w_spring_here 0).bind fun t1 => (if (decide (0 < t1)) = true then ((idx w_spring_here 0).bind fun t2 => (modO t2 many).bind fun t3 => ((idx w_spring_here 0).bind fun t4 => (fdivO t4 many).bind fun t5 => (setO w_spring_here 0 t5).bind fun t6 => some (t3, t6))) else ((idx w_spring_here 2).bind fun t7 => (setO w_spring_here 2 (t7 + 1)).bind fun t8 => ((idx t8 1).bind fun t9 => (idx t8 2).bind fun t10 => (powO (t9 + (161803399 * t10)) 3).bind fun t11 => ((idx t8 2).bind fun t12 => ((idx t8 2).bind fun t13 => (mulO ((t11 + (11 * t12)) % 10000000000000000000000000000033) (((t11 + (11 * t12)) % 10000000000000000000000000000033) + (5503 * t13))).bind fun t14 => ((modO ((t14 % 100000000000000000000000000319) / 12289) many).bind fun t15 => some (t15, t8))))))))
/-- three cells, of which so many draws were made at most -/
def SpOk (n : Nat) (w : List Int) : Prop := ∃ a b c : Int, w = [a, b, c] ∧ 0 ≤ a ∧ 0 ≤ b ∧ b < 2 ^ 101 ∧ 0 ≤ c ∧ c ≤ n
theorem SpOk.mono {n m : Nat} {w : List Int} (h : SpOk n w) (hm : n ≤ m) : SpOk m w := by
  obtain ⟨a, b, c, e, h1, h2, h3, h4, h5⟩ := h
  exact ⟨a, b, c, e, h1, h2, h3, h4, by omega⟩
theorem spring_ok {ns : List Int} {k : Int} (hl : ns.length < sizeLine) (h0 : 0 ≤ k) : ∃ w, springM ns k = some w ∧ SpOk 0 w := by
  unfold springM
  have h1 : ∃ s, (if (decide (k < (ns.length : Int))) = true then ((idx ns k).bind fun t1 => some t1) else some (((53 * k) + 11) + (ns.length : Int)) : Option Int) = some s := by
    by_cases hk : k < (ns.length : Int)
    · rw [if_pos (decide_eq_true hk)]
      have hk2 : k.toNat < ns.length := by omega
      exact ⟨ns[k.toNat], by rw [idx_of h0 (List.getElem?_eq_getElem hk2)]; rfl⟩
    · rw [if_neg (by simpa using hk)]
      exact ⟨_, rfl⟩
  obtain ⟨s, e⟩ := h1
  rw [e]
  show ∃ w, ((lcT (fun (other3 : Int) => (other3 % 1000000000000000000000007)) ns).bind fun t5 => _) = some w ∧ SpOk 0 w
  unfold lcT
  rw [if_pos hl]
  refine ⟨_, rfl, _, _, _, rfl, ?_, Int.emod_nonneg _ (by decide), ?_, Int.le_refl 0, Int.le_refl 0⟩
  · unfold maxI
    split <;> omega
  · refine Int.lt_trans (Int.emod_lt_of_pos _ (by decide)) (by decide)
theorem pow_cube {i : Int} (h0 : 0 ≤ i) (h : i < 2 ^ 103) : powO i 3 = some (i ^ 3) := by
  unfold powO
  rw [if_pos]
  · rfl
  refine ⟨by decide, ?_⟩
  have hb : Builtin.Int.intBits i ≤ 103 := by
    unfold Builtin.Int.intBits
    split
    · omega
    · have := log2_int h0 h (by decide)
      omega
  omega
theorem drop_ok {n : Nat} (hn : n < 2 ^ 60) {w : List Int} (h : SpOk n w) {many : Int} (h0 : 0 < many) (hb : many.natAbs.log2 < 9000) : ∃ v w', dropM w many = some (v, w') ∧ 0 ≤ v ∧ v < many ∧ SpOk (n + 1) w' := by
  obtain ⟨a, b, c, rfl, ha, hb0, hb1, hc0, hc1⟩ := h
  unfold dropM
  have i0 : idx [a, b, c] 0 = some a := rfl
  have i2 : idx [a, b, c] 2 = some c := rfl
  rw [i0]
  show ∃ v w', (if (decide (0 < a)) = true then _ else _) = some (v, w') ∧ 0 ≤ v ∧ v < many ∧ SpOk (n + 1) w'
  by_cases hp : 0 < a
  · rw [if_pos (decide_eq_true hp)]
    refine ⟨a % many, [a / many, b, c], ?_, Int.emod_nonneg _ (by omega), Int.emod_lt_of_pos _ h0, _, _, _, rfl, Int.ediv_nonneg ha (by omega), hb0, hb1, hc0, by omega⟩
    have m1 : modO a many = some (a % many) := if_pos h0
    have m2 : fdivO a many = some (a / many) := if_pos ⟨h0, hb⟩
    have m3 : setO [a, b, c] 0 (a / many) = some [a / many, b, c] := rfl
    show ((modO a many).bind fun t3 => ((some a).bind fun t4 => (fdivO t4 many).bind fun t5 => (setO [a, b, c] 0 t5).bind fun t6 => some (t3, t6))) = _
    rw [m1]
    show ((fdivO a many).bind fun t5 => (setO [a, b, c] 0 t5).bind fun t6 => some (a % many, t6)) = _
    rw [m2]
    show ((setO [a, b, c] 0 (a / many)).bind fun t6 => some (a % many, t6)) = _
    rw [m3]
    rfl
  · rw [if_neg (by simpa using hp), i2]
    have m1 : setO [a, b, c] 2 (c + 1) = some [a, b, c + 1] := rfl
    show ∃ v w', ((setO [a, b, c] 2 (c + 1)).bind fun t8 => _) = some (v, w') ∧ _
    rw [m1]
    have m2 : powO (b + (161803399 * (c + 1))) 3 = some ((b + (161803399 * (c + 1))) ^ 3) := pow_cube (by omega) (by omega)
    show ∃ v w', ((powO (b + (161803399 * (c + 1))) 3).bind fun t11 => _) = some (v, w') ∧ _
    rw [m2]
    generalize (b + (161803399 * (c + 1))) ^ 3 = t11
    have q0 : 0 ≤ (t11 + (11 * (c + 1))) % 10000000000000000000000000000033 := Int.emod_nonneg _ (by decide)
    have q1 : (t11 + (11 * (c + 1))) % 10000000000000000000000000000033 < 10000000000000000000000000000033 := Int.emod_lt_of_pos _ (by decide)
    show ∃ v w', ((mulO ((t11 + (11 * (c + 1))) % 10000000000000000000000000000033) (((t11 + (11 * (c + 1))) % 10000000000000000000000000000033) + (5503 * (c + 1)))).bind fun t14 => ((modO ((t14 % 100000000000000000000000000319) / 12289) many).bind fun t15 => some (t15, [a, b, c + 1]))) = some (v, w') ∧ _
    generalize (t11 + (11 * (c + 1))) % 10000000000000000000000000000033 = x at q0 q1
    have m3 : mulO x (x + 5503 * (c + 1)) = some (x * (x + 5503 * (c + 1))) := by
      refine if_pos ?_
      have e1 : x.natAbs.log2 < 105 := log2_int q0 (by omega) (by decide)
      have e2 : (x + 5503 * (c + 1)).natAbs.log2 < 106 := log2_int (by omega) (by omega) (by decide)
      omega
    rw [m3]
    refine ⟨((x * (x + 5503 * (c + 1))) % 100000000000000000000000000319) / 12289 % many, [a, b, c + 1], ?_, Int.emod_nonneg _ (by omega), Int.emod_lt_of_pos _ h0, _, _, _, rfl, ha, hb0, hb1, by omega, by omega⟩
    have m4 : modO (((x * (x + 5503 * (c + 1))) % 100000000000000000000000000319) / 12289) many = some (((x * (x + 5503 * (c + 1))) % 100000000000000000000000000319) / 12289 % many) := if_pos h0
    show ((modO (((x * (x + 5503 * (c + 1))) % 100000000000000000000000000319) / 12289) many).bind fun t15 => some (t15, [a, b, c + 1])) = _
    rw [m4]
    rfl
/-- draws of small bounds -/
theorem drop_small {n : Nat} (hn : n < 2 ^ 60) {w : List Int} (h : SpOk n w) {many : Int} (h0 : 0 < many) (hb : many < 2 ^ 64) : ∃ v w', dropM w many = some (v, w') ∧ 0 ≤ v ∧ v < many ∧ SpOk (n + 1) w' :=
  drop_ok hn h h0 (Nat.lt_trans (log2_int (by omega) hb (by decide)) (by decide))
end Z
/-! Y, part B: walks made straight; what is left when one thing and its opposite fall away. -/
namespace Z
open PySem PySem.Spec L2

/-! ### the plain words -/
/-- a step put on a pile -/
def psh : List Int → Int → List Int
  | [], x => [x]
  | y :: t, x => if y = -x then t else x :: y :: t
/-- no two opposite steps beside one another -/
def Gd : List Int → Prop
  | x :: y :: t => y ≠ -x ∧ Gd (y :: t)
  | _ => True
theorem gd_nil : Gd [] := trivial
def fl (s w : List Int) : List Int := w.foldl psh s
def red (w : List Int) : List Int := (fl [] w).reverse
def iv (w : List Int) : List Int := w.reverse.map fun x => -x
theorem gd_tail {x : Int} : ∀ {t : List Int}, Gd (x :: t) → Gd t
  | [], _ => trivial
  | _ :: _, h => h.2
theorem psh_gd {s : List Int} {x : Int} (h : Gd s) : Gd (psh s x) := by
  cases s with
  | nil => trivial
  | cons y t =>
    by_cases hy : y = -x
    · rw [show psh (y :: t) x = t from if_pos hy]
      exact gd_tail h
    · rw [show psh (y :: t) x = x :: y :: t from if_neg hy]
      exact ⟨hy, h⟩
theorem psh_inv {s : List Int} {x : Int} (h : Gd s) : psh (psh s x) (-x) = s := by
  cases s with
  | nil =>
    show (if x = -(-x) then [] else [-x, x]) = []
    rw [if_pos (by omega)]
  | cons y t =>
    by_cases hy : y = -x
    · have e : psh (y :: t) x = t := if_pos hy
      rw [e]
      cases t with
      | nil => show [-x] = [y]; rw [hy]
      | cons z t =>
        have e2 : psh (z :: t) (-x) = -x :: z :: t := if_neg (by have := h.1; omega)
        rw [e2, hy]
    · have e : psh (y :: t) x = x :: y :: t := if_neg hy
      rw [e]
      exact if_pos (by omega)
theorem fl_gd : ∀ {w s : List Int}, Gd s → Gd (fl s w)
  | [], _, h => h
  | _ :: w, _, h => fl_gd (w := w) (psh_gd h)
theorem fl_app (s u v : List Int) : fl s (u ++ v) = fl (fl s u) v := List.foldl_append
theorem gd_suf : ∀ {a b : List Int}, Gd (a ++ b) → Gd b
  | [], _, h => h
  | _ :: a, _, h => gd_suf (a := a) (gd_tail h)
theorem gd_pre : ∀ {a b : List Int}, Gd (a ++ b) → Gd a
  | [], _, _ => trivial
  | [_], _, _ => trivial
  | _ :: y :: a, _, h => ⟨h.1, gd_pre (a := y :: a) h.2⟩
theorem gd_join {x y : Int} {t : List Int} (hxy : x ≠ -y) (h2 : Gd (x :: t)) : ∀ {a : List Int}, Gd (a ++ [y]) → Gd (a ++ y :: x :: t)
  | [], _ => ⟨hxy, h2⟩
  | [_], h => ⟨h.1, hxy, h2⟩
  | _ :: b :: a, h => ⟨h.1, gd_join (a := b :: a) hxy h2 h.2⟩
theorem gd_rev : ∀ {w : List Int}, Gd w → Gd w.reverse
  | [], _ => trivial
  | [_], _ => trivial
  | x :: y :: t, h => by
    have ih := gd_rev (w := y :: t) h.2
    rw [List.reverse_cons] at ih
    rw [List.reverse_cons, List.reverse_cons, List.append_assoc]
    have := h.1
    exact gd_join (t := []) (by omega) trivial ih
theorem gd_neg : ∀ {w : List Int}, Gd w → Gd (w.map fun x => -x)
  | [], _ => trivial
  | [_], _ => trivial
  | x :: y :: t, h => ⟨by have := h.1; show -y ≠ -(-x); omega, gd_neg (w := y :: t) h.2⟩
theorem gd_iv {w : List Int} (h : Gd w) : Gd (iv w) := gd_neg (gd_rev h)
theorem fl_of_gd : ∀ {w s : List Int}, Gd (w.reverse ++ s) → fl s w = w.reverse ++ s
  | [], _, _ => rfl
  | x :: w, s, h => by
    rw [List.reverse_cons, List.append_assoc] at h
    have e : psh s x = x :: s := by
      have hs := gd_suf h
      cases s with
      | nil => rfl
      | cons y t => exact if_neg hs.1
    show fl (psh s x) w = _
    have h' : Gd (w.reverse ++ (x :: s)) := h
    rw [e, fl_of_gd (w := w) h', List.reverse_cons, List.append_assoc]
    rfl
theorem red_gd (w : List Int) : Gd (red w) := gd_rev (fl_gd gd_nil)
theorem red_of {w : List Int} (h : Gd w) : red w = w := by
  unfold red
  rw [fl_of_gd (s := []) (by rw [List.append_nil]; exact gd_rev h), List.append_nil, List.reverse_reverse]
theorem fl_nest : ∀ {w t s : List Int}, Gd s → Gd t → fl (fl s t.reverse) w = fl s (fl t w).reverse
  | [], _, _, _, _ => rfl
  | x :: w, t, s, hs, ht => by
    show fl (psh (fl s t.reverse) x) w = fl s (fl (psh t x) w).reverse
    rw [← fl_nest (w := w) hs (psh_gd (x := x) ht)]
    refine congrArg (fun z => fl z w) ?_
    cases t with
    | nil => rfl
    | cons y t =>
      by_cases hy : y = -x
      · have e : psh (y :: t) x = t := if_pos hy
        rw [e, List.reverse_cons, fl_app, hy]
        have := psh_inv (x := -x) (fl_gd (w := t.reverse) hs)
        rw [Int.neg_neg] at this
        exact this
      · have e : psh (y :: t) x = x :: y :: t := if_neg hy
        rw [e, List.reverse_cons (a := x), fl_app]
        rfl
theorem fl_red {s w : List Int} (hs : Gd s) : fl s w = fl s (red w) := fl_nest (t := []) hs gd_nil
theorem red_app (u v : List Int) : red (u ++ v) = red (red u ++ red v) := by
  have e1 := fl_red (w := v) (fl_gd (w := u) gd_nil)
  have e2 := fl_red (s := []) (w := u) gd_nil
  show (fl [] (u ++ v)).reverse = (fl [] (red u ++ red v)).reverse
  rw [fl_app, fl_app, e1, ← e2]
theorem red_red (u : List Int) : red (red u) = red u := red_of (red_gd u)
theorem red_appL (u v : List Int) : red (red u ++ v) = red (u ++ v) := by rw [red_app (red u), red_red, ← red_app]
theorem red_appR (u v : List Int) : red (u ++ red v) = red (u ++ v) := by rw [red_app u, red_red, ← red_app]
theorem iv_cons (x : Int) (w : List Int) : iv (x :: w) = iv w ++ [-x] := by
  unfold iv
  rw [List.reverse_cons, List.map_append]
  rfl
theorem fl_inv : ∀ {w s : List Int}, Gd s → fl s (w ++ iv w) = s
  | [], _, _ => rfl
  | x :: w, s, h => by
    rw [iv_cons]
    show fl (psh s x) (w ++ (iv w ++ [-x])) = s
    rw [← List.append_assoc, fl_app, fl_inv (psh_gd h)]
    exact psh_inv h
theorem red_inv (w : List Int) : red (w ++ iv w) = [] := by
  unfold red
  rw [fl_inv gd_nil]
  rfl
theorem iv_iv (w : List Int) : iv (iv w) = w := by
  unfold iv
  rw [← List.map_reverse, List.reverse_reverse, List.map_map]
  have : ((fun x : Int => -x) ∘ fun x : Int => -x) = id := by
    funext x
    show -(-x) = x
    omega
  rw [this, List.map_id]
theorem red_inv' (w : List Int) : red (iv w ++ w) = [] := by
  have := red_inv (iv w)
  rw [iv_iv] at this
  exact this
theorem red_pair (a b : List Int) (x : Int) : red (a ++ x :: -x :: b) = red (a ++ b) := by
  unfold red
  rw [fl_app, fl_app]
  show (fl (psh (psh (fl [] a) x) (-x)) b).reverse = _
  rw [psh_inv (fl_gd gd_nil)]
theorem psh_mem {P : Int → Prop} {s : List Int} {x : Int} (h : ∀ y ∈ s, P y) (hx : P x) : ∀ y ∈ psh s x, P y := by
  cases s with
  | nil =>
    intro y hy
    have : y = x := by simpa [psh] using hy
    exact this ▸ hx
  | cons z t =>
    by_cases hz : z = -x
    · rw [show psh (z :: t) x = t from if_pos hz]
      exact fun y hy => h y (List.mem_cons_of_mem _ hy)
    · rw [show psh (z :: t) x = x :: z :: t from if_neg hz]
      intro y hy
      rcases List.mem_cons.mp hy with rfl | hy
      · exact hx
      · exact h y hy
theorem fl_mem {P : Int → Prop} : ∀ {w s : List Int}, (∀ y ∈ s, P y) → (∀ y ∈ w, P y) → ∀ y ∈ fl s w, P y
  | [], _, h, _ => h
  | x :: w, _, h, h2 => fl_mem (w := w) (psh_mem h (h2 x List.mem_cons_self)) fun y hy => h2 y (List.mem_cons_of_mem _ hy)
theorem red_mem {P : Int → Prop} {w : List Int} (h : ∀ y ∈ w, P y) : ∀ y ∈ red w, P y := fun y hy =>
  fl_mem (s := []) (fun _ z => nomatch z) h y (List.mem_reverse.mp hy)
theorem psh_len (s : List Int) (x : Int) : (psh s x).length ≤ s.length + 1 := by
  cases s with
  | nil => exact Nat.le_refl _
  | cons y t =>
    by_cases hy : y = -x
    · rw [show psh (y :: t) x = t from if_pos hy, List.length_cons]
      omega
    · rw [show psh (y :: t) x = x :: y :: t from if_neg hy, List.length_cons, List.length_cons]
      exact Nat.le_refl _
theorem fl_len : ∀ (w s : List Int), (fl s w).length ≤ s.length + w.length
  | [], s => Nat.le_refl _
  | x :: w, s => by
    have h1 := fl_len w (psh s x)
    have h2 := psh_len s x
    show (fl (psh s x) w).length ≤ _
    rw [List.length_cons]
    omega
theorem red_len (w : List Int) : (red w).length ≤ w.length := by
  have := fl_len w []
  unfold red
  rw [List.length_reverse]
  simpa using this
theorem iv_len (w : List Int) : (iv w).length = w.length := by
  unfold iv
  rw [List.length_map, List.length_reverse]

/-! ### slices -/
theorem cut_to {α : Type} (xs : List α) {i : Int} (h : 0 ≤ i) : cut xs none (some i) = xs.take i.toNat := by
  obtain ⟨n, rfl⟩ := Int.eq_ofNat_of_zero_le h
  unfold cut
  show (xs.drop 0).take (HT.sIx xs.length xs.length (some (n : Int)) - 0) = _
  rw [HT.sIx_nat, Nat.sub_zero, List.drop_zero, Int.toNat_natCast]
  by_cases hn : n ≤ xs.length
  · rw [Nat.min_eq_left hn]
  · rw [Nat.min_eq_right (by omega), List.take_length, List.take_of_length_le (by omega)]
theorem cut_from {α : Type} (xs : List α) {i : Int} (h : 0 ≤ i) : cut xs (some i) none = xs.drop i.toNat := by
  obtain ⟨n, rfl⟩ := Int.eq_ofNat_of_zero_le h
  unfold cut
  show (xs.drop (HT.sIx xs.length 0 (some (n : Int)))).take (xs.length - HT.sIx xs.length 0 (some (n : Int))) = _
  rw [HT.sIx_nat, Int.toNat_natCast]
  by_cases hn : n ≤ xs.length
  · rw [Nat.min_eq_left hn, List.take_of_length_le (by rw [List.length_drop]; omega)]
  · rw [Nat.min_eq_right (by omega), List.drop_length, List.take_nil, List.drop_of_length_le (by omega)]

/-! ### straightened, as the program writes it -/
def straightM (walk : List Int) : Option (List Int) :=
  ((lp (fun (s1 : (List Int)) (step2 : Int) => ((if (decide (0 < (s1.length : Int))) = true then ((idx s1 (-1)).bind fun t6 => some (decide (t6 = (-step2)))) else some false).bind fun t7 => ((if t7 = true then ((popO s1).bind fun t8 => some t8.2) else ((appO s1 step2).bind fun t9 => some t9) : Option (List Int)).bind fun s10 => some s10))) walk ([])).bind fun f3 => some f3)
theorem last_rev {α : Type} (y : α) (t : List α) : idx (y :: t).reverse (-1) = some y := by
  refine idx_last ?_
  rw [List.length_reverse, List.reverse_cons, List.length_cons, Nat.add_sub_cancel, List.getElem?_append_right (by rw [List.length_reverse]; exact Nat.le_refl _), List.length_reverse, Nat.sub_self]
  rfl
theorem pop_rev {α : Type} (y : α) (t : List α) : popO (y :: t).reverse = some (y, t.reverse) := by
  unfold popO
  rw [List.reverse_cons, List.getLast?_append]
  simp
theorem app_ok {α : Type} {s : List α} {x : α} (h : s.length < sizeLine) : appO s x = some (s ++ [x]) := if_pos h
theorem straight_lp : ∀ (w t : List Int), t.length + w.length ≤ sizeLine → lp (fun (s1 : (List Int)) (step2 : Int) => ((if (decide (0 < (s1.length : Int))) = true then ((idx s1 (-1)).bind fun t6 => some (decide (t6 = (-step2)))) else some false).bind fun t7 => ((if t7 = true then ((popO s1).bind fun t8 => some t8.2) else ((appO s1 step2).bind fun t9 => some t9) : Option (List Int)).bind fun s10 => some s10))) w t.reverse = some (fl t w).reverse
  | [], _, _ => rfl
  | x :: w, t, h => by
    rw [List.length_cons] at h
    have h2 := psh_len t x
    have ih := straight_lp w (psh t x) (by omega)
    unfold lp
    refine Eq.trans (congrArg (fun z => Option.bind z _) (?_ : _ = some (psh t x).reverse)) ih
    cases t with
    | nil =>
      have : appO ([] : List Int) x = some [x] := app_ok (by decide)
      simp [this, psh]
    | cons y t =>
      have hpos : decide (0 < ((y :: t).reverse.length : Int)) = true := by
        rw [List.length_reverse, List.length_cons]
        exact decide_eq_true (by omega)
      rw [hpos, if_pos rfl, last_rev]
      by_cases hy : y = -x
      · have e : psh (y :: t) x = t := if_pos hy
        simp only [Option.bind_some, hy, decide_true, if_true]
        rw [← hy, pop_rev, e]
        rfl
      · have e : psh (y :: t) x = x :: y :: t := if_neg hy
        simp only [Option.bind_some, hy, decide_false, Bool.false_eq_true, if_false]
        rw [app_ok (by rw [List.length_reverse]; omega), e]
        simp
theorem straight_ok {w : List Int} (h : w.length ≤ sizeLine) : straightM w = some (red w) := by
  unfold straightM
  rw [show ([] : List Int) = ([] : List Int).reverse from rfl, straight_lp w [] (by simpa using h)]
  rfl
theorem lcT_some {α β : Type} (f : α → β) {xs : List α} (h : xs.length < sizeLine) : lcT f xs = some (xs.map f) := if_pos h
theorem mapO_some {α β : Type} {f : α → Option β} {g : α → β} : ∀ {xs : List α}, (∀ x ∈ xs, f x = some (g x)) → mapO f xs = some (xs.map g)
  | [], _ => rfl
  | x :: xs, h => by
    unfold mapO
    rw [h x List.mem_cons_self, mapO_some (xs := xs) fun y hy => h y (List.mem_cons_of_mem _ hy)]
    rfl
theorem lcO_some {α β : Type} {f : α → Option β} (g : α → β) {xs : List α} (hl : xs.length < sizeLine) (h : ∀ x ∈ xs, f x = some (g x)) : lcO f xs = some (xs.map g) := by
  unfold lcO
  rw [if_pos hl, mapO_some h]
theorem cat_ok {α : Type} {xs ys : List α} (h : xs.length + ys.length ≤ sizeLine) : catO xs ys = some (xs ++ ys) := if_pos h

/-! ### put behind one another, as the laws write it -/
def kk : List Int → List Int → Nat
  | x :: u, y :: v => if x = -y then kk u v + 1 else 0
  | _, _ => 0
theorem kk_nil (u : List Int) : kk u [] = 0 := by cases u <;> rfl
theorem kk_le : ∀ u v : List Int, kk u v ≤ u.length ∧ kk u v ≤ v.length
  | [], _ => ⟨Nat.zero_le _, Nat.zero_le _⟩
  | _ :: _, [] => ⟨Nat.zero_le _, Nat.zero_le _⟩
  | x :: u, y :: v => by
    have := kk_le u v
    unfold kk
    rw [List.length_cons, List.length_cons]
    split <;> omega
def jn (u v : List Int) : List Int := u.take (u.length - kk u.reverse v) ++ v.drop (kk u.reverse v)
theorem fl_kk : ∀ {v u : List Int}, Gd u → Gd v.reverse → fl u v = ((u.drop (kk u v)).reverse ++ v.drop (kk u v)).reverse
  | [], u, _, _ => by
    rw [kk_nil]
    simp [fl]
  | y :: v, [], _, hv => by
    show fl [] (y :: v) = _
    rw [fl_of_gd (s := []) (by rw [List.append_nil]; exact hv), List.append_nil]
    simp [kk]
  | y :: v, x :: u, hu, hv => by
    by_cases hx : x = -y
    · have e : kk (x :: u) (y :: v) = kk u v + 1 := if_pos hx
      have e2 : psh (x :: u) y = u := if_pos hx
      rw [List.reverse_cons] at hv
      rw [e]
      show fl (psh (x :: u) y) v = _
      rw [e2, fl_kk (v := v) (gd_tail hu) (gd_pre hv)]
      rfl
    · have e : kk (x :: u) (y :: v) = 0 := if_neg hx
      rw [e, fl_of_gd]
      · simp
      · rw [List.reverse_cons] at hv ⊢
        rw [List.append_assoc]
        exact gd_join hx hu hv
theorem jn_red {u v : List Int} (hu : Gd u) (hv : Gd v) : jn u v = red (u ++ v) := by
  unfold red jn
  rw [fl_app, fl_of_gd (s := []) (w := u) (by rw [List.append_nil]; exact gd_rev hu), List.append_nil, fl_kk (gd_rev hu) (gd_rev hv), List.reverse_reverse, List.drop_reverse, List.reverse_reverse]
def joinM (one other : List Int) : Option (List Int) :=
  ((wh (fun (s1 : Int) => ((if (decide (s1 < (one.length : Int))) = true then ((if (decide (s1 < (other.length : Int))) = true then ((idx one (((one.length : Int) - 1) - s1)).bind fun t3 => (idx other s1).bind fun t4 => some (decide (t3 = (-t4)))) else some false).bind fun t5 => some t5) else some false).bind fun t6 => some t6)) (fun (s1 : Int) => (some (Step.go (s1 + 1)) : Option (Step (List Int) Int))) 1000 0).bind fun f2o => Sum.elim (fun r10 => some r10) (fun f2 => ((catO (α := Int) (cut one none (some ((one.length : Int) - f2))) (cut other (some f2) none)).bind fun t9 => some t9)) f2o)
theorem join_test (one other : List Int) (s : Nat) : ((if (decide ((s : Int) < (one.length : Int))) = true then ((if (decide ((s : Int) < (other.length : Int))) = true then ((idx one (((one.length : Int) - 1) - (s : Int))).bind fun t3 => (idx other (s : Int)).bind fun t4 => some (decide (t3 = (-t4)))) else some false).bind fun t5 => some t5) else some false).bind fun t6 => some t6) = some (decide (0 < kk (one.reverse.drop s) (other.drop s))) := by
  by_cases h1 : s < one.length
  · rw [if_pos (decide_eq_true (by omega))]
    have h1r : s < one.reverse.length := by rw [List.length_reverse]; exact h1
    by_cases h2 : s < other.length
    · rw [if_pos (decide_eq_true (by omega))]
      have e1 : idx one (((one.length : Int) - 1) - (s : Int)) = some one.reverse[s] := by
        refine idx_of (by omega) ?_
        rw [show (((one.length : Int) - 1) - (s : Int)).toNat = one.length - 1 - s by omega, ← List.getElem?_reverse h1]
        exact List.getElem?_eq_getElem h1r
      have e2 : idx other (s : Int) = some other[s] := idx_of (by omega) (by rw [Int.toNat_natCast]; exact List.getElem?_eq_getElem h2)
      rw [e1, e2, List.drop_eq_getElem_cons h1r, List.drop_eq_getElem_cons h2]
      simp only [Option.bind_some]
      refine congrArg some ?_
      by_cases hx : one.reverse[s] = -other[s]
      · have e : kk (one.reverse[s] :: one.reverse.drop (s + 1)) (other[s] :: other.drop (s + 1)) = kk (one.reverse.drop (s + 1)) (other.drop (s + 1)) + 1 := if_pos hx
        rw [e, decide_eq_true hx, decide_eq_true (by omega)]
      · have e : kk (one.reverse[s] :: one.reverse.drop (s + 1)) (other[s] :: other.drop (s + 1)) = 0 := if_neg hx
        rw [e, decide_eq_false hx]
        rfl
    · rw [if_neg (by simpa using h2), List.drop_of_length_le (l := other) (by omega), kk_nil]
      rfl
  · rw [if_neg (by simpa using h1), List.drop_of_length_le (l := one.reverse) (by rw [List.length_reverse]; omega)]
    rfl
theorem join_wh (one other : List Int) : ∀ (n s : Nat), kk (one.reverse.drop s) (other.drop s) < n → wh (fun (s1 : Int) => ((if (decide (s1 < (one.length : Int))) = true then ((if (decide (s1 < (other.length : Int))) = true then ((idx one (((one.length : Int) - 1) - s1)).bind fun t3 => (idx other s1).bind fun t4 => some (decide (t3 = (-t4)))) else some false).bind fun t5 => some t5) else some false).bind fun t6 => some t6)) (fun (s1 : Int) => (some (Step.go (s1 + 1)) : Option (Step (List Int) Int))) n (s : Int) = some (.inr ((s + kk (one.reverse.drop s) (other.drop s) : Nat) : Int))
  | 0, _, h => absurd h (Nat.not_lt_zero _)
  | n + 1, s, h => by
    unfold wh
    rw [join_test]
    by_cases h0 : 0 < kk (one.reverse.drop s) (other.drop s)
    · simp only [Option.bind_some, decide_eq_true h0, if_true, Step.aft]
      have h1 : s < one.reverse.length := by
        have := (kk_le (one.reverse.drop s) (other.drop s)).1
        rw [List.length_drop] at this
        omega
      have h2 : s < other.length := by
        have := (kk_le (one.reverse.drop s) (other.drop s)).2
        rw [List.length_drop] at this
        omega
      have e : kk (one.reverse.drop s) (other.drop s) = kk (one.reverse.drop (s + 1)) (other.drop (s + 1)) + 1 := by
        rw [List.drop_eq_getElem_cons h1, List.drop_eq_getElem_cons h2] at h0 ⊢
        by_cases hx : one.reverse[s] = -other[s]
        · exact if_pos hx
        · have e0 : kk (one.reverse[s] :: one.reverse.drop (s + 1)) (other[s] :: other.drop (s + 1)) = 0 := if_neg hx
          rw [e0] at h0
          omega
      rw [e] at h ⊢
      have := join_wh one other n (s + 1) (by omega)
      rw [show ((s + 1 : Nat) : Int) = (s : Int) + 1 by omega] at this
      rw [this]
      refine congrArg (fun z : Nat => some (Sum.inr (z : Int))) ?_
      omega
    · have e : kk (one.reverse.drop s) (other.drop s) = 0 := by omega
      rw [e]
      rfl
theorem join_ok {one other : List Int} (h : other.length < 1000) (h2 : one.length + other.length ≤ sizeLine) : joinM one other = some (jn one other) := by
  unfold joinM
  have hk := kk_le one.reverse other
  have := join_wh one other 1000 0 (by simp only [List.drop_zero]; omega)
  rw [show ((0 : Nat) : Int) = 0 from rfl] at this
  rw [this]
  simp only [Option.bind_some, Sum.elim_inr, List.drop_zero, Nat.zero_add]
  rw [List.length_reverse] at hk
  rw [cut_to _ (by omega), cut_from _ (by omega), cat_ok]
  · unfold jn
    rw [Int.toNat_natCast, show (((one.length : Int) - (kk one.reverse other : Int))).toNat = one.length - kk one.reverse other by omega]
    rfl
  · rw [List.length_take, List.length_drop]
    omega
end Z
/-! Y, part C: the wells of the laws about walks, and the walks drawn of them. -/
namespace Z
open PySem PySem.Spec L2

def wellM (script : (List Int)) (k_ : Int) : Option (List Int) :=
  ((if (decide (k_ < (script.length : Int))) = true then ((idx script k_).bind fun t1 => some t1) else some ((11 * k_) + 6) : Option Int).bind fun s2 => ((lcT (fun (one3 : Int) => (one3 % 1000000000000000000000000103)) script).bind fun t5 => ((some ((((((absI s2) * 8929) + (61 * t5.sum)) + (2 * k_)) + (if (decide (s2 < 0)) = true then 1 else 0)) % 10000000000000000000000000000033)).bind fun seed6 => some [(maxI 0 (s2 - 1000000000000000000)), seed6, 0])))
def takeM (w_well_here : (List Int)) (many : Int) : Option (Int × (List Int)) :=
  ((idx w_well_here 0).bind fun t1 => (if (decide (0 < t1)) = true then ((idx w_well_here 0).bind fun t2 => (modO t2 many).bind fun t3 => ((idx w_well_here 0).bind fun t4 => (fdivO t4 many).bind fun t5 => (setO w_well_here 0 t5).bind fun t6 => some (t3, t6))) else ((idx w_well_here 2).bind fun t7 => (setO w_well_here 2 (t7 + 1)).bind fun t8 => ((idx t8 1).bind fun t9 => (idx t8 2).bind fun t10 => (powO (t9 + (314159 * t10)) 3).bind fun t11 => (idx t8 2).bind fun t12 => (some ((t11 + (2718281 * t12)) % 1000000000000000000000000000000073)).bind fun mixed13 => ((mulO mixed13 (mixed13 + 40503)).bind fun t15 => (modO ((t15 % 10000000000000000000000000000000193) / 10007) many).bind fun t16 => some (t16, t8))))))
def walkM (w_well_here : (List Int)) (letters : Int) (most : Int) : Option ((List Int) × (List Int)) :=
  ((takeM w_well_here 4).bind fun t1 => (takeM t1.2 (most + 1)).bind fun t2 => (takeM t2.2 6).bind fun t3 => (idx ([t2.1, most]) (if (decide (t3.1 = 0)) = true then 1 else 0)).bind fun t4 => ((rngO 0 t4).bind fun t5 => (lcE (β := Int) (fun (s7 : (List Int)) (turn6 : Int) => ((takeM s7 letters).bind fun t8 => (takeM t8.2 2).bind fun t9 => (mulO (1 + t8.1) (1 - (2 * t9.1))).bind fun t10 => some (some t10, t9.2))) t5 t3.2).bind fun t11 => ((if (decide (t1.1 = 1)) = true then ((takeM t11.2 4).bind fun t12 => (repO (cut t11.1 none (some (1 + t12.1))) t4).bind fun t13 => some ((cut t13 none (some t4)), t12.2)) else some (t11.1, t11.2) : Option ((List Int) × (List Int))).bind fun s14 => ((if (decide (t1.1 = 2)) = true then ((lcT (fun (step15 : Int) => (-step15)) ((cut s14.1 none (some (t4 / 3))).reverse)).bind fun t17 => (catO (α := Int) (cut s14.1 none (some (t4 - (t4 / 3)))) t17).bind fun t18 => some t18) else some s14.1 : Option (List Int)).bind fun s19 => ((if (decide (t1.1 = 3)) = true then ((lcT (fun (step20 : Int) => (absI step20)) s19).bind fun t22 => some t22) else some s19 : Option (List Int)).bind fun s23 => some (s23, s14.2))))))
/-- three cells, of which so many draws were made at most -/
def WeOk (n : Nat) (w : List Int) : Prop := ∃ a b c : Int, w = [a, b, c] ∧ 0 ≤ a ∧ 0 ≤ b ∧ b < 2 ^ 104 ∧ 0 ≤ c ∧ c ≤ n
theorem WeOk.mono {n m : Nat} {w : List Int} (h : WeOk n w) (hm : n ≤ m) : WeOk m w := by
  obtain ⟨a, b, c, e, h1, h2, h3, h4, h5⟩ := h
  exact ⟨a, b, c, e, h1, h2, h3, h4, by omega⟩
theorem well_ok {ns : List Int} {k : Int} (hl : ns.length < sizeLine) (h0 : 0 ≤ k) : ∃ w, wellM ns k = some w ∧ WeOk 0 w := by
  unfold wellM
  have h1 : ∃ s, (if (decide (k < (ns.length : Int))) = true then ((idx ns k).bind fun t1 => some t1) else some ((11 * k) + 6) : Option Int) = some s := by
    by_cases hk : k < (ns.length : Int)
    · rw [if_pos (decide_eq_true hk)]
      have hk2 : k.toNat < ns.length := by omega
      exact ⟨ns[k.toNat], by rw [idx_of h0 (List.getElem?_eq_getElem hk2)]; rfl⟩
    · rw [if_neg (by simpa using hk)]
      exact ⟨_, rfl⟩
  obtain ⟨s, e⟩ := h1
  rw [e]
  simp only [Option.bind_some, lcT_some _ hl]
  refine ⟨_, rfl, _, _, _, rfl, ?_, Int.emod_nonneg _ (by decide), ?_, Int.le_refl 0, Int.le_refl 0⟩
  · unfold maxI
    split <;> omega
  · exact Int.lt_trans (Int.emod_lt_of_pos _ (by decide)) (by decide)
theorem pow_three {i : Int} (h0 : 0 ≤ i) (h : i < 2 ^ 200) : powO i 3 = some (i ^ 3) := by
  unfold powO
  rw [if_pos]
  · rfl
  refine ⟨by decide, ?_⟩
  have hb : Builtin.Int.intBits i ≤ 200 := by
    unfold Builtin.Int.intBits
    split
    · omega
    · have := log2_int h0 h (by decide)
      omega
  omega
theorem take_big {n : Nat} (hn : n < 2 ^ 60) {w : List Int} (h : WeOk n w) {many : Int} (h0 : 0 < many) (hbl : many.natAbs.log2 < 9000) : ∃ v w', takeM w many = some (v, w') ∧ 0 ≤ v ∧ v < many ∧ WeOk (n + 1) w' := by
  obtain ⟨a, b, c, rfl, ha, hb0, hb1, hc0, hc1⟩ := h
  unfold takeM
  have i0 : idx [a, b, c] 0 = some a := rfl
  have i2 : idx [a, b, c] 2 = some c := rfl
  have j1 : idx [a, b, c + 1] 1 = some b := rfl
  have j2 : idx [a, b, c + 1] 2 = some (c + 1) := rfl
  have m0 : setO [a, b, c] 2 (c + 1) = some [a, b, c + 1] := rfl
  have m1 : modO a many = some (a % many) := if_pos h0
  have m2 : fdivO a many = some (a / many) := if_pos ⟨h0, hbl⟩
  have m3 : setO [a, b, c] 0 (a / many) = some [a / many, b, c] := rfl
  have m4 : powO (b + (314159 * (c + 1))) 3 = some ((b + (314159 * (c + 1))) ^ 3) := pow_three (by omega) (by omega)
  simp only [i0, i2, j1, j2, m0, m1, m2, m3, m4, Option.bind_some]
  by_cases hp : 0 < a
  · rw [if_pos (decide_eq_true hp)]
    exact ⟨a % many, [a / many, b, c], rfl, Int.emod_nonneg _ (by omega), Int.emod_lt_of_pos _ h0, _, _, _, rfl, Int.ediv_nonneg ha (by omega), hb0, hb1, hc0, by omega⟩
  · rw [if_neg (by simpa using hp)]
    generalize (b + (314159 * (c + 1))) ^ 3 = t11
    have q0 : 0 ≤ (t11 + (2718281 * (c + 1))) % 1000000000000000000000000000000073 := Int.emod_nonneg _ (by decide)
    have q1 : (t11 + (2718281 * (c + 1))) % 1000000000000000000000000000000073 < 1000000000000000000000000000000073 := Int.emod_lt_of_pos _ (by decide)
    generalize (t11 + (2718281 * (c + 1))) % 1000000000000000000000000000000073 = x at q0 q1
    have m5 : mulO x (x + 40503) = some (x * (x + 40503)) := by
      refine if_pos ?_
      have e1 : x.natAbs.log2 < 110 := log2_int q0 (by omega) (by decide)
      have e2 : (x + 40503).natAbs.log2 < 111 := log2_int (by omega) (by omega) (by decide)
      omega
    have m6 : modO (((x * (x + 40503)) % 10000000000000000000000000000000193) / 10007) many = some (((x * (x + 40503)) % 10000000000000000000000000000000193) / 10007 % many) := if_pos h0
    simp only [m5, m6, Option.bind_some]
    exact ⟨_, _, rfl, Int.emod_nonneg _ (by omega), Int.emod_lt_of_pos _ h0, _, _, _, rfl, ha, hb0, hb1, by omega, by omega⟩

theorem take_ok {n : Nat} (hn : n < 2 ^ 60) {w : List Int} (h : WeOk n w) {many : Int} (h0 : 0 < many) (hb : many < 2 ^ 64) : ∃ v w', takeM w many = some (v, w') ∧ 0 ≤ v ∧ v < many ∧ WeOk (n + 1) w' :=
  take_big hn h h0 (Nat.lt_trans (log2_int (by omega) hb (by decide)) (by decide))

/-! ### rules for what is walked -/
theorem lcS_goN {α β S : Type} {f : S → α → Option (Option β × S)} (Qy : β → Prop) : ∀ {xs : List α} (P : Nat → S → Prop), (∀ (i : Nat) (x : α) (s : S), xs[i]? = some x → P i s → ∃ y s', f s x = some (some y, s') ∧ Qy y ∧ P (i + 1) s') → ∀ {s0 : S}, P 0 s0 →
    ∃ ys s', lcS f xs s0 = some (ys, s') ∧ ys.length = xs.length ∧ (∀ y ∈ ys, Qy y) ∧ P xs.length s'
  | [], P, _, s0, h0 => ⟨[], s0, rfl, rfl, (fun _ z => nomatch z), h0⟩
  | x :: xs, P, h, s0, h0 => by
    obtain ⟨y, s1, e, hy, h1⟩ := h 0 x s0 rfl h0
    obtain ⟨ys, s2, e2, hl, hq, h2⟩ := lcS_goN Qy (xs := xs) (fun i => P (i + 1)) (fun i z s hz hs => h (i + 1) z s (by simpa using hz) hs) h1
    refine ⟨y :: ys, s2, ?_, by rw [List.length_cons, List.length_cons, hl], fun z hz => ?_, h2⟩
    · unfold lcS
      rw [e]
      show ((lcS f xs s1).bind _) = _
      rw [e2]
      rfl
    · rcases List.mem_cons.mp hz with rfl | hz
      · exact hy
      · exact hq z hz
theorem lcE_goN {α β S : Type} {f : S → α → Option (Option β × S)} (Qy : β → Prop) {xs : List α} (P : Nat → S → Prop) (hl : xs.length < sizeLine) (h : ∀ (i : Nat) (x : α) (s : S), xs[i]? = some x → P i s → ∃ y s', f s x = some (some y, s') ∧ Qy y ∧ P (i + 1) s') {s0 : S} (h0 : P 0 s0) :
    ∃ ys s', lcE f xs s0 = some (ys, s') ∧ ys.length = xs.length ∧ (∀ y ∈ ys, Qy y) ∧ P xs.length s' := by
  unfold lcE
  rw [if_pos hl]
  exact lcS_goN Qy P h h0
theorem lpR_mix {α R S : Type} {f : S → α → Option (Step R S)} (Rr : R → Prop) : ∀ {xs : List α} (P : Nat → S → Prop), (∀ (i : Nat) (x : α) (s : S), xs[i]? = some x → P i s → (∃ s', f s x = some (.go s') ∧ P (i + 1) s') ∨ ∃ r, f s x = some (.ret r) ∧ Rr r) → ∀ {s0 : S}, P 0 s0 →
    (∃ s', lpR f xs s0 = some (.inr s') ∧ P xs.length s') ∨ ∃ r, lpR f xs s0 = some (.inl r) ∧ Rr r
  | [], P, _, s0, h0 => .inl ⟨s0, rfl, h0⟩
  | x :: xs, P, h, s0, h0 => by
    rcases h 0 x s0 rfl h0 with ⟨s1, e, h1⟩ | ⟨r, e, hr⟩
    · rcases lpR_mix Rr (xs := xs) (fun i => P (i + 1)) (fun i y s hy hs => h (i + 1) y s (by simpa using hy) hs) h1 with ⟨s2, e2, h2⟩ | ⟨r, e2, hr⟩
      · exact .inl ⟨s2, by unfold lpR; rw [e]; exact e2, h2⟩
      · exact .inr ⟨r, by unfold lpR; rw [e]; exact e2, hr⟩
    · exact .inr ⟨r, by unfold lpR; rw [e]; rfl, hr⟩
theorem rng_len (a b : Int) : (range' a b).length = (b - a).toNat := by
  unfold range'
  rw [List.length_map, List.length_range]

/-! ### drawn walks -/
def Sok (L x : Int) : Prop := x ≠ 0 ∧ -L ≤ x ∧ x ≤ L
theorem Sok.mono {L M x : Int} (h : Sok L x) (hm : L ≤ M) : Sok M x := ⟨h.1, by have := h.2.1; omega, by have := h.2.2; omega⟩
theorem Sok.neg {L x : Int} (h : Sok L x) : Sok L (-x) := ⟨by have := h.1; omega, by have := h.2.2; omega, by have := h.2.1; omega⟩
theorem Sok.abs {L x : Int} (h : Sok L x) : Sok L (absI x) := by
  obtain ⟨h1, h2, h3⟩ := h
  unfold absI
  split <;> exact ⟨by omega, by omega, by omega⟩
theorem flat_len {α : Type} (xs : List α) : ∀ m : Nat, (List.replicate m xs).flatten.length = m * xs.length
  | 0 => by simp
  | m + 1 => by
    rw [List.replicate_succ, List.flatten_cons, List.length_append, flat_len xs m, Nat.add_mul]
    omega
theorem flat_mem {α : Type} {xs : List α} {x : α} {m : Nat} (h : x ∈ (List.replicate m xs).flatten) : x ∈ xs := by
  obtain ⟨l, hl, hx⟩ := List.mem_flatten.mp h
  exact (List.mem_replicate.mp hl).2 ▸ hx
theorem walk_ok {n : Nat} {L most : Int} (hn : n + 3000 < 2 ^ 60) {w : List Int} (h : WeOk n w) (h1 : 1 ≤ L) (h4 : L ≤ 4) (hm0 : 0 ≤ most) (hm1 : most ≤ 1000) :
    ∃ ws w', walkM w L most = some (ws, w') ∧ (∀ x ∈ ws, Sok L x) ∧ (ws.length : Int) ≤ most ∧ WeOk (n + 2100) w' := by
  unfold walkM
  obtain ⟨v1, w1, e1, a1, b1, k1⟩ := take_ok (by omega) h (many := 4) (by decide) (by decide)
  obtain ⟨v2, w2, e2, a2, b2, k2⟩ := take_ok (by omega) k1 (many := most + 1) (by omega) (by omega)
  obtain ⟨v3, w3, e3, a3, b3, k3⟩ := take_ok (by omega) k2 (many := 6) (by decide) (by decide)
  simp only [e1, e2, e3, Option.bind_some]
  obtain ⟨sz, es, s0, s1⟩ : ∃ sz, idx [v2, most] (if (decide (v3 = 0)) = true then 1 else 0) = some sz ∧ 0 ≤ sz ∧ sz ≤ most := by
    by_cases hv : v3 = 0
    · rw [if_pos (decide_eq_true hv)]
      exact ⟨most, rfl, hm0, Int.le_refl _⟩
    · rw [if_neg (by simpa using hv)]
      exact ⟨v2, rfl, a2, by omega⟩
  simp only [es, Option.bind_some, rngO_ok (show -(2 ^ 62) ≤ (0 : Int) ∧ (0 : Int) < 2 ^ 62 ∧ -(2 ^ 62) ≤ sz ∧ sz < 2 ^ 62 by omega)]
  have hlr : (range' 0 sz).length = sz.toNat := by rw [rng_len, Int.sub_zero]
  obtain ⟨ys, w4, e4, l4, q4, k4⟩ := lcE_goN (f := (fun (s7 : (List Int)) (turn6 : Int) => ((takeM s7 L).bind fun t8 => (takeM t8.2 2).bind fun t9 => (mulO (1 + t8.1) (1 - (2 * t9.1))).bind fun t10 => some (some t10, t9.2)))) (Sok L) (xs := range' 0 sz) (fun i s => WeOk (n + 3 + 2 * i) s) (by rw [hlr]; exact Nat.lt_of_le_of_lt (m := 1000) (by omega) (by decide)) (fun i x s hx hs => by
    have hi : i < sz.toNat := by
      have := (List.getElem?_eq_some_iff.mp hx).1
      omega
    obtain ⟨u1, x1, f1, c1, d1, g1⟩ := take_ok (by omega) hs (many := L) (by omega) (by omega)
    obtain ⟨u2, x2, f2, c2, d2, g2⟩ := take_ok (by omega) g1 (many := 2) (by decide) (by decide)
    have hu : u2 = 0 ∨ u2 = 1 := by omega
    have hmul : mulO (1 + u1) (1 - 2 * u2) = some ((1 + u1) * (1 - 2 * u2)) := by
      refine if_pos ?_
      have z1 : (1 + u1).natAbs.log2 < 3 := log2_int (by omega) (by omega) (by decide)
      have z2 : (1 - 2 * u2).natAbs.log2 < 2 := by
        rcases hu with rfl | rfl <;> decide
      omega
    refine ⟨(1 + u1) * (1 - 2 * u2), x2, ?_, ?_, ?_⟩
    · simp only [f1, f2, hmul, Option.bind_some]
    · rcases hu with rfl | rfl
      · exact ⟨by omega, by omega, by omega⟩
      · exact ⟨by omega, by omega, by omega⟩
    · exact g2.mono (by omega)) (s0 := w3) (k3.mono (by omega))
  simp only [e4, Option.bind_some]
  rw [hlr] at l4 k4
  have hw4 : WeOk (n + 2050) w4 := k4.mono (by omega)
  obtain ⟨zs, w5, e5, q5, l5, k5⟩ : ∃ zs w5, (if (decide (v1 = 1)) = true then ((takeM w4 4).bind fun t12 => (repO (cut ys none (some (1 + t12.1))) sz).bind fun t13 => some ((cut t13 none (some sz)), t12.2)) else some (ys, w4) : Option ((List Int) × (List Int))) = some (zs, w5) ∧ (∀ x ∈ zs, Sok L x) ∧ (zs.length : Int) ≤ sz ∧ WeOk (n + 2051) w5 := by
    by_cases hv : v1 = 1
    · rw [if_pos (decide_eq_true hv)]
      obtain ⟨u1, x1, f1, c1, d1, g1⟩ := take_ok (by omega) hw4 (many := 4) (by decide) (by decide)
      have hrep : repO (cut ys none (some (1 + u1))) sz = some (List.replicate sz.toNat (ys.take (1 + u1).toNat)).flatten := by
        rw [cut_to _ (by omega)]
        refine if_pos ⟨by omega, by omega, ?_⟩
        have z1 : (ys.take (1 + u1).toNat).length ≤ 4 := by rw [List.length_take]; omega
        have z2 : (ys.take (1 + u1).toNat).length * sz.toNat ≤ 4 * 1000 := Nat.mul_le_mul z1 (by omega)
        exact Nat.le_trans z2 (by decide)
      simp only [f1, hrep, Option.bind_some]
      refine ⟨_, _, rfl, fun x hx => ?_, ?_, g1⟩
      · rw [cut_to _ s0] at hx
        exact q4 x (List.mem_of_mem_take (flat_mem (List.mem_of_mem_take hx)))
      · rw [cut_to _ s0, List.length_take]
        omega
    · rw [if_neg (by simpa using hv)]
      exact ⟨_, _, rfl, q4, by omega, hw4.mono (by omega)⟩
  simp only [e5, Option.bind_some]
  have hz1000 : zs.length < sizeLine := Nat.lt_of_le_of_lt (show zs.length ≤ 1000 by omega) (by decide)
  obtain ⟨us, e6, q6, l6⟩ : ∃ us, (if (decide (v1 = 2)) = true then ((lcT (fun (step15 : Int) => (-step15)) ((cut zs none (some (sz / 3))).reverse)).bind fun t17 => (catO (α := Int) (cut zs none (some (sz - (sz / 3)))) t17).bind fun t18 => some t18) else some zs : Option (List Int)) = some us ∧ (∀ x ∈ us, Sok L x) ∧ (us.length : Int) ≤ sz := by
    by_cases hv : v1 = 2
    · rw [if_pos (decide_eq_true hv), cut_to _ (show 0 ≤ sz / 3 by omega), cut_to _ (show 0 ≤ sz - sz / 3 by omega), lcT_some _ (by rw [List.length_reverse, List.length_take]; omega)]
      simp only [Option.bind_some]
      rw [cat_ok (by rw [List.length_map, List.length_reverse, List.length_take, List.length_take]; exact Nat.le_trans (m := 2000) (by omega) (by decide))]
      refine ⟨_, rfl, fun x hx => ?_, ?_⟩
      · rcases List.mem_append.mp hx with hx | hx
        · exact q5 x (List.mem_of_mem_take hx)
        · obtain ⟨y, hy, rfl⟩ := List.mem_map.mp hx
          exact (q5 y (List.mem_of_mem_take (List.mem_reverse.mp hy))).neg
      · rw [List.length_append, List.length_map, List.length_reverse, List.length_take, List.length_take]
        omega
    · rw [if_neg (by simpa using hv)]
      exact ⟨_, rfl, q5, l5⟩
  simp only [e6, Option.bind_some]
  have hu1000 : us.length < sizeLine := Nat.lt_of_le_of_lt (show us.length ≤ 1000 by omega) (by decide)
  by_cases hv : v1 = 3
  · rw [if_pos (decide_eq_true hv), lcT_some _ hu1000]
    refine ⟨_, _, rfl, fun x hx => ?_, ?_, k5.mono (by omega)⟩
    · obtain ⟨y, hy, rfl⟩ := List.mem_map.mp hx
      exact (q6 y hy).abs
    · rw [List.length_map]
      omega
  · rw [if_neg (by simpa using hv)]
    exact ⟨_, _, rfl, q6, by omega, k5.mono (by omega)⟩
end Z
namespace L05
open PySem PySem.Spec L2 Z
/-- steps_of -/
def m_p_steps_of (letters : Int) : Option (List Int) :=
  ((rngO 1 (letters + 1)).bind fun t1 => ((lp (fun (s2 : (List Int)) (letter3 : Int) => ((catO (α := Int) s2 ([letter3, (-letter3)])).bind fun t7 => some t7)) t1 ([] : (List Int))).bind fun f4 => some f4))
/-- straightened -/
def m_p_straightened (walk : (List Int)) : Option (List Int) :=
  ((lp (fun (s1 : (List Int)) (step2 : Int) => ((if (decide (0 < (s1.length : Int))) = true then ((idx s1 (-1)).bind fun t6 => some (decide (t6 = (-step2)))) else some false).bind fun t7 => ((if t7 = true then ((popO s1).bind fun t8 => some t8.2) else ((appO s1 step2).bind fun t9 => some t9) : Option (List Int)).bind fun s10 => some s10))) walk ([] : (List Int))).bind fun f3 => some f3)
/-- is_integer -/
def m_p_is_integer (value : Int) : Option Bool :=
  some (true && (!false))
/-- is_letters -/
def m_p_is_letters (value : Int) : Option Bool :=
  ((m_p_is_integer value).bind fun t1 => some (t1 && (decide (1 ≤ value) && decide (value ≤ 4))))
/-- is_step -/
def m_p_is_step (value : Int) (letters : Int) : Option Bool :=
  ((m_p_is_integer value).bind fun t1 => some (t1 && (decide (1 ≤ (absI value)) && decide ((absI value) ≤ letters))))
/-- is_a_walk -/
def m_p_is_a_walk (value : (List Int)) (letters : Int) : Option Bool :=
  ((if true = true then ((lcO (β := Bool) (fun (step1 : Int) => ((m_p_is_step step1 letters).bind fun t3 => some t3)) value).bind fun t4 => some (t4.all id)) else some false).bind fun t5 => some t5)
/-- need_letters -/
def m_p_need_letters (letters : Int) : Option Unit :=
  ((m_p_is_letters letters).bind fun t1 => (if (!t1) = true then none else some ()))
/-- need_walk -/
def m_p_need_walk (walk : (List Int)) (letters : Int) : Option Unit :=
  ((m_p_is_a_walk walk letters).bind fun t1 => (if (!t1) = true then none else some ()))
/-- need_number -/
def m_p_need_number (number : Int) (low : Int) (high : Unit) : Option Unit :=
  (if ((decide (number < low)) || false) = true then none else some ())
/-- walks_behind -/
def m_p_walks_behind (letters : Int) (length : Int) : Option Int :=
  ((rngO 0 length).bind fun t1 => ((lp (fun (s2 : Int) (turn3 : Int) => ((mulO s2 ((2 * letters) - 1)).bind fun t7 => some t7)) t1 1).bind fun f4 => some f4))
/-- walks_of -/
def m_p_walks_of (letters : Int) (length : Int) : Option Int :=
  (if (decide (length = 0)) = true then some 1 else ((m_p_walks_behind letters (length - 1)).bind fun t1 => (mulO (2 * letters) t1).bind fun t2 => some t2))
/-- steps_behind -/
def m_p_steps_behind (letters : Int) (walk : (List Int)) : Option (List Int) :=
  ((m_p_steps_of letters).bind fun t1 => (lcF (fun (step2 : Int) => (!decide ((cut walk (some (-1)) none) = [(-step2)]))) (fun (step2 : Int) => step2) t1).bind fun t4 => some t4)
/-- walk_at -/
def m_p_walk_at (letters : Int) (number : Int) : Option (List Int) :=
  ((wh (fun (s1 : (Int × Int × Int)) => some (decide (s1.2.2 ≤ s1.2.1))) (fun (s1 : (Int × Int × Int)) => (((m_p_walks_of letters (s1.1 + 1)).bind fun t5 => some (Step.go ((s1.1 + 1), (s1.2.1 - s1.2.2), t5))) : Option (Step (List Int) (Int × Int × Int)))) 1000 (0, number, 1)).bind fun f2o => Sum.elim (fun r20 => none) (fun f2 => ((rngO 0 f2.1).bind fun t6 => ((lp (fun (s7 : (Int × (List Int))) (turn8 : Int) => ((m_p_walks_behind letters ((f2.1 - turn8) - 1)).bind fun t12 => ((m_p_steps_behind letters s7.2).bind fun t13 => (fdivO s7.1 t12).bind fun t14 => (idx t13 t14).bind fun t15 => (catO (α := Int) s7.2 ([t15])).bind fun t16 => ((modO s7.1 t12).bind fun t17 => some (t17, t16))))) t6 (f2.2.1, ([] : (List Int)))).bind fun f9 => some f9.2))) f2o)
/-- number_in -/
def m_p_number_in (letters : Int) (walk : (List Int)) : Option Int :=
  ((rngO 0 (walk.length : Int)).bind fun t1 => (lcO (β := Int) (fun (length2 : Int) => ((m_p_walks_of letters length2).bind fun t4 => some t4)) t1).bind fun t5 => ((lp (fun (s6 : Int) (x7 : (Int × Int)) => ((m_p_steps_behind letters (cut walk none (some x7.1))).bind fun t11 => (ixOf t11 x7.2).bind fun t12 => ((m_p_walks_behind letters (((walk.length : Int) - x7.1) - 1)).bind fun t13 => (mulO ((t12 : Nat) : Int) t13).bind fun t14 => some (s6 + t14)))) (enum walk) t5.sum).bind fun f8 => some f8))
/-- how_many -/
def m_p_how_many (letters : Int) (length : Int) : Option Int :=
  ((m_p_need_letters letters).bind fun t1 => ((m_p_need_number length 0 ()).bind fun t2 => ((m_p_walks_of letters length).bind fun t3 => some t3)))
/-- nth_walk -/
def m_p_nth_walk (letters : Int) (number : Int) : Option (List Int) :=
  ((m_p_need_letters letters).bind fun t1 => ((m_p_need_number number 0 ()).bind fun t2 => ((m_p_walk_at letters number).bind fun t3 => some t3)))
/-- number_of -/
def m_p_number_of (letters : Int) (walk : (List Int)) : Option Int :=
  ((m_p_need_letters letters).bind fun t1 => ((m_p_need_walk walk letters).bind fun t2 => ((m_p_straightened walk).bind fun t3 => (m_p_number_in letters t3).bind fun t4 => some t4)))
/-- next_walk -/
def m_p_next_walk (letters : Int) (walk : (List Int)) : Option (List Int) :=
  ((m_p_need_letters letters).bind fun t1 => ((m_p_need_walk walk letters).bind fun t2 => ((m_p_straightened walk).bind fun t3 => (m_p_number_in letters t3).bind fun t4 => (m_p_walk_at letters (t4 + 1)).bind fun t5 => some t5)))
/-- _law_well -/
def m_l_well (script : (List Int)) (k_ : Int) : Option (List Int) :=
  ((if (decide (k_ < (script.length : Int))) = true then ((idx script k_).bind fun t1 => some t1) else some ((11 * k_) + 6) : Option Int).bind fun s2 => ((lcT (fun (one3 : Int) => (one3 % 1000000000000000000000000103)) script).bind fun t5 => ((some ((((((absI s2) * 8929) + (61 * t5.sum)) + (2 * k_)) + (if (decide (s2 < 0)) = true then 1 else 0)) % 10000000000000000000000000000033)).bind fun seed6 => some [(maxI 0 (s2 - 1000000000000000000)), seed6, 0])))
/-- _law_take -/
def m_l_take (w_well_here : (List Int)) (many_here : Int) : Option (Int × (List Int)) :=
  ((idx w_well_here 0).bind fun t1 => (if (decide (0 < t1)) = true then ((idx w_well_here 0).bind fun t2 => (modO t2 many_here).bind fun t3 => ((idx w_well_here 0).bind fun t4 => (fdivO t4 many_here).bind fun t5 => (setO w_well_here 0 t5).bind fun t6 => some (t3, t6))) else ((idx w_well_here 2).bind fun t7 => (setO w_well_here 2 (t7 + 1)).bind fun t8 => ((idx t8 1).bind fun t9 => (idx t8 2).bind fun t10 => (powO (t9 + (314159 * t10)) 3).bind fun t11 => (idx t8 2).bind fun t12 => (some ((t11 + (2718281 * t12)) % 1000000000000000000000000000000073)).bind fun mixed13 => ((mulO mixed13 (mixed13 + 40503)).bind fun t15 => (modO ((t15 % 10000000000000000000000000000000193) / 10007) many_here).bind fun t16 => some (t16, t8))))))
/-- _law_walk -/
def m_l_walk (w_well_here : (List Int)) (letters : Int) (most : Int) : Option ((List Int) × (List Int)) :=
  ((m_l_take w_well_here 4).bind fun t1 => (m_l_take t1.2 (most + 1)).bind fun t2 => (m_l_take t2.2 6).bind fun t3 => (idx ([t2.1, most]) (if (decide (t3.1 = 0)) = true then 1 else 0)).bind fun t4 => ((rngO 0 t4).bind fun t5 => (lcE (β := Int) (fun (s7 : (List Int)) (turn6 : Int) => ((m_l_take s7 letters).bind fun t8 => (m_l_take t8.2 2).bind fun t9 => (mulO (1 + t8.1) (1 - (2 * t9.1))).bind fun t10 => some (some t10, t9.2))) t5 t3.2).bind fun t11 => ((if (decide (t1.1 = 1)) = true then ((m_l_take t11.2 4).bind fun t12 => (repO (cut t11.1 none (some (1 + t12.1))) t4).bind fun t13 => some ((cut t13 none (some t4)), t12.2)) else some (t11.1, t11.2) : Option ((List Int) × (List Int))).bind fun s14 => ((if (decide (t1.1 = 2)) = true then ((lcT (fun (step15 : Int) => (-step15)) ((cut s14.1 none (some (t4 / 3))).reverse)).bind fun t17 => (catO (α := Int) (cut s14.1 none (some (t4 - (t4 / 3)))) t17).bind fun t18 => some t18) else some s14.1 : Option (List Int)).bind fun s19 => ((if (decide (t1.1 = 3)) = true then ((lcT (fun (step20 : Int) => (absI step20)) s19).bind fun t22 => some t22) else some s19 : Option (List Int)).bind fun s23 => some (s23, s14.2))))))
/-- _law_joined -/
def m_l_joined (one : (List Int)) (other : (List Int)) : Option (List Int) :=
  ((wh (fun (s1 : Int) => ((if (decide (s1 < (one.length : Int))) = true then ((if (decide (s1 < (other.length : Int))) = true then ((idx one (((one.length : Int) - 1) - s1)).bind fun t3 => (idx other s1).bind fun t4 => some (decide (t3 = (-t4)))) else some false).bind fun t5 => some t5) else some false).bind fun t6 => some t6)) (fun (s1 : Int) => (some (Step.go (s1 + 1)) : Option (Step (List Int) Int))) 1000 0).bind fun f2o => Sum.elim (fun r10 => none) (fun f2 => ((catO (α := Int) (cut one none (some ((one.length : Int) - f2))) (cut other (some f2) none)).bind fun t9 => some t9)) f2o)
/-- _law_straight -/
def m_l_straight (walk_here : (List Int)) : Option (List Int) :=
  ((lp (fun (s1 : (List Int)) (step2 : Int) => ((m_l_joined s1 ([step2])).bind fun t6 => some t6)) walk_here ([] : (List Int))).bind fun f3 => some f3)
/-- _law_is -/
def m_l_is (found : (List Int)) (due : (List Int)) : Option Bool :=
  (if ((!true) || (!decide (found = due))) = true then some false else ((lcT (fun (step1 : Int) => (true && (!false))) found).bind fun t3 => some (t3.all id)))
/-- _law_steps -/
def m_l_steps (letters : Int) : Option (List Int) :=
  ((rngO 1 (letters + 1)).bind fun t1 => ((lp (fun (s2 : (List Int)) (letter3 : Int) => ((catO (α := Int) s2 ([letter3, (-letter3)])).bind fun t7 => some t7)) t1 ([] : (List Int))).bind fun f4 => some f4))
/-- _law_times -/
def m_l_times (letters : Int) (length : Int) : Option Int :=
  ((rngO 0 length).bind fun t1 => ((lp (fun (s2 : Int) (turn3 : Int) => ((mulO s2 ((2 * letters) - 1)).bind fun t7 => some t7)) t1 1).bind fun f4 => some f4))
/-- _law_many -/
def m_l_many (letters : Int) (length : Int) : Option Int :=
  (if (decide (length = 0)) = true then some 1 else ((m_l_times letters (length - 1)).bind fun t1 => (mulO (2 * letters) t1).bind fun t2 => some t2))
/-- _law_ahead -/
def m_l_ahead (letters : Int) (walk_here : (List Int)) : Option Int :=
  ((rngO 0 (walk_here.length : Int)).bind fun t1 => (lcO (β := Int) (fun (length2 : Int) => ((m_l_many letters length2).bind fun t4 => some t4)) t1).bind fun t5 => ((rngO 0 (walk_here.length : Int)).bind fun t6 => ((lp (fun (s7 : Int) (at_8 : Int) => ((m_l_steps letters).bind fun t12 => ((lpR (fun (s13 : Int) (step14 : Int) => (((idx walk_here at_8).bind fun t18 => (if (decide (step14 = t18)) = true then some (Step.brk s13) else ((if (decide (at_8 = 0)) = true then some true else ((idx walk_here (at_8 - 1)).bind fun t19 => some (!decide (step14 = (-t19))))).bind fun t20 => ((if t20 = true then ((m_l_times letters (((walk_here.length : Int) - at_8) - 1)).bind fun t21 => some (s13 + t21)) else some s13 : Option Int).bind fun s22 => some (Step.go s22))))) : Option (Step Int Int))) t12 s7).bind fun f15o => Sum.elim (fun r24 => none) (fun f15 => some f15) f15o))) t6 t5.sum).bind fun f9 => some f9)))
/-- _law_least -/
def m_l_least (letters : Int) (walk_here : (List Int)) (length : Int) : Option (List Int) :=
  ((rngO 0 (length - (walk_here.length : Int))).bind fun t1 => ((lp (fun (s2 : (List Int)) (turn3 : Int) => ((m_l_steps letters).bind fun t7 => (lcF (fun (step8 : Int) => (!decide ((cut s2 (some (-1)) none) = [(-step8)]))) (fun (step8 : Int) => step8) t7).bind fun t10 => (idx t10 0).bind fun t11 => (catO (α := Int) s2 ([t11])).bind fun t12 => some t12)) t1 walk_here).bind fun f4 => some f4))
/-- _law_next -/
def m_l_next (letters : Int) (walk_here : (List Int)) : Option (List Int) :=
  ((rngDO ((walk_here.length : Int) - 1) (-1)).bind fun t1 => ((lpR (fun (s2 : Unit) (at_3 : Int) => (((m_l_steps letters).bind fun t7 => (lcG (β := Int) (fun (step8 : Int) => ((if (decide (at_3 = 0)) = true then some true else ((idx walk_here (at_3 - 1)).bind fun t10 => some (!decide (step8 = (-t10))))).bind fun t11 => if t11 = true then some (some step8) else some none)) t7).bind fun t12 => ((idx walk_here at_3).bind fun t13 => (ixOf t12 t13).bind fun t14 => (if (!decide ((cut t12 (some (((t14 : Nat) : Int) + 1)) none) = ([] : (List Int)))) = true then ((idx (cut t12 (some (((t14 : Nat) : Int) + 1)) none) 0).bind fun t15 => (catO (α := Int) (cut walk_here none (some at_3)) ([t15])).bind fun t16 => (m_l_least letters t16 (walk_here.length : Int)).bind fun t17 => some (Step.ret t17)) else some (Step.go ())))) : Option (Step (List Int) Unit))) t1 ()).bind fun f4o => Sum.elim (fun r20 => some r20) (fun f4 => ((m_l_least letters ([] : (List Int)) ((walk_here.length : Int) + 1)).bind fun t19 => some t19)) f4o))
/-- _law_all -/
def m_l_all (letters : Int) (length : Int) : Option (List (List Int)) :=
  ((rngO 0 length).bind fun t1 => ((lp (fun (s2 : ((List (List Int)) × (List (List Int)))) (turn3 : Int) => ((lp (fun (s7 : (List (List Int))) (walk_here8 : (List Int)) => ((m_l_steps letters).bind fun t12 => (lcG (β := (List Int)) (fun (step13 : Int) => if (!decide ((cut walk_here8 (some (-1)) none) = [(-step13)])) = true then ((catO (α := Int) walk_here8 ([step13])).bind fun t15 => some (some t15)) else some none) t12).bind fun t16 => (catO (α := (List Int)) s7 t16).bind fun t17 => some t17)) s2.2 ([] : (List (List Int)))).bind fun f9 => ((catO (α := (List Int)) s2.1 f9).bind fun t19 => some (t19, f9)))) t1 ([([] : (List Int))], [([] : (List Int))])).bind fun f4 => some f4.1))
/-- _law_number -/
def m_l_number (found : Int) (due : Int) : Option Bool :=
  some (true && ((!false) && (decide (found = due))))
/-- _law_short -/
def m_l_short (letters : Int) : Option Bool :=
  ((idx ([12, 4, 3, 3]) (letters - 1)).bind fun t1 => (m_l_all letters t1).bind fun t2 => ((rngO 0 (t2.length : Int)).bind fun t3 => ((lpR (fun (s4 : Unit) (at_5 : Int) => (((idx t2 at_5).bind fun t9 => ((m_p_nth_walk letters at_5).bind fun t10 => (m_l_is t10 t9).bind fun t11 => (if (!t11) = true then some true else ((m_p_number_of letters t9).bind fun t12 => (m_l_number t12 at_5).bind fun t13 => some (!t13))).bind fun t14 => (if t14 = true then some (Step.ret false) else ((if (decide ((at_5 + 1) < (t2.length : Int))) = true then ((m_p_next_walk letters t9).bind fun t15 => (idx t2 (at_5 + 1)).bind fun t16 => (m_l_is t15 t16).bind fun t17 => some (!t17)) else some false).bind fun t18 => (if t18 = true then some (Step.ret false) else some (Step.go ())))))) : Option (Step Bool Unit))) t3 ()).bind fun f6o => Sum.elim (fun r35 => some r35) (fun f6 => ((idx t2 (-1)).bind fun t20 => (rngO 0 ((t20.length : Int) + 1)).bind fun t21 => ((lpR (fun (s22 : Unit) (length23 : Int) => (((lcF (fun (walk_here27 : (List Int)) => (decide ((walk_here27.length : Int) = length23))) (fun (walk_here27 : (List Int)) => walk_here27) t2).bind fun t29 => ((m_p_how_many letters length23).bind fun t30 => (m_l_number t30 (t29.length : Int)).bind fun t31 => (if (!t31) = true then some (Step.ret false) else some (Step.go ())))) : Option (Step Bool Unit))) t21 ()).bind fun f24o => Sum.elim (fun r33 => some r33) (fun f24 => some true) f24o))) f6o)))
/-- _law_great -/
def m_l_great (letters : Int) (number_here : Int) : Option Bool :=
  ((m_p_nth_walk letters number_here).bind fun t1 => ((m_l_is t1 t1).bind fun t2 => (if (!t2) = true then some true else ((m_l_straight t1).bind fun t3 => some (!decide (t1 = t3)))).bind fun t4 => (if t4 = true then some false else ((lcG (β := Int) (fun (step5 : Int) => ((m_l_steps letters).bind fun t7 => if (!t7.contains step5) = true then some (some step5) else some none)) t1).bind fun t8 => (if (!decide (t8 = ([] : (List Int)))) = true then some true else ((m_l_ahead letters t1).bind fun t9 => some (!decide (t9 = number_here)))).bind fun t10 => (if t10 = true then some false else ((m_p_nth_walk letters number_here).bind fun t11 => (m_l_is t11 t1).bind fun t12 => (if (!t12) = true then some false else ((m_p_number_of letters t1).bind fun t13 => (m_l_number t13 number_here).bind fun t14 => (if (!t14) = true then some false else ((m_p_nth_walk letters (number_here + 1)).bind fun t15 => (m_l_next letters t1).bind fun t16 => (m_l_is t15 t16).bind fun t17 => some t17))))))))))
/-- _law_walked -/
def m_l_walked (letters : Int) (walk_here : (List Int)) (other : (List Int)) : Option Bool :=
  ((m_l_ahead letters other).bind fun t1 => ((m_p_number_of letters walk_here).bind fun t2 => (m_l_number t2 t1).bind fun t3 => (if (!t3) = true then some true else ((m_p_number_of letters walk_here).bind fun t4 => (m_l_number t4 t1).bind fun t5 => some (!t5))).bind fun t6 => (if t6 = true then some false else ((m_l_next letters other).bind fun t7 => ((m_p_next_walk letters walk_here).bind fun t8 => (m_l_is t8 t7).bind fun t9 => (if t9 = true then ((m_p_next_walk letters walk_here).bind fun t10 => (m_l_is t10 t7).bind fun t11 => some t11) else some false).bind fun t12 => some t12)))))
/-- _law_right -/
def m_l_right (w_well_here : (List Int)) : Option (Bool × (List Int)) :=
  ((m_l_take w_well_here 4).bind fun t1 => ((if (decide (1 < (1 + t1.1))) = true then ((m_l_take t1.2 4).bind fun t2 => (idx ([1000, 1000000000000000000, 10000000000000000000000000000000000000000, 999999999999999999999999999999999999999999999999999999999998]) t2.1).bind fun t3 => some (t3, t2.2)) else some (799, t1.2) : Option (Int × (List Int))).bind fun s4 => ((m_l_take s4.2 (s4.1 + 1)).bind fun t5 => (m_l_take t5.2 5).bind fun t6 => (idx ([t5.1, s4.1]) (if (decide (t6.1 = 0)) = true then 1 else 0)).bind fun t7 => ((m_l_short (1 + t1.1)).bind fun t8 => (if (!t8) = true then some true else ((m_l_great (1 + t1.1) t7).bind fun t9 => some (!t9))).bind fun t10 => (if t10 = true then some (false, t6.2) else ((m_l_walk t6.2 (1 + t1.1) 58).bind fun t11 => ((m_l_take t11.2 ((t11.1.length : Int) + 1)).bind fun t12 => (m_l_take t12.2 (1 + t1.1)).bind fun t13 => ((catO (α := Int) (cut t11.1 none (some t12.1)) ([(-(1 + t13.1)), (1 + t13.1)])).bind fun t14 => (catO (α := Int) t14 (cut t11.1 (some t12.1) none)).bind fun t15 => (m_l_straight t11.1).bind fun t16 => ((m_l_take t13.2 61).bind fun t17 => (repT ([(-(1 + t1.1))]) t17.1).bind fun t18 => ((m_l_walked (1 + t1.1) t11.1 t16).bind fun t19 => (if (!t19) = true then some true else ((m_l_walked (1 + t1.1) t15 t16).bind fun t20 => some (!t20))).bind fun t21 => (if t21 = true then some (false, t17.2) else ((m_l_walked (1 + t1.1) t18 t18).bind fun t22 => (if (!t22) = true then some true else ((m_l_ahead (1 + t1.1) t16).bind fun t23 => (m_p_nth_walk (1 + t1.1) t23).bind fun t24 => (m_l_is t24 t16).bind fun t25 => some (!t25))).bind fun t26 => (if t26 = true then some (false, t17.2) else ((m_l_take t17.2 101).bind fun t27 => ((m_l_many (1 + t1.1) t27.1).bind fun t28 => ((m_p_how_many (1 + t1.1) t27.1).bind fun t29 => (m_l_number t29 t28).bind fun t30 => (if t30 = true then ((m_p_how_many (1 + t1.1) t27.1).bind fun t31 => (m_l_number t31 t28).bind fun t32 => some t32) else some false).bind fun t33 => some (t33, t27.2)))))))))))))))))
/-- law -/
def m_l_law (script : (List Int)) : Option Bool :=
  ((rngO 0 (maxI 1 (minI 3 (script.length : Int)))).bind fun t1 => ((lpR (fun (s2 : Unit) (k_3 : Int) => (((m_l_well script k_3).bind fun t7 => (m_l_right t7).bind fun t8 => (if (!t8.1) = true then some (Step.ret false) else some (Step.go ()))) : Option (Step Bool Unit))) t1 ()).bind fun f4o => Sum.elim (fun r10 => some r10) (fun f4 => some true) f4o))
end L05
namespace L05
open PySem PySem.Spec PyProof.Rows L2 Z
def top (i : Nat) : Stmt := PySem.Challenge.pw_walkclubs_k05_walks_in_their_order.main.body.getD i (.Pass ⟨0, 0, 0, 0⟩)
/-! ### steps_of -/
abbrev s_p_steps_of : Stmt := top 6
def N_p_steps_of : List Str := ["letters", "found", "letter"]
def V_p_steps_of : List Str := ["letters", "found", "letter"]
def G_p_steps_of : List Str := ["range"]
theorem sc_p_steps_of : FnScope N_p_steps_of ["letters"] (defScope s_p_steps_of) := ⟨rfl, rfl, rfl, by decide +kernel, rfl, by decide +kernel, by decide +kernel⟩
abbrev sp_p_steps_of (K : PySem.W.Frag) : Sp := spZ (α := Int) (β := (List Int)) (fun a => [(dat (PyData.int a))]) (fun a => []) (fun a => m_p_steps_of a) (fun a b => (dat (PyData.list (List.map PyData.int b)))) (fun a b => [])
set_option maxHeartbeats 4000000 in
theorem body_p_steps_of {X : Cx} (hsc : X.env.scope = defScope s_p_steps_of) (B : Bd X N_p_steps_of V_p_steps_of G_p_steps_of 0) (T : Bt X V_p_steps_of) (g_range : X.mg "range" = none) (letters : Int) (b : (List Int)) (F0 : Hp) (os : Os) (D : Ends) (hm : m_p_steps_of letters = some b) (R : RetZ F0 (os) (dat (PyData.list (List.map PyData.int b))) D) :
    SX X [sl (dat (PyData.int letters)), un, un] (os) F0 (defBody s_p_steps_of) D := by
  unfold m_p_steps_of at hm
  refine sx_asgN (i := 1) (vi := 1) (n := ol (List.map PyData.int ([] : (List Int)))) B T rfl rfl (en_lst (ds := []) ax_nil) (fun q_found0 => ?_)
  obtain ⟨t1, h1, hm⟩ := bnd hm
  obtain ⟨f4, h8, hm⟩ := bnd hm
  refine sx_for (c := anyOs) (fun (s2 : (List Int)) (letter3 : Int) => ((catO (α := Int) s2 ([letter3, (-letter3)])).bind fun t7 => some t7)) (fun (s2 : (List Int)) (_ : Unit) => [sl (dat (PyData.int letters)), sl (own q_found0), un]) (fun (s2 : (List Int)) (_ : Unit) => (q_found0, ol (List.map PyData.int s2)) :: os) B T (fun letter3 => gx_name (i := 2) (vi := 2) (φ := (dat (PyData.int letter3))) B T rfl rfl) ([] : (List Int)) () f4 h8 (ix_rng2 (gi := 0) B rfl g_range h1 ex_int (ex_add (ex_v (i := 0) (j := 0) B rfl rfl rfl) ex_int)) ⟨.inl rfl, .inl rfl, .inl rfl, trivial⟩ (fun _ _ => trivial) (fun F6 e5 s2 _ letter3 z9 hx hm => ?_) (fun _ => ?_)
  · clear h8
    obtain ⟨t7, h7, hm⟩ := bnd hm
    refine sx_expr (ex_extend (enc := PyData.int) (j := 0) (xs0 := s2) (xs := s2) (ys := ([letter3, (-letter3)])) h7 (ex_v (i := 1) (j := 1) B rfl rfl rfl) rfl (en_lst (ds := [(PyData.int letter3), (PyData.int (-letter3))]) (hl := len_ok (n := 2) rfl) (ax_cons (ex_v (i := 2) (j := 2) B rfl rfl rfl) (ax_cons (ex_neg (ex_v (i := 2) (j := 2) B rfl rfl rfl)) ax_nil))) rfl) ?_
    obtain rfl := som hm
    exact sx_nil fun σ H a => ⟨(), (a.weak ⟨.inl rfl, .inl rfl, .inr rfl, trivial⟩)⟩
  · skip
    refine sx_frz (j := 0) (i := 1) rfl rfl ?_
    obtain rfl := som hm
    exact sx_ret (ex_v (i := 1) (j := 1) B rfl rfl rfl) (fun F H v e o c => R.rt F H v e o c)
theorem cal_p_steps_of {P : Program} {w : World} {K : PySem.W.Frag} {mg : Str → Option Value} {base : Heap} {f : Addr} {fd : FuncData} (Fn : Fun K "steps_of" "steps_of" s_p_steps_of f fd) (hmg : mg "steps_of" = some (.ref f)) (hb : Binds K fd ["letters"] []) (g_range : mg "range" = none) : Cal P w K mg base 1 "steps_of" s_p_steps_of ["letters"] (sp_p_steps_of K) :=
  cal_Z (V := V_p_steps_of) (Gs := G_p_steps_of) (nl := 2) Fn sc_p_steps_of (by decide +kernel) (by decide +kernel) hmg hb (fun _ => rfl) rfl fun _ _ _ _ _ _ _ a b F0 os D B T hm R => body_p_steps_of rfl B T g_range a b F0 os D hm R
/-! ### straightened -/
abbrev s_p_straightened : Stmt := top 7
def N_p_straightened : List Str := ["walk", "found", "step"]
def V_p_straightened : List Str := ["walk", "found", "step"]
def G_p_straightened : List Str := ["len", "tuple"]
theorem sc_p_straightened : FnScope N_p_straightened ["walk"] (defScope s_p_straightened) := ⟨rfl, rfl, rfl, by decide +kernel, rfl, by decide +kernel, by decide +kernel⟩
abbrev sp_p_straightened (K : PySem.W.Frag) : Sp := spZ (α := (List Int)) (β := (List Int)) (fun a => [(dat (PyData.tuple (List.map PyData.int a)))]) (fun a => []) (fun a => m_p_straightened a) (fun a b => (dat (PyData.tuple (List.map PyData.int b)))) (fun a b => [])
set_option maxHeartbeats 4000000 in
theorem body_p_straightened {X : Cx} (hsc : X.env.scope = defScope s_p_straightened) (B : Bd X N_p_straightened V_p_straightened G_p_straightened 0) (T : Bt X V_p_straightened) (g_len : X.mg "len" = none) (g_tuple : X.mg "tuple" = none) (walk : (List Int)) (b : (List Int)) (F0 : Hp) (os : Os) (D : Ends) (hm : m_p_straightened walk = some b) (R : RetZ F0 (os) (dat (PyData.tuple (List.map PyData.int b))) D) :
    SX X [sl (dat (PyData.tuple (List.map PyData.int walk))), un, un] (os) F0 (defBody s_p_straightened) D := by
  unfold m_p_straightened at hm
  refine sx_asgN (i := 1) (vi := 1) (n := ol (List.map PyData.int ([] : (List Int)))) B T rfl rfl (en_lst (ds := []) ax_nil) (fun q_found0 => ?_)
  obtain ⟨f3, h11, hm⟩ := bnd hm
  refine sx_for (c := anyOs) (fun (s1 : (List Int)) (step2 : Int) => ((if (decide (0 < (s1.length : Int))) = true then ((idx s1 (-1)).bind fun t6 => some (decide (t6 = (-step2)))) else some false).bind fun t7 => ((if t7 = true then ((popO s1).bind fun t8 => some t8.2) else ((appO s1 step2).bind fun t9 => some t9) : Option (List Int)).bind fun s10 => some s10))) (fun (s1 : (List Int)) (_ : Unit) => [sl (dat (PyData.tuple (List.map PyData.int walk))), sl (own q_found0), un]) (fun (s1 : (List Int)) (_ : Unit) => (q_found0, ol (List.map PyData.int s1)) :: os) B T (fun step2 => gx_name (i := 2) (vi := 2) (φ := (dat (PyData.int step2))) B T rfl rfl) ([] : (List Int)) () f3 h11 (ix_tup (enc := PyData.int) (ex_v (i := 0) (j := 0) B rfl rfl rfl) rdt_dat) ⟨.inl rfl, .inl rfl, .inl rfl, trivial⟩ (fun _ _ => trivial) (fun F5 e4 s1 _ step2 z12 hx hm => ?_) (fun _ => ?_)
  · clear h11
    obtain ⟨t7, h7, hm⟩ := bnd hm
    obtain ⟨s10, h_s10, hm⟩ := bnd hm
    refine sx_join [sl (dat (PyData.tuple (List.map PyData.int walk))), sl (own q_found0), sl (dat (PyData.int step2))] ((q_found0, ol (List.map PyData.int s10)) :: os) (?_) (fun Q => ?_)
    · clear h_s10
      obtain rfl := som hm
      exact sx_nil fun σ H a => ⟨(), (a.weak ⟨.inl rfl, .inl rfl, .inr rfl, trivial⟩)⟩
    · have hm := h_s10
      refine sx_if (WX.tx (wx_and (l := t7) (tx_cmp op_gt r2_gt (nomark _) (EX.to (ex_fn (j := 0) B rfl g_len (by decide +kernel) call_len_seq (rc_lenL (ds := List.map PyData.int s1) (rdl_own 0 rfl)) (ax_cons (ex_v (i := 1) (j := 1) B rfl rfl rfl) ax_nil)) (by rw [List.length_map])) ex_int) (fun hk => by (have hm := ifT h7 hk; obtain ⟨t6, h6, hm⟩ := bnd hm; obtain rfl := som hm; exact (wx_and1 (tx_cmp op_eq r2_eqI (nomark _) (ex_idxL (enc := PyData.int) h6 (rdl_own 0 rfl) (ex_v (i := 1) (j := 1) B rfl rfl rfl) (ex_neg ex_int)) (ex_neg (ex_v (i := 2) (j := 2) B rfl rfl rfl)))))) (fun hk => by (have hm := ifF h7 hk; obtain rfl := som hm; rfl)) (and_fix (fun hk => by (have hm := ifF h7 hk; obtain rfl := som hm; rfl))))) (fun hk => ?_) (fun hk => ?_)
      · have hm := ifT hm hk
        obtain ⟨t8, h8, hm⟩ := bnd hm
        refine sx_expr (ex_popO (enc := PyData.int) (j := 0) h8 (ex_v (i := 1) (j := 1) B rfl rfl rfl) rfl) ?_
        obtain rfl := som hm
        exact sx_fall Q rfl
      · have hm := ifF hm hk
        obtain ⟨t9, h9, hm⟩ := bnd hm
        refine sx_expr (ex_app (enc := PyData.int) (j := 0) (xs0 := s1) (xs := s1) (y := step2) h9 (ex_v (i := 1) (j := 1) B rfl rfl rfl) rfl (ex_v (i := 2) (j := 2) B rfl rfl rfl) rfl) ?_
        obtain rfl := som hm
        exact sx_fall Q rfl
  · skip
    refine sx_frz (j := 0) (i := 1) rfl rfl ?_
    obtain rfl := som hm
    exact sx_ret (ex_ty (j := 1) B rfl g_tuple (by decide +kernel) call_tuple_of (rc_tupL (ds := List.map PyData.int f3) rdl_dat) (ax_cons (ex_v (i := 1) (j := 1) B rfl rfl rfl) ax_nil)) (fun F H v e o c => R.rt F H v e o c)
theorem cal_p_straightened {P : Program} {w : World} {K : PySem.W.Frag} {mg : Str → Option Value} {base : Heap} {f : Addr} {fd : FuncData} (Fn : Fun K "straightened" "straightened" s_p_straightened f fd) (hmg : mg "straightened" = some (.ref f)) (hb : Binds K fd ["walk"] []) (g_len : mg "len" = none) (g_tuple : mg "tuple" = none) : Cal P w K mg base 1 "straightened" s_p_straightened ["walk"] (sp_p_straightened K) :=
  cal_Z (V := V_p_straightened) (Gs := G_p_straightened) (nl := 2) Fn sc_p_straightened (by decide +kernel) (by decide +kernel) hmg hb (fun _ => rfl) rfl fun _ _ _ _ _ _ _ a b F0 os D B T hm R => body_p_straightened rfl B T g_len g_tuple a b F0 os D hm R
/-! ### is_integer -/
abbrev s_p_is_integer : Stmt := top 10
def N_p_is_integer : List Str := ["value"]
def V_p_is_integer : List Str := ["value"]
def G_p_is_integer : List Str := ["isinstance", "int", "bool"]
theorem sc_p_is_integer : FnScope N_p_is_integer ["value"] (defScope s_p_is_integer) := ⟨rfl, rfl, rfl, by decide +kernel, rfl, by decide +kernel, by decide +kernel⟩
abbrev sp_p_is_integer (K : PySem.W.Frag) : Sp := spZ (α := Int) (β := Bool) (fun a => [(dat (PyData.int a))]) (fun a => []) (fun a => m_p_is_integer a) (fun a b => (dat (PyData.bool b))) (fun a b => [])
set_option maxHeartbeats 4000000 in
theorem body_p_is_integer {X : Cx} (hsc : X.env.scope = defScope s_p_is_integer) (B : Bd X N_p_is_integer V_p_is_integer G_p_is_integer 0) (T : Bt X V_p_is_integer) (g_isinstance : X.mg "isinstance" = none) (g_int : X.mg "int" = none) (g_bool : X.mg "bool" = none) (value : Int) (b : Bool) (F0 : Hp) (os : Os) (D : Ends) (hm : m_p_is_integer value = some b) (R : RetZ F0 (os) (dat (PyData.bool b)) D) :
    SX X [sl (dat (PyData.int value))] (os) F0 (defBody s_p_is_integer) D := by
  unfold m_p_is_integer at hm
  obtain rfl := som hm
  exact sx_ret (ex_and (ex_fn (j := 0) B rfl g_isinstance (by decide +kernel) call_isi (rc_isi (d := (PyData.int value)) (T := "int") (show kitB "int" "int" = some true by decide +kernel)) (ax_cons (ex_v (i := 0) (j := 0) B rfl rfl rfl) (ax_cons (ex_tyname (T := "int") (gi := 1) B rfl g_int (by decide +kernel)) ax_nil))) (fun _ => (ex_one (ex_not (ex_fn (j := 0) B rfl g_isinstance (by decide +kernel) call_isi (rc_isi (d := (PyData.int value)) (T := "bool") (show kitB "int" "bool" = some false by decide +kernel)) (ax_cons (ex_v (i := 0) (j := 0) B rfl rfl rfl) (ax_cons (ex_tyname (T := "bool") (gi := 2) B rfl g_bool (by decide +kernel)) ax_nil)))))) (fun _ => rfl) rfl) (fun F H v e o c => R.rt F H v e o c)
theorem cal_p_is_integer {P : Program} {w : World} {K : PySem.W.Frag} {mg : Str → Option Value} {base : Heap} {f : Addr} {fd : FuncData} (Fn : Fun K "is_integer" "is_integer" s_p_is_integer f fd) (hmg : mg "is_integer" = some (.ref f)) (hb : Binds K fd ["value"] []) (g_isinstance : mg "isinstance" = none) (g_int : mg "int" = none) (g_bool : mg "bool" = none) : Cal P w K mg base 1 "is_integer" s_p_is_integer ["value"] (sp_p_is_integer K) :=
  cal_Z (V := V_p_is_integer) (Gs := G_p_is_integer) (nl := 0) Fn sc_p_is_integer (by decide +kernel) (by decide +kernel) hmg hb (fun _ => rfl) rfl fun _ _ _ _ _ _ _ a b F0 os D B T hm R => body_p_is_integer rfl B T g_isinstance g_int g_bool a b F0 os D hm R
/-! ### is_letters -/
abbrev s_p_is_letters : Stmt := top 12
def N_p_is_letters : List Str := ["value"]
def V_p_is_letters : List Str := ["value"]
def G_p_is_letters : List Str := ["is_integer", "MOST_LETTERS"]
theorem sc_p_is_letters : FnScope N_p_is_letters ["value"] (defScope s_p_is_letters) := ⟨rfl, rfl, rfl, by decide +kernel, rfl, by decide +kernel, by decide +kernel⟩
abbrev sp_p_is_letters (K : PySem.W.Frag) : Sp := spZ (α := Int) (β := Bool) (fun a => [(dat (PyData.int a))]) (fun a => []) (fun a => m_p_is_letters a) (fun a b => (dat (PyData.bool b))) (fun a b => [])
set_option maxHeartbeats 4000000 in
theorem body_p_is_letters {X : Cx} (hsc : X.env.scope = defScope s_p_is_letters) (B : Bd X N_p_is_letters V_p_is_letters G_p_is_letters 1) (T : Bt X V_p_is_letters) {tk_MOST_LETTERS : Tok} (c_p_is_integer : Cal X.prog X.w X.K X.mg X.base 1 "is_integer" s_p_is_integer ["value"] (sp_p_is_integer X.K)) (g_MOST_LETTERS : X.mg "MOST_LETTERS" = some (.int 4 tk_MOST_LETTERS)) (value : Int) (b : Bool) (F0 : Hp) (os : Os) (D : Ends) (hm : m_p_is_letters value = some b) (R : RetZ F0 (os) (dat (PyData.bool b)) D) :
    SX X [sl (dat (PyData.int value))] (os) F0 (defBody s_p_is_letters) D := by
  unfold m_p_is_letters at hm
  obtain ⟨t1, h1, hm⟩ := bnd hm
  obtain rfl := som hm
  exact sx_ret (ex_and (ex_call (a := value) (b := t1) (gi := 0) (rest := os) B rfl c_p_is_integer (by decide) h1 (ax_cons (ex_v (i := 0) (j := 0) B rfl rfl rfl) ax_nil)) (fun _ => (ex_one (ex_chain op_le op_le r2_le r2_le (fun _ => rfl) ex_int (ex_v (i := 0) (j := 0) B rfl rfl rfl) (fun _ => (ex_g (j := 1) B rfl g_MOST_LETTERS))))) (fun _ => rfl) rfl) (fun F H v e o c => R.rt F H v e o c)
theorem cal_p_is_letters {P : Program} {w : World} {K : PySem.W.Frag} {mg : Str → Option Value} {base : Heap} {f : Addr} {fd : FuncData} (Fn : Fun K "is_letters" "is_letters" s_p_is_letters f fd) (hmg : mg "is_letters" = some (.ref f)) (hb : Binds K fd ["value"] []) {tk_MOST_LETTERS : Tok} (c_p_is_integer : Cal P w K mg base 1 "is_integer" s_p_is_integer ["value"] (sp_p_is_integer K)) (g_MOST_LETTERS : mg "MOST_LETTERS" = some (.int 4 tk_MOST_LETTERS)) : Cal P w K mg base 2 "is_letters" s_p_is_letters ["value"] (sp_p_is_letters K) :=
  cal_Z (V := V_p_is_letters) (Gs := G_p_is_letters) (nl := 0) Fn sc_p_is_letters (by decide +kernel) (by decide +kernel) hmg hb (fun _ => rfl) rfl fun _ _ _ _ _ _ _ a b F0 os D B T hm R => body_p_is_letters rfl B T c_p_is_integer g_MOST_LETTERS a b F0 os D hm R
/-! ### is_step -/
abbrev s_p_is_step : Stmt := top 13
def N_p_is_step : List Str := ["value", "letters"]
def V_p_is_step : List Str := ["value", "letters"]
def G_p_is_step : List Str := ["is_integer", "abs"]
theorem sc_p_is_step : FnScope N_p_is_step ["value", "letters"] (defScope s_p_is_step) := ⟨rfl, rfl, rfl, by decide +kernel, rfl, by decide +kernel, by decide +kernel⟩
abbrev sp_p_is_step (K : PySem.W.Frag) : Sp := spZ (α := (Int × Int)) (β := Bool) (fun a => [(dat (PyData.int a.1)), (dat (PyData.int a.2))]) (fun a => []) (fun a => m_p_is_step a.1 a.2) (fun a b => (dat (PyData.bool b))) (fun a b => [])
set_option maxHeartbeats 4000000 in
theorem body_p_is_step {X : Cx} (hsc : X.env.scope = defScope s_p_is_step) (B : Bd X N_p_is_step V_p_is_step G_p_is_step 1) (T : Bt X V_p_is_step) (c_p_is_integer : Cal X.prog X.w X.K X.mg X.base 1 "is_integer" s_p_is_integer ["value"] (sp_p_is_integer X.K)) (g_abs : X.mg "abs" = none) (value : Int) (letters : Int) (b : Bool) (F0 : Hp) (os : Os) (D : Ends) (hm : m_p_is_step value letters = some b) (R : RetZ F0 (os) (dat (PyData.bool b)) D) :
    SX X [sl (dat (PyData.int value)), sl (dat (PyData.int letters))] (os) F0 (defBody s_p_is_step) D := by
  unfold m_p_is_step at hm
  obtain ⟨t1, h1, hm⟩ := bnd hm
  obtain rfl := som hm
  exact sx_ret (ex_and (ex_call (a := value) (b := t1) (gi := 0) (rest := os) B rfl c_p_is_integer (by decide) h1 (ax_cons (ex_v (i := 0) (j := 0) B rfl rfl rfl) ax_nil)) (fun _ => (ex_one (ex_chain op_le op_le r2_le r2_le (fun _ => rfl) ex_int (ex_fn (j := 1) B rfl g_abs (by decide +kernel) call_abs rc_abs (ax_cons (ex_v (i := 0) (j := 0) B rfl rfl rfl) ax_nil)) (fun _ => (ex_v (i := 1) (j := 1) B rfl rfl rfl))))) (fun _ => rfl) rfl) (fun F H v e o c => R.rt F H v e o c)
theorem cal_p_is_step {P : Program} {w : World} {K : PySem.W.Frag} {mg : Str → Option Value} {base : Heap} {f : Addr} {fd : FuncData} (Fn : Fun K "is_step" "is_step" s_p_is_step f fd) (hmg : mg "is_step" = some (.ref f)) (hb : Binds K fd ["value", "letters"] []) (c_p_is_integer : Cal P w K mg base 1 "is_integer" s_p_is_integer ["value"] (sp_p_is_integer K)) (g_abs : mg "abs" = none) : Cal P w K mg base 2 "is_step" s_p_is_step ["value", "letters"] (sp_p_is_step K) :=
  cal_Z (V := V_p_is_step) (Gs := G_p_is_step) (nl := 0) Fn sc_p_is_step (by decide +kernel) (by decide +kernel) hmg hb (fun _ => rfl) rfl fun _ _ _ _ _ _ _ a b F0 os D B T hm R => body_p_is_step rfl B T c_p_is_integer g_abs a.1 a.2 b F0 os D hm R
/-! ### is_a_walk -/
abbrev s_p_is_a_walk : Stmt := top 14
def N_p_is_a_walk : List Str := ["value", "letters", "step"]
def V_p_is_a_walk : List Str := ["value", "letters"]
def G_p_is_a_walk : List Str := ["isinstance", "tuple", "all"]
theorem sc_p_is_a_walk : FnScope N_p_is_a_walk ["value", "letters"] (defScope s_p_is_a_walk) := ⟨rfl, rfl, rfl, by decide +kernel, rfl, by decide +kernel, by decide +kernel⟩
abbrev sp_p_is_a_walk (K : PySem.W.Frag) : Sp := spZ (α := ((List Int) × Int)) (β := Bool) (fun a => [(dat (PyData.tuple (List.map PyData.int a.1))), (dat (PyData.int a.2))]) (fun a => []) (fun a => m_p_is_a_walk a.1 a.2) (fun a b => (dat (PyData.bool b))) (fun a b => [])
set_option maxHeartbeats 4000000 in
theorem body_p_is_a_walk {X : Cx} (hsc : X.env.scope = defScope s_p_is_a_walk) (B : Bd X N_p_is_a_walk V_p_is_a_walk G_p_is_a_walk 2) (T : Bt X V_p_is_a_walk) (g_isinstance : X.mg "isinstance" = none) (g_tuple : X.mg "tuple" = none) (g_all : X.mg "all" = none) (c_p_is_step : Cal X.prog X.w X.K X.mg X.base 2 "is_step" s_p_is_step ["value", "letters"] (sp_p_is_step X.K)) (value : (List Int)) (letters : Int) (b : Bool) (F0 : Hp) (os : Os) (D : Ends) (hm : m_p_is_a_walk value letters = some b) (R : RetZ F0 (os) (dat (PyData.bool b)) D) :
    SX X [sl (dat (PyData.tuple (List.map PyData.int value))), sl (dat (PyData.int letters)), un] (os) F0 (defBody s_p_is_a_walk) D := by
  unfold m_p_is_a_walk at hm
  obtain ⟨t5, h5, hm⟩ := bnd hm
  obtain rfl := som hm
  exact sx_ret (ex_and (l := t5) (ex_fn (j := 0) B rfl g_isinstance (by decide +kernel) call_isi (rc_isi (d := (PyData.tuple (List.map PyData.int value))) (T := "tuple") (show kitB "tuple" "tuple" = some true by decide +kernel)) (ax_cons (ex_v (i := 0) (j := 0) B rfl rfl rfl) (ax_cons (ex_tyname (T := "tuple") (gi := 1) B rfl g_tuple (by decide +kernel)) ax_nil))) (fun hk => by (have hm := ifT h5 hk; obtain ⟨t4, h4, hm⟩ := bnd hm; obtain rfl := som hm; exact (ex_one (ex_fn (j := 2) B rfl g_all (by decide +kernel) (cr_all B.calm) (rc_all rdl_dat) (ax_cons (EN.ex (en_lc (lc_mk1 (j := 2) (vp := fun step1 => (dat (PyData.int step1))) (c := anyOs) (enc := PyData.bool) (fun (_ : Unit) (step1 : Int) => ((fun (step1 : Int) => ((m_p_is_step step1 letters).bind fun t3 => some t3)) step1).map fun y => (some y, ())) (fun (_ : Unit) (tl1 : Os) => tl1) () (t4) () B rfl rfl (by rw [B.hN, hsc]; decide +kernel) (by rw [hsc]; decide +kernel) (by decide) (lcO_ok h4) (ix_tup (enc := PyData.int) (ex_v (i := 0) (j := 0) B rfl rfl rfl) rdt_dat) (fun _ _ => trivial) (fun _ _ _ => List.Perm.refl _) (fun _ step1 t tl1 hx hf => by (obtain ⟨y, hy, rfl⟩ := Option.map_eq_some_iff.mp hf; obtain ⟨t3, h3, hy⟩ := bnd hy; obtain rfl := som hy; exact ⟨true, _, fun X1 hX => by (have B1 := Bd.fam (W' := ["letters", "step"]) (G' := ["is_step"]) B hX (by (try rw [hsc]); decide +kernel); have c_p_is_step' := fam_cal hX c_p_is_step; exact ⟨.nil, fun _ => ⟨_, rfl, (ex_call (a := (step1, letters)) (b := t3) (gi := 0) (rest := tl1) B1 rfl c_p_is_step' (by decide) h3 (ax_cons (ex_v (i := 2) (j := 1) B1 rfl rfl rfl) (ax_cons (ex_v (i := 1) (j := 0) B1 rfl rfl rfl) ax_nil)))⟩, fun h => Bool.noConfusion h⟩)⟩))))) ax_nil))))) (fun hk => by (have hm := ifF h5 hk; obtain rfl := som hm; rfl)) (and_fix (fun hk => by (have hm := ifF h5 hk; obtain rfl := som hm; rfl)))) (fun F H v e o c => R.rt F H v e o c)
theorem cal_p_is_a_walk {P : Program} {w : World} {K : PySem.W.Frag} {mg : Str → Option Value} {base : Heap} {f : Addr} {fd : FuncData} (Fn : Fun K "is_a_walk" "is_a_walk" s_p_is_a_walk f fd) (hmg : mg "is_a_walk" = some (.ref f)) (hb : Binds K fd ["value", "letters"] []) (g_isinstance : mg "isinstance" = none) (g_tuple : mg "tuple" = none) (g_all : mg "all" = none) (c_p_is_step : Cal P w K mg base 2 "is_step" s_p_is_step ["value", "letters"] (sp_p_is_step K)) : Cal P w K mg base 3 "is_a_walk" s_p_is_a_walk ["value", "letters"] (sp_p_is_a_walk K) :=
  cal_Z (V := V_p_is_a_walk) (Gs := G_p_is_a_walk) (nl := 1) Fn sc_p_is_a_walk (by decide +kernel) (by decide +kernel) hmg hb (fun _ => rfl) rfl fun _ _ _ _ _ _ _ a b F0 os D B T hm R => body_p_is_a_walk rfl B T g_isinstance g_tuple g_all c_p_is_step a.1 a.2 b F0 os D hm R
/-! ### need_letters -/
abbrev s_p_need_letters : Stmt := top 15
def N_p_need_letters : List Str := ["letters"]
def V_p_need_letters : List Str := ["letters"]
def G_p_need_letters : List Str := ["is_letters", "InvalidLetters"]
theorem sc_p_need_letters : FnScope N_p_need_letters ["letters"] (defScope s_p_need_letters) := ⟨rfl, rfl, rfl, by decide +kernel, rfl, by decide +kernel, by decide +kernel⟩
abbrev sp_p_need_letters (K : PySem.W.Frag) : Sp := spZ (α := Int) (β := Unit) (fun a => [(dat (PyData.int a))]) (fun a => []) (fun a => m_p_need_letters a) (fun a b => (dat PyData.none)) (fun a b => [])
set_option maxHeartbeats 4000000 in
theorem body_p_need_letters {X : Cx} (hsc : X.env.scope = defScope s_p_need_letters) (B : Bd X N_p_need_letters V_p_need_letters G_p_need_letters 2) (T : Bt X V_p_need_letters) (c_p_is_letters : Cal X.prog X.w X.K X.mg X.base 2 "is_letters" s_p_is_letters ["value"] (sp_p_is_letters X.K)) (letters : Int) (b : Unit) (F0 : Hp) (os : Os) (D : Ends) (hm : m_p_need_letters letters = some b) (R : RetZ F0 (os) (dat PyData.none) D) :
    SX X [sl (dat (PyData.int letters))] (os) F0 (defBody s_p_need_letters) D := by
  unfold m_p_need_letters at hm
  obtain ⟨t1, h1, hm⟩ := bnd hm
  refine sx_if (tx_not (tx_val (ex_call (a := letters) (b := t1) (gi := 0) (rest := os) B rfl c_p_is_letters (by decide) h1 (ax_cons (ex_v (i := 0) (j := 0) B rfl rfl rfl) ax_nil)) (by intro _; rfl))) (fun hk => ?_) (fun hk => ?_)
  · have hm := ifT hm hk
    exact nomatch hm
  · have hm := ifF hm hk
    refine sx_fall ?_ rfl
    obtain rfl := som hm
    exact sx_end fun F σ H e o => R.nx σ H (R.rt F H .non e o (cl_dat .non))
theorem cal_p_need_letters {P : Program} {w : World} {K : PySem.W.Frag} {mg : Str → Option Value} {base : Heap} {f : Addr} {fd : FuncData} (Fn : Fun K "need_letters" "need_letters" s_p_need_letters f fd) (hmg : mg "need_letters" = some (.ref f)) (hb : Binds K fd ["letters"] []) (c_p_is_letters : Cal P w K mg base 2 "is_letters" s_p_is_letters ["value"] (sp_p_is_letters K)) : Cal P w K mg base 3 "need_letters" s_p_need_letters ["letters"] (sp_p_need_letters K) :=
  cal_Z (V := V_p_need_letters) (Gs := G_p_need_letters) (nl := 0) Fn sc_p_need_letters (by decide +kernel) (by decide +kernel) hmg hb (fun _ => rfl) rfl fun _ _ _ _ _ _ _ a b F0 os D B T hm R => body_p_need_letters rfl B T c_p_is_letters a b F0 os D hm R
/-! ### need_walk -/
abbrev s_p_need_walk : Stmt := top 16
def N_p_need_walk : List Str := ["walk", "letters"]
def V_p_need_walk : List Str := ["walk", "letters"]
def G_p_need_walk : List Str := ["is_a_walk", "InvalidWalk", "anew"]
theorem sc_p_need_walk : FnScope N_p_need_walk ["walk", "letters"] (defScope s_p_need_walk) := ⟨rfl, rfl, rfl, by decide +kernel, rfl, by decide +kernel, by decide +kernel⟩
abbrev sp_p_need_walk (K : PySem.W.Frag) : Sp := spZ (α := ((List Int) × Int)) (β := Unit) (fun a => [(dat (PyData.tuple (List.map PyData.int a.1))), (dat (PyData.int a.2))]) (fun a => []) (fun a => m_p_need_walk a.1 a.2) (fun a b => (dat PyData.none)) (fun a b => [])
set_option maxHeartbeats 4000000 in
theorem body_p_need_walk {X : Cx} (hsc : X.env.scope = defScope s_p_need_walk) (B : Bd X N_p_need_walk V_p_need_walk G_p_need_walk 3) (T : Bt X V_p_need_walk) (c_p_is_a_walk : Cal X.prog X.w X.K X.mg X.base 3 "is_a_walk" s_p_is_a_walk ["value", "letters"] (sp_p_is_a_walk X.K)) (walk : (List Int)) (letters : Int) (b : Unit) (F0 : Hp) (os : Os) (D : Ends) (hm : m_p_need_walk walk letters = some b) (R : RetZ F0 (os) (dat PyData.none) D) :
    SX X [sl (dat (PyData.tuple (List.map PyData.int walk))), sl (dat (PyData.int letters))] (os) F0 (defBody s_p_need_walk) D := by
  unfold m_p_need_walk at hm
  obtain ⟨t1, h1, hm⟩ := bnd hm
  refine sx_if (tx_not (tx_val (ex_call (a := (walk, letters)) (b := t1) (gi := 0) (rest := os) B rfl c_p_is_a_walk (by decide) h1 (ax_cons (ex_v (i := 0) (j := 0) B rfl rfl rfl) (ax_cons (ex_v (i := 1) (j := 1) B rfl rfl rfl) ax_nil))) (by intro _; rfl))) (fun hk => ?_) (fun hk => ?_)
  · have hm := ifT hm hk
    exact nomatch hm
  · have hm := ifF hm hk
    refine sx_fall ?_ rfl
    obtain rfl := som hm
    exact sx_end fun F σ H e o => R.nx σ H (R.rt F H .non e o (cl_dat .non))
theorem cal_p_need_walk {P : Program} {w : World} {K : PySem.W.Frag} {mg : Str → Option Value} {base : Heap} {f : Addr} {fd : FuncData} (Fn : Fun K "need_walk" "need_walk" s_p_need_walk f fd) (hmg : mg "need_walk" = some (.ref f)) (hb : Binds K fd ["walk", "letters"] []) (c_p_is_a_walk : Cal P w K mg base 3 "is_a_walk" s_p_is_a_walk ["value", "letters"] (sp_p_is_a_walk K)) : Cal P w K mg base 4 "need_walk" s_p_need_walk ["walk", "letters"] (sp_p_need_walk K) :=
  cal_Z (V := V_p_need_walk) (Gs := G_p_need_walk) (nl := 0) Fn sc_p_need_walk (by decide +kernel) (by decide +kernel) hmg hb (fun _ => rfl) rfl fun _ _ _ _ _ _ _ a b F0 os D B T hm R => body_p_need_walk rfl B T c_p_is_a_walk a.1 a.2 b F0 os D hm R
/-! ### need_number -/
abbrev s_p_need_number : Stmt := top 17
def N_p_need_number : List Str := ["number", "low", "high"]
def V_p_need_number : List Str := ["number", "low", "high"]
def G_p_need_number : List Str := ["InvalidNumber"]
theorem sc_p_need_number : FnScope N_p_need_number ["number", "low", "high"] (defScope s_p_need_number) := ⟨rfl, rfl, rfl, by decide +kernel, rfl, by decide +kernel, by decide +kernel⟩
abbrev sp_p_need_number (K : PySem.W.Frag) : Sp := spZ (α := (Int × Int × Unit)) (β := Unit) (fun a => [(dat (PyData.int a.1)), (dat (PyData.int a.2.1)), (dat PyData.none)]) (fun a => []) (fun a => m_p_need_number a.1 a.2.1 a.2.2) (fun a b => (dat PyData.none)) (fun a b => [])
set_option maxHeartbeats 4000000 in
theorem body_p_need_number {X : Cx} (hsc : X.env.scope = defScope s_p_need_number) (B : Bd X N_p_need_number V_p_need_number G_p_need_number 0) (T : Bt X V_p_need_number)  (number : Int) (low : Int) (high : Unit) (b : Unit) (F0 : Hp) (os : Os) (D : Ends) (hm : m_p_need_number number low high = some b) (R : RetZ F0 (os) (dat PyData.none) D) :
    SX X [sl (dat (PyData.int number)), sl (dat (PyData.int low)), sl (dat PyData.none)] (os) F0 (defBody s_p_need_number) D := by
  unfold m_p_need_number at hm
  refine sx_if (WX.tx (wx_or (tx_cmp op_lt r2_lt (nomark _) (ex_v (i := 0) (j := 0) B rfl rfl rfl) (ex_v (i := 1) (j := 1) B rfl rfl rfl)) (fun _ => (wx_or1 (WX.tx (wx_and (l := false) (tx_cmp op_notN (r2_notN (d := PyData.none) (t := false) rfl) (nomark _) (ex_v (i := 2) (j := 2) B rfl rfl rfl) ex_none) (fun hk => Bool.noConfusion hk) (fun _ => rfl) rfl)))) (fun _ => rfl) rfl)) (fun hk => ?_) (fun hk => ?_)
  · have hm := ifT hm hk
    exact nomatch hm
  · have hm := ifF hm hk
    refine sx_fall ?_ rfl
    obtain rfl := som hm
    exact sx_end fun F σ H e o => R.nx σ H (R.rt F H .non e o (cl_dat .non))
theorem cal_p_need_number {P : Program} {w : World} {K : PySem.W.Frag} {mg : Str → Option Value} {base : Heap} {f : Addr} {fd : FuncData} (Fn : Fun K "need_number" "need_number" s_p_need_number f fd) (hmg : mg "need_number" = some (.ref f)) (hb : Binds K fd ["number", "low", "high"] [])  : Cal P w K mg base 1 "need_number" s_p_need_number ["number", "low", "high"] (sp_p_need_number K) :=
  cal_Z (V := V_p_need_number) (Gs := G_p_need_number) (nl := 0) Fn sc_p_need_number (by decide +kernel) (by decide +kernel) hmg hb (fun _ => rfl) rfl fun _ _ _ _ _ _ _ a b F0 os D B T hm R => body_p_need_number rfl B T  a.1 a.2.1 a.2.2 b F0 os D hm R
/-! ### walks_behind -/
abbrev s_p_walks_behind : Stmt := top 19
def N_p_walks_behind : List Str := ["letters", "length", "found", "turn"]
def V_p_walks_behind : List Str := ["letters", "length", "found", "turn"]
def G_p_walks_behind : List Str := ["range"]
theorem sc_p_walks_behind : FnScope N_p_walks_behind ["letters", "length"] (defScope s_p_walks_behind) := ⟨rfl, rfl, rfl, by decide +kernel, rfl, by decide +kernel, by decide +kernel⟩
abbrev sp_p_walks_behind (K : PySem.W.Frag) : Sp := spZ (α := (Int × Int)) (β := Int) (fun a => [(dat (PyData.int a.1)), (dat (PyData.int a.2))]) (fun a => []) (fun a => m_p_walks_behind a.1 a.2) (fun a b => (dat (PyData.int b))) (fun a b => [])
set_option maxHeartbeats 4000000 in
theorem body_p_walks_behind {X : Cx} (hsc : X.env.scope = defScope s_p_walks_behind) (B : Bd X N_p_walks_behind V_p_walks_behind G_p_walks_behind 0) (T : Bt X V_p_walks_behind) (g_range : X.mg "range" = none) (letters : Int) (length : Int) (b : Int) (F0 : Hp) (os : Os) (D : Ends) (hm : m_p_walks_behind letters length = some b) (R : RetZ F0 (os) (dat (PyData.int b)) D) :
    SX X [sl (dat (PyData.int letters)), sl (dat (PyData.int length)), un, un] (os) F0 (defBody s_p_walks_behind) D := by
  unfold m_p_walks_behind at hm
  refine sx_asg (i := 2) (vi := 2) (φ := (dat (PyData.int 1))) B T rfl rfl ex_int ?_
  obtain ⟨t1, h1, hm⟩ := bnd hm
  obtain ⟨f4, h8, hm⟩ := bnd hm
  refine sx_for (c := anyOs) (fun (s2 : Int) (turn3 : Int) => ((mulO s2 ((2 * letters) - 1)).bind fun t7 => some t7)) (fun (s2 : Int) (_ : Unit) => [sl (dat (PyData.int letters)), sl (dat (PyData.int length)), sl (dat (PyData.int s2)), un]) (fun (s2 : Int) (_ : Unit) => os) B T (fun turn3 => gx_name (i := 3) (vi := 3) (φ := (dat (PyData.int turn3))) B T rfl rfl) 1 () f4 h8 (ix_rng1 (gi := 0) B rfl g_range h1 (ex_v (i := 1) (j := 1) B rfl rfl rfl)) ⟨.inl rfl, .inl rfl, .inl rfl, .inl rfl, trivial⟩ (fun _ _ => trivial) (fun F6 e5 s2 _ turn3 z9 hx hm => ?_) (fun _ => ?_)
  · clear h8
    obtain ⟨t7, h7, hm⟩ := bnd hm
    refine sx_asg (i := 2) (vi := 2) (φ := (dat (PyData.int t7))) B T rfl rfl (ex_mul h7 (ex_v (i := 2) (j := 2) B rfl rfl rfl) (ex_sub (ex_mulL (by decide) ex_int (ex_v (i := 0) (j := 0) B rfl rfl rfl)) ex_int)) ?_
    obtain rfl := som hm
    exact sx_nil fun σ H a => ⟨(), (a.weak ⟨.inl rfl, .inl rfl, .inl rfl, .inr rfl, trivial⟩)⟩
  · skip
    obtain rfl := som hm
    exact sx_ret (ex_v (i := 2) (j := 2) B rfl rfl rfl) (fun F H v e o c => R.rt F H v e o c)
theorem cal_p_walks_behind {P : Program} {w : World} {K : PySem.W.Frag} {mg : Str → Option Value} {base : Heap} {f : Addr} {fd : FuncData} (Fn : Fun K "walks_behind" "walks_behind" s_p_walks_behind f fd) (hmg : mg "walks_behind" = some (.ref f)) (hb : Binds K fd ["letters", "length"] []) (g_range : mg "range" = none) : Cal P w K mg base 1 "walks_behind" s_p_walks_behind ["letters", "length"] (sp_p_walks_behind K) :=
  cal_Z (V := V_p_walks_behind) (Gs := G_p_walks_behind) (nl := 2) Fn sc_p_walks_behind (by decide +kernel) (by decide +kernel) hmg hb (fun _ => rfl) rfl fun _ _ _ _ _ _ _ a b F0 os D B T hm R => body_p_walks_behind rfl B T g_range a.1 a.2 b F0 os D hm R
/-! ### walks_of -/
abbrev s_p_walks_of : Stmt := top 20
def N_p_walks_of : List Str := ["letters", "length"]
def V_p_walks_of : List Str := ["letters", "length"]
def G_p_walks_of : List Str := ["walks_behind"]
theorem sc_p_walks_of : FnScope N_p_walks_of ["letters", "length"] (defScope s_p_walks_of) := ⟨rfl, rfl, rfl, by decide +kernel, rfl, by decide +kernel, by decide +kernel⟩
abbrev sp_p_walks_of (K : PySem.W.Frag) : Sp := spZ (α := (Int × Int)) (β := Int) (fun a => [(dat (PyData.int a.1)), (dat (PyData.int a.2))]) (fun a => []) (fun a => m_p_walks_of a.1 a.2) (fun a b => (dat (PyData.int b))) (fun a b => [])
set_option maxHeartbeats 4000000 in
theorem body_p_walks_of {X : Cx} (hsc : X.env.scope = defScope s_p_walks_of) (B : Bd X N_p_walks_of V_p_walks_of G_p_walks_of 1) (T : Bt X V_p_walks_of) (c_p_walks_behind : Cal X.prog X.w X.K X.mg X.base 1 "walks_behind" s_p_walks_behind ["letters", "length"] (sp_p_walks_behind X.K)) (letters : Int) (length : Int) (b : Int) (F0 : Hp) (os : Os) (D : Ends) (hm : m_p_walks_of letters length = some b) (R : RetZ F0 (os) (dat (PyData.int b)) D) :
    SX X [sl (dat (PyData.int letters)), sl (dat (PyData.int length))] (os) F0 (defBody s_p_walks_of) D := by
  unfold m_p_walks_of at hm
  refine sx_if (tx_cmp op_eq r2_eqI (nomark _) (ex_v (i := 1) (j := 1) B rfl rfl rfl) ex_int) (fun hk => ?_) (fun hk => ?_)
  · have hm := ifT hm hk
    obtain rfl := som hm
    exact sx_ret ex_int (fun F H v e o c => R.rt F H v e o c)
  · have hm := ifF hm hk
    refine sx_fall ?_ rfl
    obtain ⟨t1, h1, hm⟩ := bnd hm
    obtain ⟨t2, h2, hm⟩ := bnd hm
    obtain rfl := som hm
    exact sx_ret (ex_mul h2 (ex_mulL (by decide) ex_int (ex_v (i := 0) (j := 0) B rfl rfl rfl)) (ex_call (a := (letters, (length - 1))) (b := t1) (gi := 0) (rest := os) B rfl c_p_walks_behind (by decide) h1 (ax_cons (ex_v (i := 0) (j := 0) B rfl rfl rfl) (ax_cons (ex_sub (ex_v (i := 1) (j := 1) B rfl rfl rfl) ex_int) ax_nil)))) (fun F H v e o c => R.rt F H v e o c)
theorem cal_p_walks_of {P : Program} {w : World} {K : PySem.W.Frag} {mg : Str → Option Value} {base : Heap} {f : Addr} {fd : FuncData} (Fn : Fun K "walks_of" "walks_of" s_p_walks_of f fd) (hmg : mg "walks_of" = some (.ref f)) (hb : Binds K fd ["letters", "length"] []) (c_p_walks_behind : Cal P w K mg base 1 "walks_behind" s_p_walks_behind ["letters", "length"] (sp_p_walks_behind K)) : Cal P w K mg base 2 "walks_of" s_p_walks_of ["letters", "length"] (sp_p_walks_of K) :=
  cal_Z (V := V_p_walks_of) (Gs := G_p_walks_of) (nl := 0) Fn sc_p_walks_of (by decide +kernel) (by decide +kernel) hmg hb (fun _ => rfl) rfl fun _ _ _ _ _ _ _ a b F0 os D B T hm R => body_p_walks_of rfl B T c_p_walks_behind a.1 a.2 b F0 os D hm R
/-! ### steps_behind -/
abbrev s_p_steps_behind : Stmt := top 21
def N_p_steps_behind : List Str := ["letters", "walk", "step"]
def V_p_steps_behind : List Str := ["letters", "walk"]
def G_p_steps_behind : List Str := ["steps_of"]
theorem sc_p_steps_behind : FnScope N_p_steps_behind ["letters", "walk"] (defScope s_p_steps_behind) := ⟨rfl, rfl, rfl, by decide +kernel, rfl, by decide +kernel, by decide +kernel⟩
abbrev sp_p_steps_behind (K : PySem.W.Frag) : Sp := spZ (α := (Int × (List Int))) (β := (List Int)) (fun a => [(dat (PyData.int a.1)), (dat (PyData.tuple (List.map PyData.int a.2)))]) (fun a => []) (fun a => m_p_steps_behind a.1 a.2) (fun a b => (dat (PyData.list (List.map PyData.int b)))) (fun a b => [])
set_option maxHeartbeats 4000000 in
theorem body_p_steps_behind {X : Cx} (hsc : X.env.scope = defScope s_p_steps_behind) (B : Bd X N_p_steps_behind V_p_steps_behind G_p_steps_behind 1) (T : Bt X V_p_steps_behind) (c_p_steps_of : Cal X.prog X.w X.K X.mg X.base 1 "steps_of" s_p_steps_of ["letters"] (sp_p_steps_of X.K)) (letters : Int) (walk : (List Int)) (b : (List Int)) (F0 : Hp) (os : Os) (D : Ends) (hm : m_p_steps_behind letters walk = some b) (R : RetZ F0 (os) (dat (PyData.list (List.map PyData.int b))) D) :
    SX X [sl (dat (PyData.int letters)), sl (dat (PyData.tuple (List.map PyData.int walk))), un] (os) F0 (defBody s_p_steps_behind) D := by
  unfold m_p_steps_behind at hm
  obtain ⟨t1, h1, hm⟩ := bnd hm
  obtain ⟨t4, h4, hm⟩ := bnd hm
  obtain rfl := som hm
  exact sx_ret (EN.ex (en_lc (lc_mk1 (j := 2) (vp := fun step2 => (dat (PyData.int step2))) (c := anyOs) (enc := PyData.int) (fun (_ : Unit) (step2 : Int) => some (if (!decide ((cut walk (some (-1)) none) = [(-step2)])) = true then some step2 else none, ())) (fun (_ : Unit) (tl1 : Os) => tl1) () (t4) () B rfl rfl (by rw [B.hN, hsc]; decide +kernel) (by rw [hsc]; decide +kernel) (by decide) (lcF_ok h4) (ix_list (enc := PyData.int) (c := anyOs) (ex_call (a := letters) (b := t1) (gi := 0) (rest := os) B rfl c_p_steps_of (by decide) h1 (ax_cons (ex_v (i := 0) (j := 0) B rfl rfl rfl) ax_nil)) (fun _ _ => rdl_dat) trivial) (fun _ _ => trivial) (fun _ _ _ => List.Perm.refl _) (fun _ step2 t tl1 hx hf => by (obtain rfl := som hf; exact ⟨(!decide ((cut walk (some (-1)) none) = [(-step2)])), _, fun X1 hX => by (have B1 := Bd.fam (W' := ["walk", "step"]) (G' := []) B hX (by (try rw [hsc]); decide +kernel); exact ⟨.one (tx_neR (e := (eT PyData.int)) (x := (cut walk (some (-1)) none)) (y := ([(-step2)])) B1 (eqv_tup eqv_int) (sh_tup sh_int) (by decide) rdx_dat rdx_dat (ex_cutT (enc := PyData.int) rdt_dat (ex_v (i := 1) (j := 0) B1 rfl rfl rfl) (px_some (ex_neg ex_int)) px_none) (ex_tup (ds := [(PyData.int (-step2))]) (hl := len_ok (n := 1) rfl) (ax_cons (ex_neg (ex_v (i := 2) (j := 1) B1 rfl rfl rfl)) ax_nil))), fun h => ⟨_, if_pos h, (ex_v (i := 2) (j := 1) B1 rfl rfl rfl)⟩, fun h => ⟨if_neg (by rw [h]; exact Bool.false_ne_true), rfl⟩⟩)⟩))))) (fun F H v e o c => R.rt F H v e o c)
theorem cal_p_steps_behind {P : Program} {w : World} {K : PySem.W.Frag} {mg : Str → Option Value} {base : Heap} {f : Addr} {fd : FuncData} (Fn : Fun K "steps_behind" "steps_behind" s_p_steps_behind f fd) (hmg : mg "steps_behind" = some (.ref f)) (hb : Binds K fd ["letters", "walk"] []) (c_p_steps_of : Cal P w K mg base 1 "steps_of" s_p_steps_of ["letters"] (sp_p_steps_of K)) : Cal P w K mg base 2 "steps_behind" s_p_steps_behind ["letters", "walk"] (sp_p_steps_behind K) :=
  cal_Z (V := V_p_steps_behind) (Gs := G_p_steps_behind) (nl := 1) Fn sc_p_steps_behind (by decide +kernel) (by decide +kernel) hmg hb (fun _ => rfl) rfl fun _ _ _ _ _ _ _ a b F0 os D B T hm R => body_p_steps_behind rfl B T c_p_steps_of a.1 a.2 b F0 os D hm R
/-! ### walk_at -/
abbrev s_p_walk_at : Stmt := top 22
def N_p_walk_at : List Str := ["letters", "number", "length", "left", "here", "found", "turn", "each"]
def V_p_walk_at : List Str := ["letters", "number", "length", "left", "here", "found", "turn", "each"]
def G_p_walk_at : List Str := ["walks_of", "range", "walks_behind", "steps_behind"]
theorem sc_p_walk_at : FnScope N_p_walk_at ["letters", "number"] (defScope s_p_walk_at) := ⟨rfl, rfl, rfl, by decide +kernel, rfl, by decide +kernel, by decide +kernel⟩
abbrev sp_p_walk_at (K : PySem.W.Frag) : Sp := spZ (α := (Int × Int)) (β := (List Int)) (fun a => [(dat (PyData.int a.1)), (dat (PyData.int a.2))]) (fun a => []) (fun a => m_p_walk_at a.1 a.2) (fun a b => (dat (PyData.tuple (List.map PyData.int b)))) (fun a b => [])
set_option maxHeartbeats 4000000 in
theorem body_p_walk_at {X : Cx} (hsc : X.env.scope = defScope s_p_walk_at) (B : Bd X N_p_walk_at V_p_walk_at G_p_walk_at 2) (T : Bt X V_p_walk_at) (c_p_walks_of : Cal X.prog X.w X.K X.mg X.base 2 "walks_of" s_p_walks_of ["letters", "length"] (sp_p_walks_of X.K)) (g_range : X.mg "range" = none) (c_p_walks_behind : Cal X.prog X.w X.K X.mg X.base 1 "walks_behind" s_p_walks_behind ["letters", "length"] (sp_p_walks_behind X.K)) (c_p_steps_behind : Cal X.prog X.w X.K X.mg X.base 2 "steps_behind" s_p_steps_behind ["letters", "walk"] (sp_p_steps_behind X.K)) (letters : Int) (number : Int) (b : (List Int)) (F0 : Hp) (os : Os) (D : Ends) (hm : m_p_walk_at letters number = some b) (R : RetZ F0 (os) (dat (PyData.tuple (List.map PyData.int b))) D) :
    SX X [sl (dat (PyData.int letters)), sl (dat (PyData.int number)), un, un, un, un, un, un] (os) F0 (defBody s_p_walk_at) D := by
  unfold m_p_walk_at at hm
  refine sx_par3 (i := 2) (j := 3) (l := 4) _ hsc B rfl rfl rfl (by decide) (by decide) (by decide) (by decide +kernel) (by decide +kernel) (by decide +kernel) (by intro env he; cases env; cases he; first | rfl | kernel_rfl) (aq_x (φ := (dat (PyData.int 0))) ex_int (aq_x (φ := (dat (PyData.int number))) (ex_v (i := 1) (j := 1) B rfl rfl rfl) (aq_x (φ := (dat (PyData.int 1))) ex_int aq_nil))) (fun v0 v1 v2 os_ hr_ => ?_) (by rintro φs os_ ⟨_, rfl, _, rfl, _, rfl, rfl, rfl⟩; exact ⟨_, _, _, rfl⟩)
  obtain ⟨_, e0, _, e1, _, e2, e8, e9⟩ := hr_
  cases e0; cases e1; cases e2; cases e8; cases e9
  obtain ⟨f2o, h21, hm⟩ := bnd hm
  refine sx_while (fun (s1 : (Int × Int × Int)) => some (decide (s1.2.2 ≤ s1.2.1))) (fun (s1 : (Int × Int × Int)) => (((m_p_walks_of letters (s1.1 + 1)).bind fun t5 => some (Step.go ((s1.1 + 1), (s1.2.1 - s1.2.2), t5))) : Option (Step (List Int) (Int × Int × Int)))) (fun (s1 : (Int × Int × Int)) (_ : Unit) => [sl (dat (PyData.int letters)), sl (dat (PyData.int number)), sl (dat (PyData.int s1.1)), sl (dat (PyData.int s1.2.1)), sl (dat (PyData.int s1.2.2)), un, un, un]) (fun (s1 : (Int × Int × Int)) (_ : Unit) => os) (fun (r : (List Int)) v H => ∃ F, Same F0 F ∧ Ow F (os) H ∧ Cl (dat (PyData.tuple (List.map PyData.int r))) F v) T 1000 (0, number, 1) () f2o h21 ⟨.inl rfl, .inl rfl, .inl rfl, .inl rfl, .inl rfl, .inl rfl, .inl rfl, .inl rfl, trivial⟩ rfl (fun s1 _ b hm => by (obtain rfl := som hm; exact (tx_cmp op_ge r2_ge (nomark _) (ex_v (i := 3) (j := 3) B rfl rfl rfl) (ex_v (i := 4) (j := 4) B rfl rfl rfl)))) (fun F4 e3 s1 _ z22 _ hm => ?_) (fun f2 _ ho => ?_) (fun r20 v H ho hr => ?_)
  · clear h21
    refine sx_par2 (i := 3) (j := 2) _ hsc B rfl rfl (by decide) (by decide +kernel) (by decide +kernel) (by intro env he; cases env; cases he; first | rfl | kernel_rfl) (aq_x (φ := (dat (PyData.int (s1.2.1 - s1.2.2)))) (ex_sub (ex_v (i := 3) (j := 3) B rfl rfl rfl) (ex_v (i := 4) (j := 4) B rfl rfl rfl)) (aq_x (φ := (dat (PyData.int (s1.1 + 1)))) (ex_add (ex_v (i := 2) (j := 2) B rfl rfl rfl) ex_int) aq_nil)) (fun v0 v1 os_ hr_ => ?_) (by rintro φs os_ ⟨_, rfl, _, rfl, rfl, rfl⟩; exact ⟨_, _, rfl⟩)
    obtain ⟨_, e0, _, e1, e8, e9⟩ := hr_
    cases e0; cases e1; cases e8; cases e9
    obtain ⟨t5, h5, hm⟩ := bnd hm
    refine sx_asg (i := 4) (vi := 4) (φ := (dat (PyData.int t5))) B T rfl rfl (ex_call (a := (letters, (s1.1 + 1))) (b := t5) (gi := 0) (rest := os) B rfl c_p_walks_of (by decide) h5 (ax_cons (ex_v (i := 0) (j := 0) B rfl rfl rfl) (ax_cons (ex_v (i := 2) (j := 2) B rfl rfl rfl) ax_nil))) ?_
    exact sx_nil fun σ H a => ⟨_, (), (som hm).symm, (a.weak ⟨.inl rfl, .inl rfl, .inl rfl, .inl rfl, .inl rfl, .inl rfl, .inl rfl, .inl rfl, trivial⟩)⟩
  · cases ho
    have hm := elimR hm
    refine sx_asg (i := 5) (vi := 5) (φ := (dat (PyData.tuple (List.map PyData.int ([] : (List Int)))))) B T rfl rfl (ex_tup (ds := []) ax_nil) ?_
    obtain ⟨t6, h6, hm⟩ := bnd hm
    obtain ⟨f9, h18, hm⟩ := bnd hm
    refine sx_for (c := anyOs) (fun (s7 : (Int × (List Int))) (turn8 : Int) => ((m_p_walks_behind letters ((f2.1 - turn8) - 1)).bind fun t12 => ((m_p_steps_behind letters s7.2).bind fun t13 => (fdivO s7.1 t12).bind fun t14 => (idx t13 t14).bind fun t15 => (catO (α := Int) s7.2 ([t15])).bind fun t16 => ((modO s7.1 t12).bind fun t17 => some (t17, t16))))) (fun (s7 : (Int × (List Int))) (_ : Unit) => [sl (dat (PyData.int letters)), sl (dat (PyData.int number)), sl (dat (PyData.int f2.1)), sl (dat (PyData.int s7.1)), sl (dat (PyData.int f2.2.2)), sl (dat (PyData.tuple (List.map PyData.int s7.2))), un, un]) (fun (s7 : (Int × (List Int))) (_ : Unit) => os) B T (fun turn8 => gx_name (i := 6) (vi := 6) (φ := (dat (PyData.int turn8))) B T rfl rfl) (f2.2.1, ([] : (List Int))) () f9 h18 (ix_rng1 (gi := 1) B rfl g_range h6 (ex_v (i := 2) (j := 2) B rfl rfl rfl)) ⟨.inl rfl, .inl rfl, .inl rfl, .inl rfl, .inl rfl, .inl rfl, .inl rfl, .inl rfl, trivial⟩ (fun _ _ => trivial) (fun F11 e10 s7 _ turn8 z19 hx hm => ?_) (fun _ => ?_)
    · clear h18
      obtain ⟨t12, h12, hm⟩ := bnd hm
      refine sx_asg (i := 7) (vi := 7) (φ := (dat (PyData.int t12))) B T rfl rfl (ex_call (a := (letters, ((f2.1 - turn8) - 1))) (b := t12) (gi := 2) (rest := os) B rfl c_p_walks_behind (by decide) h12 (ax_cons (ex_v (i := 0) (j := 0) B rfl rfl rfl) (ax_cons (ex_sub (ex_sub (ex_v (i := 2) (j := 2) B rfl rfl rfl) (ex_v (i := 6) (j := 6) B rfl rfl rfl)) ex_int) ax_nil))) ?_
      obtain ⟨t13, h13, hm⟩ := bnd hm
      obtain ⟨t14, h14, hm⟩ := bnd hm
      obtain ⟨t15, h15, hm⟩ := bnd hm
      obtain ⟨t16, h16, hm⟩ := bnd hm
      refine sx_asg (i := 5) (vi := 5) (φ := (dat (PyData.tuple (List.map PyData.int t16)))) B T rfl rfl (ex_catT (enc := PyData.int) h16 (ex_v (i := 5) (j := 5) B rfl rfl rfl) (ex_tup (ds := [(PyData.int t15)]) (hl := len_ok (n := 1) rfl) (ax_cons (ex_idxL (enc := PyData.int) h15 rdl_dat (ex_call (a := (letters, s7.2)) (b := t13) (gi := 3) (rest := os) B rfl c_p_steps_behind (by decide) h13 (ax_cons (ex_v (i := 0) (j := 0) B rfl rfl rfl) (ax_cons (ex_v (i := 5) (j := 5) B rfl rfl rfl) ax_nil))) (ex_fdiv h14 (ex_v (i := 3) (j := 3) B rfl rfl rfl) (ex_v (i := 7) (j := 7) B rfl rfl rfl))) ax_nil))) ?_
      obtain ⟨t17, h17, hm⟩ := bnd hm
      refine sx_asg (i := 3) (vi := 3) (φ := (dat (PyData.int t17))) B T rfl rfl (ex_mod h17 (ex_v (i := 3) (j := 3) B rfl rfl rfl) (ex_v (i := 7) (j := 7) B rfl rfl rfl)) ?_
      obtain rfl := som hm
      exact sx_nil fun σ H a => ⟨(), (a.weak ⟨.inl rfl, .inl rfl, .inl rfl, .inl rfl, .inl rfl, .inl rfl, .inr rfl, .inr rfl, trivial⟩)⟩
    · skip
      obtain rfl := som hm
      exact sx_ret (ex_v (i := 5) (j := 5) B rfl rfl rfl) (fun F H v e o c => R.rt F H v e o c)
  · cases ho
    have hm := elimL hm
    cases hm
theorem cal_p_walk_at {P : Program} {w : World} {K : PySem.W.Frag} {mg : Str → Option Value} {base : Heap} {f : Addr} {fd : FuncData} (Fn : Fun K "walk_at" "walk_at" s_p_walk_at f fd) (hmg : mg "walk_at" = some (.ref f)) (hb : Binds K fd ["letters", "number"] []) (c_p_walks_of : Cal P w K mg base 2 "walks_of" s_p_walks_of ["letters", "length"] (sp_p_walks_of K)) (g_range : mg "range" = none) (c_p_walks_behind : Cal P w K mg base 1 "walks_behind" s_p_walks_behind ["letters", "length"] (sp_p_walks_behind K)) (c_p_steps_behind : Cal P w K mg base 2 "steps_behind" s_p_steps_behind ["letters", "walk"] (sp_p_steps_behind K)) : Cal P w K mg base 3 "walk_at" s_p_walk_at ["letters", "number"] (sp_p_walk_at K) :=
  cal_Z (V := V_p_walk_at) (Gs := G_p_walk_at) (nl := 6) Fn sc_p_walk_at (by decide +kernel) (by decide +kernel) hmg hb (fun _ => rfl) rfl fun _ _ _ _ _ _ _ a b F0 os D B T hm R => body_p_walk_at rfl B T c_p_walks_of g_range c_p_walks_behind c_p_steps_behind a.1 a.2 b F0 os D hm R
/-! ### number_in -/
abbrev s_p_number_in : Stmt := top 23
def N_p_number_in : List Str := ["letters", "walk", "found", "at", "step", "ahead", "length"]
def V_p_number_in : List Str := ["letters", "walk", "found", "at", "step", "ahead"]
def G_p_number_in : List Str := ["sum", "range", "len", "enumerate", "steps_behind", "walks_behind"]
theorem sc_p_number_in : FnScope N_p_number_in ["letters", "walk"] (defScope s_p_number_in) := ⟨rfl, rfl, rfl, by decide +kernel, rfl, by decide +kernel, by decide +kernel⟩
abbrev sp_p_number_in (K : PySem.W.Frag) : Sp := spZ (α := (Int × (List Int))) (β := Int) (fun a => [(dat (PyData.int a.1)), (dat (PyData.tuple (List.map PyData.int a.2)))]) (fun a => []) (fun a => m_p_number_in a.1 a.2) (fun a b => (dat (PyData.int b))) (fun a b => [])
set_option maxHeartbeats 4000000 in
theorem body_p_number_in {X : Cx} (hsc : X.env.scope = defScope s_p_number_in) (B : Bd X N_p_number_in V_p_number_in G_p_number_in 2) (T : Bt X V_p_number_in) (g_sum : X.mg "sum" = none) (g_range : X.mg "range" = none) (g_len : X.mg "len" = none) (c_p_walks_of : Cal X.prog X.w X.K X.mg X.base 2 "walks_of" s_p_walks_of ["letters", "length"] (sp_p_walks_of X.K)) (g_enumerate : X.mg "enumerate" = none) (c_p_steps_behind : Cal X.prog X.w X.K X.mg X.base 2 "steps_behind" s_p_steps_behind ["letters", "walk"] (sp_p_steps_behind X.K)) (c_p_walks_behind : Cal X.prog X.w X.K X.mg X.base 1 "walks_behind" s_p_walks_behind ["letters", "length"] (sp_p_walks_behind X.K)) (letters : Int) (walk : (List Int)) (b : Int) (F0 : Hp) (os : Os) (D : Ends) (hm : m_p_number_in letters walk = some b) (R : RetZ F0 (os) (dat (PyData.int b)) D) :
    SX X [sl (dat (PyData.int letters)), sl (dat (PyData.tuple (List.map PyData.int walk))), un, un, un, un, un] (os) F0 (defBody s_p_number_in) D := by
  unfold m_p_number_in at hm
  obtain ⟨t1, h1, hm⟩ := bnd hm
  obtain ⟨t5, h5, hm⟩ := bnd hm
  refine sx_asg (i := 2) (vi := 2) (φ := (dat (PyData.int t5.sum))) B T rfl rfl (ex_fn (j := 0) B rfl g_sum (by decide +kernel) (cr_sum B.calm) (rc_sum rdl_dat) (ax_cons (EN.ex (en_lc (lc_mk1 (j := 6) (vp := fun length2 => (dat (PyData.int length2))) (c := anyOs) (enc := PyData.int) (fun (_ : Unit) (length2 : Int) => ((fun (length2 : Int) => ((m_p_walks_of letters length2).bind fun t4 => some t4)) length2).map fun y => (some y, ())) (fun (_ : Unit) (tl1 : Os) => tl1) () (t5) () B rfl rfl (by rw [B.hN, hsc]; decide +kernel) (by rw [hsc]; decide +kernel) (by decide) (lcO_ok h5) (ix_rng1 (gi := 1) B rfl g_range h1 (EX.to (ex_fn (j := 2) B rfl g_len (by decide +kernel) call_len_seq (rc_lenT (ds := List.map PyData.int walk) rdt_dat) (ax_cons (ex_v (i := 1) (j := 1) B rfl rfl rfl) ax_nil)) (by rw [List.length_map]))) (fun _ _ => trivial) (fun _ _ _ => List.Perm.refl _) (fun _ length2 t tl1 hx hf => by (obtain ⟨y, hy, rfl⟩ := Option.map_eq_some_iff.mp hf; obtain ⟨t4, h4, hy⟩ := bnd hy; obtain rfl := som hy; exact ⟨true, _, fun X1 hX => by (have B1 := Bd.fam (W' := ["letters", "length"]) (G' := ["walks_of"]) B hX (by (try rw [hsc]); decide +kernel); have c_p_walks_of' := fam_cal hX c_p_walks_of; exact ⟨.nil, fun _ => ⟨_, rfl, (ex_call (a := (letters, length2)) (b := t4) (gi := 0) (rest := tl1) B1 rfl c_p_walks_of' (by decide) h4 (ax_cons (ex_v (i := 0) (j := 0) B1 rfl rfl rfl) (ax_cons (ex_v (i := 6) (j := 1) B1 rfl rfl rfl) ax_nil)))⟩, fun h => Bool.noConfusion h⟩)⟩))))) ax_nil)) ?_
  obtain ⟨f8, h15, hm⟩ := bnd hm
  refine sx_for (c := anyOs) (fun (s6 : Int) (x7 : (Int × Int)) => ((m_p_steps_behind letters (cut walk none (some x7.1))).bind fun t11 => (ixOf t11 x7.2).bind fun t12 => ((m_p_walks_behind letters (((walk.length : Int) - x7.1) - 1)).bind fun t13 => (mulO ((t12 : Nat) : Int) t13).bind fun t14 => some (s6 + t14)))) (fun (s6 : Int) (_ : Unit) => [sl (dat (PyData.int letters)), sl (dat (PyData.tuple (List.map PyData.int walk))), sl (dat (PyData.int s6)), un, un, un, un]) (fun (s6 : Int) (_ : Unit) => os) B T (fun x7 => gx_pair B (gx_name (i := 3) (vi := 3) (φ := (dat (PyData.int x7.1))) B T rfl rfl) (gx_name (i := 4) (vi := 4) (φ := (dat (PyData.int x7.2))) B T rfl rfl)) t5.sum () f8 h15 (ix_enumT (enc := PyData.int) (gi := 3) B rfl g_enumerate (ex_v (i := 1) (j := 1) B rfl rfl rfl) rdt_dat) ⟨.inl rfl, .inl rfl, .inl rfl, .inl rfl, .inl rfl, .inl rfl, .inl rfl, trivial⟩ (fun _ _ => trivial) (fun F10 e9 s6 _ x7 z16 hx hm => ?_) (fun _ => ?_)
  · clear h15
    obtain ⟨t11, h11, hm⟩ := bnd hm
    obtain ⟨t12, h12, hm⟩ := bnd hm
    refine sx_asg (i := 5) (vi := 5) (φ := (dat (PyData.int ((t12 : Nat) : Int)))) B T rfl rfl (ex_index h12 (fun _ _ => rdl_dat) (ex_call (a := (letters, (cut walk none (some x7.1)))) (b := t11) (gi := 4) (rest := os) B rfl c_p_steps_behind (by decide) h11 (ax_cons (ex_v (i := 0) (j := 0) B rfl rfl rfl) (ax_cons (ex_cutT (enc := PyData.int) rdt_dat (ex_v (i := 1) (j := 1) B rfl rfl rfl) px_none (px_some (ex_v (i := 3) (j := 3) B rfl rfl rfl))) ax_nil))) (ex_v (i := 4) (j := 4) B rfl rfl rfl)) ?_
    obtain ⟨t13, h13, hm⟩ := bnd hm
    obtain ⟨t14, h14, hm⟩ := bnd hm
    refine sx_asg (i := 2) (vi := 2) (φ := (dat (PyData.int (s6 + t14)))) B T rfl rfl (ex_add (ex_v (i := 2) (j := 2) B rfl rfl rfl) (ex_mul h14 (ex_v (i := 5) (j := 5) B rfl rfl rfl) (ex_call (a := (letters, (((walk.length : Int) - x7.1) - 1))) (b := t13) (gi := 5) (rest := os) B rfl c_p_walks_behind (by decide) h13 (ax_cons (ex_v (i := 0) (j := 0) B rfl rfl rfl) (ax_cons (ex_sub (ex_sub (EX.to (ex_fn (j := 2) B rfl g_len (by decide +kernel) call_len_seq (rc_lenT (ds := List.map PyData.int walk) rdt_dat) (ax_cons (ex_v (i := 1) (j := 1) B rfl rfl rfl) ax_nil)) (by rw [List.length_map])) (ex_v (i := 3) (j := 3) B rfl rfl rfl)) ex_int) ax_nil))))) ?_
    obtain rfl := som hm
    exact sx_nil fun σ H a => ⟨(), (a.weak ⟨.inl rfl, .inl rfl, .inl rfl, .inr rfl, .inr rfl, .inr rfl, .inl rfl, trivial⟩)⟩
  · skip
    obtain rfl := som hm
    exact sx_ret (ex_v (i := 2) (j := 2) B rfl rfl rfl) (fun F H v e o c => R.rt F H v e o c)
theorem cal_p_number_in {P : Program} {w : World} {K : PySem.W.Frag} {mg : Str → Option Value} {base : Heap} {f : Addr} {fd : FuncData} (Fn : Fun K "number_in" "number_in" s_p_number_in f fd) (hmg : mg "number_in" = some (.ref f)) (hb : Binds K fd ["letters", "walk"] []) (g_sum : mg "sum" = none) (g_range : mg "range" = none) (g_len : mg "len" = none) (c_p_walks_of : Cal P w K mg base 2 "walks_of" s_p_walks_of ["letters", "length"] (sp_p_walks_of K)) (g_enumerate : mg "enumerate" = none) (c_p_steps_behind : Cal P w K mg base 2 "steps_behind" s_p_steps_behind ["letters", "walk"] (sp_p_steps_behind K)) (c_p_walks_behind : Cal P w K mg base 1 "walks_behind" s_p_walks_behind ["letters", "length"] (sp_p_walks_behind K)) : Cal P w K mg base 3 "number_in" s_p_number_in ["letters", "walk"] (sp_p_number_in K) :=
  cal_Z (V := V_p_number_in) (Gs := G_p_number_in) (nl := 5) Fn sc_p_number_in (by decide +kernel) (by decide +kernel) hmg hb (fun _ => rfl) rfl fun _ _ _ _ _ _ _ a b F0 os D B T hm R => body_p_number_in rfl B T g_sum g_range g_len c_p_walks_of g_enumerate c_p_steps_behind c_p_walks_behind a.1 a.2 b F0 os D hm R
/-! ### how_many -/
abbrev s_p_how_many : Stmt := top 24
def N_p_how_many : List Str := ["letters", "length"]
def V_p_how_many : List Str := ["letters", "length"]
def G_p_how_many : List Str := ["need_letters", "need_number", "walks_of"]
theorem sc_p_how_many : FnScope N_p_how_many ["letters", "length"] (defScope s_p_how_many) := ⟨rfl, rfl, rfl, by decide +kernel, rfl, by decide +kernel, by decide +kernel⟩
abbrev sp_p_how_many (K : PySem.W.Frag) : Sp := spZ (α := (Int × Int)) (β := Int) (fun a => [(dat (PyData.int a.1)), (dat (PyData.int a.2))]) (fun a => []) (fun a => m_p_how_many a.1 a.2) (fun a b => (dat (PyData.int b))) (fun a b => [])
set_option maxHeartbeats 4000000 in
theorem body_p_how_many {X : Cx} (hsc : X.env.scope = defScope s_p_how_many) (B : Bd X N_p_how_many V_p_how_many G_p_how_many 3) (T : Bt X V_p_how_many) (c_p_need_letters : Cal X.prog X.w X.K X.mg X.base 3 "need_letters" s_p_need_letters ["letters"] (sp_p_need_letters X.K)) (c_p_need_number : Cal X.prog X.w X.K X.mg X.base 1 "need_number" s_p_need_number ["number", "low", "high"] (sp_p_need_number X.K)) (c_p_walks_of : Cal X.prog X.w X.K X.mg X.base 2 "walks_of" s_p_walks_of ["letters", "length"] (sp_p_walks_of X.K)) (letters : Int) (length : Int) (b : Int) (F0 : Hp) (os : Os) (D : Ends) (hm : m_p_how_many letters length = some b) (R : RetZ F0 (os) (dat (PyData.int b)) D) :
    SX X [sl (dat (PyData.int letters)), sl (dat (PyData.int length))] (os) F0 (defBody s_p_how_many) D := by
  unfold m_p_how_many at hm
  obtain ⟨t1, h1, hm⟩ := bnd hm
  refine sx_expr (ex_call (a := letters) (b := t1) (gi := 0) (rest := os) B rfl c_p_need_letters (by decide) h1 (ax_cons (ex_v (i := 0) (j := 0) B rfl rfl rfl) ax_nil)) ?_
  obtain ⟨t2, h2, hm⟩ := bnd hm
  refine sx_expr (ex_call (a := (length, 0, ())) (b := t2) (gi := 1) (rest := os) B rfl c_p_need_number (by decide) h2 (ax_cons (ex_v (i := 1) (j := 1) B rfl rfl rfl) (ax_cons ex_int (ax_cons ex_none ax_nil)))) ?_
  obtain ⟨t3, h3, hm⟩ := bnd hm
  obtain rfl := som hm
  exact sx_ret (ex_call (a := (letters, length)) (b := t3) (gi := 2) (rest := os) B rfl c_p_walks_of (by decide) h3 (ax_cons (ex_v (i := 0) (j := 0) B rfl rfl rfl) (ax_cons (ex_v (i := 1) (j := 1) B rfl rfl rfl) ax_nil))) (fun F H v e o c => R.rt F H v e o c)
theorem cal_p_how_many {P : Program} {w : World} {K : PySem.W.Frag} {mg : Str → Option Value} {base : Heap} {f : Addr} {fd : FuncData} (Fn : Fun K "how_many" "how_many" s_p_how_many f fd) (hmg : mg "how_many" = some (.ref f)) (hb : Binds K fd ["letters", "length"] []) (c_p_need_letters : Cal P w K mg base 3 "need_letters" s_p_need_letters ["letters"] (sp_p_need_letters K)) (c_p_need_number : Cal P w K mg base 1 "need_number" s_p_need_number ["number", "low", "high"] (sp_p_need_number K)) (c_p_walks_of : Cal P w K mg base 2 "walks_of" s_p_walks_of ["letters", "length"] (sp_p_walks_of K)) : Cal P w K mg base 4 "how_many" s_p_how_many ["letters", "length"] (sp_p_how_many K) :=
  cal_Z (V := V_p_how_many) (Gs := G_p_how_many) (nl := 0) Fn sc_p_how_many (by decide +kernel) (by decide +kernel) hmg hb (fun _ => rfl) rfl fun _ _ _ _ _ _ _ a b F0 os D B T hm R => body_p_how_many rfl B T c_p_need_letters c_p_need_number c_p_walks_of a.1 a.2 b F0 os D hm R
/-! ### nth_walk -/
abbrev s_p_nth_walk : Stmt := top 25
def N_p_nth_walk : List Str := ["letters", "number"]
def V_p_nth_walk : List Str := ["letters", "number"]
def G_p_nth_walk : List Str := ["need_letters", "need_number", "walk_at"]
theorem sc_p_nth_walk : FnScope N_p_nth_walk ["letters", "number"] (defScope s_p_nth_walk) := ⟨rfl, rfl, rfl, by decide +kernel, rfl, by decide +kernel, by decide +kernel⟩
abbrev sp_p_nth_walk (K : PySem.W.Frag) : Sp := spZ (α := (Int × Int)) (β := (List Int)) (fun a => [(dat (PyData.int a.1)), (dat (PyData.int a.2))]) (fun a => []) (fun a => m_p_nth_walk a.1 a.2) (fun a b => (dat (PyData.tuple (List.map PyData.int b)))) (fun a b => [])
set_option maxHeartbeats 4000000 in
theorem body_p_nth_walk {X : Cx} (hsc : X.env.scope = defScope s_p_nth_walk) (B : Bd X N_p_nth_walk V_p_nth_walk G_p_nth_walk 3) (T : Bt X V_p_nth_walk) (c_p_need_letters : Cal X.prog X.w X.K X.mg X.base 3 "need_letters" s_p_need_letters ["letters"] (sp_p_need_letters X.K)) (c_p_need_number : Cal X.prog X.w X.K X.mg X.base 1 "need_number" s_p_need_number ["number", "low", "high"] (sp_p_need_number X.K)) (c_p_walk_at : Cal X.prog X.w X.K X.mg X.base 3 "walk_at" s_p_walk_at ["letters", "number"] (sp_p_walk_at X.K)) (letters : Int) (number : Int) (b : (List Int)) (F0 : Hp) (os : Os) (D : Ends) (hm : m_p_nth_walk letters number = some b) (R : RetZ F0 (os) (dat (PyData.tuple (List.map PyData.int b))) D) :
    SX X [sl (dat (PyData.int letters)), sl (dat (PyData.int number))] (os) F0 (defBody s_p_nth_walk) D := by
  unfold m_p_nth_walk at hm
  obtain ⟨t1, h1, hm⟩ := bnd hm
  refine sx_expr (ex_call (a := letters) (b := t1) (gi := 0) (rest := os) B rfl c_p_need_letters (by decide) h1 (ax_cons (ex_v (i := 0) (j := 0) B rfl rfl rfl) ax_nil)) ?_
  obtain ⟨t2, h2, hm⟩ := bnd hm
  refine sx_expr (ex_call (a := (number, 0, ())) (b := t2) (gi := 1) (rest := os) B rfl c_p_need_number (by decide) h2 (ax_cons (ex_v (i := 1) (j := 1) B rfl rfl rfl) (ax_cons ex_int (ax_cons ex_none ax_nil)))) ?_
  obtain ⟨t3, h3, hm⟩ := bnd hm
  obtain rfl := som hm
  exact sx_ret (ex_call (a := (letters, number)) (b := t3) (gi := 2) (rest := os) B rfl c_p_walk_at (by decide) h3 (ax_cons (ex_v (i := 0) (j := 0) B rfl rfl rfl) (ax_cons (ex_v (i := 1) (j := 1) B rfl rfl rfl) ax_nil))) (fun F H v e o c => R.rt F H v e o c)
theorem cal_p_nth_walk {P : Program} {w : World} {K : PySem.W.Frag} {mg : Str → Option Value} {base : Heap} {f : Addr} {fd : FuncData} (Fn : Fun K "nth_walk" "nth_walk" s_p_nth_walk f fd) (hmg : mg "nth_walk" = some (.ref f)) (hb : Binds K fd ["letters", "number"] []) (c_p_need_letters : Cal P w K mg base 3 "need_letters" s_p_need_letters ["letters"] (sp_p_need_letters K)) (c_p_need_number : Cal P w K mg base 1 "need_number" s_p_need_number ["number", "low", "high"] (sp_p_need_number K)) (c_p_walk_at : Cal P w K mg base 3 "walk_at" s_p_walk_at ["letters", "number"] (sp_p_walk_at K)) : Cal P w K mg base 4 "nth_walk" s_p_nth_walk ["letters", "number"] (sp_p_nth_walk K) :=
  cal_Z (V := V_p_nth_walk) (Gs := G_p_nth_walk) (nl := 0) Fn sc_p_nth_walk (by decide +kernel) (by decide +kernel) hmg hb (fun _ => rfl) rfl fun _ _ _ _ _ _ _ a b F0 os D B T hm R => body_p_nth_walk rfl B T c_p_need_letters c_p_need_number c_p_walk_at a.1 a.2 b F0 os D hm R
/-! ### number_of -/
abbrev s_p_number_of : Stmt := top 26
def N_p_number_of : List Str := ["letters", "walk"]
def V_p_number_of : List Str := ["letters", "walk"]
def G_p_number_of : List Str := ["need_letters", "need_walk", "number_in", "straightened"]
theorem sc_p_number_of : FnScope N_p_number_of ["letters", "walk"] (defScope s_p_number_of) := ⟨rfl, rfl, rfl, by decide +kernel, rfl, by decide +kernel, by decide +kernel⟩
abbrev sp_p_number_of (K : PySem.W.Frag) : Sp := spZ (α := (Int × (List Int))) (β := Int) (fun a => [(dat (PyData.int a.1)), (dat (PyData.tuple (List.map PyData.int a.2)))]) (fun a => []) (fun a => m_p_number_of a.1 a.2) (fun a b => (dat (PyData.int b))) (fun a b => [])
set_option maxHeartbeats 4000000 in
theorem body_p_number_of {X : Cx} (hsc : X.env.scope = defScope s_p_number_of) (B : Bd X N_p_number_of V_p_number_of G_p_number_of 4) (T : Bt X V_p_number_of) (c_p_need_letters : Cal X.prog X.w X.K X.mg X.base 3 "need_letters" s_p_need_letters ["letters"] (sp_p_need_letters X.K)) (c_p_need_walk : Cal X.prog X.w X.K X.mg X.base 4 "need_walk" s_p_need_walk ["walk", "letters"] (sp_p_need_walk X.K)) (c_p_number_in : Cal X.prog X.w X.K X.mg X.base 3 "number_in" s_p_number_in ["letters", "walk"] (sp_p_number_in X.K)) (c_p_straightened : Cal X.prog X.w X.K X.mg X.base 1 "straightened" s_p_straightened ["walk"] (sp_p_straightened X.K)) (letters : Int) (walk : (List Int)) (b : Int) (F0 : Hp) (os : Os) (D : Ends) (hm : m_p_number_of letters walk = some b) (R : RetZ F0 (os) (dat (PyData.int b)) D) :
    SX X [sl (dat (PyData.int letters)), sl (dat (PyData.tuple (List.map PyData.int walk)))] (os) F0 (defBody s_p_number_of) D := by
  unfold m_p_number_of at hm
  obtain ⟨t1, h1, hm⟩ := bnd hm
  refine sx_expr (ex_call (a := letters) (b := t1) (gi := 0) (rest := os) B rfl c_p_need_letters (by decide) h1 (ax_cons (ex_v (i := 0) (j := 0) B rfl rfl rfl) ax_nil)) ?_
  obtain ⟨t2, h2, hm⟩ := bnd hm
  refine sx_expr (ex_call (a := (walk, letters)) (b := t2) (gi := 1) (rest := os) B rfl c_p_need_walk (by decide) h2 (ax_cons (ex_v (i := 1) (j := 1) B rfl rfl rfl) (ax_cons (ex_v (i := 0) (j := 0) B rfl rfl rfl) ax_nil))) ?_
  obtain ⟨t3, h3, hm⟩ := bnd hm
  obtain ⟨t4, h4, hm⟩ := bnd hm
  obtain rfl := som hm
  exact sx_ret (ex_call (a := (letters, t3)) (b := t4) (gi := 2) (rest := os) B rfl c_p_number_in (by decide) h4 (ax_cons (ex_v (i := 0) (j := 0) B rfl rfl rfl) (ax_cons (ex_call (a := walk) (b := t3) (gi := 3) (rest := os) B rfl c_p_straightened (by decide) h3 (ax_cons (ex_v (i := 1) (j := 1) B rfl rfl rfl) ax_nil)) ax_nil))) (fun F H v e o c => R.rt F H v e o c)
theorem cal_p_number_of {P : Program} {w : World} {K : PySem.W.Frag} {mg : Str → Option Value} {base : Heap} {f : Addr} {fd : FuncData} (Fn : Fun K "number_of" "number_of" s_p_number_of f fd) (hmg : mg "number_of" = some (.ref f)) (hb : Binds K fd ["letters", "walk"] []) (c_p_need_letters : Cal P w K mg base 3 "need_letters" s_p_need_letters ["letters"] (sp_p_need_letters K)) (c_p_need_walk : Cal P w K mg base 4 "need_walk" s_p_need_walk ["walk", "letters"] (sp_p_need_walk K)) (c_p_number_in : Cal P w K mg base 3 "number_in" s_p_number_in ["letters", "walk"] (sp_p_number_in K)) (c_p_straightened : Cal P w K mg base 1 "straightened" s_p_straightened ["walk"] (sp_p_straightened K)) : Cal P w K mg base 5 "number_of" s_p_number_of ["letters", "walk"] (sp_p_number_of K) :=
  cal_Z (V := V_p_number_of) (Gs := G_p_number_of) (nl := 0) Fn sc_p_number_of (by decide +kernel) (by decide +kernel) hmg hb (fun _ => rfl) rfl fun _ _ _ _ _ _ _ a b F0 os D B T hm R => body_p_number_of rfl B T c_p_need_letters c_p_need_walk c_p_number_in c_p_straightened a.1 a.2 b F0 os D hm R
/-! ### next_walk -/
abbrev s_p_next_walk : Stmt := top 27
def N_p_next_walk : List Str := ["letters", "walk"]
def V_p_next_walk : List Str := ["letters", "walk"]
def G_p_next_walk : List Str := ["need_letters", "need_walk", "walk_at", "number_in", "straightened"]
theorem sc_p_next_walk : FnScope N_p_next_walk ["letters", "walk"] (defScope s_p_next_walk) := ⟨rfl, rfl, rfl, by decide +kernel, rfl, by decide +kernel, by decide +kernel⟩
abbrev sp_p_next_walk (K : PySem.W.Frag) : Sp := spZ (α := (Int × (List Int))) (β := (List Int)) (fun a => [(dat (PyData.int a.1)), (dat (PyData.tuple (List.map PyData.int a.2)))]) (fun a => []) (fun a => m_p_next_walk a.1 a.2) (fun a b => (dat (PyData.tuple (List.map PyData.int b)))) (fun a b => [])
set_option maxHeartbeats 4000000 in
theorem body_p_next_walk {X : Cx} (hsc : X.env.scope = defScope s_p_next_walk) (B : Bd X N_p_next_walk V_p_next_walk G_p_next_walk 4) (T : Bt X V_p_next_walk) (c_p_need_letters : Cal X.prog X.w X.K X.mg X.base 3 "need_letters" s_p_need_letters ["letters"] (sp_p_need_letters X.K)) (c_p_need_walk : Cal X.prog X.w X.K X.mg X.base 4 "need_walk" s_p_need_walk ["walk", "letters"] (sp_p_need_walk X.K)) (c_p_walk_at : Cal X.prog X.w X.K X.mg X.base 3 "walk_at" s_p_walk_at ["letters", "number"] (sp_p_walk_at X.K)) (c_p_number_in : Cal X.prog X.w X.K X.mg X.base 3 "number_in" s_p_number_in ["letters", "walk"] (sp_p_number_in X.K)) (c_p_straightened : Cal X.prog X.w X.K X.mg X.base 1 "straightened" s_p_straightened ["walk"] (sp_p_straightened X.K)) (letters : Int) (walk : (List Int)) (b : (List Int)) (F0 : Hp) (os : Os) (D : Ends) (hm : m_p_next_walk letters walk = some b) (R : RetZ F0 (os) (dat (PyData.tuple (List.map PyData.int b))) D) :
    SX X [sl (dat (PyData.int letters)), sl (dat (PyData.tuple (List.map PyData.int walk)))] (os) F0 (defBody s_p_next_walk) D := by
  unfold m_p_next_walk at hm
  obtain ⟨t1, h1, hm⟩ := bnd hm
  refine sx_expr (ex_call (a := letters) (b := t1) (gi := 0) (rest := os) B rfl c_p_need_letters (by decide) h1 (ax_cons (ex_v (i := 0) (j := 0) B rfl rfl rfl) ax_nil)) ?_
  obtain ⟨t2, h2, hm⟩ := bnd hm
  refine sx_expr (ex_call (a := (walk, letters)) (b := t2) (gi := 1) (rest := os) B rfl c_p_need_walk (by decide) h2 (ax_cons (ex_v (i := 1) (j := 1) B rfl rfl rfl) (ax_cons (ex_v (i := 0) (j := 0) B rfl rfl rfl) ax_nil))) ?_
  obtain ⟨t3, h3, hm⟩ := bnd hm
  obtain ⟨t4, h4, hm⟩ := bnd hm
  obtain ⟨t5, h5, hm⟩ := bnd hm
  obtain rfl := som hm
  exact sx_ret (ex_call (a := (letters, (t4 + 1))) (b := t5) (gi := 2) (rest := os) B rfl c_p_walk_at (by decide) h5 (ax_cons (ex_v (i := 0) (j := 0) B rfl rfl rfl) (ax_cons (ex_add (ex_call (a := (letters, t3)) (b := t4) (gi := 3) (rest := os) B rfl c_p_number_in (by decide) h4 (ax_cons (ex_v (i := 0) (j := 0) B rfl rfl rfl) (ax_cons (ex_call (a := walk) (b := t3) (gi := 4) (rest := os) B rfl c_p_straightened (by decide) h3 (ax_cons (ex_v (i := 1) (j := 1) B rfl rfl rfl) ax_nil)) ax_nil))) ex_int) ax_nil))) (fun F H v e o c => R.rt F H v e o c)
theorem cal_p_next_walk {P : Program} {w : World} {K : PySem.W.Frag} {mg : Str → Option Value} {base : Heap} {f : Addr} {fd : FuncData} (Fn : Fun K "next_walk" "next_walk" s_p_next_walk f fd) (hmg : mg "next_walk" = some (.ref f)) (hb : Binds K fd ["letters", "walk"] []) (c_p_need_letters : Cal P w K mg base 3 "need_letters" s_p_need_letters ["letters"] (sp_p_need_letters K)) (c_p_need_walk : Cal P w K mg base 4 "need_walk" s_p_need_walk ["walk", "letters"] (sp_p_need_walk K)) (c_p_walk_at : Cal P w K mg base 3 "walk_at" s_p_walk_at ["letters", "number"] (sp_p_walk_at K)) (c_p_number_in : Cal P w K mg base 3 "number_in" s_p_number_in ["letters", "walk"] (sp_p_number_in K)) (c_p_straightened : Cal P w K mg base 1 "straightened" s_p_straightened ["walk"] (sp_p_straightened K)) : Cal P w K mg base 5 "next_walk" s_p_next_walk ["letters", "walk"] (sp_p_next_walk K) :=
  cal_Z (V := V_p_next_walk) (Gs := G_p_next_walk) (nl := 0) Fn sc_p_next_walk (by decide +kernel) (by decide +kernel) hmg hb (fun _ => rfl) rfl fun _ _ _ _ _ _ _ a b F0 os D B T hm R => body_p_next_walk rfl B T c_p_need_letters c_p_need_walk c_p_walk_at c_p_number_in c_p_straightened a.1 a.2 b F0 os D hm R
/-! ### _law_well -/
abbrev s_l_well : Stmt := top 29
def N_l_well : List Str := ["_law_script", "_law_k", "_law_cell", "_law_total", "_law_seed", "_law_one"]
def V_l_well : List Str := ["_law_script", "_law_k", "_law_cell", "_law_total", "_law_seed"]
def G_l_well : List Str := ["len", "sum", "int", "abs", "max"]
theorem sc_l_well : FnScope N_l_well ["_law_script", "_law_k"] (defScope s_l_well) := ⟨rfl, rfl, rfl, by decide +kernel, rfl, by decide +kernel, by decide +kernel⟩
abbrev sp_l_well (K : PySem.W.Frag) : Sp := spN (α := ((List Int) × Int)) (β := (List Int)) (fun a => [(scr K a.1), (dat (PyData.int a.2))]) (fun a => []) (fun a => m_l_well a.1 a.2) (fun a b => ol (List.map PyData.int b)) (fun a b => [])
set_option maxHeartbeats 4000000 in
theorem body_l_well {X : Cx} (hsc : X.env.scope = defScope s_l_well) (B : Bd X N_l_well V_l_well G_l_well 0) (T : Bt X V_l_well) (g_len : X.mg "len" = none) (g_sum : X.mg "sum" = none) (g_int : X.mg "int" = none) (g_abs : X.mg "abs" = none) (g_max : X.mg "max" = none) (script : (List Int)) (k_ : Int) (b : (List Int)) (F0 : Hp) (os : Os) (D : Ends) (hm : m_l_well script k_ = some b) (R : RetN F0 (os) (ol (List.map PyData.int b)) D) :
    SX X [sl (scr X.K script), sl (dat (PyData.int k_)), un, un, un, un] (os) F0 (defBody s_l_well) D := by
  unfold m_l_well at hm
  refine sx_asg (i := 2) (vi := 2) (φ := (dat (PyData.int ((11 * k_) + 6)))) B T rfl rfl (ex_add (ex_mulL (by decide) ex_int (ex_v (i := 1) (j := 1) B rfl rfl rfl)) ex_int) ?_
  obtain ⟨s2, h_s2, hm⟩ := bnd hm
  refine sx_join [sl (scr X.K script), sl (dat (PyData.int k_)), sl (dat (PyData.int s2)), un, un, un] (os) (?_) (fun Q => ?_)
  · clear h_s2
    obtain ⟨t5, h5, hm⟩ := bnd hm
    refine sx_asg (i := 3) (vi := 3) (φ := (dat (PyData.int t5.sum))) B T rfl rfl (ex_fn (j := 1) B rfl g_sum (by decide +kernel) (cr_sum B.calm) (rc_sum rdl_dat) (ax_cons (EN.ex (en_lc (lc_mk1 (j := 5) (vp := fun one3 => (dat (PyData.int one3))) (c := anyOs) (enc := PyData.int) (fun (_ : Unit) (one3 : Int) => some (some (one3 % 1000000000000000000000000103), ())) (fun (_ : Unit) (tl1 : Os) => tl1) () (t5) () B rfl rfl (by rw [B.hN, hsc]; decide +kernel) (by rw [hsc]; decide +kernel) (by decide) (lcT_ok h5) (ix_list (enc := PyData.int) (c := anyOs) (ex_v (i := 0) (j := 0) B rfl rfl rfl) (fun _ _ => rdl_scr) trivial) (fun _ _ => trivial) (fun _ _ _ => List.Perm.refl _) (fun _ one3 t tl1 hx hf => by (obtain rfl := som hf; exact ⟨true, _, fun X1 hX => by (have B1 := Bd.fam (W' := ["_law_one"]) (G' := ["int"]) B hX (by (try rw [hsc]); decide +kernel); have g_int' := fam_mg hX g_int; exact ⟨.nil, fun _ => ⟨_, rfl, (ex_mod (modO_lit (j := 1000000000000000000000000103) (by decide)) (ex_ty (j := 0) B1 rfl g_int' (by decide +kernel) call_int1 rc_intI (ax_cons (ex_v (i := 5) (j := 0) B1 rfl rfl rfl) ax_nil)) (EX.to (d' := PyData.int 1000000000000000000000000103) (ex_add (ex_pow (m := 1000000000000000000000000000) (by decide +kernel) ex_int ex_int) ex_int) (by rfl)))⟩, fun h => Bool.noConfusion h⟩)⟩))))) ax_nil)) ?_
    obtain ⟨seed6, h7, hm⟩ := bnd hm
    have h7 := som h7
    refine sx_asg (i := 4) (vi := 4) (φ := (dat (PyData.int seed6))) B T rfl rfl (EX.to (ex_mod (modO_lit (j := 10000000000000000000000000000033) (by decide)) (ex_ty (j := 2) B rfl g_int (by decide +kernel) call_int1 rc_intI (ax_cons (ex_add (ex_add (ex_add (ex_mulR (by decide) (ex_fn (j := 3) B rfl g_abs (by decide +kernel) call_abs rc_abs (ax_cons (ex_v (i := 2) (j := 2) B rfl rfl rfl) ax_nil)) ex_int) (ex_mulL (by decide) ex_int (ex_v (i := 3) (j := 3) B rfl rfl rfl))) (ex_mulL (by decide) ex_int (ex_v (i := 1) (j := 1) B rfl rfl rfl))) (ex_ty (j := 2) B rfl g_int (by decide +kernel) call_int1 rc_intB (ax_cons (ex_cmp op_lt r2_lt (nomark _) (ex_v (i := 2) (j := 2) B rfl rfl rfl) ex_int) ax_nil))) ax_nil)) (EX.to (d' := PyData.int 10000000000000000000000000000033) (ex_add (ex_pow (m := 10000000000000000000000000000000) (by decide +kernel) ex_int ex_int) ex_int) (by rfl))) (congrArg (fun z_ => (PyData.int z_)) h7)) ?_
    obtain rfl := som hm
    exact sx_retN (en_lst (ds := [(PyData.int (maxI 0 (s2 - 1000000000000000000))), (PyData.int seed6), (PyData.int 0)]) (hl := len_ok (n := 3) rfl) (ax_cons (ex_fn (j := 4) B rfl g_max (by decide +kernel) (call_max2 B.calm) rc_max (ax_cons ex_int (ax_cons (ex_sub (ex_v (i := 2) (j := 2) B rfl rfl rfl) (ex_pow (m := 1000000000000000000) (by decide +kernel) ex_int ex_int)) ax_nil))) (ax_cons (ex_v (i := 4) (j := 4) B rfl rfl rfl) (ax_cons ex_int ax_nil)))) (fun F H p e o => R.rt F H p e o)
  · have hm := h_s2
    refine sx_if (tx_cmp op_lt r2_lt (nomark _) (ex_v (i := 1) (j := 1) B rfl rfl rfl) (EX.to (ex_fn (j := 0) B rfl g_len (by decide +kernel) call_len_seq (rc_lenL (ds := List.map PyData.int script) rdl_scr) (ax_cons (ex_v (i := 0) (j := 0) B rfl rfl rfl) ax_nil)) (by rw [List.length_map]))) (fun hk => ?_) (fun hk => ?_)
    · have hm := ifT hm hk
      obtain ⟨t1, h1, hm⟩ := bnd hm
      refine sx_asg (i := 2) (vi := 2) (φ := (dat (PyData.int t1))) B T rfl rfl (ex_idxL (enc := PyData.int) h1 rdl_scr (ex_v (i := 0) (j := 0) B rfl rfl rfl) (ex_v (i := 1) (j := 1) B rfl rfl rfl)) ?_
      obtain rfl := som hm
      exact sx_fall Q rfl
    · have hm := ifF hm hk
      obtain rfl := som hm
      exact sx_fall Q rfl
theorem cal_l_well {P : Program} {w : World} {K : PySem.W.Frag} {mg : Str → Option Value} {base : Heap} {f : Addr} {fd : FuncData} (Fn : Fun K "_law_well" "_law_well" s_l_well f fd) (hmg : mg "_law_well" = some (.ref f)) (hb : Binds K fd ["_law_script", "_law_k"] []) (g_len : mg "len" = none) (g_sum : mg "sum" = none) (g_int : mg "int" = none) (g_abs : mg "abs" = none) (g_max : mg "max" = none) : Cal P w K mg base 1 "_law_well" s_l_well ["_law_script", "_law_k"] (sp_l_well K) :=
  cal_N (V := V_l_well) (Gs := G_l_well) (nl := 4) Fn sc_l_well (by decide +kernel) (by decide +kernel) hmg hb (fun _ => rfl) rfl fun _ _ _ _ _ _ _ a b F0 os D B T hm R => body_l_well rfl B T g_len g_sum g_int g_abs g_max a.1 a.2 b F0 os D hm R
/-! ### _law_take -/
abbrev s_l_take : Stmt := top 30
def N_l_take : List Str := ["_law_well_here", "_law_many_here", "_law_found", "_law_mixed"]
def V_l_take : List Str := ["_law_well_here", "_law_many_here", "_law_found", "_law_mixed"]
def G_l_take : List Str := ["int"]
theorem sc_l_take : FnScope N_l_take ["_law_well_here", "_law_many_here"] (defScope s_l_take) := ⟨rfl, rfl, rfl, by decide +kernel, rfl, by decide +kernel, by decide +kernel⟩
abbrev sp_l_take (K : PySem.W.Frag) : Sp := spZ (α := (Addr × (List Int) × Int)) (β := (Int × (List Int))) (fun a => [own a.1, (dat (PyData.int a.2.2))]) (fun a => (a.1, ol (List.map PyData.int a.2.1)) :: []) (fun a => m_l_take a.2.1 a.2.2) (fun a b => (dat (PyData.int b.1))) (fun a b => (a.1, ol (List.map PyData.int b.2)) :: [])
set_option maxHeartbeats 4000000 in
theorem body_l_take {X : Cx} (hsc : X.env.scope = defScope s_l_take) (B : Bd X N_l_take V_l_take G_l_take 0) (T : Bt X V_l_take) (g_int : X.mg "int" = none) (q_well_here : Addr) (w_well_here : (List Int)) (many_here : Int) (b : (Int × (List Int))) (F0 : Hp) (os : Os) (D : Ends) (hm : m_l_take w_well_here many_here = some b) (R : RetZ F0 ((q_well_here, ol (List.map PyData.int b.2)) :: os) (dat (PyData.int b.1)) D) :
    SX X [sl (own q_well_here), sl (dat (PyData.int many_here)), un, un] ((q_well_here, ol (List.map PyData.int w_well_here)) :: os) F0 (defBody s_l_take) D := by
  unfold m_l_take at hm
  obtain ⟨t1, h1, hm⟩ := bnd hm
  refine sx_if (tx_cmp op_gt r2_gt (nomark _) (ex_idxL (enc := PyData.int) h1 (rdl_own 0 rfl) (ex_v (i := 0) (j := 0) B rfl rfl rfl) ex_int) ex_int) (fun hk => ?_) (fun hk => ?_)
  · have hm := ifT hm hk
    obtain ⟨t2, h2, hm⟩ := bnd hm
    obtain ⟨t3, h3, hm⟩ := bnd hm
    refine sx_asg (i := 2) (vi := 2) (φ := (dat (PyData.int t3))) B T rfl rfl (ex_mod h3 (ex_ty (j := 0) B rfl g_int (by decide +kernel) call_int1 rc_intI (ax_cons (ex_idxL (enc := PyData.int) h2 (rdl_own 0 rfl) (ex_v (i := 0) (j := 0) B rfl rfl rfl) ex_int) ax_nil)) (ex_v (i := 1) (j := 1) B rfl rfl rfl)) ?_
    obtain ⟨t4, h4, hm⟩ := bnd hm
    obtain ⟨t5, h5, hm⟩ := bnd hm
    obtain ⟨t6, h6, hm⟩ := bnd hm
    refine sx_setO (enc := PyData.int) (j := 0) h6 (ex_fdiv h5 (ex_idxL (enc := PyData.int) h4 (rdl_own 0 rfl) (ex_v (i := 0) (j := 0) B rfl rfl rfl) ex_int) (ex_v (i := 1) (j := 1) B rfl rfl rfl)) (ex_v (i := 0) (j := 0) B rfl rfl rfl) ex_int rfl ?_
    obtain rfl := som hm
    exact sx_ret (ex_v (i := 2) (j := 2) B rfl rfl rfl) (fun F H v e o c => R.rt F H v e o c)
  · have hm := ifF hm hk
    refine sx_fall ?_ rfl
    obtain ⟨t7, h7, hm⟩ := bnd hm
    obtain ⟨t8, h8, hm⟩ := bnd hm
    refine sx_setO (enc := PyData.int) (j := 0) h8 (ex_add (ex_idxL (enc := PyData.int) h7 (rdl_own 0 rfl) (ex_v (i := 0) (j := 0) B rfl rfl rfl) ex_int) ex_int) (ex_v (i := 0) (j := 0) B rfl rfl rfl) ex_int rfl ?_
    obtain ⟨t9, h9, hm⟩ := bnd hm
    obtain ⟨t10, h10, hm⟩ := bnd hm
    obtain ⟨t11, h11, hm⟩ := bnd hm
    obtain ⟨t12, h12, hm⟩ := bnd hm
    obtain ⟨mixed13, h14, hm⟩ := bnd hm
    have h14 := som h14
    refine sx_asg (i := 3) (vi := 3) (φ := (dat (PyData.int mixed13))) B T rfl rfl (EX.to (ex_mod (modO_lit (j := 1000000000000000000000000000000073) (by decide)) (ex_ty (j := 0) B rfl g_int (by decide +kernel) call_int1 rc_intI (ax_cons (ex_add (ex_pow h11 (ex_add (ex_idxL (enc := PyData.int) h9 (rdl_own 0 rfl) (ex_v (i := 0) (j := 0) B rfl rfl rfl) ex_int) (ex_mulL (by decide) ex_int (ex_idxL (enc := PyData.int) h10 (rdl_own 0 rfl) (ex_v (i := 0) (j := 0) B rfl rfl rfl) ex_int))) ex_int) (ex_mulL (by decide) ex_int (ex_idxL (enc := PyData.int) h12 (rdl_own 0 rfl) (ex_v (i := 0) (j := 0) B rfl rfl rfl) ex_int))) ax_nil)) (EX.to (d' := PyData.int 1000000000000000000000000000000073) (ex_add (ex_pow (m := 1000000000000000000000000000000000) (by decide +kernel) ex_int ex_int) ex_int) (by rfl))) (congrArg (fun z_ => (PyData.int z_)) h14)) ?_
    obtain ⟨t15, h15, hm⟩ := bnd hm
    obtain ⟨t16, h16, hm⟩ := bnd hm
    obtain rfl := som hm
    exact sx_ret (ex_mod h16 (ex_fdiv (fdivO_lit (j := 10007) (by decide) (by decide +kernel)) (ex_mod (modO_lit (j := 10000000000000000000000000000000193) (by decide)) (ex_ty (j := 0) B rfl g_int (by decide +kernel) call_int1 rc_intI (ax_cons (ex_mul h15 (ex_v (i := 3) (j := 3) B rfl rfl rfl) (ex_add (ex_v (i := 3) (j := 3) B rfl rfl rfl) ex_int)) ax_nil)) (EX.to (d' := PyData.int 10000000000000000000000000000000193) (ex_add (ex_pow (m := 10000000000000000000000000000000000) (by decide +kernel) ex_int ex_int) ex_int) (by rfl))) ex_int) (ex_v (i := 1) (j := 1) B rfl rfl rfl)) (fun F H v e o c => R.rt F H v e o c)
theorem cal_l_take {P : Program} {w : World} {K : PySem.W.Frag} {mg : Str → Option Value} {base : Heap} {f : Addr} {fd : FuncData} (Fn : Fun K "_law_take" "_law_take" s_l_take f fd) (hmg : mg "_law_take" = some (.ref f)) (hb : Binds K fd ["_law_well_here", "_law_many_here"] []) (g_int : mg "int" = none) : Cal P w K mg base 1 "_law_take" s_l_take ["_law_well_here", "_law_many_here"] (sp_l_take K) :=
  cal_Z (V := V_l_take) (Gs := G_l_take) (nl := 2) Fn sc_l_take (by decide +kernel) (by decide +kernel) hmg hb (fun _ => rfl) rfl fun _ _ _ _ _ _ _ a b F0 os D B T hm R => body_l_take rfl B T g_int a.1 a.2.1 a.2.2 b F0 os D hm R
/-! ### _law_walk -/
abbrev s_l_walk : Stmt := top 31
def N_l_walk : List Str := ["_law_well_here", "_law_letters", "_law_most", "_law_way", "_law_size", "_law_steps_here", "_law_third", "_law_turn", "_law_step"]
def V_l_walk : List Str := ["_law_well_here", "_law_letters", "_law_most", "_law_way", "_law_size", "_law_steps_here", "_law_third"]
def G_l_walk : List Str := ["_law_take", "int", "range", "tuple"]
theorem sc_l_walk : FnScope N_l_walk ["_law_well_here", "_law_letters", "_law_most"] (defScope s_l_walk) := ⟨rfl, rfl, rfl, by decide +kernel, rfl, by decide +kernel, by decide +kernel⟩
abbrev sp_l_walk (K : PySem.W.Frag) : Sp := spZ (α := (Addr × (List Int) × Int × Int)) (β := ((List Int) × (List Int))) (fun a => [own a.1, (dat (PyData.int a.2.2.1)), (dat (PyData.int a.2.2.2))]) (fun a => (a.1, ol (List.map PyData.int a.2.1)) :: []) (fun a => m_l_walk a.2.1 a.2.2.1 a.2.2.2) (fun a b => (dat (PyData.tuple (List.map PyData.int b.1)))) (fun a b => (a.1, ol (List.map PyData.int b.2)) :: [])
set_option maxHeartbeats 4000000 in
theorem body_l_walk {X : Cx} (hsc : X.env.scope = defScope s_l_walk) (B : Bd X N_l_walk V_l_walk G_l_walk 1) (T : Bt X V_l_walk) (c_l_take : Cal X.prog X.w X.K X.mg X.base 1 "_law_take" s_l_take ["_law_well_here", "_law_many_here"] (sp_l_take X.K)) (g_int : X.mg "int" = none) (g_range : X.mg "range" = none) (g_abs : X.mg "abs" = none) (g_tuple : X.mg "tuple" = none) (q_well_here : Addr) (w_well_here : (List Int)) (letters : Int) (most : Int) (b : ((List Int) × (List Int))) (F0 : Hp) (os : Os) (D : Ends) (hm : m_l_walk w_well_here letters most = some b) (R : RetZ F0 ((q_well_here, ol (List.map PyData.int b.2)) :: os) (dat (PyData.tuple (List.map PyData.int b.1))) D) :
    SX X [sl (own q_well_here), sl (dat (PyData.int letters)), sl (dat (PyData.int most)), un, un, un, un, un, un] ((q_well_here, ol (List.map PyData.int w_well_here)) :: os) F0 (defBody s_l_walk) D := by
  unfold m_l_walk at hm
  obtain ⟨t1, h1, hm⟩ := bnd hm
  obtain ⟨t2, h2, hm⟩ := bnd hm
  obtain ⟨t3, h3, hm⟩ := bnd hm
  obtain ⟨t4, h4, hm⟩ := bnd hm
  refine sx_par2 (i := 3) (j := 4) _ hsc B rfl rfl (by decide) (by decide +kernel) (by decide +kernel) (by intro env he; cases env; cases he; first | rfl | kernel_rfl) (aq_x (φ := (dat (PyData.int t1.1))) (ex_call (a := (q_well_here, w_well_here, 4)) (b := t1) (gi := 0) (rest := os) B rfl c_l_take (by decide) h1 (ax_cons (ex_v (i := 0) (j := 0) B rfl rfl rfl) (ax_cons ex_int ax_nil))) (aq_x (φ := (dat (PyData.int t4))) (ex_idxL (enc := PyData.int) h4 rdl_dat (EN.ex (en_lst (ds := [(PyData.int t2.1), (PyData.int most)]) (hl := len_ok (n := 2) rfl) (ax_cons (ex_call (a := (q_well_here, t1.2, (most + 1))) (b := t2) (gi := 0) (rest := os) B rfl c_l_take (by decide) h2 (ax_cons (ex_v (i := 0) (j := 0) B rfl rfl rfl) (ax_cons (ex_add (ex_v (i := 2) (j := 2) B rfl rfl rfl) ex_int) ax_nil))) (ax_cons (ex_v (i := 2) (j := 2) B rfl rfl rfl) ax_nil)))) (ex_ty (j := 1) B rfl g_int (by decide +kernel) call_int1 rc_intB (ax_cons (ex_cmp op_eq r2_eqI (nomark _) (ex_call (a := (q_well_here, t2.2, 6)) (b := t3) (gi := 0) (rest := os) B rfl c_l_take (by decide) h3 (ax_cons (ex_v (i := 0) (j := 0) B rfl rfl rfl) (ax_cons ex_int ax_nil))) ex_int) ax_nil))) aq_nil)) (fun v0 v1 os_ hr_ => ?_) (by rintro φs os_ ⟨_, rfl, _, rfl, rfl, rfl⟩; exact ⟨_, _, rfl⟩)
  obtain ⟨_, e0, _, e1, e8, e9⟩ := hr_
  cases e0; cases e1; cases e8; cases e9
  obtain ⟨t5, h5, hm⟩ := bnd hm
  obtain ⟨t11, h11, hm⟩ := bnd hm
  refine sx_asgLc (i := 5) B T rfl (by rw [hsc]; exact lcl_of (by decide +kernel)) (lc_mk1 (j := 7) (vp := fun turn6 => (dat (PyData.int turn6))) (c := anyOs) (enc := PyData.int) (fun (s7 : (List Int)) (turn6 : Int) => ((m_l_take s7 letters).bind fun t8 => (m_l_take t8.2 2).bind fun t9 => (mulO (1 + t8.1) (1 - (2 * t9.1))).bind fun t10 => some (some t10, t9.2))) (fun (s7 : (List Int)) (tl1 : Os) => (q_well_here, ol (List.map PyData.int s7)) :: tl1) t3.2 (t11.1) t11.2 B rfl rfl (by rw [B.hN, hsc]; decide +kernel) (by rw [hsc]; decide +kernel) (by decide) (lcE_ok h11) (ix_rng1 (gi := 2) B rfl g_range h5 (ex_v (i := 4) (j := 4) B rfl rfl rfl)) (fun _ _ => trivial) (fun _ _ _ => (List.Perm.swap _ _ _)) (fun s7 turn6 t tl1 hx hf => by (obtain ⟨t8, h8, hf⟩ := bnd hf; obtain ⟨t9, h9, hf⟩ := bnd hf; obtain ⟨t10, h10, hf⟩ := bnd hf; obtain rfl := som hf; exact ⟨true, _, fun X1 hX => by (have B1 := Bd.fam (W' := ["_law_well_here", "_law_letters"]) (G' := ["_law_take"]) B hX (by (try rw [hsc]); decide +kernel); have c_l_take' := fam_cal hX c_l_take; exact ⟨.nil, fun _ => ⟨_, rfl, (ex_mul h10 (ex_add ex_int (ex_call (a := (q_well_here, s7, letters)) (b := t8) (gi := 0) (rest := tl1) B1 rfl c_l_take' (by decide) h8 (ax_cons (ex_v (i := 0) (j := 0) B1 rfl rfl rfl) (ax_cons (ex_v (i := 1) (j := 1) B1 rfl rfl rfl) ax_nil)))) (ex_sub ex_int (ex_mulL (by decide) ex_int (ex_call (a := (q_well_here, t8.2, 2)) (b := t9) (gi := 0) (rest := tl1) B1 rfl c_l_take' (by decide) h9 (ax_cons (ex_v (i := 0) (j := 0) B1 rfl rfl rfl) (ax_cons ex_int ax_nil))))))⟩, fun h => Bool.noConfusion h⟩)⟩))) (sw_ok (by rw [hsc]; decide +kernel) (by rw [hsc]; exact lcl_of (by decide +kernel)) (by decide) (by decide +kernel)) (fun q_steps_here11 => ?_)
  refine sx_frz (j := 0) (i := 5) rfl rfl ?_
  obtain ⟨s14, h_s14, hm⟩ := bnd hm
  refine sx_join [sl (own q_well_here), sl (dat (PyData.int letters)), sl (dat (PyData.int most)), sl (dat (PyData.int t1.1)), sl (dat (PyData.int t4)), sl (dat (PyData.list (List.map PyData.int s14.1))), un, un, un] ((q_well_here, ol (List.map PyData.int s14.2)) :: os) (?_) (fun Q => ?_)
  · clear h_s14
    obtain ⟨s19, h_s19, hm⟩ := bnd hm
    refine sx_join [sl (own q_well_here), sl (dat (PyData.int letters)), sl (dat (PyData.int most)), sl (dat (PyData.int t1.1)), sl (dat (PyData.int t4)), sl (dat (PyData.list (List.map PyData.int s19))), un, un, un] ((q_well_here, ol (List.map PyData.int s14.2)) :: os) (?_) (fun Q => ?_)
    · clear h_s19
      obtain ⟨s23, h_s23, hm⟩ := bnd hm
      refine sx_join [sl (own q_well_here), sl (dat (PyData.int letters)), sl (dat (PyData.int most)), sl (dat (PyData.int t1.1)), sl (dat (PyData.int t4)), sl (dat (PyData.list (List.map PyData.int s23))), un, un, un] ((q_well_here, ol (List.map PyData.int s14.2)) :: os) (?_) (fun Q => ?_)
      · clear h_s23
        obtain rfl := som hm
        exact sx_ret (ex_ty (j := 3) B rfl g_tuple (by decide +kernel) call_tuple_of (rc_tupL (ds := List.map PyData.int s23) rdl_dat) (ax_cons (ex_v (i := 5) (j := 5) B rfl rfl rfl) ax_nil)) (fun F H v e o c => R.rt F H v e o c)
      · have hm := h_s23
        refine sx_if (tx_cmp op_eq r2_eqI (nomark _) (ex_v (i := 3) (j := 3) B rfl rfl rfl) ex_int) (fun hk => ?_) (fun hk => ?_)
        · have hm := ifT hm hk
          obtain ⟨t22, h22, hm⟩ := bnd hm
          refine sx_asgLc (i := 5) B T rfl (by rw [hsc]; exact lcl_of (by decide +kernel)) (lc_mk1 (j := 8) (vp := fun step20 => (dat (PyData.int step20))) (c := anyOs) (enc := PyData.int) (fun (_ : Unit) (step20 : Int) => some (some (absI step20), ())) (fun (_ : Unit) (tl1 : Os) => (q_well_here, ol (List.map PyData.int s14.2)) :: tl1) () (t22) () B rfl rfl (by rw [B.hN, hsc]; decide +kernel) (by rw [hsc]; decide +kernel) (by decide) (lcT_ok h22) (ix_list (enc := PyData.int) (c := anyOs) (ex_v (i := 5) (j := 5) B rfl rfl rfl) (fun _ _ => rdl_dat) trivial) (fun _ _ => trivial) (fun _ _ _ => (List.Perm.swap _ _ _)) (fun _ step20 t tl1 hx hf => by (obtain rfl := som hf; exact ⟨true, _, fun X1 hX => by (have B1 := Bd.fam (W' := ["_law_step"]) (G' := ["abs"]) B hX (by (try rw [hsc]); decide +kernel); have g_abs' := fam_mg hX g_abs; exact ⟨.nil, fun _ => ⟨_, rfl, (ex_fn (j := 0) B1 rfl g_abs' (by decide +kernel) call_abs rc_abs (ax_cons (ex_v (i := 8) (j := 0) B1 rfl rfl rfl) ax_nil))⟩, fun h => Bool.noConfusion h⟩)⟩))) (sw_ok (by rw [hsc]; decide +kernel) (by rw [hsc]; exact lcl_of (by decide +kernel)) (by decide) (by decide +kernel)) (fun q_steps_here22 => ?_)
          refine sx_frz (j := 0) (i := 5) rfl rfl ?_
          obtain rfl := som hm
          exact sx_fall Q rfl
        · have hm := ifF hm hk
          obtain rfl := som hm
          exact sx_fall Q rfl
    · have hm := h_s19
      refine sx_if (tx_cmp op_eq r2_eqI (nomark _) (ex_v (i := 3) (j := 3) B rfl rfl rfl) ex_int) (fun hk => ?_) (fun hk => ?_)
      · have hm := ifT hm hk
        refine sx_asg (i := 6) (vi := 6) (φ := (dat (PyData.int (t4 / 3)))) B T rfl rfl (ex_fdiv (fdivO_lit (j := 3) (by decide) (by decide +kernel)) (ex_v (i := 4) (j := 4) B rfl rfl rfl) ex_int) ?_
        obtain ⟨t17, h17, hm⟩ := bnd hm
        obtain ⟨t18, h18, hm⟩ := bnd hm
        refine sx_asg (i := 5) (vi := 5) (φ := (dat (PyData.list (List.map PyData.int t18)))) B T rfl rfl (EN.ex (en_cat (enc := PyData.int) h18 (EN.ex (en_cut (enc := PyData.int) rdl_dat (ex_v (i := 5) (j := 5) B rfl rfl rfl) px_none (px_some (ex_sub (ex_v (i := 4) (j := 4) B rfl rfl rfl) (ex_v (i := 6) (j := 6) B rfl rfl rfl))))) (EN.ex (en_lc (lc_mk1 (j := 8) (vp := fun step15 => (dat (PyData.int step15))) (c := anyOs) (enc := PyData.int) (fun (_ : Unit) (step15 : Int) => some (some (-step15), ())) (fun (_ : Unit) (tl1 : Os) => (q_well_here, ol (List.map PyData.int s14.2)) :: tl1) () (t17) () B rfl rfl (by rw [B.hN, hsc]; decide +kernel) (by rw [hsc]; decide +kernel) (by decide) (lcT_ok h17) (ix_list (enc := PyData.int) (c := anyOs) (EN.ex (en_rev (enc := PyData.int) rdl_dat (EN.ex (en_cut (enc := PyData.int) rdl_dat (ex_v (i := 5) (j := 5) B rfl rfl rfl) px_none (px_some (ex_v (i := 6) (j := 6) B rfl rfl rfl)))))) (fun _ _ => rdl_dat) trivial) (fun _ _ => trivial) (fun _ _ _ => (List.Perm.swap _ _ _)) (fun _ step15 t tl1 hx hf => by (obtain rfl := som hf; exact ⟨true, _, fun X1 hX => by (have B1 := Bd.fam (W' := ["_law_step"]) (G' := []) B hX (by (try rw [hsc]); decide +kernel); exact ⟨.nil, fun _ => ⟨_, rfl, (ex_neg (ex_v (i := 8) (j := 0) B1 rfl rfl rfl))⟩, fun h => Bool.noConfusion h⟩)⟩))))))) ?_
        obtain rfl := som hm
        exact sx_fall (Q.weak ⟨.inl rfl, .inl rfl, .inl rfl, .inl rfl, .inl rfl, .inl rfl, .inr rfl, .inl rfl, .inl rfl, trivial⟩) rfl
      · have hm := ifF hm hk
        obtain rfl := som hm
        exact sx_fall Q rfl
  · have hm := h_s14
    refine sx_if (tx_cmp op_eq r2_eqI (nomark _) (ex_v (i := 3) (j := 3) B rfl rfl rfl) ex_int) (fun hk => ?_) (fun hk => ?_)
    · have hm := ifT hm hk
      obtain ⟨t12, h12, hm⟩ := bnd hm
      obtain ⟨t13, h13, hm⟩ := bnd hm
      refine sx_asg (i := 5) (vi := 5) (φ := (dat (PyData.list (List.map PyData.int (cut t13 none (some t4)))))) B T rfl rfl (EN.ex (en_cut (enc := PyData.int) rdl_dat (EN.ex (en_rep (enc := PyData.int) h13 (EN.ex (en_cut (enc := PyData.int) rdl_dat (ex_v (i := 5) (j := 5) B rfl rfl rfl) px_none (px_some (ex_add ex_int (ex_call (a := (q_well_here, t11.2, 4)) (b := t12) (gi := 0) (rest := os) B rfl c_l_take (by decide) h12 (ax_cons (ex_v (i := 0) (j := 0) B rfl rfl rfl) (ax_cons ex_int ax_nil))))))) (ex_v (i := 4) (j := 4) B rfl rfl rfl))) px_none (px_some (ex_v (i := 4) (j := 4) B rfl rfl rfl)))) ?_
      obtain rfl := som hm
      exact sx_fall Q rfl
    · have hm := ifF hm hk
      obtain rfl := som hm
      exact sx_fall Q rfl
theorem cal_l_walk {P : Program} {w : World} {K : PySem.W.Frag} {mg : Str → Option Value} {base : Heap} {f : Addr} {fd : FuncData} (Fn : Fun K "_law_walk" "_law_walk" s_l_walk f fd) (hmg : mg "_law_walk" = some (.ref f)) (hb : Binds K fd ["_law_well_here", "_law_letters", "_law_most"] []) (c_l_take : Cal P w K mg base 1 "_law_take" s_l_take ["_law_well_here", "_law_many_here"] (sp_l_take K)) (g_int : mg "int" = none) (g_range : mg "range" = none) (g_abs : mg "abs" = none) (g_tuple : mg "tuple" = none) : Cal P w K mg base 2 "_law_walk" s_l_walk ["_law_well_here", "_law_letters", "_law_most"] (sp_l_walk K) :=
  cal_Z (V := V_l_walk) (Gs := G_l_walk) (nl := 6) Fn sc_l_walk (by decide +kernel) (by decide +kernel) hmg hb (fun _ => rfl) rfl fun _ _ _ _ _ _ _ a b F0 os D B T hm R => body_l_walk rfl B T c_l_take g_int g_range g_abs g_tuple a.1 a.2.1 a.2.2.1 a.2.2.2 b F0 os D hm R
/-! ### _law_joined -/
abbrev s_l_joined : Stmt := top 33
def N_l_joined : List Str := ["_law_one", "_law_other", "_law_size"]
def V_l_joined : List Str := ["_law_one", "_law_other", "_law_size"]
def G_l_joined : List Str := ["len"]
theorem sc_l_joined : FnScope N_l_joined ["_law_one", "_law_other"] (defScope s_l_joined) := ⟨rfl, rfl, rfl, by decide +kernel, rfl, by decide +kernel, by decide +kernel⟩
abbrev sp_l_joined (K : PySem.W.Frag) : Sp := spZ (α := ((List Int) × (List Int))) (β := (List Int)) (fun a => [(dat (PyData.tuple (List.map PyData.int a.1))), (dat (PyData.tuple (List.map PyData.int a.2)))]) (fun a => []) (fun a => m_l_joined a.1 a.2) (fun a b => (dat (PyData.tuple (List.map PyData.int b)))) (fun a b => [])
set_option maxHeartbeats 4000000 in
theorem body_l_joined {X : Cx} (hsc : X.env.scope = defScope s_l_joined) (B : Bd X N_l_joined V_l_joined G_l_joined 0) (T : Bt X V_l_joined) (g_len : X.mg "len" = none) (one : (List Int)) (other : (List Int)) (b : (List Int)) (F0 : Hp) (os : Os) (D : Ends) (hm : m_l_joined one other = some b) (R : RetZ F0 (os) (dat (PyData.tuple (List.map PyData.int b))) D) :
    SX X [sl (dat (PyData.tuple (List.map PyData.int one))), sl (dat (PyData.tuple (List.map PyData.int other))), un] (os) F0 (defBody s_l_joined) D := by
  unfold m_l_joined at hm
  refine sx_asg (i := 2) (vi := 2) (φ := (dat (PyData.int 0))) B T rfl rfl ex_int ?_
  obtain ⟨f2o, h11, hm⟩ := bnd hm
  refine sx_while (fun (s1 : Int) => ((if (decide (s1 < (one.length : Int))) = true then ((if (decide (s1 < (other.length : Int))) = true then ((idx one (((one.length : Int) - 1) - s1)).bind fun t3 => (idx other s1).bind fun t4 => some (decide (t3 = (-t4)))) else some false).bind fun t5 => some t5) else some false).bind fun t6 => some t6)) (fun (s1 : Int) => (some (Step.go (s1 + 1)) : Option (Step (List Int) Int))) (fun (s1 : Int) (_ : Unit) => [sl (dat (PyData.tuple (List.map PyData.int one))), sl (dat (PyData.tuple (List.map PyData.int other))), sl (dat (PyData.int s1))]) (fun (s1 : Int) (_ : Unit) => os) (fun (r : (List Int)) v H => ∃ F, Same F0 F ∧ Ow F (os) H ∧ Cl (dat (PyData.tuple (List.map PyData.int r))) F v) T 1000 0 () f2o h11 ⟨.inl rfl, .inl rfl, .inl rfl, trivial⟩ rfl (fun s1 _ b hm => by (obtain ⟨t6, h6, hm⟩ := bnd hm; obtain rfl := som hm; exact (WX.tx (wx_and (l := t6) (tx_cmp op_lt r2_lt (nomark _) (ex_v (i := 2) (j := 2) B rfl rfl rfl) (EX.to (ex_fn (j := 0) B rfl g_len (by decide +kernel) call_len_seq (rc_lenT (ds := List.map PyData.int one) rdt_dat) (ax_cons (ex_v (i := 0) (j := 0) B rfl rfl rfl) ax_nil)) (by rw [List.length_map]))) (fun hk => by (have hm := ifT h6 hk; obtain ⟨t5, h5, hm⟩ := bnd hm; obtain rfl := som hm; exact (wx_and (l := t5) (tx_cmp op_lt r2_lt (nomark _) (ex_v (i := 2) (j := 2) B rfl rfl rfl) (EX.to (ex_fn (j := 0) B rfl g_len (by decide +kernel) call_len_seq (rc_lenT (ds := List.map PyData.int other) rdt_dat) (ax_cons (ex_v (i := 1) (j := 1) B rfl rfl rfl) ax_nil)) (by rw [List.length_map]))) (fun hk => by (have hm := ifT h5 hk; obtain ⟨t3, h3, hm⟩ := bnd hm; obtain ⟨t4, h4, hm⟩ := bnd hm; obtain rfl := som hm; exact (wx_and1 (tx_cmp op_eq r2_eqI (nomark _) (ex_idxT (enc := PyData.int) h3 rdt_dat (ex_v (i := 0) (j := 0) B rfl rfl rfl) (ex_sub (ex_sub (EX.to (ex_fn (j := 0) B rfl g_len (by decide +kernel) call_len_seq (rc_lenT (ds := List.map PyData.int one) rdt_dat) (ax_cons (ex_v (i := 0) (j := 0) B rfl rfl rfl) ax_nil)) (by rw [List.length_map])) ex_int) (ex_v (i := 2) (j := 2) B rfl rfl rfl))) (ex_neg (ex_idxT (enc := PyData.int) h4 rdt_dat (ex_v (i := 1) (j := 1) B rfl rfl rfl) (ex_v (i := 2) (j := 2) B rfl rfl rfl))))))) (fun hk => by (have hm := ifF h5 hk; obtain rfl := som hm; rfl)) (and_fix (fun hk => by (have hm := ifF h5 hk; obtain rfl := som hm; rfl)))))) (fun hk => by (have hm := ifF h6 hk; obtain rfl := som hm; rfl)) (and_fix (fun hk => by (have hm := ifF h6 hk; obtain rfl := som hm; rfl))))))) (fun F8 e7 s1 _ z12 _ hm => ?_) (fun f2 _ ho => ?_) (fun r10 v H ho hr => ?_)
  · clear h11
    refine sx_asg (i := 2) (vi := 2) (φ := (dat (PyData.int (s1 + 1)))) B T rfl rfl (ex_add (ex_v (i := 2) (j := 2) B rfl rfl rfl) ex_int) ?_
    exact sx_nil fun σ H a => ⟨_, (), (som hm).symm, (a.weak ⟨.inl rfl, .inl rfl, .inl rfl, trivial⟩)⟩
  · cases ho
    have hm := elimR hm
    obtain ⟨t9, h9, hm⟩ := bnd hm
    obtain rfl := som hm
    exact sx_ret (ex_catT (enc := PyData.int) h9 (ex_cutT (enc := PyData.int) rdt_dat (ex_v (i := 0) (j := 0) B rfl rfl rfl) px_none (px_some (ex_sub (EX.to (ex_fn (j := 0) B rfl g_len (by decide +kernel) call_len_seq (rc_lenT (ds := List.map PyData.int one) rdt_dat) (ax_cons (ex_v (i := 0) (j := 0) B rfl rfl rfl) ax_nil)) (by rw [List.length_map])) (ex_v (i := 2) (j := 2) B rfl rfl rfl)))) (ex_cutT (enc := PyData.int) rdt_dat (ex_v (i := 1) (j := 1) B rfl rfl rfl) (px_some (ex_v (i := 2) (j := 2) B rfl rfl rfl)) px_none)) (fun F H v e o c => R.rt F H v e o c)
  · cases ho
    have hm := elimL hm
    cases hm
theorem cal_l_joined {P : Program} {w : World} {K : PySem.W.Frag} {mg : Str → Option Value} {base : Heap} {f : Addr} {fd : FuncData} (Fn : Fun K "_law_joined" "_law_joined" s_l_joined f fd) (hmg : mg "_law_joined" = some (.ref f)) (hb : Binds K fd ["_law_one", "_law_other"] []) (g_len : mg "len" = none) : Cal P w K mg base 1 "_law_joined" s_l_joined ["_law_one", "_law_other"] (sp_l_joined K) :=
  cal_Z (V := V_l_joined) (Gs := G_l_joined) (nl := 1) Fn sc_l_joined (by decide +kernel) (by decide +kernel) hmg hb (fun _ => rfl) rfl fun _ _ _ _ _ _ _ a b F0 os D B T hm R => body_l_joined rfl B T g_len a.1 a.2 b F0 os D hm R
/-! ### _law_straight -/
abbrev s_l_straight : Stmt := top 34
def N_l_straight : List Str := ["_law_walk_here", "_law_left", "_law_step"]
def V_l_straight : List Str := ["_law_walk_here", "_law_left", "_law_step"]
def G_l_straight : List Str := ["_law_joined"]
theorem sc_l_straight : FnScope N_l_straight ["_law_walk_here"] (defScope s_l_straight) := ⟨rfl, rfl, rfl, by decide +kernel, rfl, by decide +kernel, by decide +kernel⟩
abbrev sp_l_straight (K : PySem.W.Frag) : Sp := spZ (α := (List Int)) (β := (List Int)) (fun a => [(dat (PyData.tuple (List.map PyData.int a)))]) (fun a => []) (fun a => m_l_straight a) (fun a b => (dat (PyData.tuple (List.map PyData.int b)))) (fun a b => [])
set_option maxHeartbeats 4000000 in
theorem body_l_straight {X : Cx} (hsc : X.env.scope = defScope s_l_straight) (B : Bd X N_l_straight V_l_straight G_l_straight 1) (T : Bt X V_l_straight) (c_l_joined : Cal X.prog X.w X.K X.mg X.base 1 "_law_joined" s_l_joined ["_law_one", "_law_other"] (sp_l_joined X.K)) (walk_here : (List Int)) (b : (List Int)) (F0 : Hp) (os : Os) (D : Ends) (hm : m_l_straight walk_here = some b) (R : RetZ F0 (os) (dat (PyData.tuple (List.map PyData.int b))) D) :
    SX X [sl (dat (PyData.tuple (List.map PyData.int walk_here))), un, un] (os) F0 (defBody s_l_straight) D := by
  unfold m_l_straight at hm
  refine sx_asg (i := 1) (vi := 1) (φ := (dat (PyData.tuple (List.map PyData.int ([] : (List Int)))))) B T rfl rfl (ex_tup (ds := []) ax_nil) ?_
  obtain ⟨f3, h7, hm⟩ := bnd hm
  refine sx_for (c := anyOs) (fun (s1 : (List Int)) (step2 : Int) => ((m_l_joined s1 ([step2])).bind fun t6 => some t6)) (fun (s1 : (List Int)) (_ : Unit) => [sl (dat (PyData.tuple (List.map PyData.int walk_here))), sl (dat (PyData.tuple (List.map PyData.int s1))), un]) (fun (s1 : (List Int)) (_ : Unit) => os) B T (fun step2 => gx_name (i := 2) (vi := 2) (φ := (dat (PyData.int step2))) B T rfl rfl) ([] : (List Int)) () f3 h7 (ix_tup (enc := PyData.int) (ex_v (i := 0) (j := 0) B rfl rfl rfl) rdt_dat) ⟨.inl rfl, .inl rfl, .inl rfl, trivial⟩ (fun _ _ => trivial) (fun F5 e4 s1 _ step2 z8 hx hm => ?_) (fun _ => ?_)
  · clear h7
    obtain ⟨t6, h6, hm⟩ := bnd hm
    refine sx_asg (i := 1) (vi := 1) (φ := (dat (PyData.tuple (List.map PyData.int t6)))) B T rfl rfl (ex_call (a := (s1, [step2])) (b := t6) (gi := 0) (rest := os) B rfl c_l_joined (by decide) h6 (ax_cons (ex_v (i := 1) (j := 1) B rfl rfl rfl) (ax_cons (ex_tup (ds := [(PyData.int step2)]) (hl := len_ok (n := 1) rfl) (ax_cons (ex_v (i := 2) (j := 2) B rfl rfl rfl) ax_nil)) ax_nil))) ?_
    obtain rfl := som hm
    exact sx_nil fun σ H a => ⟨(), (a.weak ⟨.inl rfl, .inl rfl, .inr rfl, trivial⟩)⟩
  · skip
    obtain rfl := som hm
    exact sx_ret (ex_v (i := 1) (j := 1) B rfl rfl rfl) (fun F H v e o c => R.rt F H v e o c)
theorem cal_l_straight {P : Program} {w : World} {K : PySem.W.Frag} {mg : Str → Option Value} {base : Heap} {f : Addr} {fd : FuncData} (Fn : Fun K "_law_straight" "_law_straight" s_l_straight f fd) (hmg : mg "_law_straight" = some (.ref f)) (hb : Binds K fd ["_law_walk_here"] []) (c_l_joined : Cal P w K mg base 1 "_law_joined" s_l_joined ["_law_one", "_law_other"] (sp_l_joined K)) : Cal P w K mg base 2 "_law_straight" s_l_straight ["_law_walk_here"] (sp_l_straight K) :=
  cal_Z (V := V_l_straight) (Gs := G_l_straight) (nl := 2) Fn sc_l_straight (by decide +kernel) (by decide +kernel) hmg hb (fun _ => rfl) rfl fun _ _ _ _ _ _ _ a b F0 os D B T hm R => body_l_straight rfl B T c_l_joined a b F0 os D hm R
/-! ### _law_is -/
abbrev s_l_is : Stmt := top 35
def N_l_is : List Str := ["_law_found", "_law_due", "_law_step"]
def V_l_is : List Str := ["_law_found", "_law_due"]
def G_l_is : List Str := ["isinstance", "tuple", "all"]
theorem sc_l_is : FnScope N_l_is ["_law_found", "_law_due"] (defScope s_l_is) := ⟨rfl, rfl, rfl, by decide +kernel, rfl, by decide +kernel, by decide +kernel⟩
abbrev sp_l_is (K : PySem.W.Frag) : Sp := spZ (α := ((List Int) × (List Int))) (β := Bool) (fun a => [(dat (PyData.tuple (List.map PyData.int a.1))), (dat (PyData.tuple (List.map PyData.int a.2)))]) (fun a => []) (fun a => m_l_is a.1 a.2) (fun a b => (dat (PyData.bool b))) (fun a b => [])
set_option maxHeartbeats 4000000 in
theorem body_l_is {X : Cx} (hsc : X.env.scope = defScope s_l_is) (B : Bd X N_l_is V_l_is G_l_is 0) (T : Bt X V_l_is) (g_isinstance : X.mg "isinstance" = none) (g_tuple : X.mg "tuple" = none) (g_all : X.mg "all" = none) (g_int : X.mg "int" = none) (g_bool : X.mg "bool" = none) (found : (List Int)) (due : (List Int)) (b : Bool) (F0 : Hp) (os : Os) (D : Ends) (hm : m_l_is found due = some b) (R : RetZ F0 (os) (dat (PyData.bool b)) D) :
    SX X [sl (dat (PyData.tuple (List.map PyData.int found))), sl (dat (PyData.tuple (List.map PyData.int due))), un] (os) F0 (defBody s_l_is) D := by
  unfold m_l_is at hm
  refine sx_if (WX.tx (wx_or (tx_not (tx_val (ex_fn (j := 0) B rfl g_isinstance (by decide +kernel) call_isi (rc_isi (d := (PyData.tuple (List.map PyData.int found))) (T := "tuple") (show kitB "tuple" "tuple" = some true by decide +kernel)) (ax_cons (ex_v (i := 0) (j := 0) B rfl rfl rfl) (ax_cons (ex_tyname (T := "tuple") (gi := 1) B rfl g_tuple (by decide +kernel)) ax_nil))) (by intro _; rfl))) (fun _ => (wx_or1 (tx_neR (e := (eT PyData.int)) (x := found) (y := due) B (eqv_tup eqv_int) (sh_tup sh_int) (by decide) rdx_dat rdx_dat (ex_v (i := 0) (j := 0) B rfl rfl rfl) (ex_v (i := 1) (j := 1) B rfl rfl rfl)))) (fun _ => rfl) rfl)) (fun hk => ?_) (fun hk => ?_)
  · have hm := ifT hm hk
    obtain rfl := som hm
    exact sx_ret ex_bool (fun F H v e o c => R.rt F H v e o c)
  · have hm := ifF hm hk
    refine sx_fall ?_ rfl
    obtain ⟨t3, h3, hm⟩ := bnd hm
    obtain rfl := som hm
    exact sx_ret (ex_fn (j := 2) B rfl g_all (by decide +kernel) (cr_all B.calm) (rc_all rdl_dat) (ax_cons (EN.ex (en_lc (lc_mk1 (j := 2) (vp := fun step1 => (dat (PyData.int step1))) (c := anyOs) (enc := PyData.bool) (fun (_ : Unit) (step1 : Int) => some (some (true && (!false)), ())) (fun (_ : Unit) (tl1 : Os) => tl1) () (t3) () B rfl rfl (by rw [B.hN, hsc]; decide +kernel) (by rw [hsc]; decide +kernel) (by decide) (lcT_ok h3) (ix_tup (enc := PyData.int) (ex_v (i := 0) (j := 0) B rfl rfl rfl) rdt_dat) (fun _ _ => trivial) (fun _ _ _ => List.Perm.refl _) (fun _ step1 t tl1 hx hf => by (obtain rfl := som hf; exact ⟨true, _, fun X1 hX => by (have B1 := Bd.fam (W' := ["_law_step"]) (G' := ["isinstance", "int", "bool"]) B hX (by (try rw [hsc]); decide +kernel); have g_isinstance' := fam_mg hX g_isinstance; have g_int' := fam_mg hX g_int; have g_bool' := fam_mg hX g_bool; exact ⟨.nil, fun _ => ⟨_, rfl, (ex_and (ex_fn (j := 0) B1 rfl g_isinstance' (by decide +kernel) call_isi (rc_isi (d := (PyData.int step1)) (T := "int") (show kitB "int" "int" = some true by decide +kernel)) (ax_cons (ex_v (i := 2) (j := 0) B1 rfl rfl rfl) (ax_cons (ex_tyname (T := "int") (gi := 1) B1 rfl g_int' (by decide +kernel)) ax_nil))) (fun _ => (ex_one (ex_not (ex_fn (j := 0) B1 rfl g_isinstance' (by decide +kernel) call_isi (rc_isi (d := (PyData.int step1)) (T := "bool") (show kitB "int" "bool" = some false by decide +kernel)) (ax_cons (ex_v (i := 2) (j := 0) B1 rfl rfl rfl) (ax_cons (ex_tyname (T := "bool") (gi := 2) B1 rfl g_bool' (by decide +kernel)) ax_nil)))))) (fun _ => rfl) rfl)⟩, fun h => Bool.noConfusion h⟩)⟩))))) ax_nil)) (fun F H v e o c => R.rt F H v e o c)
theorem cal_l_is {P : Program} {w : World} {K : PySem.W.Frag} {mg : Str → Option Value} {base : Heap} {f : Addr} {fd : FuncData} (Fn : Fun K "_law_is" "_law_is" s_l_is f fd) (hmg : mg "_law_is" = some (.ref f)) (hb : Binds K fd ["_law_found", "_law_due"] []) (g_isinstance : mg "isinstance" = none) (g_tuple : mg "tuple" = none) (g_all : mg "all" = none) (g_int : mg "int" = none) (g_bool : mg "bool" = none) : Cal P w K mg base 1 "_law_is" s_l_is ["_law_found", "_law_due"] (sp_l_is K) :=
  cal_Z (V := V_l_is) (Gs := G_l_is) (nl := 1) Fn sc_l_is (by decide +kernel) (by decide +kernel) hmg hb (fun _ => rfl) rfl fun _ _ _ _ _ _ _ a b F0 os D B T hm R => body_l_is rfl B T g_isinstance g_tuple g_all g_int g_bool a.1 a.2 b F0 os D hm R
/-! ### _law_steps -/
abbrev s_l_steps : Stmt := top 36
def N_l_steps : List Str := ["_law_letters", "_law_found", "_law_letter"]
def V_l_steps : List Str := ["_law_letters", "_law_found", "_law_letter"]
def G_l_steps : List Str := ["range"]
theorem sc_l_steps : FnScope N_l_steps ["_law_letters"] (defScope s_l_steps) := ⟨rfl, rfl, rfl, by decide +kernel, rfl, by decide +kernel, by decide +kernel⟩
abbrev sp_l_steps (K : PySem.W.Frag) : Sp := spZ (α := Int) (β := (List Int)) (fun a => [(dat (PyData.int a))]) (fun a => []) (fun a => m_l_steps a) (fun a b => (dat (PyData.list (List.map PyData.int b)))) (fun a b => [])
set_option maxHeartbeats 4000000 in
theorem body_l_steps {X : Cx} (hsc : X.env.scope = defScope s_l_steps) (B : Bd X N_l_steps V_l_steps G_l_steps 0) (T : Bt X V_l_steps) (g_range : X.mg "range" = none) (letters : Int) (b : (List Int)) (F0 : Hp) (os : Os) (D : Ends) (hm : m_l_steps letters = some b) (R : RetZ F0 (os) (dat (PyData.list (List.map PyData.int b))) D) :
    SX X [sl (dat (PyData.int letters)), un, un] (os) F0 (defBody s_l_steps) D := by
  unfold m_l_steps at hm
  refine sx_asg (i := 1) (vi := 1) (φ := (dat (PyData.list (List.map PyData.int ([] : (List Int)))))) B T rfl rfl (EN.ex (en_lst (ds := []) ax_nil)) ?_
  obtain ⟨t1, h1, hm⟩ := bnd hm
  obtain ⟨f4, h8, hm⟩ := bnd hm
  refine sx_for (c := anyOs) (fun (s2 : (List Int)) (letter3 : Int) => ((catO (α := Int) s2 ([letter3, (-letter3)])).bind fun t7 => some t7)) (fun (s2 : (List Int)) (_ : Unit) => [sl (dat (PyData.int letters)), sl (dat (PyData.list (List.map PyData.int s2))), un]) (fun (s2 : (List Int)) (_ : Unit) => os) B T (fun letter3 => gx_name (i := 2) (vi := 2) (φ := (dat (PyData.int letter3))) B T rfl rfl) ([] : (List Int)) () f4 h8 (ix_rng2 (gi := 0) B rfl g_range h1 ex_int (ex_add (ex_v (i := 0) (j := 0) B rfl rfl rfl) ex_int)) ⟨.inl rfl, .inl rfl, .inl rfl, trivial⟩ (fun _ _ => trivial) (fun F6 e5 s2 _ letter3 z9 hx hm => ?_) (fun _ => ?_)
  · clear h8
    obtain ⟨t7, h7, hm⟩ := bnd hm
    refine sx_asg (i := 1) (vi := 1) (φ := (dat (PyData.list (List.map PyData.int t7)))) B T rfl rfl (EN.ex (en_cat (enc := PyData.int) h7 (ex_v (i := 1) (j := 1) B rfl rfl rfl) (EN.ex (en_lst (ds := [(PyData.int letter3), (PyData.int (-letter3))]) (hl := len_ok (n := 2) rfl) (ax_cons (ex_v (i := 2) (j := 2) B rfl rfl rfl) (ax_cons (ex_neg (ex_v (i := 2) (j := 2) B rfl rfl rfl)) ax_nil)))))) ?_
    obtain rfl := som hm
    exact sx_nil fun σ H a => ⟨(), (a.weak ⟨.inl rfl, .inl rfl, .inr rfl, trivial⟩)⟩
  · skip
    obtain rfl := som hm
    exact sx_ret (ex_v (i := 1) (j := 1) B rfl rfl rfl) (fun F H v e o c => R.rt F H v e o c)
theorem cal_l_steps {P : Program} {w : World} {K : PySem.W.Frag} {mg : Str → Option Value} {base : Heap} {f : Addr} {fd : FuncData} (Fn : Fun K "_law_steps" "_law_steps" s_l_steps f fd) (hmg : mg "_law_steps" = some (.ref f)) (hb : Binds K fd ["_law_letters"] []) (g_range : mg "range" = none) : Cal P w K mg base 1 "_law_steps" s_l_steps ["_law_letters"] (sp_l_steps K) :=
  cal_Z (V := V_l_steps) (Gs := G_l_steps) (nl := 2) Fn sc_l_steps (by decide +kernel) (by decide +kernel) hmg hb (fun _ => rfl) rfl fun _ _ _ _ _ _ _ a b F0 os D B T hm R => body_l_steps rfl B T g_range a b F0 os D hm R
/-! ### _law_times -/
abbrev s_l_times : Stmt := top 37
def N_l_times : List Str := ["_law_letters", "_law_length", "_law_found", "_law_turn"]
def V_l_times : List Str := ["_law_letters", "_law_length", "_law_found", "_law_turn"]
def G_l_times : List Str := ["range"]
theorem sc_l_times : FnScope N_l_times ["_law_letters", "_law_length"] (defScope s_l_times) := ⟨rfl, rfl, rfl, by decide +kernel, rfl, by decide +kernel, by decide +kernel⟩
abbrev sp_l_times (K : PySem.W.Frag) : Sp := spZ (α := (Int × Int)) (β := Int) (fun a => [(dat (PyData.int a.1)), (dat (PyData.int a.2))]) (fun a => []) (fun a => m_l_times a.1 a.2) (fun a b => (dat (PyData.int b))) (fun a b => [])
set_option maxHeartbeats 4000000 in
theorem body_l_times {X : Cx} (hsc : X.env.scope = defScope s_l_times) (B : Bd X N_l_times V_l_times G_l_times 0) (T : Bt X V_l_times) (g_range : X.mg "range" = none) (letters : Int) (length : Int) (b : Int) (F0 : Hp) (os : Os) (D : Ends) (hm : m_l_times letters length = some b) (R : RetZ F0 (os) (dat (PyData.int b)) D) :
    SX X [sl (dat (PyData.int letters)), sl (dat (PyData.int length)), un, un] (os) F0 (defBody s_l_times) D := by
  unfold m_l_times at hm
  refine sx_asg (i := 2) (vi := 2) (φ := (dat (PyData.int 1))) B T rfl rfl ex_int ?_
  obtain ⟨t1, h1, hm⟩ := bnd hm
  obtain ⟨f4, h8, hm⟩ := bnd hm
  refine sx_for (c := anyOs) (fun (s2 : Int) (turn3 : Int) => ((mulO s2 ((2 * letters) - 1)).bind fun t7 => some t7)) (fun (s2 : Int) (_ : Unit) => [sl (dat (PyData.int letters)), sl (dat (PyData.int length)), sl (dat (PyData.int s2)), un]) (fun (s2 : Int) (_ : Unit) => os) B T (fun turn3 => gx_name (i := 3) (vi := 3) (φ := (dat (PyData.int turn3))) B T rfl rfl) 1 () f4 h8 (ix_rng1 (gi := 0) B rfl g_range h1 (ex_v (i := 1) (j := 1) B rfl rfl rfl)) ⟨.inl rfl, .inl rfl, .inl rfl, .inl rfl, trivial⟩ (fun _ _ => trivial) (fun F6 e5 s2 _ turn3 z9 hx hm => ?_) (fun _ => ?_)
  · clear h8
    obtain ⟨t7, h7, hm⟩ := bnd hm
    refine sx_asg (i := 2) (vi := 2) (φ := (dat (PyData.int t7))) B T rfl rfl (ex_mul h7 (ex_v (i := 2) (j := 2) B rfl rfl rfl) (ex_sub (ex_mulL (by decide) ex_int (ex_v (i := 0) (j := 0) B rfl rfl rfl)) ex_int)) ?_
    obtain rfl := som hm
    exact sx_nil fun σ H a => ⟨(), (a.weak ⟨.inl rfl, .inl rfl, .inl rfl, .inr rfl, trivial⟩)⟩
  · skip
    obtain rfl := som hm
    exact sx_ret (ex_v (i := 2) (j := 2) B rfl rfl rfl) (fun F H v e o c => R.rt F H v e o c)
theorem cal_l_times {P : Program} {w : World} {K : PySem.W.Frag} {mg : Str → Option Value} {base : Heap} {f : Addr} {fd : FuncData} (Fn : Fun K "_law_times" "_law_times" s_l_times f fd) (hmg : mg "_law_times" = some (.ref f)) (hb : Binds K fd ["_law_letters", "_law_length"] []) (g_range : mg "range" = none) : Cal P w K mg base 1 "_law_times" s_l_times ["_law_letters", "_law_length"] (sp_l_times K) :=
  cal_Z (V := V_l_times) (Gs := G_l_times) (nl := 2) Fn sc_l_times (by decide +kernel) (by decide +kernel) hmg hb (fun _ => rfl) rfl fun _ _ _ _ _ _ _ a b F0 os D B T hm R => body_l_times rfl B T g_range a.1 a.2 b F0 os D hm R
/-! ### _law_many -/
abbrev s_l_many : Stmt := top 38
def N_l_many : List Str := ["_law_letters", "_law_length"]
def V_l_many : List Str := ["_law_letters", "_law_length"]
def G_l_many : List Str := ["_law_times"]
theorem sc_l_many : FnScope N_l_many ["_law_letters", "_law_length"] (defScope s_l_many) := ⟨rfl, rfl, rfl, by decide +kernel, rfl, by decide +kernel, by decide +kernel⟩
abbrev sp_l_many (K : PySem.W.Frag) : Sp := spZ (α := (Int × Int)) (β := Int) (fun a => [(dat (PyData.int a.1)), (dat (PyData.int a.2))]) (fun a => []) (fun a => m_l_many a.1 a.2) (fun a b => (dat (PyData.int b))) (fun a b => [])
set_option maxHeartbeats 4000000 in
theorem body_l_many {X : Cx} (hsc : X.env.scope = defScope s_l_many) (B : Bd X N_l_many V_l_many G_l_many 1) (T : Bt X V_l_many) (c_l_times : Cal X.prog X.w X.K X.mg X.base 1 "_law_times" s_l_times ["_law_letters", "_law_length"] (sp_l_times X.K)) (letters : Int) (length : Int) (b : Int) (F0 : Hp) (os : Os) (D : Ends) (hm : m_l_many letters length = some b) (R : RetZ F0 (os) (dat (PyData.int b)) D) :
    SX X [sl (dat (PyData.int letters)), sl (dat (PyData.int length))] (os) F0 (defBody s_l_many) D := by
  unfold m_l_many at hm
  refine sx_if (tx_cmp op_eq r2_eqI (nomark _) (ex_v (i := 1) (j := 1) B rfl rfl rfl) ex_int) (fun hk => ?_) (fun hk => ?_)
  · have hm := ifT hm hk
    obtain rfl := som hm
    exact sx_ret ex_int (fun F H v e o c => R.rt F H v e o c)
  · have hm := ifF hm hk
    refine sx_fall ?_ rfl
    obtain ⟨t1, h1, hm⟩ := bnd hm
    obtain ⟨t2, h2, hm⟩ := bnd hm
    obtain rfl := som hm
    exact sx_ret (ex_mul h2 (ex_mulL (by decide) ex_int (ex_v (i := 0) (j := 0) B rfl rfl rfl)) (ex_call (a := (letters, (length - 1))) (b := t1) (gi := 0) (rest := os) B rfl c_l_times (by decide) h1 (ax_cons (ex_v (i := 0) (j := 0) B rfl rfl rfl) (ax_cons (ex_sub (ex_v (i := 1) (j := 1) B rfl rfl rfl) ex_int) ax_nil)))) (fun F H v e o c => R.rt F H v e o c)
theorem cal_l_many {P : Program} {w : World} {K : PySem.W.Frag} {mg : Str → Option Value} {base : Heap} {f : Addr} {fd : FuncData} (Fn : Fun K "_law_many" "_law_many" s_l_many f fd) (hmg : mg "_law_many" = some (.ref f)) (hb : Binds K fd ["_law_letters", "_law_length"] []) (c_l_times : Cal P w K mg base 1 "_law_times" s_l_times ["_law_letters", "_law_length"] (sp_l_times K)) : Cal P w K mg base 2 "_law_many" s_l_many ["_law_letters", "_law_length"] (sp_l_many K) :=
  cal_Z (V := V_l_many) (Gs := G_l_many) (nl := 0) Fn sc_l_many (by decide +kernel) (by decide +kernel) hmg hb (fun _ => rfl) rfl fun _ _ _ _ _ _ _ a b F0 os D B T hm R => body_l_many rfl B T c_l_times a.1 a.2 b F0 os D hm R
/-! ### _law_ahead -/
abbrev s_l_ahead : Stmt := top 39
def N_l_ahead : List Str := ["_law_letters", "_law_walk_here", "_law_found", "_law_at", "_law_step", "_law_length"]
def V_l_ahead : List Str := ["_law_letters", "_law_walk_here", "_law_found", "_law_at", "_law_step"]
def G_l_ahead : List Str := ["sum", "range", "len", "_law_steps", "_law_times"]
theorem sc_l_ahead : FnScope N_l_ahead ["_law_letters", "_law_walk_here"] (defScope s_l_ahead) := ⟨rfl, rfl, rfl, by decide +kernel, rfl, by decide +kernel, by decide +kernel⟩
abbrev sp_l_ahead (K : PySem.W.Frag) : Sp := spZ (α := (Int × (List Int))) (β := Int) (fun a => [(dat (PyData.int a.1)), (dat (PyData.tuple (List.map PyData.int a.2)))]) (fun a => []) (fun a => m_l_ahead a.1 a.2) (fun a b => (dat (PyData.int b))) (fun a b => [])
set_option maxHeartbeats 4000000 in
theorem body_l_ahead {X : Cx} (hsc : X.env.scope = defScope s_l_ahead) (B : Bd X N_l_ahead V_l_ahead G_l_ahead 2) (T : Bt X V_l_ahead) (g_sum : X.mg "sum" = none) (g_range : X.mg "range" = none) (g_len : X.mg "len" = none) (c_l_many : Cal X.prog X.w X.K X.mg X.base 2 "_law_many" s_l_many ["_law_letters", "_law_length"] (sp_l_many X.K)) (c_l_steps : Cal X.prog X.w X.K X.mg X.base 1 "_law_steps" s_l_steps ["_law_letters"] (sp_l_steps X.K)) (c_l_times : Cal X.prog X.w X.K X.mg X.base 1 "_law_times" s_l_times ["_law_letters", "_law_length"] (sp_l_times X.K)) (letters : Int) (walk_here : (List Int)) (b : Int) (F0 : Hp) (os : Os) (D : Ends) (hm : m_l_ahead letters walk_here = some b) (R : RetZ F0 (os) (dat (PyData.int b)) D) :
    SX X [sl (dat (PyData.int letters)), sl (dat (PyData.tuple (List.map PyData.int walk_here))), un, un, un, un] (os) F0 (defBody s_l_ahead) D := by
  unfold m_l_ahead at hm
  obtain ⟨t1, h1, hm⟩ := bnd hm
  obtain ⟨t5, h5, hm⟩ := bnd hm
  refine sx_asg (i := 2) (vi := 2) (φ := (dat (PyData.int t5.sum))) B T rfl rfl (ex_fn (j := 0) B rfl g_sum (by decide +kernel) (cr_sum B.calm) (rc_sum rdl_dat) (ax_cons (EN.ex (en_lc (lc_mk1 (j := 5) (vp := fun length2 => (dat (PyData.int length2))) (c := anyOs) (enc := PyData.int) (fun (_ : Unit) (length2 : Int) => ((fun (length2 : Int) => ((m_l_many letters length2).bind fun t4 => some t4)) length2).map fun y => (some y, ())) (fun (_ : Unit) (tl1 : Os) => tl1) () (t5) () B rfl rfl (by rw [B.hN, hsc]; decide +kernel) (by rw [hsc]; decide +kernel) (by decide) (lcO_ok h5) (ix_rng1 (gi := 1) B rfl g_range h1 (EX.to (ex_fn (j := 2) B rfl g_len (by decide +kernel) call_len_seq (rc_lenT (ds := List.map PyData.int walk_here) rdt_dat) (ax_cons (ex_v (i := 1) (j := 1) B rfl rfl rfl) ax_nil)) (by rw [List.length_map]))) (fun _ _ => trivial) (fun _ _ _ => List.Perm.refl _) (fun _ length2 t tl1 hx hf => by (obtain ⟨y, hy, rfl⟩ := Option.map_eq_some_iff.mp hf; obtain ⟨t4, h4, hy⟩ := bnd hy; obtain rfl := som hy; exact ⟨true, _, fun X1 hX => by (have B1 := Bd.fam (W' := ["_law_letters", "_law_length"]) (G' := ["_law_many"]) B hX (by (try rw [hsc]); decide +kernel); have c_l_many' := fam_cal hX c_l_many; exact ⟨.nil, fun _ => ⟨_, rfl, (ex_call (a := (letters, length2)) (b := t4) (gi := 0) (rest := tl1) B1 rfl c_l_many' (by decide) h4 (ax_cons (ex_v (i := 0) (j := 0) B1 rfl rfl rfl) (ax_cons (ex_v (i := 5) (j := 1) B1 rfl rfl rfl) ax_nil)))⟩, fun h => Bool.noConfusion h⟩)⟩))))) ax_nil)) ?_
  obtain ⟨t6, h6, hm⟩ := bnd hm
  obtain ⟨f9, h26, hm⟩ := bnd hm
  refine sx_for (c := anyOs) (fun (s7 : Int) (at_8 : Int) => ((m_l_steps letters).bind fun t12 => ((lpR (fun (s13 : Int) (step14 : Int) => (((idx walk_here at_8).bind fun t18 => (if (decide (step14 = t18)) = true then some (Step.brk s13) else ((if (decide (at_8 = 0)) = true then some true else ((idx walk_here (at_8 - 1)).bind fun t19 => some (!decide (step14 = (-t19))))).bind fun t20 => ((if t20 = true then ((m_l_times letters (((walk_here.length : Int) - at_8) - 1)).bind fun t21 => some (s13 + t21)) else some s13 : Option Int).bind fun s22 => some (Step.go s22))))) : Option (Step Int Int))) t12 s7).bind fun f15o => Sum.elim (fun r24 => none) (fun f15 => some f15) f15o))) (fun (s7 : Int) (_ : Unit) => [sl (dat (PyData.int letters)), sl (dat (PyData.tuple (List.map PyData.int walk_here))), sl (dat (PyData.int s7)), un, un, un]) (fun (s7 : Int) (_ : Unit) => os) B T (fun at_8 => gx_name (i := 3) (vi := 3) (φ := (dat (PyData.int at_8))) B T rfl rfl) t5.sum () f9 h26 (ix_rng1 (gi := 1) B rfl g_range h6 (EX.to (ex_fn (j := 2) B rfl g_len (by decide +kernel) call_len_seq (rc_lenT (ds := List.map PyData.int walk_here) rdt_dat) (ax_cons (ex_v (i := 1) (j := 1) B rfl rfl rfl) ax_nil)) (by rw [List.length_map]))) ⟨.inl rfl, .inl rfl, .inl rfl, .inl rfl, .inl rfl, .inl rfl, trivial⟩ (fun _ _ => trivial) (fun F11 e10 s7 _ at_8 z27 hx hm => ?_) (fun _ => ?_)
  · clear h26
    obtain ⟨t12, h12, hm⟩ := bnd hm
    obtain ⟨f15o, h23, hm⟩ := bnd hm
    refine sx_forR (c := anyOs) (fun (s13 : Int) (step14 : Int) => (((idx walk_here at_8).bind fun t18 => (if (decide (step14 = t18)) = true then some (Step.brk s13) else ((if (decide (at_8 = 0)) = true then some true else ((idx walk_here (at_8 - 1)).bind fun t19 => some (!decide (step14 = (-t19))))).bind fun t20 => ((if t20 = true then ((m_l_times letters (((walk_here.length : Int) - at_8) - 1)).bind fun t21 => some (s13 + t21)) else some s13 : Option Int).bind fun s22 => some (Step.go s22))))) : Option (Step Int Int))) (fun (s13 : Int) (_ : Unit) => [sl (dat (PyData.int letters)), sl (dat (PyData.tuple (List.map PyData.int walk_here))), sl (dat (PyData.int s13)), sl (dat (PyData.int at_8)), un, un]) (fun (s13 : Int) (_ : Unit) => os) (fun (r : Int) v H => ∃ F, Same F0 F ∧ Ow F (os) H ∧ Cl (dat (PyData.int r)) F v) B T (fun step14 => gx_name (i := 4) (vi := 4) (φ := (dat (PyData.int step14))) B T rfl rfl) s7 () f15o h23 (ix_list (enc := PyData.int) (c := anyOs) (ex_call (a := letters) (b := t12) (gi := 3) (rest := os) B rfl c_l_steps (by decide) h12 (ax_cons (ex_v (i := 0) (j := 0) B rfl rfl rfl) ax_nil)) (fun _ _ => rdl_dat) trivial) ⟨.inl rfl, .inl rfl, .inl rfl, .inl rfl, .inl rfl, .inl rfl, trivial⟩ (fun _ _ => trivial) (fun F17 e16 s13 _ step14 z25 hx hm2 => ?_) (fun f15 _ ho => ?_) (fun r24 v H ho hr => ?_)
    · clear hm h23
      have hm := hm2
      obtain ⟨t18, h18, hm⟩ := bnd hm
      refine sx_if (tx_cmp op_eq r2_eqI (nomark _) (ex_v (i := 4) (j := 4) B rfl rfl rfl) (ex_idxT (enc := PyData.int) h18 rdt_dat (ex_v (i := 1) (j := 1) B rfl rfl rfl) (ex_v (i := 3) (j := 3) B rfl rfl rfl))) (fun hk => ?_) (fun hk => ?_)
      · have hm := ifT hm hk
        exact sx_brk fun σ H a => ⟨_, (), (som hm).symm, (a.weak ⟨.inl rfl, .inl rfl, .inl rfl, .inl rfl, .inr rfl, .inl rfl, trivial⟩)⟩
      · have hm := ifF hm hk
        refine sx_fall ?_ rfl
        obtain ⟨t20, h20, hm⟩ := bnd hm
        obtain ⟨s22, h_s22, hm⟩ := bnd hm
        refine sx_join [sl (dat (PyData.int letters)), sl (dat (PyData.tuple (List.map PyData.int walk_here))), sl (dat (PyData.int s22)), sl (dat (PyData.int at_8)), sl (dat (PyData.int step14)), un] (os) (?_) (fun Q => ?_)
        · clear h_s22
          exact sx_nil fun σ H a => ⟨_, (), (som hm).symm, (a.weak ⟨.inl rfl, .inl rfl, .inl rfl, .inl rfl, .inr rfl, .inl rfl, trivial⟩)⟩
        · have hm := h_s22
          refine sx_if (WX.tx (wx_or (l := t20) (tx_cmp op_eq r2_eqI (nomark _) (ex_v (i := 3) (j := 3) B rfl rfl rfl) ex_int) (fun hk => by (have hm := ifF h20 hk; obtain ⟨t19, h19, hm⟩ := bnd hm; obtain rfl := som hm; exact (wx_or1 (tx_cmp op_ne r2_neI (nomark _) (ex_v (i := 4) (j := 4) B rfl rfl rfl) (ex_neg (ex_idxT (enc := PyData.int) h19 rdt_dat (ex_v (i := 1) (j := 1) B rfl rfl rfl) (ex_sub (ex_v (i := 3) (j := 3) B rfl rfl rfl) ex_int))))))) (fun hk => by (have hm := ifT h20 hk; obtain rfl := som hm; rfl)) (or_fix (fun hk => by (have hm := ifT h20 hk; obtain rfl := som hm; rfl))))) (fun hk => ?_) (fun hk => ?_)
          · have hm := ifT hm hk
            obtain ⟨t21, h21, hm⟩ := bnd hm
            refine sx_asg (i := 2) (vi := 2) (φ := (dat (PyData.int (s13 + t21)))) B T rfl rfl (ex_add (ex_v (i := 2) (j := 2) B rfl rfl rfl) (ex_call (a := (letters, (((walk_here.length : Int) - at_8) - 1))) (b := t21) (gi := 4) (rest := os) B rfl c_l_times (by decide) h21 (ax_cons (ex_v (i := 0) (j := 0) B rfl rfl rfl) (ax_cons (ex_sub (ex_sub (EX.to (ex_fn (j := 2) B rfl g_len (by decide +kernel) call_len_seq (rc_lenT (ds := List.map PyData.int walk_here) rdt_dat) (ax_cons (ex_v (i := 1) (j := 1) B rfl rfl rfl) ax_nil)) (by rw [List.length_map])) (ex_v (i := 3) (j := 3) B rfl rfl rfl)) ex_int) ax_nil)))) ?_
            obtain rfl := som hm
            exact sx_fall Q rfl
          · have hm := ifF hm hk
            obtain rfl := som hm
            exact sx_fall Q rfl
    · cases ho
      have hm := elimR hm
      obtain rfl := som hm
      exact sx_nil fun σ H a => ⟨(), (a.weak ⟨.inl rfl, .inl rfl, .inl rfl, .inr rfl, .inl rfl, .inl rfl, trivial⟩)⟩
    · cases ho
      have hm := elimL hm
      cases hm
  · skip
    obtain rfl := som hm
    exact sx_ret (ex_v (i := 2) (j := 2) B rfl rfl rfl) (fun F H v e o c => R.rt F H v e o c)
theorem cal_l_ahead {P : Program} {w : World} {K : PySem.W.Frag} {mg : Str → Option Value} {base : Heap} {f : Addr} {fd : FuncData} (Fn : Fun K "_law_ahead" "_law_ahead" s_l_ahead f fd) (hmg : mg "_law_ahead" = some (.ref f)) (hb : Binds K fd ["_law_letters", "_law_walk_here"] []) (g_sum : mg "sum" = none) (g_range : mg "range" = none) (g_len : mg "len" = none) (c_l_many : Cal P w K mg base 2 "_law_many" s_l_many ["_law_letters", "_law_length"] (sp_l_many K)) (c_l_steps : Cal P w K mg base 1 "_law_steps" s_l_steps ["_law_letters"] (sp_l_steps K)) (c_l_times : Cal P w K mg base 1 "_law_times" s_l_times ["_law_letters", "_law_length"] (sp_l_times K)) : Cal P w K mg base 3 "_law_ahead" s_l_ahead ["_law_letters", "_law_walk_here"] (sp_l_ahead K) :=
  cal_Z (V := V_l_ahead) (Gs := G_l_ahead) (nl := 4) Fn sc_l_ahead (by decide +kernel) (by decide +kernel) hmg hb (fun _ => rfl) rfl fun _ _ _ _ _ _ _ a b F0 os D B T hm R => body_l_ahead rfl B T g_sum g_range g_len c_l_many c_l_steps c_l_times a.1 a.2 b F0 os D hm R
/-! ### _law_least -/
abbrev s_l_least : Stmt := top 40
def N_l_least : List Str := ["_law_letters", "_law_walk_here", "_law_length", "_law_found", "_law_turn", "_law_step"]
def V_l_least : List Str := ["_law_letters", "_law_walk_here", "_law_length", "_law_found", "_law_turn"]
def G_l_least : List Str := ["range", "len", "_law_steps"]
theorem sc_l_least : FnScope N_l_least ["_law_letters", "_law_walk_here", "_law_length"] (defScope s_l_least) := ⟨rfl, rfl, rfl, by decide +kernel, rfl, by decide +kernel, by decide +kernel⟩
abbrev sp_l_least (K : PySem.W.Frag) : Sp := spZ (α := (Int × (List Int) × Int)) (β := (List Int)) (fun a => [(dat (PyData.int a.1)), (dat (PyData.tuple (List.map PyData.int a.2.1))), (dat (PyData.int a.2.2))]) (fun a => []) (fun a => m_l_least a.1 a.2.1 a.2.2) (fun a b => (dat (PyData.tuple (List.map PyData.int b)))) (fun a b => [])
set_option maxHeartbeats 4000000 in
theorem body_l_least {X : Cx} (hsc : X.env.scope = defScope s_l_least) (B : Bd X N_l_least V_l_least G_l_least 1) (T : Bt X V_l_least) (g_range : X.mg "range" = none) (g_len : X.mg "len" = none) (c_l_steps : Cal X.prog X.w X.K X.mg X.base 1 "_law_steps" s_l_steps ["_law_letters"] (sp_l_steps X.K)) (letters : Int) (walk_here : (List Int)) (length : Int) (b : (List Int)) (F0 : Hp) (os : Os) (D : Ends) (hm : m_l_least letters walk_here length = some b) (R : RetZ F0 (os) (dat (PyData.tuple (List.map PyData.int b))) D) :
    SX X [sl (dat (PyData.int letters)), sl (dat (PyData.tuple (List.map PyData.int walk_here))), sl (dat (PyData.int length)), un, un, un] (os) F0 (defBody s_l_least) D := by
  unfold m_l_least at hm
  refine sx_asg (i := 3) (vi := 3) (φ := (dat (PyData.tuple (List.map PyData.int walk_here)))) B T rfl rfl (ex_v (i := 1) (j := 1) B rfl rfl rfl) ?_
  obtain ⟨t1, h1, hm⟩ := bnd hm
  obtain ⟨f4, h13, hm⟩ := bnd hm
  refine sx_for (c := anyOs) (fun (s2 : (List Int)) (turn3 : Int) => ((m_l_steps letters).bind fun t7 => (lcF (fun (step8 : Int) => (!decide ((cut s2 (some (-1)) none) = [(-step8)]))) (fun (step8 : Int) => step8) t7).bind fun t10 => (idx t10 0).bind fun t11 => (catO (α := Int) s2 ([t11])).bind fun t12 => some t12)) (fun (s2 : (List Int)) (_ : Unit) => [sl (dat (PyData.int letters)), sl (dat (PyData.tuple (List.map PyData.int walk_here))), sl (dat (PyData.int length)), sl (dat (PyData.tuple (List.map PyData.int s2))), un, un]) (fun (s2 : (List Int)) (_ : Unit) => os) B T (fun turn3 => gx_name (i := 4) (vi := 4) (φ := (dat (PyData.int turn3))) B T rfl rfl) walk_here () f4 h13 (ix_rng1 (gi := 0) B rfl g_range h1 (ex_sub (ex_v (i := 2) (j := 2) B rfl rfl rfl) (EX.to (ex_fn (j := 1) B rfl g_len (by decide +kernel) call_len_seq (rc_lenT (ds := List.map PyData.int walk_here) rdt_dat) (ax_cons (ex_v (i := 1) (j := 1) B rfl rfl rfl) ax_nil)) (by rw [List.length_map])))) ⟨.inl rfl, .inl rfl, .inl rfl, .inl rfl, .inl rfl, .inl rfl, trivial⟩ (fun _ _ => trivial) (fun F6 e5 s2 _ turn3 z14 hx hm => ?_) (fun _ => ?_)
  · clear h13
    obtain ⟨t7, h7, hm⟩ := bnd hm
    obtain ⟨t10, h10, hm⟩ := bnd hm
    obtain ⟨t11, h11, hm⟩ := bnd hm
    obtain ⟨t12, h12, hm⟩ := bnd hm
    refine sx_asg (i := 3) (vi := 3) (φ := (dat (PyData.tuple (List.map PyData.int t12)))) B T rfl rfl (ex_catT (enc := PyData.int) h12 (ex_v (i := 3) (j := 3) B rfl rfl rfl) (ex_tup (ds := [(PyData.int t11)]) (hl := len_ok (n := 1) rfl) (ax_cons (ex_idxL (enc := PyData.int) h11 rdl_dat (EN.ex (en_lc (lc_mk1 (j := 5) (vp := fun step8 => (dat (PyData.int step8))) (c := anyOs) (enc := PyData.int) (fun (_ : Unit) (step8 : Int) => some (if (!decide ((cut s2 (some (-1)) none) = [(-step8)])) = true then some step8 else none, ())) (fun (_ : Unit) (tl1 : Os) => tl1) () (t10) () B rfl rfl (by rw [B.hN, hsc]; decide +kernel) (by rw [hsc]; decide +kernel) (by decide) (lcF_ok h10) (ix_list (enc := PyData.int) (c := anyOs) (ex_call (a := letters) (b := t7) (gi := 2) (rest := os) B rfl c_l_steps (by decide) h7 (ax_cons (ex_v (i := 0) (j := 0) B rfl rfl rfl) ax_nil)) (fun _ _ => rdl_dat) trivial) (fun _ _ => trivial) (fun _ _ _ => List.Perm.refl _) (fun _ step8 t tl1 hx hf => by (obtain rfl := som hf; exact ⟨(!decide ((cut s2 (some (-1)) none) = [(-step8)])), _, fun X1 hX => by (have B1 := Bd.fam (W' := ["_law_found", "_law_step"]) (G' := []) B hX (by (try rw [hsc]); decide +kernel); exact ⟨.one (tx_neR (e := (eT PyData.int)) (x := (cut s2 (some (-1)) none)) (y := ([(-step8)])) B1 (eqv_tup eqv_int) (sh_tup sh_int) (by decide) rdx_dat rdx_dat (ex_cutT (enc := PyData.int) rdt_dat (ex_v (i := 3) (j := 0) B1 rfl rfl rfl) (px_some (ex_neg ex_int)) px_none) (ex_tup (ds := [(PyData.int (-step8))]) (hl := len_ok (n := 1) rfl) (ax_cons (ex_neg (ex_v (i := 5) (j := 1) B1 rfl rfl rfl)) ax_nil))), fun h => ⟨_, if_pos h, (ex_v (i := 5) (j := 1) B1 rfl rfl rfl)⟩, fun h => ⟨if_neg (by rw [h]; exact Bool.false_ne_true), rfl⟩⟩)⟩))))) ex_int) ax_nil))) ?_
    obtain rfl := som hm
    exact sx_nil fun σ H a => ⟨(), (a.weak ⟨.inl rfl, .inl rfl, .inl rfl, .inl rfl, .inr rfl, .inl rfl, trivial⟩)⟩
  · skip
    obtain rfl := som hm
    exact sx_ret (ex_v (i := 3) (j := 3) B rfl rfl rfl) (fun F H v e o c => R.rt F H v e o c)
theorem cal_l_least {P : Program} {w : World} {K : PySem.W.Frag} {mg : Str → Option Value} {base : Heap} {f : Addr} {fd : FuncData} (Fn : Fun K "_law_least" "_law_least" s_l_least f fd) (hmg : mg "_law_least" = some (.ref f)) (hb : Binds K fd ["_law_letters", "_law_walk_here", "_law_length"] []) (g_range : mg "range" = none) (g_len : mg "len" = none) (c_l_steps : Cal P w K mg base 1 "_law_steps" s_l_steps ["_law_letters"] (sp_l_steps K)) : Cal P w K mg base 2 "_law_least" s_l_least ["_law_letters", "_law_walk_here", "_law_length"] (sp_l_least K) :=
  cal_Z (V := V_l_least) (Gs := G_l_least) (nl := 3) Fn sc_l_least (by decide +kernel) (by decide +kernel) hmg hb (fun _ => rfl) rfl fun _ _ _ _ _ _ _ a b F0 os D B T hm R => body_l_least rfl B T g_range g_len c_l_steps a.1 a.2.1 a.2.2 b F0 os D hm R
/-! ### _law_next -/
abbrev s_l_next : Stmt := top 41
def N_l_next : List Str := ["_law_letters", "_law_walk_here", "_law_at", "_law_order", "_law_later", "_law_step"]
def V_l_next : List Str := ["_law_letters", "_law_walk_here", "_law_at", "_law_order", "_law_later"]
def G_l_next : List Str := ["range", "len", "_law_steps", "_law_least"]
theorem sc_l_next : FnScope N_l_next ["_law_letters", "_law_walk_here"] (defScope s_l_next) := ⟨rfl, rfl, rfl, by decide +kernel, rfl, by decide +kernel, by decide +kernel⟩
abbrev sp_l_next (K : PySem.W.Frag) : Sp := spZ (α := (Int × (List Int))) (β := (List Int)) (fun a => [(dat (PyData.int a.1)), (dat (PyData.tuple (List.map PyData.int a.2)))]) (fun a => []) (fun a => m_l_next a.1 a.2) (fun a b => (dat (PyData.tuple (List.map PyData.int b)))) (fun a b => [])
set_option maxHeartbeats 4000000 in
theorem body_l_next {X : Cx} (hsc : X.env.scope = defScope s_l_next) (B : Bd X N_l_next V_l_next G_l_next 2) (T : Bt X V_l_next) (g_range : X.mg "range" = none) (g_len : X.mg "len" = none) (c_l_steps : Cal X.prog X.w X.K X.mg X.base 1 "_law_steps" s_l_steps ["_law_letters"] (sp_l_steps X.K)) (c_l_least : Cal X.prog X.w X.K X.mg X.base 2 "_law_least" s_l_least ["_law_letters", "_law_walk_here", "_law_length"] (sp_l_least X.K)) (letters : Int) (walk_here : (List Int)) (b : (List Int)) (F0 : Hp) (os : Os) (D : Ends) (hm : m_l_next letters walk_here = some b) (R : RetZ F0 (os) (dat (PyData.tuple (List.map PyData.int b))) D) :
    SX X [sl (dat (PyData.int letters)), sl (dat (PyData.tuple (List.map PyData.int walk_here))), un, un, un, un] (os) F0 (defBody s_l_next) D := by
  unfold m_l_next at hm
  obtain ⟨t1, h1, hm⟩ := bnd hm
  obtain ⟨f4o, h18, hm⟩ := bnd hm
  refine sx_forR (c := anyOs) (fun (s2 : Unit) (at_3 : Int) => (((m_l_steps letters).bind fun t7 => (lcG (β := Int) (fun (step8 : Int) => ((if (decide (at_3 = 0)) = true then some true else ((idx walk_here (at_3 - 1)).bind fun t10 => some (!decide (step8 = (-t10))))).bind fun t11 => if t11 = true then some (some step8) else some none)) t7).bind fun t12 => ((idx walk_here at_3).bind fun t13 => (ixOf t12 t13).bind fun t14 => (if (!decide ((cut t12 (some (((t14 : Nat) : Int) + 1)) none) = ([] : (List Int)))) = true then ((idx (cut t12 (some (((t14 : Nat) : Int) + 1)) none) 0).bind fun t15 => (catO (α := Int) (cut walk_here none (some at_3)) ([t15])).bind fun t16 => (m_l_least letters t16 (walk_here.length : Int)).bind fun t17 => some (Step.ret t17)) else some (Step.go ())))) : Option (Step (List Int) Unit))) (fun (s2 : Unit) (_ : Unit) => [sl (dat (PyData.int letters)), sl (dat (PyData.tuple (List.map PyData.int walk_here))), un, un, un, un]) (fun (s2 : Unit) (_ : Unit) => os) (fun (r : (List Int)) v H => ∃ F, Same F0 F ∧ Ow F (os) H ∧ Cl (dat (PyData.tuple (List.map PyData.int r))) F v) B T (fun at_3 => gx_name (i := 2) (vi := 2) (φ := (dat (PyData.int at_3))) B T rfl rfl) () () f4o h18 (ix_rngD (gi := 0) B rfl g_range h1 (ex_sub (EX.to (ex_fn (j := 1) B rfl g_len (by decide +kernel) call_len_seq (rc_lenT (ds := List.map PyData.int walk_here) rdt_dat) (ax_cons (ex_v (i := 1) (j := 1) B rfl rfl rfl) ax_nil)) (by rw [List.length_map])) ex_int) (ex_neg ex_int) (ex_neg ex_int)) ⟨.inl rfl, .inl rfl, .inl rfl, .inl rfl, .inl rfl, .inl rfl, trivial⟩ (fun _ _ => trivial) (fun F6 e5 s2 _ at_3 z21 hx hm2 => ?_) (fun f4 _ ho => ?_) (fun r20 v H ho hr => ?_)
  · clear hm h18
    have hm := hm2
    obtain ⟨t7, h7, hm⟩ := bnd hm
    obtain ⟨t12, h12, hm⟩ := bnd hm
    refine sx_asgLc (i := 3) B T rfl (by rw [hsc]; exact lcl_of (by decide +kernel)) (lc_mk1 (j := 5) (vp := fun step8 => (dat (PyData.int step8))) (c := anyOs) (enc := PyData.int) (fun (_ : Unit) (step8 : Int) => ((fun (step8 : Int) => ((if (decide (at_3 = 0)) = true then some true else ((idx walk_here (at_3 - 1)).bind fun t10 => some (!decide (step8 = (-t10))))).bind fun t11 => if t11 = true then some (some step8) else some none)) step8).map fun y => (y, ())) (fun (_ : Unit) (tl1 : Os) => tl1) () (t12) () B rfl rfl (by rw [B.hN, hsc]; decide +kernel) (by rw [hsc]; decide +kernel) (by decide) (lcG_ok h12) (ix_list (enc := PyData.int) (c := anyOs) (ex_call (a := letters) (b := t7) (gi := 2) (rest := os) B rfl c_l_steps (by decide) h7 (ax_cons (ex_v (i := 0) (j := 0) B rfl rfl rfl) ax_nil)) (fun _ _ => rdl_dat) trivial) (fun _ _ => trivial) (fun _ _ _ => List.Perm.refl _) (fun _ step8 t tl1 hx hf => by (obtain ⟨y, hy, rfl⟩ := Option.map_eq_some_iff.mp hf; obtain ⟨t11, h11, hy⟩ := bnd hy; cases hc : t11 with | true => (have hy := ifT hy hc; obtain rfl := som hy; exact ⟨true, _, fun X1 hX => by (have B1 := Bd.fam (W' := ["_law_walk_here", "_law_at", "_law_step"]) (G' := []) B hX (by (try rw [hsc]); decide +kernel); exact ⟨.one (TX.to (WX.tx (wx_or (l := t11) (tx_cmp op_eq r2_eqI (nomark _) (ex_v (i := 2) (j := 1) B1 rfl rfl rfl) ex_int) (fun hk => by (have hm := ifF h11 hk; obtain ⟨t10, h10, hm⟩ := bnd hm; obtain rfl := som hm; exact (wx_or1 (tx_cmp op_ne r2_neI (nomark _) (ex_v (i := 5) (j := 2) B1 rfl rfl rfl) (ex_neg (ex_idxT (enc := PyData.int) h10 rdt_dat (ex_v (i := 1) (j := 0) B1 rfl rfl rfl) (ex_sub (ex_v (i := 2) (j := 1) B1 rfl rfl rfl) ex_int))))))) (fun hk => by (have hm := ifT h11 hk; obtain rfl := som hm; rfl)) (or_fix (fun hk => by (have hm := ifT h11 hk; obtain rfl := som hm; rfl))))) hc), fun _ => ⟨_, rfl, (ex_v (i := 5) (j := 2) B1 rfl rfl rfl)⟩, fun h => Bool.noConfusion h⟩)⟩) | false => (have hy := ifF hy hc; obtain rfl := som hy; exact ⟨false, _, fun X1 hX => by (have B1 := Bd.fam (W' := ["_law_walk_here", "_law_at", "_law_step"]) (G' := []) B hX (by (try rw [hsc]); decide +kernel); exact ⟨.one (TX.to (WX.tx (wx_or (l := t11) (tx_cmp op_eq r2_eqI (nomark _) (ex_v (i := 2) (j := 1) B1 rfl rfl rfl) ex_int) (fun hk => by (have hm := ifF h11 hk; obtain ⟨t10, h10, hm⟩ := bnd hm; obtain rfl := som hm; exact (wx_or1 (tx_cmp op_ne r2_neI (nomark _) (ex_v (i := 5) (j := 2) B1 rfl rfl rfl) (ex_neg (ex_idxT (enc := PyData.int) h10 rdt_dat (ex_v (i := 1) (j := 0) B1 rfl rfl rfl) (ex_sub (ex_v (i := 2) (j := 1) B1 rfl rfl rfl) ex_int))))))) (fun hk => by (have hm := ifT h11 hk; obtain rfl := som hm; rfl)) (or_fix (fun hk => by (have hm := ifT h11 hk; obtain rfl := som hm; rfl))))) hc), fun h => Bool.noConfusion h, fun _ => ⟨rfl, rfl⟩⟩)⟩)))) (sw_ok (by rw [hsc]; decide +kernel) (by rw [hsc]; exact lcl_of (by decide +kernel)) (by decide) (by decide +kernel)) (fun q_order12 => ?_)
    refine sx_frz (j := 0) (i := 3) rfl rfl ?_
    obtain ⟨t13, h13, hm⟩ := bnd hm
    obtain ⟨t14, h14, hm⟩ := bnd hm
    refine sx_asg (i := 4) (vi := 4) (φ := (dat (PyData.list (List.map PyData.int (cut t12 (some (((t14 : Nat) : Int) + 1)) none))))) B T rfl rfl (EN.ex (en_cut (enc := PyData.int) rdl_dat (ex_v (i := 3) (j := 3) B rfl rfl rfl) (px_some (ex_add (ex_index h14 (fun _ _ => rdl_dat) (ex_v (i := 3) (j := 3) B rfl rfl rfl) (ex_idxT (enc := PyData.int) h13 rdt_dat (ex_v (i := 1) (j := 1) B rfl rfl rfl) (ex_v (i := 2) (j := 2) B rfl rfl rfl))) ex_int)) px_none)) ?_
    refine sx_if (tx_neR (e := (eL PyData.int)) (x := (cut t12 (some (((t14 : Nat) : Int) + 1)) none)) (y := ([] : (List Int))) B (eqv_list eqv_int) (sh_list sh_int) (by decide) rdx_dat rdx_dat (ex_v (i := 4) (j := 4) B rfl rfl rfl) (EN.ex (en_lst (ds := []) ax_nil))) (fun hk => ?_) (fun hk => ?_)
    · have hm := ifT hm hk
      obtain ⟨t15, h15, hm⟩ := bnd hm
      obtain ⟨t16, h16, hm⟩ := bnd hm
      obtain ⟨t17, h17, hm⟩ := bnd hm
      exact sx_ret (ex_call (a := (letters, t16, (walk_here.length : Int))) (b := t17) (gi := 3) (rest := os) B rfl c_l_least (by decide) h17 (ax_cons (ex_v (i := 0) (j := 0) B rfl rfl rfl) (ax_cons (ex_catT (enc := PyData.int) h16 (ex_cutT (enc := PyData.int) rdt_dat (ex_v (i := 1) (j := 1) B rfl rfl rfl) px_none (px_some (ex_v (i := 2) (j := 2) B rfl rfl rfl))) (ex_tup (ds := [(PyData.int t15)]) (hl := len_ok (n := 1) rfl) (ax_cons (ex_idxL (enc := PyData.int) h15 rdl_dat (ex_v (i := 4) (j := 4) B rfl rfl rfl) ex_int) ax_nil))) (ax_cons (EX.to (ex_fn (j := 1) B rfl g_len (by decide +kernel) call_len_seq (rc_lenT (ds := List.map PyData.int walk_here) rdt_dat) (ax_cons (ex_v (i := 1) (j := 1) B rfl rfl rfl) ax_nil)) (by rw [List.length_map])) ax_nil)))) (fun F H v e o c => ⟨_, (som hm).symm, F, (e5.trans e), o, c⟩)
    · have hm := ifF hm hk
      refine sx_fall ?_ rfl
      exact sx_nil fun σ H a => ⟨_, (), (som hm).symm, (a.weak ⟨.inl rfl, .inl rfl, .inr rfl, .inr rfl, .inr rfl, .inl rfl, trivial⟩)⟩
  · cases ho
    have hm := elimR hm
    obtain ⟨t19, h19, hm⟩ := bnd hm
    obtain rfl := som hm
    exact sx_ret (ex_call (a := (letters, ([] : (List Int)), ((walk_here.length : Int) + 1))) (b := t19) (gi := 3) (rest := os) B rfl c_l_least (by decide) h19 (ax_cons (ex_v (i := 0) (j := 0) B rfl rfl rfl) (ax_cons (ex_tup (ds := []) ax_nil) (ax_cons (ex_add (EX.to (ex_fn (j := 1) B rfl g_len (by decide +kernel) call_len_seq (rc_lenT (ds := List.map PyData.int walk_here) rdt_dat) (ax_cons (ex_v (i := 1) (j := 1) B rfl rfl rfl) ax_nil)) (by rw [List.length_map])) ex_int) ax_nil)))) (fun F H v e o c => R.rt F H v e o c)
  · cases ho
    have hm := elimL hm
    obtain rfl := som hm
    obtain ⟨F, e, o, c⟩ := hr
    exact R.rt F H v e o c
theorem cal_l_next {P : Program} {w : World} {K : PySem.W.Frag} {mg : Str → Option Value} {base : Heap} {f : Addr} {fd : FuncData} (Fn : Fun K "_law_next" "_law_next" s_l_next f fd) (hmg : mg "_law_next" = some (.ref f)) (hb : Binds K fd ["_law_letters", "_law_walk_here"] []) (g_range : mg "range" = none) (g_len : mg "len" = none) (c_l_steps : Cal P w K mg base 1 "_law_steps" s_l_steps ["_law_letters"] (sp_l_steps K)) (c_l_least : Cal P w K mg base 2 "_law_least" s_l_least ["_law_letters", "_law_walk_here", "_law_length"] (sp_l_least K)) : Cal P w K mg base 3 "_law_next" s_l_next ["_law_letters", "_law_walk_here"] (sp_l_next K) :=
  cal_Z (V := V_l_next) (Gs := G_l_next) (nl := 4) Fn sc_l_next (by decide +kernel) (by decide +kernel) hmg hb (fun _ => rfl) rfl fun _ _ _ _ _ _ _ a b F0 os D B T hm R => body_l_next rfl B T g_range g_len c_l_steps c_l_least a.1 a.2 b F0 os D hm R
/-! ### _law_all -/
abbrev s_l_all : Stmt := top 42
def N_l_all : List Str := ["_law_letters", "_law_length", "_law_found", "_law_layer", "_law_turn", "_law_longer", "_law_walk_here", "_law_step"]
def V_l_all : List Str := ["_law_letters", "_law_length", "_law_found", "_law_layer", "_law_turn", "_law_longer", "_law_walk_here"]
def G_l_all : List Str := ["range", "_law_steps"]
theorem sc_l_all : FnScope N_l_all ["_law_letters", "_law_length"] (defScope s_l_all) := ⟨rfl, rfl, rfl, by decide +kernel, rfl, by decide +kernel, by decide +kernel⟩
abbrev sp_l_all (K : PySem.W.Frag) : Sp := spZ (α := (Int × Int)) (β := (List (List Int))) (fun a => [(dat (PyData.int a.1)), (dat (PyData.int a.2))]) (fun a => []) (fun a => m_l_all a.1 a.2) (fun a b => (dat (PyData.list (List.map (eT PyData.int) b)))) (fun a b => [])
set_option maxHeartbeats 4000000 in
theorem body_l_all {X : Cx} (hsc : X.env.scope = defScope s_l_all) (B : Bd X N_l_all V_l_all G_l_all 1) (T : Bt X V_l_all) (g_range : X.mg "range" = none) (c_l_steps : Cal X.prog X.w X.K X.mg X.base 1 "_law_steps" s_l_steps ["_law_letters"] (sp_l_steps X.K)) (letters : Int) (length : Int) (b : (List (List Int))) (F0 : Hp) (os : Os) (D : Ends) (hm : m_l_all letters length = some b) (R : RetZ F0 (os) (dat (PyData.list (List.map (eT PyData.int) b))) D) :
    SX X [sl (dat (PyData.int letters)), sl (dat (PyData.int length)), un, un, un, un, un, un] (os) F0 (defBody s_l_all) D := by
  unfold m_l_all at hm
  refine sx_par2 (i := 2) (j := 3) _ hsc B rfl rfl (by decide) (by decide +kernel) (by decide +kernel) (by intro env he; cases env; cases he; first | rfl | kernel_rfl) (aq_x (φ := (dat (PyData.list (List.map (eT PyData.int) ([([] : (List Int))]))))) (EN.ex (en_lst (ds := [(PyData.tuple (List.map PyData.int ([] : (List Int))))]) (hl := len_ok (n := 1) rfl) (ax_cons (ex_tup (ds := []) ax_nil) ax_nil))) (aq_x (φ := (dat (PyData.list (List.map (eT PyData.int) ([([] : (List Int))]))))) (EN.ex (en_lst (ds := [(PyData.tuple (List.map PyData.int ([] : (List Int))))]) (hl := len_ok (n := 1) rfl) (ax_cons (ex_tup (ds := []) ax_nil) ax_nil))) aq_nil)) (fun v0 v1 os_ hr_ => ?_) (by rintro φs os_ ⟨_, rfl, _, rfl, rfl, rfl⟩; exact ⟨_, _, rfl⟩)
  obtain ⟨_, e0, _, e1, e8, e9⟩ := hr_
  cases e0; cases e1; cases e8; cases e9
  obtain ⟨t1, h1, hm⟩ := bnd hm
  obtain ⟨f4, h21, hm⟩ := bnd hm
  refine sx_for (c := anyOs) (fun (s2 : ((List (List Int)) × (List (List Int)))) (turn3 : Int) => ((lp (fun (s7 : (List (List Int))) (walk_here8 : (List Int)) => ((m_l_steps letters).bind fun t12 => (lcG (β := (List Int)) (fun (step13 : Int) => if (!decide ((cut walk_here8 (some (-1)) none) = [(-step13)])) = true then ((catO (α := Int) walk_here8 ([step13])).bind fun t15 => some (some t15)) else some none) t12).bind fun t16 => (catO (α := (List Int)) s7 t16).bind fun t17 => some t17)) s2.2 ([] : (List (List Int)))).bind fun f9 => ((catO (α := (List Int)) s2.1 f9).bind fun t19 => some (t19, f9)))) (fun (s2 : ((List (List Int)) × (List (List Int)))) (_ : Unit) => [sl (dat (PyData.int letters)), sl (dat (PyData.int length)), sl (dat (PyData.list (List.map (eT PyData.int) s2.1))), sl (dat (PyData.list (List.map (eT PyData.int) s2.2))), un, un, un, un]) (fun (s2 : ((List (List Int)) × (List (List Int)))) (_ : Unit) => os) B T (fun turn3 => gx_name (i := 4) (vi := 4) (φ := (dat (PyData.int turn3))) B T rfl rfl) ([([] : (List Int))], [([] : (List Int))]) () f4 h21 (ix_rng1 (gi := 0) B rfl g_range h1 (ex_v (i := 1) (j := 1) B rfl rfl rfl)) ⟨.inl rfl, .inl rfl, .inl rfl, .inl rfl, .inl rfl, .inl rfl, .inl rfl, .inl rfl, trivial⟩ (fun _ _ => trivial) (fun F6 e5 s2 _ turn3 z22 hx hm => ?_) (fun _ => ?_)
  · clear h21
    refine sx_asg (i := 5) (vi := 5) (φ := (dat (PyData.list (List.map (eT PyData.int) ([] : (List (List Int))))))) B T rfl rfl (EN.ex (en_lst (ds := []) ax_nil)) ?_
    obtain ⟨f9, h18, hm⟩ := bnd hm
    refine sx_for (c := anyOs) (fun (s7 : (List (List Int))) (walk_here8 : (List Int)) => ((m_l_steps letters).bind fun t12 => (lcG (β := (List Int)) (fun (step13 : Int) => if (!decide ((cut walk_here8 (some (-1)) none) = [(-step13)])) = true then ((catO (α := Int) walk_here8 ([step13])).bind fun t15 => some (some t15)) else some none) t12).bind fun t16 => (catO (α := (List Int)) s7 t16).bind fun t17 => some t17)) (fun (s7 : (List (List Int))) (_ : Unit) => [sl (dat (PyData.int letters)), sl (dat (PyData.int length)), sl (dat (PyData.list (List.map (eT PyData.int) s2.1))), sl (dat (PyData.list (List.map (eT PyData.int) s2.2))), sl (dat (PyData.int turn3)), sl (dat (PyData.list (List.map (eT PyData.int) s7))), un, un]) (fun (s7 : (List (List Int))) (_ : Unit) => os) B T (fun walk_here8 => gx_name (i := 6) (vi := 6) (φ := (dat (PyData.tuple (List.map PyData.int walk_here8)))) B T rfl rfl) ([] : (List (List Int))) () f9 h18 (ix_list (enc := (eT PyData.int)) (c := anyOs) (ex_v (i := 3) (j := 3) B rfl rfl rfl) (fun _ _ => rdl_dat) trivial) ⟨.inl rfl, .inl rfl, .inl rfl, .inl rfl, .inl rfl, .inl rfl, .inl rfl, .inl rfl, trivial⟩ (fun _ _ => trivial) (fun F11 e10 s7 _ walk_here8 z20 hx hm => ?_) (fun _ => ?_)
    · clear h18
      obtain ⟨t12, h12, hm⟩ := bnd hm
      obtain ⟨t16, h16, hm⟩ := bnd hm
      obtain ⟨t17, h17, hm⟩ := bnd hm
      refine sx_asg (i := 5) (vi := 5) (φ := (dat (PyData.list (List.map (eT PyData.int) t17)))) B T rfl rfl (EN.ex (en_cat (enc := (eT PyData.int)) h17 (ex_v (i := 5) (j := 5) B rfl rfl rfl) (EN.ex (en_lc (lc_mk1 (j := 7) (vp := fun step13 => (dat (PyData.int step13))) (c := anyOs) (enc := (eT PyData.int)) (fun (_ : Unit) (step13 : Int) => ((fun (step13 : Int) => if (!decide ((cut walk_here8 (some (-1)) none) = [(-step13)])) = true then ((catO (α := Int) walk_here8 ([step13])).bind fun t15 => some (some t15)) else some none) step13).map fun y => (y, ())) (fun (_ : Unit) (tl1 : Os) => tl1) () (t16) () B rfl rfl (by rw [B.hN, hsc]; decide +kernel) (by rw [hsc]; decide +kernel) (by decide) (lcG_ok h16) (ix_list (enc := PyData.int) (c := anyOs) (ex_call (a := letters) (b := t12) (gi := 1) (rest := os) B rfl c_l_steps (by decide) h12 (ax_cons (ex_v (i := 0) (j := 0) B rfl rfl rfl) ax_nil)) (fun _ _ => rdl_dat) trivial) (fun _ _ => trivial) (fun _ _ _ => List.Perm.refl _) (fun _ step13 t tl1 hx hf => by (obtain ⟨y, hy, rfl⟩ := Option.map_eq_some_iff.mp hf; cases hc : (!decide ((cut walk_here8 (some (-1)) none) = [(-step13)])) with | true => (have hy := ifT hy hc; obtain ⟨t15, h15, hy⟩ := bnd hy; obtain rfl := som hy; exact ⟨true, _, fun X1 hX => by (have B1 := Bd.fam (W' := ["_law_walk_here", "_law_step"]) (G' := []) B hX (by (try rw [hsc]); decide +kernel); exact ⟨.one (TX.to (tx_neR (e := (eT PyData.int)) (x := (cut walk_here8 (some (-1)) none)) (y := ([(-step13)])) B1 (eqv_tup eqv_int) (sh_tup sh_int) (by decide) rdx_dat rdx_dat (ex_cutT (enc := PyData.int) rdt_dat (ex_v (i := 6) (j := 0) B1 rfl rfl rfl) (px_some (ex_neg ex_int)) px_none) (ex_tup (ds := [(PyData.int (-step13))]) (hl := len_ok (n := 1) rfl) (ax_cons (ex_neg (ex_v (i := 7) (j := 1) B1 rfl rfl rfl)) ax_nil))) hc), fun _ => ⟨_, rfl, (ex_catT (enc := PyData.int) h15 (ex_v (i := 6) (j := 0) B1 rfl rfl rfl) (ex_tup (ds := [(PyData.int step13)]) (hl := len_ok (n := 1) rfl) (ax_cons (ex_v (i := 7) (j := 1) B1 rfl rfl rfl) ax_nil)))⟩, fun h => Bool.noConfusion h⟩)⟩) | false => (have hy := ifF hy hc; obtain rfl := som hy; exact ⟨false, _, fun X1 hX => by (have B1 := Bd.fam (W' := ["_law_walk_here", "_law_step"]) (G' := []) B hX (by (try rw [hsc]); decide +kernel); exact ⟨.one (TX.to (tx_neR (e := (eT PyData.int)) (x := (cut walk_here8 (some (-1)) none)) (y := ([(-step13)])) B1 (eqv_tup eqv_int) (sh_tup sh_int) (by decide) rdx_dat rdx_dat (ex_cutT (enc := PyData.int) rdt_dat (ex_v (i := 6) (j := 0) B1 rfl rfl rfl) (px_some (ex_neg ex_int)) px_none) (ex_tup (ds := [(PyData.int (-step13))]) (hl := len_ok (n := 1) rfl) (ax_cons (ex_neg (ex_v (i := 7) (j := 1) B1 rfl rfl rfl)) ax_nil))) hc), fun h => Bool.noConfusion h, fun _ => ⟨rfl, rfl⟩⟩)⟩)))))))) ?_
      obtain rfl := som hm
      exact sx_nil fun σ H a => ⟨(), (a.weak ⟨.inl rfl, .inl rfl, .inl rfl, .inl rfl, .inl rfl, .inl rfl, .inr rfl, .inl rfl, trivial⟩)⟩
    · skip
      refine sx_asg (i := 3) (vi := 3) (φ := (dat (PyData.list (List.map (eT PyData.int) f9)))) B T rfl rfl (ex_v (i := 5) (j := 5) B rfl rfl rfl) ?_
      obtain ⟨t19, h19, hm⟩ := bnd hm
      refine sx_asg (i := 2) (vi := 2) (φ := (dat (PyData.list (List.map (eT PyData.int) t19)))) B T rfl rfl (EN.ex (en_cat (enc := (eT PyData.int)) h19 (ex_v (i := 2) (j := 2) B rfl rfl rfl) (ex_v (i := 3) (j := 3) B rfl rfl rfl))) ?_
      obtain rfl := som hm
      exact sx_nil fun σ H a => ⟨(), (a.weak ⟨.inl rfl, .inl rfl, .inl rfl, .inl rfl, .inr rfl, .inr rfl, .inl rfl, .inl rfl, trivial⟩)⟩
  · skip
    obtain rfl := som hm
    exact sx_ret (ex_v (i := 2) (j := 2) B rfl rfl rfl) (fun F H v e o c => R.rt F H v e o c)
theorem cal_l_all {P : Program} {w : World} {K : PySem.W.Frag} {mg : Str → Option Value} {base : Heap} {f : Addr} {fd : FuncData} (Fn : Fun K "_law_all" "_law_all" s_l_all f fd) (hmg : mg "_law_all" = some (.ref f)) (hb : Binds K fd ["_law_letters", "_law_length"] []) (g_range : mg "range" = none) (c_l_steps : Cal P w K mg base 1 "_law_steps" s_l_steps ["_law_letters"] (sp_l_steps K)) : Cal P w K mg base 2 "_law_all" s_l_all ["_law_letters", "_law_length"] (sp_l_all K) :=
  cal_Z (V := V_l_all) (Gs := G_l_all) (nl := 6) Fn sc_l_all (by decide +kernel) (by decide +kernel) hmg hb (fun _ => rfl) rfl fun _ _ _ _ _ _ _ a b F0 os D B T hm R => body_l_all rfl B T g_range c_l_steps a.1 a.2 b F0 os D hm R
/-! ### _law_number -/
abbrev s_l_number : Stmt := top 43
def N_l_number : List Str := ["_law_found", "_law_due"]
def V_l_number : List Str := ["_law_found", "_law_due"]
def G_l_number : List Str := ["isinstance", "int", "bool"]
theorem sc_l_number : FnScope N_l_number ["_law_found", "_law_due"] (defScope s_l_number) := ⟨rfl, rfl, rfl, by decide +kernel, rfl, by decide +kernel, by decide +kernel⟩
abbrev sp_l_number (K : PySem.W.Frag) : Sp := spZ (α := (Int × Int)) (β := Bool) (fun a => [(dat (PyData.int a.1)), (dat (PyData.int a.2))]) (fun a => []) (fun a => m_l_number a.1 a.2) (fun a b => (dat (PyData.bool b))) (fun a b => [])
set_option maxHeartbeats 4000000 in
theorem body_l_number {X : Cx} (hsc : X.env.scope = defScope s_l_number) (B : Bd X N_l_number V_l_number G_l_number 0) (T : Bt X V_l_number) (g_isinstance : X.mg "isinstance" = none) (g_int : X.mg "int" = none) (g_bool : X.mg "bool" = none) (found : Int) (due : Int) (b : Bool) (F0 : Hp) (os : Os) (D : Ends) (hm : m_l_number found due = some b) (R : RetZ F0 (os) (dat (PyData.bool b)) D) :
    SX X [sl (dat (PyData.int found)), sl (dat (PyData.int due))] (os) F0 (defBody s_l_number) D := by
  unfold m_l_number at hm
  obtain rfl := som hm
  exact sx_ret (ex_and (ex_fn (j := 0) B rfl g_isinstance (by decide +kernel) call_isi (rc_isi (d := (PyData.int found)) (T := "int") (show kitB "int" "int" = some true by decide +kernel)) (ax_cons (ex_v (i := 0) (j := 0) B rfl rfl rfl) (ax_cons (ex_tyname (T := "int") (gi := 1) B rfl g_int (by decide +kernel)) ax_nil))) (fun _ => (ex_and (ex_not (ex_fn (j := 0) B rfl g_isinstance (by decide +kernel) call_isi (rc_isi (d := (PyData.int found)) (T := "bool") (show kitB "int" "bool" = some false by decide +kernel)) (ax_cons (ex_v (i := 0) (j := 0) B rfl rfl rfl) (ax_cons (ex_tyname (T := "bool") (gi := 2) B rfl g_bool (by decide +kernel)) ax_nil)))) (fun _ => (ex_one (ex_cmp op_eq r2_eqI (nomark _) (ex_v (i := 0) (j := 0) B rfl rfl rfl) (ex_v (i := 1) (j := 1) B rfl rfl rfl)))) (fun _ => rfl) rfl)) (fun _ => rfl) rfl) (fun F H v e o c => R.rt F H v e o c)
theorem cal_l_number {P : Program} {w : World} {K : PySem.W.Frag} {mg : Str → Option Value} {base : Heap} {f : Addr} {fd : FuncData} (Fn : Fun K "_law_number" "_law_number" s_l_number f fd) (hmg : mg "_law_number" = some (.ref f)) (hb : Binds K fd ["_law_found", "_law_due"] []) (g_isinstance : mg "isinstance" = none) (g_int : mg "int" = none) (g_bool : mg "bool" = none) : Cal P w K mg base 1 "_law_number" s_l_number ["_law_found", "_law_due"] (sp_l_number K) :=
  cal_Z (V := V_l_number) (Gs := G_l_number) (nl := 0) Fn sc_l_number (by decide +kernel) (by decide +kernel) hmg hb (fun _ => rfl) rfl fun _ _ _ _ _ _ _ a b F0 os D B T hm R => body_l_number rfl B T g_isinstance g_int g_bool a.1 a.2 b F0 os D hm R
/-! ### _law_short -/
abbrev s_l_short : Stmt := top 44
def N_l_short : List Str := ["_law_letters", "_law_walks", "_law_at", "_law_walk_here", "_law_length", "_law_due"]
def V_l_short : List Str := ["_law_letters", "_law_walks", "_law_at", "_law_walk_here", "_law_length", "_law_due"]
def G_l_short : List Str := ["_law_all", "range", "len", "_law_is", "nth_walk", "_law_number", "number_of", "next_walk", "how_many"]
theorem sc_l_short : FnScope N_l_short ["_law_letters"] (defScope s_l_short) := ⟨rfl, rfl, rfl, by decide +kernel, rfl, by decide +kernel, by decide +kernel⟩
abbrev sp_l_short (K : PySem.W.Frag) : Sp := spZ (α := Int) (β := Bool) (fun a => [(dat (PyData.int a))]) (fun a => []) (fun a => m_l_short a) (fun a b => (dat (PyData.bool b))) (fun a b => [])
set_option maxHeartbeats 4000000 in
theorem body_l_short {X : Cx} (hsc : X.env.scope = defScope s_l_short) (B : Bd X N_l_short V_l_short G_l_short 5) (T : Bt X V_l_short) (c_l_all : Cal X.prog X.w X.K X.mg X.base 2 "_law_all" s_l_all ["_law_letters", "_law_length"] (sp_l_all X.K)) (g_range : X.mg "range" = none) (g_len : X.mg "len" = none) (c_l_is : Cal X.prog X.w X.K X.mg X.base 1 "_law_is" s_l_is ["_law_found", "_law_due"] (sp_l_is X.K)) (c_p_nth_walk : Cal X.prog X.w X.K X.mg X.base 4 "nth_walk" s_p_nth_walk ["letters", "number"] (sp_p_nth_walk X.K)) (c_l_number : Cal X.prog X.w X.K X.mg X.base 1 "_law_number" s_l_number ["_law_found", "_law_due"] (sp_l_number X.K)) (c_p_number_of : Cal X.prog X.w X.K X.mg X.base 5 "number_of" s_p_number_of ["letters", "walk"] (sp_p_number_of X.K)) (c_p_next_walk : Cal X.prog X.w X.K X.mg X.base 5 "next_walk" s_p_next_walk ["letters", "walk"] (sp_p_next_walk X.K)) (c_p_how_many : Cal X.prog X.w X.K X.mg X.base 4 "how_many" s_p_how_many ["letters", "length"] (sp_p_how_many X.K)) (letters : Int) (b : Bool) (F0 : Hp) (os : Os) (D : Ends) (hm : m_l_short letters = some b) (R : RetZ F0 (os) (dat (PyData.bool b)) D) :
    SX X [sl (dat (PyData.int letters)), un, un, un, un, un] (os) F0 (defBody s_l_short) D := by
  unfold m_l_short at hm
  obtain ⟨t1, h1, hm⟩ := bnd hm
  obtain ⟨t2, h2, hm⟩ := bnd hm
  refine sx_asg (i := 1) (vi := 1) (φ := (dat (PyData.list (List.map (eT PyData.int) t2)))) B T rfl rfl (ex_call (a := (letters, t1)) (b := t2) (gi := 0) (rest := os) B rfl c_l_all (by decide) h2 (ax_cons (ex_v (i := 0) (j := 0) B rfl rfl rfl) (ax_cons (ex_idxL (enc := PyData.int) h1 rdl_dat (EN.ex (en_lst (ds := [(PyData.int 12), (PyData.int 4), (PyData.int 3), (PyData.int 3)]) (hl := len_ok (n := 4) rfl) (ax_cons ex_int (ax_cons ex_int (ax_cons ex_int (ax_cons ex_int ax_nil)))))) (ex_sub (ex_v (i := 0) (j := 0) B rfl rfl rfl) ex_int)) ax_nil))) ?_
  obtain ⟨t3, h3, hm⟩ := bnd hm
  obtain ⟨f6o, h19, hm⟩ := bnd hm
  refine sx_forR (c := anyOs) (fun (s4 : Unit) (at_5 : Int) => (((idx t2 at_5).bind fun t9 => ((m_p_nth_walk letters at_5).bind fun t10 => (m_l_is t10 t9).bind fun t11 => (if (!t11) = true then some true else ((m_p_number_of letters t9).bind fun t12 => (m_l_number t12 at_5).bind fun t13 => some (!t13))).bind fun t14 => (if t14 = true then some (Step.ret false) else ((if (decide ((at_5 + 1) < (t2.length : Int))) = true then ((m_p_next_walk letters t9).bind fun t15 => (idx t2 (at_5 + 1)).bind fun t16 => (m_l_is t15 t16).bind fun t17 => some (!t17)) else some false).bind fun t18 => (if t18 = true then some (Step.ret false) else some (Step.go ())))))) : Option (Step Bool Unit))) (fun (s4 : Unit) (_ : Unit) => [sl (dat (PyData.int letters)), sl (dat (PyData.list (List.map (eT PyData.int) t2))), un, un, un, un]) (fun (s4 : Unit) (_ : Unit) => os) (fun (r : Bool) v H => ∃ F, Same F0 F ∧ Ow F (os) H ∧ Cl (dat (PyData.bool r)) F v) B T (fun at_5 => gx_name (i := 2) (vi := 2) (φ := (dat (PyData.int at_5))) B T rfl rfl) () () f6o h19 (ix_rng1 (gi := 1) B rfl g_range h3 (EX.to (ex_fn (j := 2) B rfl g_len (by decide +kernel) call_len_seq (rc_lenL (ds := List.map (eT PyData.int) t2) rdl_dat) (ax_cons (ex_v (i := 1) (j := 1) B rfl rfl rfl) ax_nil)) (by rw [List.length_map]))) ⟨.inl rfl, .inl rfl, .inl rfl, .inl rfl, .inl rfl, .inl rfl, trivial⟩ (fun _ _ => trivial) (fun F8 e7 s4 _ at_5 z36 hx hm2 => ?_) (fun f6 _ ho => ?_) (fun r35 v H ho hr => ?_)
  · clear hm h19
    have hm := hm2
    obtain ⟨t9, h9, hm⟩ := bnd hm
    refine sx_asg (i := 3) (vi := 3) (φ := (dat (PyData.tuple (List.map PyData.int t9)))) B T rfl rfl (ex_idxL (enc := (eT PyData.int)) h9 rdl_dat (ex_v (i := 1) (j := 1) B rfl rfl rfl) (ex_v (i := 2) (j := 2) B rfl rfl rfl)) ?_
    obtain ⟨t10, h10, hm⟩ := bnd hm
    obtain ⟨t11, h11, hm⟩ := bnd hm
    obtain ⟨t14, h14, hm⟩ := bnd hm
    refine sx_if (WX.tx (wx_or (l := t14) (tx_not (tx_val (ex_call (a := (t10, t9)) (b := t11) (gi := 3) (rest := os) B rfl c_l_is (by decide) h11 (ax_cons (ex_call (a := (letters, at_5)) (b := t10) (gi := 4) (rest := os) B rfl c_p_nth_walk (by decide) h10 (ax_cons (ex_v (i := 0) (j := 0) B rfl rfl rfl) (ax_cons (ex_v (i := 2) (j := 2) B rfl rfl rfl) ax_nil))) (ax_cons (ex_v (i := 3) (j := 3) B rfl rfl rfl) ax_nil))) (by intro _; rfl))) (fun hk => by (have hm := ifF h14 hk; obtain ⟨t12, h12, hm⟩ := bnd hm; obtain ⟨t13, h13, hm⟩ := bnd hm; obtain rfl := som hm; exact (wx_or1 (tx_not (tx_val (ex_call (a := (t12, at_5)) (b := t13) (gi := 5) (rest := os) B rfl c_l_number (by decide) h13 (ax_cons (ex_call (a := (letters, t9)) (b := t12) (gi := 6) (rest := os) B rfl c_p_number_of (by decide) h12 (ax_cons (ex_v (i := 0) (j := 0) B rfl rfl rfl) (ax_cons (ex_v (i := 3) (j := 3) B rfl rfl rfl) ax_nil))) (ax_cons (ex_v (i := 2) (j := 2) B rfl rfl rfl) ax_nil))) (by intro _; rfl)))))) (fun hk => by (have hm := ifT h14 hk; obtain rfl := som hm; rfl)) (or_fix (fun hk => by (have hm := ifT h14 hk; obtain rfl := som hm; rfl))))) (fun hk => ?_) (fun hk => ?_)
    · have hm := ifT hm hk
      exact sx_ret ex_bool (fun F H v e o c => ⟨_, (som hm).symm, F, (e7.trans e), o, c⟩)
    · have hm := ifF hm hk
      refine sx_fall ?_ rfl
      obtain ⟨t18, h18, hm⟩ := bnd hm
      refine sx_if (WX.tx (wx_and (l := t18) (tx_cmp op_lt r2_lt (nomark _) (ex_add (ex_v (i := 2) (j := 2) B rfl rfl rfl) ex_int) (EX.to (ex_fn (j := 2) B rfl g_len (by decide +kernel) call_len_seq (rc_lenL (ds := List.map (eT PyData.int) t2) rdl_dat) (ax_cons (ex_v (i := 1) (j := 1) B rfl rfl rfl) ax_nil)) (by rw [List.length_map]))) (fun hk => by (have hm := ifT h18 hk; obtain ⟨t15, h15, hm⟩ := bnd hm; obtain ⟨t16, h16, hm⟩ := bnd hm; obtain ⟨t17, h17, hm⟩ := bnd hm; obtain rfl := som hm; exact (wx_and1 (tx_not (tx_val (ex_call (a := (t15, t16)) (b := t17) (gi := 3) (rest := os) B rfl c_l_is (by decide) h17 (ax_cons (ex_call (a := (letters, t9)) (b := t15) (gi := 7) (rest := os) B rfl c_p_next_walk (by decide) h15 (ax_cons (ex_v (i := 0) (j := 0) B rfl rfl rfl) (ax_cons (ex_v (i := 3) (j := 3) B rfl rfl rfl) ax_nil))) (ax_cons (ex_idxL (enc := (eT PyData.int)) h16 rdl_dat (ex_v (i := 1) (j := 1) B rfl rfl rfl) (ex_add (ex_v (i := 2) (j := 2) B rfl rfl rfl) ex_int)) ax_nil))) (by intro _; rfl)))))) (fun hk => by (have hm := ifF h18 hk; obtain rfl := som hm; rfl)) (and_fix (fun hk => by (have hm := ifF h18 hk; obtain rfl := som hm; rfl))))) (fun hk => ?_) (fun hk => ?_)
      · have hm := ifT hm hk
        exact sx_ret ex_bool (fun F H v e o c => ⟨_, (som hm).symm, F, (e7.trans e), o, c⟩)
      · have hm := ifF hm hk
        refine sx_fall ?_ rfl
        exact sx_nil fun σ H a => ⟨_, (), (som hm).symm, (a.weak ⟨.inl rfl, .inl rfl, .inr rfl, .inr rfl, .inl rfl, .inl rfl, trivial⟩)⟩
  · cases ho
    have hm := elimR hm
    obtain ⟨t20, h20, hm⟩ := bnd hm
    obtain ⟨t21, h21, hm⟩ := bnd hm
    obtain ⟨f24o, h32, hm⟩ := bnd hm
    refine sx_forR (c := anyOs) (fun (s22 : Unit) (length23 : Int) => (((lcF (fun (walk_here27 : (List Int)) => (decide ((walk_here27.length : Int) = length23))) (fun (walk_here27 : (List Int)) => walk_here27) t2).bind fun t29 => ((m_p_how_many letters length23).bind fun t30 => (m_l_number t30 (t29.length : Int)).bind fun t31 => (if (!t31) = true then some (Step.ret false) else some (Step.go ())))) : Option (Step Bool Unit))) (fun (s22 : Unit) (_ : Unit) => [sl (dat (PyData.int letters)), sl (dat (PyData.list (List.map (eT PyData.int) t2))), un, un, un, un]) (fun (s22 : Unit) (_ : Unit) => os) (fun (r : Bool) v H => ∃ F, Same F0 F ∧ Ow F (os) H ∧ Cl (dat (PyData.bool r)) F v) B T (fun length23 => gx_name (i := 4) (vi := 4) (φ := (dat (PyData.int length23))) B T rfl rfl) () () f24o h32 (ix_rng1 (gi := 1) B rfl g_range h21 (ex_add (EX.to (ex_fn (j := 2) B rfl g_len (by decide +kernel) call_len_seq (rc_lenT (ds := List.map PyData.int t20) rdt_dat) (ax_cons (ex_idxL (enc := (eT PyData.int)) h20 rdl_dat (ex_v (i := 1) (j := 1) B rfl rfl rfl) (ex_neg ex_int)) ax_nil)) (by rw [List.length_map])) ex_int)) ⟨.inl rfl, .inl rfl, .inl rfl, .inl rfl, .inl rfl, .inl rfl, trivial⟩ (fun _ _ => trivial) (fun F26 e25 s22 _ length23 z34 hx hm2 => ?_) (fun f24 _ ho => ?_) (fun r33 v H ho hr => ?_)
    · clear hm h32
      have hm := hm2
      obtain ⟨t29, h29, hm⟩ := bnd hm
      refine sx_asg (i := 5) (vi := 5) (φ := (dat (PyData.int (t29.length : Int)))) B T rfl rfl (EX.to (ex_fn (j := 2) B rfl g_len (by decide +kernel) call_len_seq (rc_lenL (ds := List.map (eT PyData.int) t29) rdl_dat) (ax_cons (EN.ex (en_lc (lc_mk1 (j := 3) (vp := fun walk_here27 => (dat (PyData.tuple (List.map PyData.int walk_here27)))) (c := anyOs) (enc := (eT PyData.int)) (fun (_ : Unit) (walk_here27 : (List Int)) => some (if (decide ((walk_here27.length : Int) = length23)) = true then some walk_here27 else none, ())) (fun (_ : Unit) (tl1 : Os) => tl1) () (t29) () B rfl rfl (by rw [B.hN, hsc]; decide +kernel) (by rw [hsc]; decide +kernel) (by decide) (lcF_ok h29) (ix_list (enc := (eT PyData.int)) (c := anyOs) (ex_v (i := 1) (j := 1) B rfl rfl rfl) (fun _ _ => rdl_dat) trivial) (fun _ _ => trivial) (fun _ _ _ => List.Perm.refl _) (fun _ walk_here27 t tl1 hx hf => by (obtain rfl := som hf; exact ⟨(decide ((walk_here27.length : Int) = length23)), _, fun X1 hX => by (have B1 := Bd.fam (W' := ["_law_walk_here", "_law_length"]) (G' := ["len"]) B hX (by (try rw [hsc]); decide +kernel); have g_len' := fam_mg hX g_len; exact ⟨.one (tx_cmp op_eq r2_eqI (nomark _) (EX.to (ex_fn (j := 0) B1 rfl g_len' (by decide +kernel) call_len_seq (rc_lenT (ds := List.map PyData.int walk_here27) rdt_dat) (ax_cons (ex_v (i := 3) (j := 0) B1 rfl rfl rfl) ax_nil)) (by rw [List.length_map])) (ex_v (i := 4) (j := 1) B1 rfl rfl rfl)), fun h => ⟨_, if_pos h, (ex_v (i := 3) (j := 0) B1 rfl rfl rfl)⟩, fun h => ⟨if_neg (by rw [h]; exact Bool.false_ne_true), rfl⟩⟩)⟩))))) ax_nil)) (by rw [List.length_map])) ?_
      obtain ⟨t30, h30, hm⟩ := bnd hm
      obtain ⟨t31, h31, hm⟩ := bnd hm
      refine sx_if (tx_not (tx_val (ex_call (a := (t30, (t29.length : Int))) (b := t31) (gi := 5) (rest := os) B rfl c_l_number (by decide) h31 (ax_cons (ex_call (a := (letters, length23)) (b := t30) (gi := 8) (rest := os) B rfl c_p_how_many (by decide) h30 (ax_cons (ex_v (i := 0) (j := 0) B rfl rfl rfl) (ax_cons (ex_v (i := 4) (j := 4) B rfl rfl rfl) ax_nil))) (ax_cons (ex_v (i := 5) (j := 5) B rfl rfl rfl) ax_nil))) (by intro _; rfl))) (fun hk => ?_) (fun hk => ?_)
      · have hm := ifT hm hk
        exact sx_ret ex_bool (fun F H v e o c => ⟨_, (som hm).symm, F, (e25.trans e), o, c⟩)
      · have hm := ifF hm hk
        refine sx_fall ?_ rfl
        exact sx_nil fun σ H a => ⟨_, (), (som hm).symm, (a.weak ⟨.inl rfl, .inl rfl, .inl rfl, .inl rfl, .inr rfl, .inr rfl, trivial⟩)⟩
    · cases ho
      have hm := elimR hm
      obtain rfl := som hm
      exact sx_ret ex_bool (fun F H v e o c => R.rt F H v e o c)
    · cases ho
      have hm := elimL hm
      obtain rfl := som hm
      obtain ⟨F, e, o, c⟩ := hr
      exact R.rt F H v e o c
  · cases ho
    have hm := elimL hm
    obtain rfl := som hm
    obtain ⟨F, e, o, c⟩ := hr
    exact R.rt F H v e o c
theorem cal_l_short {P : Program} {w : World} {K : PySem.W.Frag} {mg : Str → Option Value} {base : Heap} {f : Addr} {fd : FuncData} (Fn : Fun K "_law_short" "_law_short" s_l_short f fd) (hmg : mg "_law_short" = some (.ref f)) (hb : Binds K fd ["_law_letters"] []) (c_l_all : Cal P w K mg base 2 "_law_all" s_l_all ["_law_letters", "_law_length"] (sp_l_all K)) (g_range : mg "range" = none) (g_len : mg "len" = none) (c_l_is : Cal P w K mg base 1 "_law_is" s_l_is ["_law_found", "_law_due"] (sp_l_is K)) (c_p_nth_walk : Cal P w K mg base 4 "nth_walk" s_p_nth_walk ["letters", "number"] (sp_p_nth_walk K)) (c_l_number : Cal P w K mg base 1 "_law_number" s_l_number ["_law_found", "_law_due"] (sp_l_number K)) (c_p_number_of : Cal P w K mg base 5 "number_of" s_p_number_of ["letters", "walk"] (sp_p_number_of K)) (c_p_next_walk : Cal P w K mg base 5 "next_walk" s_p_next_walk ["letters", "walk"] (sp_p_next_walk K)) (c_p_how_many : Cal P w K mg base 4 "how_many" s_p_how_many ["letters", "length"] (sp_p_how_many K)) : Cal P w K mg base 6 "_law_short" s_l_short ["_law_letters"] (sp_l_short K) :=
  cal_Z (V := V_l_short) (Gs := G_l_short) (nl := 5) Fn sc_l_short (by decide +kernel) (by decide +kernel) hmg hb (fun _ => rfl) rfl fun _ _ _ _ _ _ _ a b F0 os D B T hm R => body_l_short rfl B T c_l_all g_range g_len c_l_is c_p_nth_walk c_l_number c_p_number_of c_p_next_walk c_p_how_many a b F0 os D hm R
/-! ### _law_great -/
abbrev s_l_great : Stmt := top 45
def N_l_great : List Str := ["_law_letters", "_law_number_here", "_law_walk_here", "_law_step"]
def V_l_great : List Str := ["_law_letters", "_law_number_here", "_law_walk_here"]
def G_l_great : List Str := ["nth_walk", "_law_is", "_law_straight", "_law_ahead", "_law_number", "number_of", "_law_next"]
theorem sc_l_great : FnScope N_l_great ["_law_letters", "_law_number_here"] (defScope s_l_great) := ⟨rfl, rfl, rfl, by decide +kernel, rfl, by decide +kernel, by decide +kernel⟩
theorem kw_nth_walk_0_number_letters : KwOk "nth_walk" s_p_nth_walk ["letters", "number"] ["number", "letters"] 0 [1, 0] := fun _ _ _ _ _ _ us ws h1 h2 => match us, ws, h1, h2 with | [], [_, _], _, _ => rfl
abbrev sp_l_great (K : PySem.W.Frag) : Sp := spZ (α := (Int × Int)) (β := Bool) (fun a => [(dat (PyData.int a.1)), (dat (PyData.int a.2))]) (fun a => []) (fun a => m_l_great a.1 a.2) (fun a b => (dat (PyData.bool b))) (fun a b => [])
set_option maxHeartbeats 4000000 in
theorem body_l_great {X : Cx} (hsc : X.env.scope = defScope s_l_great) (B : Bd X N_l_great V_l_great G_l_great 5) (T : Bt X V_l_great) (c_p_nth_walk : Cal X.prog X.w X.K X.mg X.base 4 "nth_walk" s_p_nth_walk ["letters", "number"] (sp_p_nth_walk X.K)) (c_l_is : Cal X.prog X.w X.K X.mg X.base 1 "_law_is" s_l_is ["_law_found", "_law_due"] (sp_l_is X.K)) (c_l_straight : Cal X.prog X.w X.K X.mg X.base 2 "_law_straight" s_l_straight ["_law_walk_here"] (sp_l_straight X.K)) (c_l_steps : Cal X.prog X.w X.K X.mg X.base 1 "_law_steps" s_l_steps ["_law_letters"] (sp_l_steps X.K)) (c_l_ahead : Cal X.prog X.w X.K X.mg X.base 3 "_law_ahead" s_l_ahead ["_law_letters", "_law_walk_here"] (sp_l_ahead X.K)) (c_l_number : Cal X.prog X.w X.K X.mg X.base 1 "_law_number" s_l_number ["_law_found", "_law_due"] (sp_l_number X.K)) (c_p_number_of : Cal X.prog X.w X.K X.mg X.base 5 "number_of" s_p_number_of ["letters", "walk"] (sp_p_number_of X.K)) (c_l_next : Cal X.prog X.w X.K X.mg X.base 3 "_law_next" s_l_next ["_law_letters", "_law_walk_here"] (sp_l_next X.K)) (letters : Int) (number_here : Int) (b : Bool) (F0 : Hp) (os : Os) (D : Ends) (hm : m_l_great letters number_here = some b) (R : RetZ F0 (os) (dat (PyData.bool b)) D) :
    SX X [sl (dat (PyData.int letters)), sl (dat (PyData.int number_here)), un, un] (os) F0 (defBody s_l_great) D := by
  unfold m_l_great at hm
  obtain ⟨t1, h1, hm⟩ := bnd hm
  refine sx_asg (i := 2) (vi := 2) (φ := (dat (PyData.tuple (List.map PyData.int t1)))) B T rfl rfl (ex_call (a := (letters, number_here)) (b := t1) (gi := 0) (rest := os) B rfl c_p_nth_walk (by decide) h1 (ax_cons (ex_v (i := 0) (j := 0) B rfl rfl rfl) (ax_cons (ex_v (i := 1) (j := 1) B rfl rfl rfl) ax_nil))) ?_
  obtain ⟨t2, h2, hm⟩ := bnd hm
  obtain ⟨t4, h4, hm⟩ := bnd hm
  refine sx_if (WX.tx (wx_or (l := t4) (tx_not (tx_val (ex_call (a := (t1, t1)) (b := t2) (gi := 1) (rest := os) B rfl c_l_is (by decide) h2 (ax_cons (ex_v (i := 2) (j := 2) B rfl rfl rfl) (ax_cons (ex_v (i := 2) (j := 2) B rfl rfl rfl) ax_nil))) (by intro _; rfl))) (fun hk => by (have hm := ifF h4 hk; obtain ⟨t3, h3, hm⟩ := bnd hm; obtain rfl := som hm; exact (wx_or1 (tx_neR (e := (eT PyData.int)) (x := t1) (y := t3) B (eqv_tup eqv_int) (sh_tup sh_int) (by decide) rdx_dat rdx_dat (ex_v (i := 2) (j := 2) B rfl rfl rfl) (ex_call (a := t1) (b := t3) (gi := 2) (rest := os) B rfl c_l_straight (by decide) h3 (ax_cons (ex_v (i := 2) (j := 2) B rfl rfl rfl) ax_nil)))))) (fun hk => by (have hm := ifT h4 hk; obtain rfl := som hm; rfl)) (or_fix (fun hk => by (have hm := ifT h4 hk; obtain rfl := som hm; rfl))))) (fun hk => ?_) (fun hk => ?_)
  · have hm := ifT hm hk
    obtain rfl := som hm
    exact sx_ret ex_bool (fun F H v e o c => R.rt F H v e o c)
  · have hm := ifF hm hk
    refine sx_fall ?_ rfl
    obtain ⟨t8, h8, hm⟩ := bnd hm
    obtain ⟨t10, h10, hm⟩ := bnd hm
    refine sx_if (WX.tx (wx_or (l := t10) (tx_neR (e := (eL PyData.int)) (x := t8) (y := ([] : (List Int))) B (eqv_list eqv_int) (sh_list sh_int) (by decide) rdx_dat rdx_dat (EN.ex (en_lc (lc_mk1 (j := 3) (vp := fun step5 => (dat (PyData.int step5))) (c := anyOs) (enc := PyData.int) (fun (_ : Unit) (step5 : Int) => ((fun (step5 : Int) => ((m_l_steps letters).bind fun t7 => if (!t7.contains step5) = true then some (some step5) else some none)) step5).map fun y => (y, ())) (fun (_ : Unit) (tl1 : Os) => tl1) () (t8) () B rfl rfl (by rw [B.hN, hsc]; decide +kernel) (by rw [hsc]; decide +kernel) (by decide) (lcG_ok h8) (ix_tup (enc := PyData.int) (ex_v (i := 2) (j := 2) B rfl rfl rfl) rdt_dat) (fun _ _ => trivial) (fun _ _ _ => List.Perm.refl _) (fun _ step5 t tl1 hx hf => by (obtain ⟨y, hy, rfl⟩ := Option.map_eq_some_iff.mp hf; obtain ⟨t7, h7, hy⟩ := bnd hy; cases hc : (!t7.contains step5) with | true => (have hy := ifT hy hc; obtain rfl := som hy; exact ⟨true, _, fun X1 hX => by (have B1 := Bd.fam (W' := ["_law_letters", "_law_step"]) (G' := ["_law_steps"]) B hX (by (try rw [hsc]); decide +kernel); have c_l_steps' := fam_cal hX c_l_steps; exact ⟨.one (TX.to (tx_cmp op_notIn_seq (r2_ninL (xs := t7) rdl_dat) (by rfl) (ex_v (i := 3) (j := 1) B1 rfl rfl rfl) (ex_call (a := letters) (b := t7) (gi := 0) (rest := tl1) B1 rfl c_l_steps' (by decide) h7 (ax_cons (ex_v (i := 0) (j := 0) B1 rfl rfl rfl) ax_nil))) hc), fun _ => ⟨_, rfl, (ex_v (i := 3) (j := 1) B1 rfl rfl rfl)⟩, fun h => Bool.noConfusion h⟩)⟩) | false => (have hy := ifF hy hc; obtain rfl := som hy; exact ⟨false, _, fun X1 hX => by (have B1 := Bd.fam (W' := ["_law_letters", "_law_step"]) (G' := ["_law_steps"]) B hX (by (try rw [hsc]); decide +kernel); have c_l_steps' := fam_cal hX c_l_steps; exact ⟨.one (TX.to (tx_cmp op_notIn_seq (r2_ninL (xs := t7) rdl_dat) (by rfl) (ex_v (i := 3) (j := 1) B1 rfl rfl rfl) (ex_call (a := letters) (b := t7) (gi := 0) (rest := tl1) B1 rfl c_l_steps' (by decide) h7 (ax_cons (ex_v (i := 0) (j := 0) B1 rfl rfl rfl) ax_nil))) hc), fun h => Bool.noConfusion h, fun _ => ⟨rfl, rfl⟩⟩)⟩)))))) (EN.ex (en_lst (ds := []) ax_nil))) (fun hk => by (have hm := ifF h10 hk; obtain ⟨t9, h9, hm⟩ := bnd hm; obtain rfl := som hm; exact (wx_or1 (tx_cmp op_ne r2_neI (nomark _) (ex_call (a := (letters, t1)) (b := t9) (gi := 3) (rest := os) B rfl c_l_ahead (by decide) h9 (ax_cons (ex_v (i := 0) (j := 0) B rfl rfl rfl) (ax_cons (ex_v (i := 2) (j := 2) B rfl rfl rfl) ax_nil))) (ex_v (i := 1) (j := 1) B rfl rfl rfl))))) (fun hk => by (have hm := ifT h10 hk; obtain rfl := som hm; rfl)) (or_fix (fun hk => by (have hm := ifT h10 hk; obtain rfl := som hm; rfl))))) (fun hk => ?_) (fun hk => ?_)
    · have hm := ifT hm hk
      obtain rfl := som hm
      exact sx_ret ex_bool (fun F H v e o c => R.rt F H v e o c)
    · have hm := ifF hm hk
      refine sx_fall ?_ rfl
      obtain ⟨t11, h11, hm⟩ := bnd hm
      obtain ⟨t12, h12, hm⟩ := bnd hm
      refine sx_if (tx_not (tx_val (ex_call (a := (t11, t1)) (b := t12) (gi := 1) (rest := os) B rfl c_l_is (by decide) h12 (ax_cons (ex_callk0 (a := (letters, number_here)) (b := t11) (gi := 0) (rest := os) B rfl c_p_nth_walk (by decide) kw_nth_walk_0_number_letters (by decide) h11 (kx_cons (ex_v (i := 1) (j := 1) B rfl rfl rfl) (kx_cons (ex_v (i := 0) (j := 0) B rfl rfl rfl) kx_nil)) rfl) (ax_cons (ex_v (i := 2) (j := 2) B rfl rfl rfl) ax_nil))) (by intro _; rfl))) (fun hk => ?_) (fun hk => ?_)
      · have hm := ifT hm hk
        obtain rfl := som hm
        exact sx_ret ex_bool (fun F H v e o c => R.rt F H v e o c)
      · have hm := ifF hm hk
        refine sx_fall ?_ rfl
        obtain ⟨t13, h13, hm⟩ := bnd hm
        obtain ⟨t14, h14, hm⟩ := bnd hm
        refine sx_if (tx_not (tx_val (ex_call (a := (t13, number_here)) (b := t14) (gi := 4) (rest := os) B rfl c_l_number (by decide) h14 (ax_cons (ex_call (a := (letters, t1)) (b := t13) (gi := 5) (rest := os) B rfl c_p_number_of (by decide) h13 (ax_cons (ex_v (i := 0) (j := 0) B rfl rfl rfl) (ax_cons (ex_v (i := 2) (j := 2) B rfl rfl rfl) ax_nil))) (ax_cons (ex_v (i := 1) (j := 1) B rfl rfl rfl) ax_nil))) (by intro _; rfl))) (fun hk => ?_) (fun hk => ?_)
        · have hm := ifT hm hk
          obtain rfl := som hm
          exact sx_ret ex_bool (fun F H v e o c => R.rt F H v e o c)
        · have hm := ifF hm hk
          refine sx_fall ?_ rfl
          obtain ⟨t15, h15, hm⟩ := bnd hm
          obtain ⟨t16, h16, hm⟩ := bnd hm
          obtain ⟨t17, h17, hm⟩ := bnd hm
          obtain rfl := som hm
          exact sx_ret (ex_call (a := (t15, t16)) (b := t17) (gi := 1) (rest := os) B rfl c_l_is (by decide) h17 (ax_cons (ex_call (a := (letters, (number_here + 1))) (b := t15) (gi := 0) (rest := os) B rfl c_p_nth_walk (by decide) h15 (ax_cons (ex_v (i := 0) (j := 0) B rfl rfl rfl) (ax_cons (ex_add (ex_v (i := 1) (j := 1) B rfl rfl rfl) ex_int) ax_nil))) (ax_cons (ex_call (a := (letters, t1)) (b := t16) (gi := 6) (rest := os) B rfl c_l_next (by decide) h16 (ax_cons (ex_v (i := 0) (j := 0) B rfl rfl rfl) (ax_cons (ex_v (i := 2) (j := 2) B rfl rfl rfl) ax_nil))) ax_nil))) (fun F H v e o c => R.rt F H v e o c)
theorem cal_l_great {P : Program} {w : World} {K : PySem.W.Frag} {mg : Str → Option Value} {base : Heap} {f : Addr} {fd : FuncData} (Fn : Fun K "_law_great" "_law_great" s_l_great f fd) (hmg : mg "_law_great" = some (.ref f)) (hb : Binds K fd ["_law_letters", "_law_number_here"] []) (c_p_nth_walk : Cal P w K mg base 4 "nth_walk" s_p_nth_walk ["letters", "number"] (sp_p_nth_walk K)) (c_l_is : Cal P w K mg base 1 "_law_is" s_l_is ["_law_found", "_law_due"] (sp_l_is K)) (c_l_straight : Cal P w K mg base 2 "_law_straight" s_l_straight ["_law_walk_here"] (sp_l_straight K)) (c_l_steps : Cal P w K mg base 1 "_law_steps" s_l_steps ["_law_letters"] (sp_l_steps K)) (c_l_ahead : Cal P w K mg base 3 "_law_ahead" s_l_ahead ["_law_letters", "_law_walk_here"] (sp_l_ahead K)) (c_l_number : Cal P w K mg base 1 "_law_number" s_l_number ["_law_found", "_law_due"] (sp_l_number K)) (c_p_number_of : Cal P w K mg base 5 "number_of" s_p_number_of ["letters", "walk"] (sp_p_number_of K)) (c_l_next : Cal P w K mg base 3 "_law_next" s_l_next ["_law_letters", "_law_walk_here"] (sp_l_next K)) : Cal P w K mg base 6 "_law_great" s_l_great ["_law_letters", "_law_number_here"] (sp_l_great K) :=
  cal_Z (V := V_l_great) (Gs := G_l_great) (nl := 2) Fn sc_l_great (by decide +kernel) (by decide +kernel) hmg hb (fun _ => rfl) rfl fun _ _ _ _ _ _ _ a b F0 os D B T hm R => body_l_great rfl B T c_p_nth_walk c_l_is c_l_straight c_l_steps c_l_ahead c_l_number c_p_number_of c_l_next a.1 a.2 b F0 os D hm R
/-! ### _law_walked -/
abbrev s_l_walked : Stmt := top 46
def N_l_walked : List Str := ["_law_letters", "_law_walk_here", "_law_other", "_law_due", "_law_later"]
def V_l_walked : List Str := ["_law_letters", "_law_walk_here", "_law_other", "_law_due", "_law_later"]
def G_l_walked : List Str := ["_law_ahead", "_law_number", "number_of", "_law_next", "_law_is", "next_walk"]
theorem sc_l_walked : FnScope N_l_walked ["_law_letters", "_law_walk_here", "_law_other"] (defScope s_l_walked) := ⟨rfl, rfl, rfl, by decide +kernel, rfl, by decide +kernel, by decide +kernel⟩
theorem kw_number_of_0_walk_letters : KwOk "number_of" s_p_number_of ["letters", "walk"] ["walk", "letters"] 0 [1, 0] := fun _ _ _ _ _ _ us ws h1 h2 => match us, ws, h1, h2 with | [], [_, _], _, _ => rfl
theorem kw_next_walk_0_walk_letters : KwOk "next_walk" s_p_next_walk ["letters", "walk"] ["walk", "letters"] 0 [1, 0] := fun _ _ _ _ _ _ us ws h1 h2 => match us, ws, h1, h2 with | [], [_, _], _, _ => rfl
abbrev sp_l_walked (K : PySem.W.Frag) : Sp := spZ (α := (Int × (List Int) × (List Int))) (β := Bool) (fun a => [(dat (PyData.int a.1)), (dat (PyData.tuple (List.map PyData.int a.2.1))), (dat (PyData.tuple (List.map PyData.int a.2.2)))]) (fun a => []) (fun a => m_l_walked a.1 a.2.1 a.2.2) (fun a b => (dat (PyData.bool b))) (fun a b => [])
set_option maxHeartbeats 4000000 in
theorem body_l_walked {X : Cx} (hsc : X.env.scope = defScope s_l_walked) (B : Bd X N_l_walked V_l_walked G_l_walked 5) (T : Bt X V_l_walked) (c_l_ahead : Cal X.prog X.w X.K X.mg X.base 3 "_law_ahead" s_l_ahead ["_law_letters", "_law_walk_here"] (sp_l_ahead X.K)) (c_l_number : Cal X.prog X.w X.K X.mg X.base 1 "_law_number" s_l_number ["_law_found", "_law_due"] (sp_l_number X.K)) (c_p_number_of : Cal X.prog X.w X.K X.mg X.base 5 "number_of" s_p_number_of ["letters", "walk"] (sp_p_number_of X.K)) (c_l_next : Cal X.prog X.w X.K X.mg X.base 3 "_law_next" s_l_next ["_law_letters", "_law_walk_here"] (sp_l_next X.K)) (c_l_is : Cal X.prog X.w X.K X.mg X.base 1 "_law_is" s_l_is ["_law_found", "_law_due"] (sp_l_is X.K)) (c_p_next_walk : Cal X.prog X.w X.K X.mg X.base 5 "next_walk" s_p_next_walk ["letters", "walk"] (sp_p_next_walk X.K)) (letters : Int) (walk_here : (List Int)) (other : (List Int)) (b : Bool) (F0 : Hp) (os : Os) (D : Ends) (hm : m_l_walked letters walk_here other = some b) (R : RetZ F0 (os) (dat (PyData.bool b)) D) :
    SX X [sl (dat (PyData.int letters)), sl (dat (PyData.tuple (List.map PyData.int walk_here))), sl (dat (PyData.tuple (List.map PyData.int other))), un, un] (os) F0 (defBody s_l_walked) D := by
  unfold m_l_walked at hm
  obtain ⟨t1, h1, hm⟩ := bnd hm
  refine sx_asg (i := 3) (vi := 3) (φ := (dat (PyData.int t1))) B T rfl rfl (ex_call (a := (letters, other)) (b := t1) (gi := 0) (rest := os) B rfl c_l_ahead (by decide) h1 (ax_cons (ex_v (i := 0) (j := 0) B rfl rfl rfl) (ax_cons (ex_v (i := 2) (j := 2) B rfl rfl rfl) ax_nil))) ?_
  obtain ⟨t2, h2, hm⟩ := bnd hm
  obtain ⟨t3, h3, hm⟩ := bnd hm
  obtain ⟨t6, h6, hm⟩ := bnd hm
  refine sx_if (WX.tx (wx_or (l := t6) (tx_not (tx_val (ex_call (a := (t2, t1)) (b := t3) (gi := 1) (rest := os) B rfl c_l_number (by decide) h3 (ax_cons (ex_call (a := (letters, walk_here)) (b := t2) (gi := 2) (rest := os) B rfl c_p_number_of (by decide) h2 (ax_cons (ex_v (i := 0) (j := 0) B rfl rfl rfl) (ax_cons (ex_v (i := 1) (j := 1) B rfl rfl rfl) ax_nil))) (ax_cons (ex_v (i := 3) (j := 3) B rfl rfl rfl) ax_nil))) (by intro _; rfl))) (fun hk => by (have hm := ifF h6 hk; obtain ⟨t4, h4, hm⟩ := bnd hm; obtain ⟨t5, h5, hm⟩ := bnd hm; obtain rfl := som hm; exact (wx_or1 (tx_not (tx_val (ex_call (a := (t4, t1)) (b := t5) (gi := 1) (rest := os) B rfl c_l_number (by decide) h5 (ax_cons (ex_callk0 (a := (letters, walk_here)) (b := t4) (gi := 2) (rest := os) B rfl c_p_number_of (by decide) kw_number_of_0_walk_letters (by decide) h4 (kx_cons (ex_v (i := 1) (j := 1) B rfl rfl rfl) (kx_cons (ex_v (i := 0) (j := 0) B rfl rfl rfl) kx_nil)) rfl) (ax_cons (ex_v (i := 3) (j := 3) B rfl rfl rfl) ax_nil))) (by intro _; rfl)))))) (fun hk => by (have hm := ifT h6 hk; obtain rfl := som hm; rfl)) (or_fix (fun hk => by (have hm := ifT h6 hk; obtain rfl := som hm; rfl))))) (fun hk => ?_) (fun hk => ?_)
  · have hm := ifT hm hk
    obtain rfl := som hm
    exact sx_ret ex_bool (fun F H v e o c => R.rt F H v e o c)
  · have hm := ifF hm hk
    refine sx_fall ?_ rfl
    obtain ⟨t7, h7, hm⟩ := bnd hm
    refine sx_asg (i := 4) (vi := 4) (φ := (dat (PyData.tuple (List.map PyData.int t7)))) B T rfl rfl (ex_call (a := (letters, other)) (b := t7) (gi := 3) (rest := os) B rfl c_l_next (by decide) h7 (ax_cons (ex_v (i := 0) (j := 0) B rfl rfl rfl) (ax_cons (ex_v (i := 2) (j := 2) B rfl rfl rfl) ax_nil))) ?_
    obtain ⟨t8, h8, hm⟩ := bnd hm
    obtain ⟨t9, h9, hm⟩ := bnd hm
    obtain ⟨t12, h12, hm⟩ := bnd hm
    obtain rfl := som hm
    exact sx_ret (ex_and (l := t12) (ex_call (a := (t8, t7)) (b := t9) (gi := 4) (rest := os) B rfl c_l_is (by decide) h9 (ax_cons (ex_call (a := (letters, walk_here)) (b := t8) (gi := 5) (rest := os) B rfl c_p_next_walk (by decide) h8 (ax_cons (ex_v (i := 0) (j := 0) B rfl rfl rfl) (ax_cons (ex_v (i := 1) (j := 1) B rfl rfl rfl) ax_nil))) (ax_cons (ex_v (i := 4) (j := 4) B rfl rfl rfl) ax_nil))) (fun hk => by (have hm := ifT h12 hk; obtain ⟨t10, h10, hm⟩ := bnd hm; obtain ⟨t11, h11, hm⟩ := bnd hm; obtain rfl := som hm; exact (ex_one (ex_call (a := (t10, t7)) (b := t11) (gi := 4) (rest := os) B rfl c_l_is (by decide) h11 (ax_cons (ex_callk0 (a := (letters, walk_here)) (b := t10) (gi := 5) (rest := os) B rfl c_p_next_walk (by decide) kw_next_walk_0_walk_letters (by decide) h10 (kx_cons (ex_v (i := 1) (j := 1) B rfl rfl rfl) (kx_cons (ex_v (i := 0) (j := 0) B rfl rfl rfl) kx_nil)) rfl) (ax_cons (ex_v (i := 4) (j := 4) B rfl rfl rfl) ax_nil)))))) (fun hk => by (have hm := ifF h12 hk; obtain rfl := som hm; rfl)) (and_fix (fun hk => by (have hm := ifF h12 hk; obtain rfl := som hm; rfl)))) (fun F H v e o c => R.rt F H v e o c)
theorem cal_l_walked {P : Program} {w : World} {K : PySem.W.Frag} {mg : Str → Option Value} {base : Heap} {f : Addr} {fd : FuncData} (Fn : Fun K "_law_walked" "_law_walked" s_l_walked f fd) (hmg : mg "_law_walked" = some (.ref f)) (hb : Binds K fd ["_law_letters", "_law_walk_here", "_law_other"] []) (c_l_ahead : Cal P w K mg base 3 "_law_ahead" s_l_ahead ["_law_letters", "_law_walk_here"] (sp_l_ahead K)) (c_l_number : Cal P w K mg base 1 "_law_number" s_l_number ["_law_found", "_law_due"] (sp_l_number K)) (c_p_number_of : Cal P w K mg base 5 "number_of" s_p_number_of ["letters", "walk"] (sp_p_number_of K)) (c_l_next : Cal P w K mg base 3 "_law_next" s_l_next ["_law_letters", "_law_walk_here"] (sp_l_next K)) (c_l_is : Cal P w K mg base 1 "_law_is" s_l_is ["_law_found", "_law_due"] (sp_l_is K)) (c_p_next_walk : Cal P w K mg base 5 "next_walk" s_p_next_walk ["letters", "walk"] (sp_p_next_walk K)) : Cal P w K mg base 6 "_law_walked" s_l_walked ["_law_letters", "_law_walk_here", "_law_other"] (sp_l_walked K) :=
  cal_Z (V := V_l_walked) (Gs := G_l_walked) (nl := 2) Fn sc_l_walked (by decide +kernel) (by decide +kernel) hmg hb (fun _ => rfl) rfl fun _ _ _ _ _ _ _ a b F0 os D B T hm R => body_l_walked rfl B T c_l_ahead c_l_number c_p_number_of c_l_next c_l_is c_p_next_walk a.1 a.2.1 a.2.2 b F0 os D hm R
/-! ### _law_right -/
abbrev s_l_right : Stmt := top 47
def N_l_right : List Str := ["_law_well_here", "_law_letters", "_law_most", "_law_number_here", "_law_walk_here", "_law_at", "_law_step", "_law_more", "_law_left", "_law_last", "_law_length", "_law_due"]
def V_l_right : List Str := ["_law_well_here", "_law_letters", "_law_most", "_law_number_here", "_law_walk_here", "_law_at", "_law_step", "_law_more", "_law_left", "_law_last", "_law_length", "_law_due"]
def G_l_right : List Str := ["_law_take", "int", "_law_short", "_law_great", "_law_walk", "len", "_law_straight", "_law_walked", "_law_is", "nth_walk", "_law_ahead", "_law_many", "_law_number", "how_many"]
theorem sc_l_right : FnScope N_l_right ["_law_well_here"] (defScope s_l_right) := ⟨rfl, rfl, rfl, by decide +kernel, rfl, by decide +kernel, by decide +kernel⟩
theorem kw_how_many_0_length_letters : KwOk "how_many" s_p_how_many ["letters", "length"] ["length", "letters"] 0 [1, 0] := fun _ _ _ _ _ _ us ws h1 h2 => match us, ws, h1, h2 with | [], [_, _], _, _ => rfl
abbrev sp_l_right (K : PySem.W.Frag) : Sp := spZ (α := (Addr × (List Int))) (β := (Bool × (List Int))) (fun a => [own a.1]) (fun a => (a.1, ol (List.map PyData.int a.2)) :: []) (fun a => m_l_right a.2) (fun a b => (dat (PyData.bool b.1))) (fun a b => (a.1, ol (List.map PyData.int b.2)) :: [])
set_option maxHeartbeats 4000000 in
theorem body_l_right {X : Cx} (hsc : X.env.scope = defScope s_l_right) (B : Bd X N_l_right V_l_right G_l_right 6) (T : Bt X V_l_right) (c_l_take : Cal X.prog X.w X.K X.mg X.base 1 "_law_take" s_l_take ["_law_well_here", "_law_many_here"] (sp_l_take X.K)) (g_int : X.mg "int" = none) (c_l_short : Cal X.prog X.w X.K X.mg X.base 6 "_law_short" s_l_short ["_law_letters"] (sp_l_short X.K)) (c_l_great : Cal X.prog X.w X.K X.mg X.base 6 "_law_great" s_l_great ["_law_letters", "_law_number_here"] (sp_l_great X.K)) (c_l_walk : Cal X.prog X.w X.K X.mg X.base 2 "_law_walk" s_l_walk ["_law_well_here", "_law_letters", "_law_most"] (sp_l_walk X.K)) (g_len : X.mg "len" = none) (c_l_straight : Cal X.prog X.w X.K X.mg X.base 2 "_law_straight" s_l_straight ["_law_walk_here"] (sp_l_straight X.K)) (c_l_walked : Cal X.prog X.w X.K X.mg X.base 6 "_law_walked" s_l_walked ["_law_letters", "_law_walk_here", "_law_other"] (sp_l_walked X.K)) (c_l_is : Cal X.prog X.w X.K X.mg X.base 1 "_law_is" s_l_is ["_law_found", "_law_due"] (sp_l_is X.K)) (c_p_nth_walk : Cal X.prog X.w X.K X.mg X.base 4 "nth_walk" s_p_nth_walk ["letters", "number"] (sp_p_nth_walk X.K)) (c_l_ahead : Cal X.prog X.w X.K X.mg X.base 3 "_law_ahead" s_l_ahead ["_law_letters", "_law_walk_here"] (sp_l_ahead X.K)) (c_l_many : Cal X.prog X.w X.K X.mg X.base 2 "_law_many" s_l_many ["_law_letters", "_law_length"] (sp_l_many X.K)) (c_l_number : Cal X.prog X.w X.K X.mg X.base 1 "_law_number" s_l_number ["_law_found", "_law_due"] (sp_l_number X.K)) (c_p_how_many : Cal X.prog X.w X.K X.mg X.base 4 "how_many" s_p_how_many ["letters", "length"] (sp_p_how_many X.K)) (q_well_here : Addr) (w_well_here : (List Int)) (b : (Bool × (List Int))) (F0 : Hp) (os : Os) (D : Ends) (hm : m_l_right w_well_here = some b) (R : RetZ F0 ((q_well_here, ol (List.map PyData.int b.2)) :: os) (dat (PyData.bool b.1)) D) :
    SX X [sl (own q_well_here), un, un, un, un, un, un, un, un, un, un, un] ((q_well_here, ol (List.map PyData.int w_well_here)) :: os) F0 (defBody s_l_right) D := by
  unfold m_l_right at hm
  obtain ⟨t1, h1, hm⟩ := bnd hm
  refine sx_asg (i := 1) (vi := 1) (φ := (dat (PyData.int (1 + t1.1)))) B T rfl rfl (ex_add ex_int (ex_call (a := (q_well_here, w_well_here, 4)) (b := t1) (gi := 0) (rest := os) B rfl c_l_take (by decide) h1 (ax_cons (ex_v (i := 0) (j := 0) B rfl rfl rfl) (ax_cons ex_int ax_nil)))) ?_
  refine sx_asg (i := 2) (vi := 2) (φ := (dat (PyData.int 799))) B T rfl rfl ex_int ?_
  obtain ⟨s4, h_s4, hm⟩ := bnd hm
  refine sx_join [sl (own q_well_here), sl (dat (PyData.int (1 + t1.1))), sl (dat (PyData.int s4.1)), un, un, un, un, un, un, un, un, un] ((q_well_here, ol (List.map PyData.int s4.2)) :: os) (?_) (fun Q => ?_)
  · clear h_s4
    obtain ⟨t5, h5, hm⟩ := bnd hm
    obtain ⟨t6, h6, hm⟩ := bnd hm
    obtain ⟨t7, h7, hm⟩ := bnd hm
    refine sx_asg (i := 3) (vi := 3) (φ := (dat (PyData.int t7))) B T rfl rfl (ex_idxL (enc := PyData.int) h7 rdl_dat (EN.ex (en_lst (ds := [(PyData.int t5.1), (PyData.int s4.1)]) (hl := len_ok (n := 2) rfl) (ax_cons (ex_call (a := (q_well_here, s4.2, (s4.1 + 1))) (b := t5) (gi := 0) (rest := os) B rfl c_l_take (by decide) h5 (ax_cons (ex_v (i := 0) (j := 0) B rfl rfl rfl) (ax_cons (ex_add (ex_v (i := 2) (j := 2) B rfl rfl rfl) ex_int) ax_nil))) (ax_cons (ex_v (i := 2) (j := 2) B rfl rfl rfl) ax_nil)))) (ex_ty (j := 1) B rfl g_int (by decide +kernel) call_int1 rc_intB (ax_cons (ex_cmp op_eq r2_eqI (nomark _) (ex_call (a := (q_well_here, t5.2, 5)) (b := t6) (gi := 0) (rest := os) B rfl c_l_take (by decide) h6 (ax_cons (ex_v (i := 0) (j := 0) B rfl rfl rfl) (ax_cons ex_int ax_nil))) ex_int) ax_nil))) ?_
    obtain ⟨t8, h8, hm⟩ := bnd hm
    obtain ⟨t10, h10, hm⟩ := bnd hm
    refine sx_if (WX.tx (wx_or (l := t10) (tx_not (tx_val (ex_call (a := (1 + t1.1)) (b := t8) (gi := 2) (rest := (q_well_here, ol (List.map PyData.int t6.2)) :: os) B rfl c_l_short (by decide) h8 (ax_cons (ex_v (i := 1) (j := 1) B rfl rfl rfl) ax_nil)) (by intro _; rfl))) (fun hk => by (have hm := ifF h10 hk; obtain ⟨t9, h9, hm⟩ := bnd hm; obtain rfl := som hm; exact (wx_or1 (tx_not (tx_val (ex_call (a := ((1 + t1.1), t7)) (b := t9) (gi := 3) (rest := (q_well_here, ol (List.map PyData.int t6.2)) :: os) B rfl c_l_great (by decide) h9 (ax_cons (ex_v (i := 1) (j := 1) B rfl rfl rfl) (ax_cons (ex_v (i := 3) (j := 3) B rfl rfl rfl) ax_nil))) (by intro _; rfl)))))) (fun hk => by (have hm := ifT h10 hk; obtain rfl := som hm; rfl)) (or_fix (fun hk => by (have hm := ifT h10 hk; obtain rfl := som hm; rfl))))) (fun hk => ?_) (fun hk => ?_)
    · have hm := ifT hm hk
      obtain rfl := som hm
      exact sx_ret ex_bool (fun F H v e o c => R.rt F H v e o c)
    · have hm := ifF hm hk
      refine sx_fall ?_ rfl
      obtain ⟨t11, h11, hm⟩ := bnd hm
      refine sx_asg (i := 4) (vi := 4) (φ := (dat (PyData.tuple (List.map PyData.int t11.1)))) B T rfl rfl (ex_call (a := (q_well_here, t6.2, (1 + t1.1), 58)) (b := t11) (gi := 4) (rest := os) B rfl c_l_walk (by decide) h11 (ax_cons (ex_v (i := 0) (j := 0) B rfl rfl rfl) (ax_cons (ex_v (i := 1) (j := 1) B rfl rfl rfl) (ax_cons ex_int ax_nil)))) ?_
      obtain ⟨t12, h12, hm⟩ := bnd hm
      obtain ⟨t13, h13, hm⟩ := bnd hm
      refine sx_par2 (i := 5) (j := 6) _ hsc B rfl rfl (by decide) (by decide +kernel) (by decide +kernel) (by intro env he; cases env; cases he; first | rfl | kernel_rfl) (aq_x (φ := (dat (PyData.int t12.1))) (ex_call (a := (q_well_here, t11.2, ((t11.1.length : Int) + 1))) (b := t12) (gi := 0) (rest := os) B rfl c_l_take (by decide) h12 (ax_cons (ex_v (i := 0) (j := 0) B rfl rfl rfl) (ax_cons (ex_add (EX.to (ex_fn (j := 5) B rfl g_len (by decide +kernel) call_len_seq (rc_lenT (ds := List.map PyData.int t11.1) rdt_dat) (ax_cons (ex_v (i := 4) (j := 4) B rfl rfl rfl) ax_nil)) (by rw [List.length_map])) ex_int) ax_nil))) (aq_x (φ := (dat (PyData.int (1 + t13.1)))) (ex_add ex_int (ex_call (a := (q_well_here, t12.2, (1 + t1.1))) (b := t13) (gi := 0) (rest := os) B rfl c_l_take (by decide) h13 (ax_cons (ex_v (i := 0) (j := 0) B rfl rfl rfl) (ax_cons (ex_v (i := 1) (j := 1) B rfl rfl rfl) ax_nil)))) aq_nil)) (fun v0 v1 os_ hr_ => ?_) (by rintro φs os_ ⟨_, rfl, _, rfl, rfl, rfl⟩; exact ⟨_, _, rfl⟩)
      obtain ⟨_, e0, _, e1, e8, e9⟩ := hr_
      cases e0; cases e1; cases e8; cases e9
      obtain ⟨t14, h14, hm⟩ := bnd hm
      obtain ⟨t15, h15, hm⟩ := bnd hm
      obtain ⟨t16, h16, hm⟩ := bnd hm
      refine sx_par2 (i := 7) (j := 8) _ hsc B rfl rfl (by decide) (by decide +kernel) (by decide +kernel) (by intro env he; cases env; cases he; first | rfl | kernel_rfl) (aq_x (φ := (dat (PyData.tuple (List.map PyData.int t15)))) (ex_catT (enc := PyData.int) h15 (ex_catT (enc := PyData.int) h14 (ex_cutT (enc := PyData.int) rdt_dat (ex_v (i := 4) (j := 4) B rfl rfl rfl) px_none (px_some (ex_v (i := 5) (j := 5) B rfl rfl rfl))) (ex_tup (ds := [(PyData.int (-(1 + t13.1))), (PyData.int (1 + t13.1))]) (hl := len_ok (n := 2) rfl) (ax_cons (ex_neg (ex_v (i := 6) (j := 6) B rfl rfl rfl)) (ax_cons (ex_v (i := 6) (j := 6) B rfl rfl rfl) ax_nil)))) (ex_cutT (enc := PyData.int) rdt_dat (ex_v (i := 4) (j := 4) B rfl rfl rfl) (px_some (ex_v (i := 5) (j := 5) B rfl rfl rfl)) px_none)) (aq_x (φ := (dat (PyData.tuple (List.map PyData.int t16)))) (ex_call (a := t11.1) (b := t16) (gi := 6) (rest := (q_well_here, ol (List.map PyData.int t13.2)) :: os) B rfl c_l_straight (by decide) h16 (ax_cons (ex_v (i := 4) (j := 4) B rfl rfl rfl) ax_nil)) aq_nil)) (fun v0 v1 os_ hr_ => ?_) (by rintro φs os_ ⟨_, rfl, _, rfl, rfl, rfl⟩; exact ⟨_, _, rfl⟩)
      obtain ⟨_, e0, _, e1, e8, e9⟩ := hr_
      cases e0; cases e1; cases e8; cases e9
      obtain ⟨t17, h17, hm⟩ := bnd hm
      obtain ⟨t18, h18, hm⟩ := bnd hm
      refine sx_asg (i := 9) (vi := 9) (φ := (dat (PyData.tuple (List.map PyData.int t18)))) B T rfl rfl (ex_repT (enc := PyData.int) h18 (ex_tup (ds := [(PyData.int (-(1 + t1.1)))]) (hl := len_ok (n := 1) rfl) (ax_cons (ex_neg (ex_v (i := 1) (j := 1) B rfl rfl rfl)) ax_nil)) (ex_call (a := (q_well_here, t13.2, 61)) (b := t17) (gi := 0) (rest := os) B rfl c_l_take (by decide) h17 (ax_cons (ex_v (i := 0) (j := 0) B rfl rfl rfl) (ax_cons ex_int ax_nil)))) ?_
      obtain ⟨t19, h19, hm⟩ := bnd hm
      obtain ⟨t21, h21, hm⟩ := bnd hm
      refine sx_if (WX.tx (wx_or (l := t21) (tx_not (tx_val (ex_call (a := ((1 + t1.1), t11.1, t16)) (b := t19) (gi := 7) (rest := (q_well_here, ol (List.map PyData.int t17.2)) :: os) B rfl c_l_walked (by decide) h19 (ax_cons (ex_v (i := 1) (j := 1) B rfl rfl rfl) (ax_cons (ex_v (i := 4) (j := 4) B rfl rfl rfl) (ax_cons (ex_v (i := 8) (j := 8) B rfl rfl rfl) ax_nil)))) (by intro _; rfl))) (fun hk => by (have hm := ifF h21 hk; obtain ⟨t20, h20, hm⟩ := bnd hm; obtain rfl := som hm; exact (wx_or1 (tx_not (tx_val (ex_call (a := ((1 + t1.1), t15, t16)) (b := t20) (gi := 7) (rest := (q_well_here, ol (List.map PyData.int t17.2)) :: os) B rfl c_l_walked (by decide) h20 (ax_cons (ex_v (i := 1) (j := 1) B rfl rfl rfl) (ax_cons (ex_v (i := 7) (j := 7) B rfl rfl rfl) (ax_cons (ex_v (i := 8) (j := 8) B rfl rfl rfl) ax_nil)))) (by intro _; rfl)))))) (fun hk => by (have hm := ifT h21 hk; obtain rfl := som hm; rfl)) (or_fix (fun hk => by (have hm := ifT h21 hk; obtain rfl := som hm; rfl))))) (fun hk => ?_) (fun hk => ?_)
      · have hm := ifT hm hk
        obtain rfl := som hm
        exact sx_ret ex_bool (fun F H v e o c => R.rt F H v e o c)
      · have hm := ifF hm hk
        refine sx_fall ?_ rfl
        obtain ⟨t22, h22, hm⟩ := bnd hm
        obtain ⟨t26, h26, hm⟩ := bnd hm
        refine sx_if (WX.tx (wx_or (l := t26) (tx_not (tx_val (ex_call (a := ((1 + t1.1), t18, t18)) (b := t22) (gi := 7) (rest := (q_well_here, ol (List.map PyData.int t17.2)) :: os) B rfl c_l_walked (by decide) h22 (ax_cons (ex_v (i := 1) (j := 1) B rfl rfl rfl) (ax_cons (ex_v (i := 9) (j := 9) B rfl rfl rfl) (ax_cons (ex_v (i := 9) (j := 9) B rfl rfl rfl) ax_nil)))) (by intro _; rfl))) (fun hk => by (have hm := ifF h26 hk; obtain ⟨t23, h23, hm⟩ := bnd hm; obtain ⟨t24, h24, hm⟩ := bnd hm; obtain ⟨t25, h25, hm⟩ := bnd hm; obtain rfl := som hm; exact (wx_or1 (tx_not (tx_val (ex_call (a := (t24, t16)) (b := t25) (gi := 8) (rest := (q_well_here, ol (List.map PyData.int t17.2)) :: os) B rfl c_l_is (by decide) h25 (ax_cons (ex_call (a := ((1 + t1.1), t23)) (b := t24) (gi := 9) (rest := (q_well_here, ol (List.map PyData.int t17.2)) :: os) B rfl c_p_nth_walk (by decide) h24 (ax_cons (ex_v (i := 1) (j := 1) B rfl rfl rfl) (ax_cons (ex_call (a := ((1 + t1.1), t16)) (b := t23) (gi := 10) (rest := (q_well_here, ol (List.map PyData.int t17.2)) :: os) B rfl c_l_ahead (by decide) h23 (ax_cons (ex_v (i := 1) (j := 1) B rfl rfl rfl) (ax_cons (ex_v (i := 8) (j := 8) B rfl rfl rfl) ax_nil))) ax_nil))) (ax_cons (ex_v (i := 8) (j := 8) B rfl rfl rfl) ax_nil))) (by intro _; rfl)))))) (fun hk => by (have hm := ifT h26 hk; obtain rfl := som hm; rfl)) (or_fix (fun hk => by (have hm := ifT h26 hk; obtain rfl := som hm; rfl))))) (fun hk => ?_) (fun hk => ?_)
        · have hm := ifT hm hk
          obtain rfl := som hm
          exact sx_ret ex_bool (fun F H v e o c => R.rt F H v e o c)
        · have hm := ifF hm hk
          refine sx_fall ?_ rfl
          obtain ⟨t27, h27, hm⟩ := bnd hm
          refine sx_asg (i := 10) (vi := 10) (φ := (dat (PyData.int t27.1))) B T rfl rfl (ex_call (a := (q_well_here, t17.2, 101)) (b := t27) (gi := 0) (rest := os) B rfl c_l_take (by decide) h27 (ax_cons (ex_v (i := 0) (j := 0) B rfl rfl rfl) (ax_cons ex_int ax_nil))) ?_
          obtain ⟨t28, h28, hm⟩ := bnd hm
          refine sx_asg (i := 11) (vi := 11) (φ := (dat (PyData.int t28))) B T rfl rfl (ex_call (a := ((1 + t1.1), t27.1)) (b := t28) (gi := 11) (rest := (q_well_here, ol (List.map PyData.int t27.2)) :: os) B rfl c_l_many (by decide) h28 (ax_cons (ex_v (i := 1) (j := 1) B rfl rfl rfl) (ax_cons (ex_v (i := 10) (j := 10) B rfl rfl rfl) ax_nil))) ?_
          obtain ⟨t29, h29, hm⟩ := bnd hm
          obtain ⟨t30, h30, hm⟩ := bnd hm
          obtain ⟨t33, h33, hm⟩ := bnd hm
          obtain rfl := som hm
          exact sx_ret (ex_and (l := t33) (ex_call (a := (t29, t28)) (b := t30) (gi := 12) (rest := (q_well_here, ol (List.map PyData.int t27.2)) :: os) B rfl c_l_number (by decide) h30 (ax_cons (ex_call (a := ((1 + t1.1), t27.1)) (b := t29) (gi := 13) (rest := (q_well_here, ol (List.map PyData.int t27.2)) :: os) B rfl c_p_how_many (by decide) h29 (ax_cons (ex_v (i := 1) (j := 1) B rfl rfl rfl) (ax_cons (ex_v (i := 10) (j := 10) B rfl rfl rfl) ax_nil))) (ax_cons (ex_v (i := 11) (j := 11) B rfl rfl rfl) ax_nil))) (fun hk => by (have hm := ifT h33 hk; obtain ⟨t31, h31, hm⟩ := bnd hm; obtain ⟨t32, h32, hm⟩ := bnd hm; obtain rfl := som hm; exact (ex_one (ex_call (a := (t31, t28)) (b := t32) (gi := 12) (rest := (q_well_here, ol (List.map PyData.int t27.2)) :: os) B rfl c_l_number (by decide) h32 (ax_cons (ex_callk0 (a := ((1 + t1.1), t27.1)) (b := t31) (gi := 13) (rest := (q_well_here, ol (List.map PyData.int t27.2)) :: os) B rfl c_p_how_many (by decide) kw_how_many_0_length_letters (by decide) h31 (kx_cons (ex_v (i := 10) (j := 10) B rfl rfl rfl) (kx_cons (ex_v (i := 1) (j := 1) B rfl rfl rfl) kx_nil)) rfl) (ax_cons (ex_v (i := 11) (j := 11) B rfl rfl rfl) ax_nil)))))) (fun hk => by (have hm := ifF h33 hk; obtain rfl := som hm; rfl)) (and_fix (fun hk => by (have hm := ifF h33 hk; obtain rfl := som hm; rfl)))) (fun F H v e o c => R.rt F H v e o c)
  · have hm := h_s4
    refine sx_if (tx_cmp op_gt r2_gt (nomark _) (ex_v (i := 1) (j := 1) B rfl rfl rfl) ex_int) (fun hk => ?_) (fun hk => ?_)
    · have hm := ifT hm hk
      obtain ⟨t2, h2, hm⟩ := bnd hm
      obtain ⟨t3, h3, hm⟩ := bnd hm
      refine sx_asg (i := 2) (vi := 2) (φ := (dat (PyData.int t3))) B T rfl rfl (ex_idxL (enc := PyData.int) h3 rdl_dat (EN.ex (en_lst (ds := [(PyData.int 1000), (PyData.int 1000000000000000000), (PyData.int 10000000000000000000000000000000000000000), (PyData.int 999999999999999999999999999999999999999999999999999999999998)]) (hl := len_ok (n := 4) rfl) (ax_cons (ex_pow (m := 1000) (by decide +kernel) ex_int ex_int) (ax_cons (ex_pow (m := 1000000000000000000) (by decide +kernel) ex_int ex_int) (ax_cons (ex_pow (m := 10000000000000000000000000000000000000000) (by decide +kernel) ex_int ex_int) (ax_cons (EX.to (d' := PyData.int 999999999999999999999999999999999999999999999999999999999998) (ex_sub (ex_pow (m := 1000000000000000000000000000000000000000000000000000000000000) (by decide +kernel) ex_int ex_int) ex_int) (by rfl)) ax_nil)))))) (ex_call (a := (q_well_here, t1.2, 4)) (b := t2) (gi := 0) (rest := os) B rfl c_l_take (by decide) h2 (ax_cons (ex_v (i := 0) (j := 0) B rfl rfl rfl) (ax_cons ex_int ax_nil)))) ?_
      obtain rfl := som hm
      exact sx_fall Q rfl
    · have hm := ifF hm hk
      obtain rfl := som hm
      exact sx_fall Q rfl
theorem cal_l_right {P : Program} {w : World} {K : PySem.W.Frag} {mg : Str → Option Value} {base : Heap} {f : Addr} {fd : FuncData} (Fn : Fun K "_law_right" "_law_right" s_l_right f fd) (hmg : mg "_law_right" = some (.ref f)) (hb : Binds K fd ["_law_well_here"] []) (c_l_take : Cal P w K mg base 1 "_law_take" s_l_take ["_law_well_here", "_law_many_here"] (sp_l_take K)) (g_int : mg "int" = none) (c_l_short : Cal P w K mg base 6 "_law_short" s_l_short ["_law_letters"] (sp_l_short K)) (c_l_great : Cal P w K mg base 6 "_law_great" s_l_great ["_law_letters", "_law_number_here"] (sp_l_great K)) (c_l_walk : Cal P w K mg base 2 "_law_walk" s_l_walk ["_law_well_here", "_law_letters", "_law_most"] (sp_l_walk K)) (g_len : mg "len" = none) (c_l_straight : Cal P w K mg base 2 "_law_straight" s_l_straight ["_law_walk_here"] (sp_l_straight K)) (c_l_walked : Cal P w K mg base 6 "_law_walked" s_l_walked ["_law_letters", "_law_walk_here", "_law_other"] (sp_l_walked K)) (c_l_is : Cal P w K mg base 1 "_law_is" s_l_is ["_law_found", "_law_due"] (sp_l_is K)) (c_p_nth_walk : Cal P w K mg base 4 "nth_walk" s_p_nth_walk ["letters", "number"] (sp_p_nth_walk K)) (c_l_ahead : Cal P w K mg base 3 "_law_ahead" s_l_ahead ["_law_letters", "_law_walk_here"] (sp_l_ahead K)) (c_l_many : Cal P w K mg base 2 "_law_many" s_l_many ["_law_letters", "_law_length"] (sp_l_many K)) (c_l_number : Cal P w K mg base 1 "_law_number" s_l_number ["_law_found", "_law_due"] (sp_l_number K)) (c_p_how_many : Cal P w K mg base 4 "how_many" s_p_how_many ["letters", "length"] (sp_p_how_many K)) : Cal P w K mg base 7 "_law_right" s_l_right ["_law_well_here"] (sp_l_right K) :=
  cal_Z (V := V_l_right) (Gs := G_l_right) (nl := 11) Fn sc_l_right (by decide +kernel) (by decide +kernel) hmg hb (fun _ => rfl) rfl fun _ _ _ _ _ _ _ a b F0 os D B T hm R => body_l_right rfl B T c_l_take g_int c_l_short c_l_great c_l_walk g_len c_l_straight c_l_walked c_l_is c_p_nth_walk c_l_ahead c_l_many c_l_number c_p_how_many a.1 a.2 b F0 os D hm R
/-! ### law -/
abbrev s_l_law : Stmt := top 48
def N_l_law : List Str := ["_law_script", "_law_k"]
def V_l_law : List Str := ["_law_script", "_law_k"]
def G_l_law : List Str := ["range", "max", "min", "len", "_law_right", "_law_well"]
theorem sc_l_law : FnScope N_l_law ["_law_script"] (defScope s_l_law) := ⟨rfl, rfl, rfl, by decide +kernel, rfl, by decide +kernel, by decide +kernel⟩
abbrev sp_l_law (K : PySem.W.Frag) : Sp := spZ (α := (List Int)) (β := Bool) (fun a => [(scr K a)]) (fun a => []) (fun a => m_l_law a) (fun a b => (dat (PyData.bool b))) (fun a b => [])
set_option maxHeartbeats 4000000 in
theorem body_l_law {X : Cx} (hsc : X.env.scope = defScope s_l_law) (B : Bd X N_l_law V_l_law G_l_law 7) (T : Bt X V_l_law) (g_range : X.mg "range" = none) (g_max : X.mg "max" = none) (g_min : X.mg "min" = none) (g_len : X.mg "len" = none) (c_l_right : Cal X.prog X.w X.K X.mg X.base 7 "_law_right" s_l_right ["_law_well_here"] (sp_l_right X.K)) (c_l_well : Cal X.prog X.w X.K X.mg X.base 1 "_law_well" s_l_well ["_law_script", "_law_k"] (sp_l_well X.K)) (script : (List Int)) (b : Bool) (F0 : Hp) (os : Os) (D : Ends) (hm : m_l_law script = some b) (R : RetZ F0 (os) (dat (PyData.bool b)) D) :
    SX X [sl (scr X.K script), un] (os) F0 (defBody s_l_law) D := by
  unfold m_l_law at hm
  obtain ⟨t1, h1, hm⟩ := bnd hm
  obtain ⟨f4o, h9, hm⟩ := bnd hm
  refine sx_forR (c := anyOs) (fun (s2 : Unit) (k_3 : Int) => (((m_l_well script k_3).bind fun t7 => (m_l_right t7).bind fun t8 => (if (!t8.1) = true then some (Step.ret false) else some (Step.go ()))) : Option (Step Bool Unit))) (fun (s2 : Unit) (_ : Unit) => [sl (scr X.K script), un]) (fun (s2 : Unit) (_ : Unit) => os) (fun (r : Bool) v H => ∃ F, Same F0 F ∧ Ow F (os) H ∧ Cl (dat (PyData.bool r)) F v) B T (fun k_3 => gx_name (i := 1) (vi := 1) (φ := (dat (PyData.int k_3))) B T rfl rfl) () () f4o h9 (ix_rng1 (gi := 0) B rfl g_range h1 (ex_fn (j := 1) B rfl g_max (by decide +kernel) (call_max2 B.calm) rc_max (ax_cons ex_int (ax_cons (ex_fn (j := 2) B rfl g_min (by decide +kernel) (call_min2 B.calm) rc_min (ax_cons ex_int (ax_cons (EX.to (ex_fn (j := 3) B rfl g_len (by decide +kernel) call_len_seq (rc_lenL (ds := List.map PyData.int script) rdl_scr) (ax_cons (ex_v (i := 0) (j := 0) B rfl rfl rfl) ax_nil)) (by rw [List.length_map])) ax_nil))) ax_nil)))) ⟨.inl rfl, .inl rfl, trivial⟩ (fun _ _ => trivial) (fun F6 e5 s2 _ k_3 z11 hx hm2 => ?_) (fun f4 _ ho => ?_) (fun r10 v H ho hr => ?_)
  · clear hm h9
    have hm := hm2
    obtain ⟨t7, h7, hm⟩ := bnd hm
    obtain ⟨t8, h8, hm⟩ := bnd hm
    refine sx_if (tx_not (tx_val (ex_calln (a := fun q => (q, t7)) (b := t8) (gi := 4) (rest := os) B rfl c_l_right (by decide) (fun _ => h8) (en_call (a := (script, k_3)) (b := t7) (gi := 5) (rest := os) B rfl c_l_well (by decide) h7 (ax_cons (ex_v (i := 0) (j := 0) B rfl rfl rfl) (ax_cons (ex_v (i := 1) (j := 1) B rfl rfl rfl) ax_nil))) (fun _ => rfl) (fun _ => rfl) (fun _ => rfl)) (by intro _; rfl))) (fun hk => ?_) (fun hk => ?_)
    · have hm := ifT hm hk
      exact sx_ret ex_bool (fun F H v e o c => ⟨_, (som hm).symm, F, (e5.trans e), o, c⟩)
    · have hm := ifF hm hk
      refine sx_fall ?_ rfl
      exact sx_nil fun σ H a => ⟨_, (), (som hm).symm, (a.weak ⟨.inl rfl, .inr rfl, trivial⟩)⟩
  · cases ho
    have hm := elimR hm
    obtain rfl := som hm
    exact sx_ret ex_bool (fun F H v e o c => R.rt F H v e o c)
  · cases ho
    have hm := elimL hm
    obtain rfl := som hm
    obtain ⟨F, e, o, c⟩ := hr
    exact R.rt F H v e o c
theorem cal_l_law {P : Program} {w : World} {K : PySem.W.Frag} {mg : Str → Option Value} {base : Heap} {f : Addr} {fd : FuncData} (Fn : Fun K "law" "law" s_l_law f fd) (hmg : mg "law" = some (.ref f)) (hb : Binds K fd ["_law_script"] []) (g_range : mg "range" = none) (g_max : mg "max" = none) (g_min : mg "min" = none) (g_len : mg "len" = none) (c_l_right : Cal P w K mg base 7 "_law_right" s_l_right ["_law_well_here"] (sp_l_right K)) (c_l_well : Cal P w K mg base 1 "_law_well" s_l_well ["_law_script", "_law_k"] (sp_l_well K)) : Cal P w K mg base 8 "law" s_l_law ["_law_script"] (sp_l_law K) :=
  cal_Z (V := V_l_law) (Gs := G_l_law) (nl := 1) Fn sc_l_law (by decide +kernel) (by decide +kernel) hmg hb (fun _ => rfl) rfl fun _ _ _ _ _ _ _ a b F0 os D B T hm R => body_l_law rfl B T g_range g_max g_min g_len c_l_right c_l_well a b F0 os D hm R
end L05
namespace L05
open PySem PySem.Spec L2 Z
def big : sizeLine = 16777216 := by decide
theorem bindS {α β : Type} {m : Option α} {k : α → Option β} {a : α} {r : Option β} (h : m = some a) (h2 : k a = r) : m.bind k = r := by
  rw [h]
  exact h2
/-! ### the words: steps, allowed steps, numbers -/
def S (n : Nat) : List Int := [1, -1, 2, -2, 3, -3, 4, -4].take (2 * n)
def alw (n : Nat) (p : Option Int) : List Int := (S n).filter fun s => decide (p ≠ some (-s))
def ix (n : Nat) (p : Option Int) (x : Int) : Nat := (ixOf (alw n p) x).getD 0
def dd (n : Nat) : Nat := 2 * n - 1
def num (n : Nat) : Option Int → List Int → Nat
  | _, [] => 0
  | p, x :: t => ix n p x * dd n ^ t.length + num n (some x) t
def ok (n : Nat) : Option Int → List Int → Prop
  | _, [] => True
  | p, x :: t => x ∈ alw n p ∧ ok n (some x) t
def pok (n : Nat) (p : Option Int) : Prop := ∀ x, p = some x → x ∈ S n
def dig (n : Nat) : Option Int → Nat → Nat → List Int
  | _, 0, _ => []
  | p, m + 1, l => (alw n p).getD (l / dd n ^ m) 0 :: dig n (some ((alw n p).getD (l / dd n ^ m) 0)) m (l % dd n ^ m)
def mn (n : Nat) : Option Int → Nat → List Int
  | _, 0 => []
  | p, m + 1 => (alw n p).getD 0 0 :: mn n (some ((alw n p).getD 0 0)) m
def nx (n : Nat) : Option Int → List Int → Option (List Int)
  | _, [] => none
  | p, x :: t => match nx n (some x) t with
    | some u => some (x :: u)
    | none => match (alw n p)[ix n p x + 1]? with
      | some y => some (y :: mn n (some y) t.length)
      | none => none
def off (n k : Nat) : Nat := if k = 0 then 1 else 2 * n * dd n ^ (k - 1)
def tot (n : Nat) : Nat → Nat
  | 0 => 0
  | k + 1 => tot n k + off n k
def NN (n : Nat) (w : List Int) : Nat := tot n w.length + num n none w

section
variable {n : Nat}
theorem four (h1 : 1 ≤ n) (h4 : n ≤ 4) : n = 1 ∨ n = 2 ∨ n = 3 ∨ n = 4 := by omega
theorem alw_none (h1 : 1 ≤ n) (h4 : n ≤ 4) : (alw n none).length = 2 * n := by
  rcases four h1 h4 with rfl | rfl | rfl | rfl <;> decide
theorem alw_some (h1 : 1 ≤ n) (h4 : n ≤ 4) : ∀ x ∈ S n, (alw n (some x)).length = dd n := by
  rcases four h1 h4 with rfl | rfl | rfl | rfl <;> decide
theorem S_nodup (h1 : 1 ≤ n) (h4 : n ≤ 4) : (S n).Nodup := by
  rcases four h1 h4 with rfl | rfl | rfl | rfl <;> decide
theorem alw_nodup (h1 : 1 ≤ n) (h4 : n ≤ 4) (p : Option Int) : (alw n p).Nodup := (S_nodup h1 h4).filter _
theorem alw_S {p : Option Int} {x : Int} (h : x ∈ alw n p) : x ∈ S n := (List.mem_filter.mp h).1
theorem alw_ne {p : Option Int} {x : Int} (h : x ∈ alw n p) : p ≠ some (-x) := by
  have := (List.mem_filter.mp h).2
  simpa using this
theorem pok_of {p : Option Int} {x : Int} (h : x ∈ alw n p) : pok n (some x) := fun y e => by
  cases e
  exact alw_S h
theorem pok_none : pok n none := fun _ e => nomatch e
theorem dd_pos (h1 : 1 ≤ n) : 0 < dd n := by
  unfold dd
  omega
theorem dd_le (h4 : n ≤ 4) : dd n ≤ 7 := by
  unfold dd
  omega
theorem alw_len (h1 : 1 ≤ n) (h4 : n ≤ 4) {p : Option Int} (hp : pok n p) : dd n ≤ (alw n p).length ∧ (alw n p).length ≤ 8 := by
  cases p with
  | none =>
    rw [alw_none h1 h4]
    unfold dd
    omega
  | some x =>
    rw [alw_some h1 h4 x (hp x rfl)]
    exact ⟨Nat.le_refl _, by have := dd_le h4; omega⟩
theorem ixOf_get : ∀ {xs : List Int} {m : Nat} {y : Int}, xs.Nodup → xs[m]? = some y → ixOf xs y = some m
  | [], _, _, _, h => by simp at h
  | x :: xs, 0, y, _, h => by
    have e : x = y := by simpa using h
    unfold ixOf
    rw [if_pos e]
  | x :: xs, m + 1, y, hn, h => by
    have h' : xs[m]? = some y := by simpa using h
    have hx : x ≠ y := fun z => (List.nodup_cons.mp hn).1 (z ▸ List.mem_of_getElem? h')
    unfold ixOf
    rw [if_neg hx, ixOf_get (List.nodup_cons.mp hn).2 h']
    rfl
theorem ixOf_mem : ∀ {xs : List Int} {y : Int}, y ∈ xs → ∃ m, ixOf xs y = some m
  | [], _, h => by cases h
  | x :: xs, y, h => by
    unfold ixOf
    by_cases hx : x = y
    · exact ⟨0, if_pos hx⟩
    · rcases List.mem_cons.mp h with e | h
      · exact absurd e.symm hx
      · obtain ⟨m, hm⟩ := ixOf_mem h
        exact ⟨m + 1, by rw [if_neg hx, hm]; rfl⟩
theorem ix_at {p : Option Int} {x : Int} (h : x ∈ alw n p) : ixOf (alw n p) x = some (ix n p x) ∧ (alw n p)[ix n p x]? = some x := by
  obtain ⟨m, hm⟩ := ixOf_mem h
  have e : ix n p x = m := by
    unfold ix
    rw [hm]
    rfl
  rw [e]
  exact ⟨hm, (ixOf_spec hm).1⟩
theorem ix_lt {p : Option Int} {x : Int} (h : x ∈ alw n p) : ix n p x < (alw n p).length := (List.getElem?_eq_some_iff.mp (ix_at h).2).1
theorem ix_eq (h1 : 1 ≤ n) (h4 : n ≤ 4) {p : Option Int} {m : Nat} {y : Int} (h : (alw n p)[m]? = some y) : ix n p y = m := by
  unfold ix
  rw [ixOf_get (alw_nodup h1 h4 p) h]
  rfl
theorem getD_at {xs : List Int} {m : Nat} (h : m < xs.length) : xs[m]? = some (xs.getD m 0) := by
  rw [List.getD_eq_getElem?_getD, List.getElem?_eq_getElem h]
  rfl
/-- a number that may be told by m steps behind p -/
def fits (n : Nat) (p : Option Int) (m l : Nat) : Prop := match m with
  | 0 => l = 0
  | m + 1 => l < (alw n p).length * dd n ^ m
theorem num_fits (h1 : 1 ≤ n) (h4 : n ≤ 4) : ∀ {w : List Int} {p : Option Int}, ok n p w → fits n p w.length (num n p w)
  | [], _, _ => rfl
  | x :: t, p, h => by
    have ih := num_fits h1 h4 (w := t) h.2
    have hx := ix_lt h.1
    have hlt : num n (some x) t < dd n ^ t.length := by
      cases t with
      | nil => exact Nat.one_pos
      | cons y u =>
        have e := alw_some h1 h4 x (alw_S h.1)
        have ih' : num n (some x) (y :: u) < (alw n (some x)).length * dd n ^ u.length := ih
        rw [e] at ih'
        rw [List.length_cons, Nat.pow_succ, Nat.mul_comm]
        exact ih'
    show ix n p x * dd n ^ t.length + num n (some x) t < (alw n p).length * dd n ^ t.length
    have : (ix n p x + 1) * dd n ^ t.length ≤ (alw n p).length * dd n ^ t.length := Nat.mul_le_mul_right _ hx
    rw [Nat.add_mul, Nat.one_mul] at this
    omega
theorem num_some (h1 : 1 ≤ n) (h4 : n ≤ 4) {x : Int} {t : List Int} (hx : x ∈ S n) (h : ok n (some x) t) : num n (some x) t < dd n ^ t.length := by
  cases t with
  | nil => exact Nat.one_pos
  | cons y u =>
    have ih : num n (some x) (y :: u) < (alw n (some x)).length * dd n ^ u.length := num_fits h1 h4 h
    rw [alw_some h1 h4 x hx] at ih
    rw [List.length_cons, Nat.pow_succ, Nat.mul_comm]
    exact ih
theorem dig_step (h1 : 1 ≤ n) (h4 : n ≤ 4) {p : Option Int} {m l : Nat} (h : fits n p (m + 1) l) : l / dd n ^ m < (alw n p).length ∧ fits n (some ((alw n p).getD (l / dd n ^ m) 0)) m (l % dd n ^ m) ∧ (alw n p).getD (l / dd n ^ m) 0 ∈ alw n p := by
  have hp : 0 < dd n ^ m := Nat.pow_pos (dd_pos h1)
  have q : l / dd n ^ m < (alw n p).length := by
    rw [Nat.div_lt_iff_lt_mul hp]
    exact h
  have hm : (alw n p).getD (l / dd n ^ m) 0 ∈ alw n p := List.mem_of_getElem? (getD_at q)
  refine ⟨q, ?_, hm⟩
  have hl := Nat.mod_lt l hp
  cases m with
  | zero =>
    show l % dd n ^ 0 = 0
    rw [Nat.pow_zero, Nat.mod_one]
  | succ m =>
    show l % dd n ^ (m + 1) < (alw n (some _)).length * dd n ^ m
    rw [alw_some h1 h4 _ (alw_S hm), Nat.mul_comm, ← Nat.pow_succ]
    exact hl
theorem dig_ok (h1 : 1 ≤ n) (h4 : n ≤ 4) : ∀ {m l : Nat} {p : Option Int}, fits n p m l → ok n p (dig n p m l) ∧ (dig n p m l).length = m ∧ num n p (dig n p m l) = l
  | 0, l, p, h => ⟨trivial, rfl, (show l = 0 from h).symm⟩
  | m + 1, l, p, h => by
    obtain ⟨q, f, hm⟩ := dig_step h1 h4 h
    obtain ⟨a, b, c⟩ := dig_ok h1 h4 f
    refine ⟨⟨hm, a⟩, by unfold dig; rw [List.length_cons, b], ?_⟩
    show ix n p _ * dd n ^ (dig n _ m _).length + num n _ (dig n _ m _) = l
    rw [b, c, ix_eq h1 h4 (getD_at q), Nat.mul_comm]
    exact Nat.div_add_mod l _
theorem dig_num (h1 : 1 ≤ n) (h4 : n ≤ 4) : ∀ {w : List Int} {p : Option Int}, ok n p w → dig n p w.length (num n p w) = w
  | [], _, _ => rfl
  | x :: t, p, h => by
    have hp : 0 < dd n ^ t.length := Nat.pow_pos (dd_pos h1)
    have hl := num_some h1 h4 (alw_S h.1) h.2
    have e1 : num n p (x :: t) / dd n ^ t.length = ix n p x := by
      show (ix n p x * dd n ^ t.length + num n (some x) t) / dd n ^ t.length = _
      rw [Nat.mul_comm, Nat.mul_add_div hp, Nat.div_eq_of_lt hl, Nat.add_zero]
    have e2 : num n p (x :: t) % dd n ^ t.length = num n (some x) t := by
      show (ix n p x * dd n ^ t.length + num n (some x) t) % dd n ^ t.length = _
      rw [Nat.mul_comm, Nat.mul_add_mod, Nat.mod_eq_of_lt hl]
    have e3 : (alw n p).getD (ix n p x) 0 = x := by
      rw [List.getD_eq_getElem?_getD, (ix_at h.1).2]
      rfl
    show (alw n p).getD (num n p (x :: t) / dd n ^ t.length) 0 :: dig n (some ((alw n p).getD (num n p (x :: t) / dd n ^ t.length) 0)) t.length (num n p (x :: t) % dd n ^ t.length) = x :: t
    rw [e1, e2, e3, dig_num h1 h4 h.2]
theorem mn_ok (h1 : 1 ≤ n) (h4 : n ≤ 4) : ∀ {m : Nat} {p : Option Int}, pok n p → ok n p (mn n p m) ∧ (mn n p m).length = m ∧ num n p (mn n p m) = 0
  | 0, _, _ => ⟨trivial, rfl, rfl⟩
  | m + 1, p, hp => by
    have q : 0 < (alw n p).length := Nat.lt_of_lt_of_le (dd_pos h1) (alw_len h1 h4 hp).1
    have hm : (alw n p).getD 0 0 ∈ alw n p := List.mem_of_getElem? (getD_at q)
    obtain ⟨a, b, c⟩ := mn_ok h1 h4 (m := m) (pok_of hm)
    refine ⟨⟨hm, a⟩, by unfold mn; rw [List.length_cons, b], ?_⟩
    show ix n p _ * dd n ^ (mn n _ m).length + num n _ (mn n _ m) = 0
    rw [c, ix_eq h1 h4 (getD_at q), Nat.zero_mul]
theorem nx_ok (h1 : 1 ≤ n) (h4 : n ≤ 4) : ∀ {w : List Int} {p : Option Int}, ok n p w → (∀ u, nx n p w = some u → ok n p u ∧ u.length = w.length ∧ num n p u = num n p w + 1) ∧ (nx n p w = none → ∀ x t, w = x :: t → num n p w + 1 = (alw n p).length * dd n ^ t.length)
  | [], _, _ => ⟨fun _ e => (nomatch e), fun _ _ _ e => (nomatch e)⟩
  | x :: t, p, h => by
    obtain ⟨ih1, ih2⟩ := nx_ok h1 h4 (w := t) h.2
    have e0 : nx n p (x :: t) = match nx n (some x) t with
      | some u => some (x :: u)
      | none => match (alw n p)[ix n p x + 1]? with
        | some y => some (y :: mn n (some y) t.length)
        | none => none := rfl
    cases e1 : nx n (some x) t with
    | some u =>
      rw [e1] at e0
      obtain ⟨a, b, c⟩ := ih1 u e1
      refine ⟨fun v ev => ?_, fun ev => by rw [e0] at ev; cases ev⟩
      rw [e0] at ev
      cases ev
      refine ⟨⟨h.1, a⟩, by rw [List.length_cons, List.length_cons, b], ?_⟩
      show ix n p x * dd n ^ u.length + num n (some x) u = ix n p x * dd n ^ t.length + num n (some x) t + 1
      rw [b, c]
      omega
    | none =>
      rw [e1] at e0
      have full : num n (some x) t + 1 = dd n ^ t.length := by
        cases t with
        | nil => rfl
        | cons y u =>
          have := ih2 e1 y u rfl
          rw [alw_some h1 h4 x (alw_S h.1)] at this
          rw [this, List.length_cons, Nat.pow_succ, Nat.mul_comm]
      cases e2 : (alw n p)[ix n p x + 1]? with
      | some y =>
        rw [e2] at e0
        refine ⟨fun v ev => ?_, fun ev => by rw [e0] at ev; cases ev⟩
        rw [e0] at ev
        cases ev
        have hy : y ∈ alw n p := List.mem_of_getElem? e2
        obtain ⟨a, b, c⟩ := mn_ok h1 h4 (m := t.length) (pok_of hy)
        refine ⟨⟨hy, a⟩, by rw [List.length_cons, List.length_cons, b], ?_⟩
        show ix n p y * dd n ^ (mn n (some y) t.length).length + num n (some y) (mn n (some y) t.length) = ix n p x * dd n ^ t.length + num n (some x) t + 1
        rw [b, c, ix_eq h1 h4 e2, Nat.add_mul, Nat.one_mul]
        omega
      | none =>
        rw [e2] at e0
        refine ⟨(fun v ev => by rw [e0] at ev; cases ev), fun _ x' t' ee => ?_⟩
        cases ee
        have hl : (alw n p).length ≤ ix n p x + 1 := List.getElem?_eq_none_iff.mp e2
        have hx := ix_lt h.1
        have ee : (alw n p).length = ix n p x + 1 := by omega
        show ix n p x * dd n ^ t.length + num n (some x) t + 1 = _
        rw [ee, Nat.add_mul, Nat.one_mul]
        omega
theorem off_fits (h1 : 1 ≤ n) (h4 : n ≤ 4) {k l : Nat} : l < off n k ↔ fits n none k l := by
  cases k with
  | zero =>
    show l < 1 ↔ l = 0
    omega
  | succ k =>
    show l < (if k + 1 = 0 then 1 else 2 * n * dd n ^ (k + 1 - 1)) ↔ l < (alw n none).length * dd n ^ k
    rw [if_neg (by omega), alw_none h1 h4, Nat.add_sub_cancel]
theorem off_pos (h1 : 1 ≤ n) (k : Nat) : 0 < off n k := by
  unfold off
  split
  · exact Nat.one_pos
  · exact Nat.mul_pos (by omega) (Nat.pow_pos (dd_pos h1))
theorem tot_mono {j k : Nat} (h : j ≤ k) : tot n j ≤ tot n k := by
  induction k with
  | zero =>
    have : j = 0 := by omega
    rw [this]
    exact Nat.le_refl _
  | succ k ih =>
    rcases Nat.lt_or_ge k j with z | z
    · have : j = k + 1 := by omega
      rw [this]
      exact Nat.le_refl _
    · exact Nat.le_trans (ih z) (Nat.le_add_right _ _)
/-- the next walk -/
def nxt (n : Nat) (w : List Int) : List Int := (nx n none w).getD (mn n none (w.length + 1))
theorem nxt_ok (h1 : 1 ≤ n) (h4 : n ≤ 4) {w : List Int} (h : ok n none w) : ok n none (nxt n w) ∧ NN n (nxt n w) = NN n w + 1 ∧ (nxt n w).length ≤ w.length + 1 := by
  obtain ⟨a, b⟩ := nx_ok h1 h4 h
  unfold nxt NN
  cases e : nx n none w with
  | some u =>
    obtain ⟨q1, q2, q3⟩ := a u e
    show ok n none u ∧ tot n u.length + num n none u = _ ∧ u.length ≤ _
    rw [q2, q3]
    exact ⟨q1, rfl, Nat.le_succ _⟩
  | none =>
    obtain ⟨q1, q2, q3⟩ := mn_ok h1 h4 (m := w.length + 1) (p := none) pok_none
    show ok n none (mn n none (w.length + 1)) ∧ tot n (mn n none (w.length + 1)).length + num n none (mn n none (w.length + 1)) = _ ∧ (mn n none (w.length + 1)).length ≤ _
    rw [q2, q3]
    refine ⟨q1, ?_, Nat.le_refl _⟩
    have full : num n none w + 1 = off n w.length := by
      cases w with
      | nil => rfl
      | cons x t =>
        rw [b e x t rfl, alw_none h1 h4]
        rfl
    show tot n w.length + off n w.length + 0 = _
    omega
end

/-! ### what the mirrors tell -/
section
variable {n : Nat}
theorem steps_ok (h1 : 1 ≤ n) (h4 : n ≤ 4) : m_p_steps_of (n : Int) = some (S n) := by
  rcases four h1 h4 with rfl | rfl | rfl | rfl <;> decide +kernel
theorem lsteps_ok (h1 : 1 ≤ n) (h4 : n ≤ 4) : m_l_steps (n : Int) = some (S n) := steps_ok h1 h4
theorem cut_last (w : List Int) : cut w (some (-1)) none = w.getLast?.toList := by
  unfold cut
  have e : HT.sIx w.length 0 (some (-1)) = w.length - 1 := by
    show (if (-1 : Int) < 0 then ((-1 : Int) + (w.length : Int)).toNat else min (-1 : Int).toNat w.length) = w.length - 1
    rw [if_pos (by decide)]
    omega
  rw [e]
  show (w.drop (w.length - 1)).take (w.length - (w.length - 1)) = _
  rcases List.eq_nil_or_concat w with rfl | ⟨a, x, rfl⟩
  · rfl
  · rw [List.length_concat, Nat.add_sub_cancel, List.concat_eq_append, List.drop_left, List.getLast?_concat]
    rw [show a.length + 1 - a.length = 1 by omega]
    rfl
theorem last_test (p : Option Int) (s : Int) : (!decide (p.toList = [-s])) = decide (p ≠ some (-s)) := by
  cases p with
  | none => simp
  | some x => simp
theorem sbehind_ok (h1 : 1 ≤ n) (h4 : n ≤ 4) (w : List Int) : m_p_steps_behind (n : Int) w = some (alw n w.getLast?) := by
  have hl : (S n).length ≤ 8 := by
    unfold S
    rw [List.length_take]
    exact Nat.min_le_right _ _
  unfold m_p_steps_behind
  refine bindS (steps_ok h1 h4) (bindS (?_ : _ = some (alw n w.getLast?)) rfl)
  unfold lcF
  rw [if_pos (by rw [big]; omega), cut_last, List.map_id']
  refine congrArg some ?_
  unfold alw
  exact List.filter_congr fun s _ => last_test _ s
theorem pow_log (h1 : 1 ≤ n) (h4 : n ≤ 4) (k : Nat) : (dd n ^ k).log2 < 3 * k + 1 := by
  refine log2_small ?_ (by omega)
  have e : dd n ^ k ≤ 8 ^ k := Nat.pow_le_pow_left (by have := dd_le h4; omega) k
  have e2 : (8 : Nat) ^ k = 2 ^ (3 * k) := by rw [show (8 : Nat) = 2 ^ 3 from rfl, ← Nat.pow_mul]
  rw [e2] at e
  exact Nat.lt_of_le_of_lt e (Nat.pow_lt_pow_right (by decide) (by omega))
theorem dd_int (h1 : 1 ≤ n) : 2 * (n : Int) - 1 = ((dd n : Nat) : Int) := by
  unfold dd
  omega
theorem wbehind_ok (h1 : 1 ≤ n) (h4 : n ≤ 4) {k : Int} (h0 : 0 ≤ k) (hk : k ≤ 1000) : m_p_walks_behind (n : Int) k = some ((dd n ^ k.toNat : Nat) : Int) := by
  unfold m_p_walks_behind
  refine bindS (rngO_ok (by omega)) ?_
  obtain ⟨s, e, hs⟩ := lp_goN (f := (fun (s2 : Int) (turn3 : Int) => ((mulO s2 ((2 * (n : Int)) - 1)).bind fun t7 => some t7))) (xs := range' 0 k) (fun i s => s = ((dd n ^ i : Nat) : Int)) (fun i x s hx hs => by
    have hi : i < k.toNat := by
      have := (List.getElem?_eq_some_iff.mp hx).1
      rw [rng_len] at this
      omega
    subst hs
    refine ⟨_, bindS (?_ : _ = some (((dd n ^ i : Nat) : Int) * ((dd n : Nat) : Int))) rfl, ?_⟩
    · rw [dd_int h1]
      refine if_pos ?_
      have a := pow_log h1 h4 i
      have b : (dd n).log2 < 3 := log2_small (by have := dd_le h4; omega) (by decide)
      rw [Int.natAbs_natCast, Int.natAbs_natCast]
      omega
    · rw [Nat.pow_succ, Int.natCast_mul]) (s0 := 1) (by rw [Nat.pow_zero]; rfl)
  refine bindS e ?_
  rw [hs, rng_len, Int.sub_zero]
theorem lbehind_ok (h1 : 1 ≤ n) (h4 : n ≤ 4) {k : Int} (h0 : 0 ≤ k) (hk : k ≤ 1000) : m_l_times (n : Int) k = some ((dd n ^ k.toNat : Nat) : Int) := wbehind_ok h1 h4 h0 hk
theorem wof_ok (h1 : 1 ≤ n) (h4 : n ≤ 4) {k : Int} (h0 : 0 ≤ k) (hk : k ≤ 1000) : m_p_walks_of (n : Int) k = some ((off n k.toNat : Nat) : Int) := by
  unfold m_p_walks_of off
  by_cases hz : k = 0
  · rw [if_pos (decide_eq_true hz), if_pos (by omega)]
    rfl
  · rw [if_neg (by rw [decide_eq_true_eq]; exact hz), if_neg (by omega)]
    have e : (k - 1).toNat = k.toNat - 1 := by omega
    refine bindS (wbehind_ok h1 h4 (k := k - 1) (by omega) (by omega)) (bindS (?_ : _ = some (2 * (n : Int) * ((dd n ^ (k.toNat - 1) : Nat) : Int))) ?_)
    · rw [e]
      refine if_pos ?_
      have a := pow_log h1 h4 (k.toNat - 1)
      have b : (2 * (n : Int)).natAbs.log2 < 4 := log2_int (by omega) (by omega) (by decide)
      rw [Int.natAbs_natCast]
      omega
    · refine congrArg some ?_
      rw [Int.natCast_mul, Int.natCast_mul]
      rfl
theorem lmany_ok (h1 : 1 ≤ n) (h4 : n ≤ 4) {k : Int} (h0 : 0 ≤ k) (hk : k ≤ 1000) : m_l_many (n : Int) k = some ((off n k.toNat : Nat) : Int) := wof_ok h1 h4 h0 hk
theorem sum_app (a b : List Int) : (a ++ b).sum = a.sum + b.sum := by
  induction a with
  | nil => simp
  | cons x a ih => rw [List.cons_append, List.sum_cons, List.sum_cons, ih, Int.add_assoc]
theorem tot_sum (k : Nat) : ((range' 0 (k : Int)).map fun x => ((off n x.toNat : Nat) : Int)).sum = ((tot n k : Nat) : Int) := by
  unfold range'
  rw [Int.sub_zero, Int.toNat_natCast, List.map_map]
  induction k with
  | zero => rfl
  | succ k ih =>
    rw [List.range_succ, List.map_append, sum_app, ih]
    show ((tot n k : Nat) : Int) + (((off n ((0 : Int) + (k : Int)).toNat : Nat) : Int) + 0) = ((tot n k + off n k : Nat) : Int)
    rw [show ((0 : Int) + (k : Int)).toNat = k by omega]
    omega
theorem tots_ok (h1 : 1 ≤ n) (h4 : n ≤ 4) {k : Nat} (hk : k ≤ 1000) : lcO (β := Int) (fun (length2 : Int) => ((m_p_walks_of (n : Int) length2).bind fun t4 => some t4)) (range' 0 (k : Int)) = some ((range' 0 (k : Int)).map fun x => ((off n x.toNat : Nat) : Int)) :=
  lcO_some _ (by rw [rng_len, big]; omega) fun x hx => by
    obtain ⟨p1, p2⟩ := mem_rng hx
    rw [wof_ok h1 h4 p1 (by omega)]
    rfl
theorem last_snoc (a : List Int) (x : Int) : (a ++ [x]).getLast? = some x := by simp
theorem num_lp (h1 : 1 ≤ n) (h4 : n ≤ 4) {w : List Int} (hw : w.length ≤ 1000) : ∀ (t a : List Int) (s : Int), w = a ++ t → ok n a.getLast? t → lp (fun (s6 : Int) (x7 : (Int × Int)) => ((m_p_steps_behind (n : Int) (cut w none (some x7.1))).bind fun t11 => (ixOf t11 x7.2).bind fun t12 => ((m_p_walks_behind (n : Int) (((w.length : Int) - x7.1) - 1)).bind fun t13 => (mulO ((t12 : Nat) : Int) t13).bind fun t14 => some (s6 + t14)))) ((t.zipIdx a.length).map fun y => ((y.2 : Int), y.1)) s = some (s + ((num n a.getLast? t : Nat) : Int))
  | [], a, s, _, _ => by
    show some s = some (s + ((0 : Nat) : Int))
    simp
  | x :: t, a, s, e, h => by
    have hl : w.length = a.length + t.length + 1 := by
      rw [e, List.length_append, List.length_cons]
      omega
    have ih := num_lp h1 h4 hw t (a ++ [x]) (s + ((ix n a.getLast? x : Nat) : Int) * ((dd n ^ t.length : Nat) : Int)) (by rw [e, List.append_assoc]; rfl) (by rw [last_snoc]; exact h.2)
    rw [last_snoc, List.length_append, List.length_singleton] at ih
    rw [List.zipIdx_cons, List.map_cons]
    unfold lp
    refine bindS (a := s + ((ix n a.getLast? x : Nat) : Int) * ((dd n ^ t.length : Nat) : Int)) ?_ ?_
    · have c1 : cut w none (some ((a.length : Nat) : Int)) = a := by
        rw [cut_to _ (Int.natCast_nonneg _), Int.toNat_natCast, e, List.take_left]
      have c2 : ((w.length : Int) - ((a.length : Nat) : Int)) - 1 = ((t.length : Nat) : Int) := by omega
      show ((m_p_steps_behind (n : Int) (cut w none (some ((a.length : Nat) : Int)))).bind fun t11 => (ixOf t11 x).bind fun t12 => ((m_p_walks_behind (n : Int) (((w.length : Int) - ((a.length : Nat) : Int)) - 1)).bind fun t13 => (mulO ((t12 : Nat) : Int) t13).bind fun t14 => some (s + t14))) = _
      rw [c1, c2]
      refine bindS (sbehind_ok h1 h4 a) (bindS (ix_at h.1).1 (bindS (wbehind_ok h1 h4 (Int.natCast_nonneg _) (by omega)) ?_))
      rw [Int.toNat_natCast]
      refine bindS (?_ : _ = some (((ix n a.getLast? x : Nat) : Int) * ((dd n ^ t.length : Nat) : Int))) rfl
      refine if_pos ?_
      have q1 := pow_log h1 h4 t.length
      have q2 : (ix n a.getLast? x).log2 < 4 := by
        refine log2_small ?_ (by decide)
        have z1 := ix_lt h.1
        have z2 : (alw n a.getLast?).length ≤ 8 := by
          refine Nat.le_trans (List.length_filter_le _ _) ?_
          unfold S
          rw [List.length_take]
          exact Nat.min_le_right _ _
        omega
      rw [Int.natAbs_natCast, Int.natAbs_natCast]
      omega
    · rw [ih]
      refine congrArg some ?_
      show _ = s + ((ix n a.getLast? x * dd n ^ t.length + num n (some x) t : Nat) : Int)
      rw [Int.natCast_add, Int.natCast_mul, Int.add_assoc]
theorem numin_ok (h1 : 1 ≤ n) (h4 : n ≤ 4) {w : List Int} (hw : w.length ≤ 1000) (h : ok n none w) : m_p_number_in (n : Int) w = some ((NN n w : Nat) : Int) := by
  unfold m_p_number_in
  refine bindS (rngO_ok (by omega)) (bindS (tots_ok h1 h4 hw) ?_)
  rw [tot_sum]
  refine bindS (num_lp h1 h4 hw w [] _ rfl h) ?_
  refine congrArg some ?_
  show _ = ((tot n w.length + num n none w : Nat) : Int)
  rw [Int.natCast_add]
  rfl
/-! ### the walk at a number -/
theorem rng_cons {a b : Int} (h : a < b) : range' a b = a :: range' (a + 1) b := by
  unfold range'
  obtain ⟨m, hm⟩ : ∃ m, (b - a).toNat = m + 1 := ⟨(b - a).toNat - 1, by omega⟩
  rw [hm, List.range_succ_eq_map, List.map_cons, List.map_map, show (b - (a + 1)).toNat = m by omega]
  rw [List.cons.injEq]
  refine ⟨by simp, ?_⟩
  refine List.map_congr_left fun i _ => ?_
  show a + ((i + 1 : Nat) : Int) = a + 1 + (i : Int)
  omega
theorem rng_nil {a b : Int} (h : b ≤ a) : range' a b = [] := by
  unfold range'
  rw [show (b - a).toNat = 0 by omega]
  rfl
theorem size_wh (h1 : 1 ≤ n) (h4 : n ≤ 4) {N : Nat} (hN : N < tot n 450) : ∀ (f k : Nat), tot n k ≤ N → 450 < f + k → ∃ L, tot n L ≤ N ∧ N < tot n (L + 1) ∧ L < 450 ∧ wh (fun (s1 : (Int × Int × Int)) => some (decide (s1.2.2 ≤ s1.2.1))) (fun (s1 : (Int × Int × Int)) => (((m_p_walks_of (n : Int) (s1.1 + 1)).bind fun t5 => some (Step.go ((s1.1 + 1), (s1.2.1 - s1.2.2), t5))) : Option (Step (List Int) (Int × Int × Int)))) f ((k : Int), (N : Int) - ((tot n k : Nat) : Int), ((off n k : Nat) : Int)) = some (.inr ((L : Int), (N : Int) - ((tot n L : Nat) : Int), ((off n L : Nat) : Int)))
  | 0, k, hk, hf => by
    have := tot_mono (n := n) (show 450 ≤ k by omega)
    omega
  | f + 1, k, hk, hf => by
    have hk450 : k < 450 := by
      rcases Nat.lt_or_ge k 450 with z | z
      · exact z
      · have := tot_mono (n := n) z
        omega
    unfold wh
    by_cases hc : tot n (k + 1) ≤ N
    · obtain ⟨L, a, b, c, e⟩ := size_wh h1 h4 hN f (k + 1) hc (by omega)
      refine ⟨L, a, b, c, ?_⟩
      have ht : tot n (k + 1) = tot n k + off n k := rfl
      have hd : decide (((off n k : Nat) : Int) ≤ (N : Int) - ((tot n k : Nat) : Int)) = true := decide_eq_true (by omega)
      refine bindS rfl ?_
      rw [if_pos hd]
      refine bindS (bindS (wof_ok h1 h4 (k := (k : Int) + 1) (by omega) (by omega)) rfl) ?_
      have e2 : (N : Int) - ((tot n (k + 1) : Nat) : Int) = (N : Int) - ((tot n k : Nat) : Int) - ((off n k : Nat) : Int) := by
        rw [ht]
        omega
      rw [e2] at e
      exact e
    · have ht : tot n (k + 1) = tot n k + off n k := rfl
      refine ⟨k, hk, by omega, hk450, bindS rfl ?_⟩
      rw [if_neg (by rw [decide_eq_true_eq]; show ¬ ((off n k : Nat) : Int) ≤ (N : Int) - ((tot n k : Nat) : Int); omega)]
theorem dig_lp (h1 : 1 ≤ n) (h4 : n ≤ 4) {L : Nat} (hL : L ≤ 450) : ∀ (m i l : Nat) (a : List Int), i + m = L → a.length ≤ i → fits n a.getLast? m l → ∃ z, lp (fun (s7 : (Int × (List Int))) (turn8 : Int) => ((m_p_walks_behind (n : Int) (((L : Int) - turn8) - 1)).bind fun t12 => ((m_p_steps_behind (n : Int) s7.2).bind fun t13 => (fdivO s7.1 t12).bind fun t14 => (idx t13 t14).bind fun t15 => (catO (α := Int) s7.2 ([t15])).bind fun t16 => ((modO s7.1 t12).bind fun t17 => some (t17, t16))))) (range' (i : Int) (L : Int)) ((l : Int), a) = some (z, a ++ dig n a.getLast? m l)
  | 0, i, l, a, hi, ha, hf => by
    rw [rng_nil (by omega)]
    refine ⟨(l : Int), ?_⟩
    show some ((l : Int), a) = some ((l : Int), a ++ [])
    rw [List.append_nil]
  | m + 1, i, l, a, hi, ha, hf => by
    obtain ⟨q, f, hm⟩ := dig_step h1 h4 hf
    have hpos : 0 < dd n ^ m := Nat.pow_pos (dd_pos h1)
    have ex : ((L : Int) - (i : Int)) - 1 = ((m : Nat) : Int) := by omega
    have b1 : m_p_walks_behind (n : Int) (((L : Int) - (i : Int)) - 1) = some ((dd n ^ m : Nat) : Int) := by
      rw [ex, wbehind_ok h1 h4 (Int.natCast_nonneg _) (by omega), Int.toNat_natCast]
    have hlog : ((dd n ^ m : Nat) : Int).natAbs.log2 < 9000 := by
      have := pow_log h1 h4 m
      rw [Int.natAbs_natCast]
      omega
    have b2 : fdivO (l : Int) ((dd n ^ m : Nat) : Int) = some ((l / dd n ^ m : Nat) : Int) := by
      unfold fdivO
      rw [if_pos ⟨by exact_mod_cast hpos, hlog⟩]
      rfl
    have b3 : idx (alw n a.getLast?) ((l / dd n ^ m : Nat) : Int) = some ((alw n a.getLast?).getD (l / dd n ^ m) 0) := idx_of (Int.natCast_nonneg _) (by rw [Int.toNat_natCast]; exact getD_at q)
    have b4 : modO (l : Int) ((dd n ^ m : Nat) : Int) = some ((l % dd n ^ m : Nat) : Int) := by
      unfold modO
      rw [if_pos (by exact_mod_cast hpos)]
      rfl
    generalize hs : (alw n a.getLast?).getD (l / dd n ^ m) 0 = s at f hm b3
    obtain ⟨z, e⟩ := dig_lp h1 h4 hL m (i + 1) (l % dd n ^ m) (a ++ [s]) (by omega) (by rw [List.length_append, List.length_singleton]; omega) (by rw [last_snoc]; exact f)
    rw [last_snoc] at e
    refine ⟨z, ?_⟩
    rw [rng_cons (by omega)]
    unfold lp
    refine bindS (bindS b1 (bindS (sbehind_ok h1 h4 a) (bindS b2 (bindS b3 (bindS (cat_ok (xs := a) (ys := [s]) (by rw [List.length_singleton, big]; show a.length + 1 ≤ _; omega)) (bindS b4 rfl)))))) ?_
    have e3 : ((i + 1 : Nat) : Int) = (i : Int) + 1 := by omega
    rw [e3] at e
    rw [e]
    have e4 : dig n a.getLast? (m + 1) l = s :: dig n (some s) m (l % dd n ^ m) := by
      show (alw n a.getLast?).getD (l / dd n ^ m) 0 :: dig n (some ((alw n a.getLast?).getD (l / dd n ^ m) 0)) m (l % dd n ^ m) = _
      rw [hs]
    rw [e4, List.append_assoc]
    rfl
theorem at_ok (h1 : 1 ≤ n) (h4 : n ≤ 4) {N : Nat} (hN : N < tot n 450) : ∃ L, tot n L ≤ N ∧ N < tot n (L + 1) ∧ L < 450 ∧ fits n none L (N - tot n L) ∧ m_p_walk_at (n : Int) (N : Int) = some (dig n none L (N - tot n L)) := by
  obtain ⟨L, a, b, c, e⟩ := size_wh h1 h4 hN 1000 0 (Nat.zero_le _) (by omega)
  have ht : tot n (L + 1) = tot n L + off n L := rfl
  have hf : fits n none L (N - tot n L) := (off_fits h1 h4).mp (by omega)
  obtain ⟨z, e2⟩ := dig_lp h1 h4 (show L ≤ 450 by omega) L 0 (N - tot n L) [] (by omega) (Nat.le_refl _) hf
  refine ⟨L, a, b, c, hf, ?_⟩
  unfold m_p_walk_at
  have es : ((0 : Int), (N : Int), (1 : Int)) = (((0 : Nat) : Int), (N : Int) - ((tot n 0 : Nat) : Int), ((off n 0 : Nat) : Int)) := by
    show ((0 : Int), (N : Int), (1 : Int)) = ((0 : Int), (N : Int) - (0 : Int), (1 : Int))
    rw [Int.sub_zero]
  rw [es, e, Option.bind_some, Sum.elim_inr]
  have e3 : ((N - tot n L : Nat) : Int) = (N : Int) - ((tot n L : Nat) : Int) := by omega
  rw [e3] at e2
  have e6 : rngO 0 (L : Int) = some (range' 0 (L : Int)) := rngO_ok (by omega)
  show ((rngO 0 (L : Int)).bind _) = _
  rw [e6, Option.bind_some]
  exact bindS e2 rfl
/-- the walk at a number has this number; the walk at a walk's number is this walk -/
theorem at_num (h1 : 1 ≤ n) (h4 : n ≤ 4) {N : Nat} (hN : N < tot n 450) : ∃ w, m_p_walk_at (n : Int) (N : Int) = some w ∧ ok n none w ∧ NN n w = N ∧ w.length < 450 := by
  obtain ⟨L, a, b, c, hf, e⟩ := at_ok h1 h4 hN
  obtain ⟨q1, q2, q3⟩ := dig_ok h1 h4 hf
  refine ⟨_, e, q1, ?_, by omega⟩
  unfold NN
  rw [q2, q3]
  omega
theorem num_at (h1 : 1 ≤ n) (h4 : n ≤ 4) {w : List Int} (h : ok n none w) (hN : NN n w < tot n 450) : m_p_walk_at (n : Int) ((NN n w : Nat) : Int) = some w := by
  obtain ⟨L, a, b, c, hf, e⟩ := at_ok h1 h4 hN
  have hw := (off_fits h1 h4).mpr (num_fits h1 h4 h)
  have hL : L = w.length := by
    have t1 : tot n (w.length + 1) = tot n w.length + off n w.length := rfl
    unfold NN at a b
    rcases Nat.lt_trichotomy L w.length with z | z | z
    · have := tot_mono (n := n) (show L + 1 ≤ w.length from z)
      omega
    · exact z
    · have := tot_mono (n := n) (show w.length + 1 ≤ L from z)
      omega
  subst hL
  rw [e]
  have e5 : NN n w - tot n w.length = num n none w := by
    unfold NN
    omega
  rw [e5, dig_num h1 h4 h]
end

/-! ### as the law counts and steps on -/
section
variable {n : Nat}
def lst : Option Int → List Int → Option Int
  | p, [] => p
  | _, x :: a => lst (some x) a
theorem lst_snoc : ∀ (a : List Int) (p : Option Int) (x : Int), lst p (a ++ [x]) = some x
  | [], _, _ => rfl
  | y :: a, _, x => lst_snoc a (some y) x
theorem lst_none (a : List Int) : lst none a = a.getLast? := by
  rcases List.eq_nil_or_concat a with rfl | ⟨b, x, rfl⟩
  · rfl
  · rw [List.concat_eq_append, lst_snoc, last_snoc]
theorem ok_app : ∀ {a t : List Int} {p : Option Int}, ok n p (a ++ t) → ok n (lst p a) t
  | [], _, _, h => h
  | _ :: a, _, _, h => ok_app (a := a) h.2
theorem nx_app : ∀ {b t u : List Int} {p : Option Int}, nx n (lst p b) t = some u → nx n p (b ++ t) = some (b ++ u)
  | [], _, _, _, h => h
  | x :: b, t, u, p, h => by
    have ih := nx_app (b := b) (p := some x) h
    show (match nx n (some x) (b ++ t) with
      | some u => some (x :: u)
      | none => match (alw n p)[ix n p x + 1]? with
        | some y => some (y :: mn n (some y) (b ++ t).length)
        | none => none) = some (x :: (b ++ u))
    rw [ih]
theorem cond_ok (a t : List Int) (x s : Int) : ((if (decide (((a.length : Nat) : Int) = 0)) = true then some true else ((idx (a ++ x :: t) (((a.length : Nat) : Int) - 1)).bind fun t19 => some (!decide (s = (-t19))))) : Option Bool) = some (decide (a.getLast? ≠ some (-s))) := by
  rcases List.eq_nil_or_concat a with rfl | ⟨b, y, rfl⟩
  · rfl
  · rw [List.concat_eq_append, last_snoc, List.length_append, List.length_singleton, if_neg (by rw [decide_eq_true_eq]; omega)]
    have e : idx (b ++ [y] ++ x :: t) (((b.length + 1 : Nat) : Int) - 1) = some y := by
      refine idx_of (by omega) ?_
      rw [show (((b.length + 1 : Nat) : Int) - 1).toNat = b.length by omega, List.append_assoc, List.getElem?_append_right (Nat.le_refl _), Nat.sub_self]
      rfl
    refine bindS e (congrArg some ?_)
    have : (s = -y) ↔ (some y = some (-s)) := by
      rw [Option.some.injEq]
      omega
    by_cases hz : s = -y
    · have z2 := this.mp hz
      rw [decide_eq_true hz]
      exact (decide_eq_false (fun z : some y ≠ some (-s) => z z2)).symm
    · rw [decide_eq_false hz]
      exact (decide_eq_true (show some y ≠ some (-s) from fun z => hz (this.mpr z))).symm
theorem ahead_in {p : Option Int} {x : Int} {f : Int → Int → Option (Step Int Int)} {e : Int} (hx : decide (p ≠ some (-x)) = true) (f1 : ∀ s, f s x = some (.brk s)) (f2 : ∀ s y, y ≠ x → f s y = some (.go (if decide (p ≠ some (-y)) = true then s + e else s))) :
    ∀ {T : List Int} {s : Int} {c : Nat}, ixOf (T.filter fun y => decide (p ≠ some (-y))) x = some c → lpR f T s = some (.inr (s + (c : Int) * e))
  | [], _, _, h => by cases h
  | y :: T, s, c, h => by
    unfold lpR
    by_cases hy : y = x
    · subst hy
      rw [List.filter_cons, if_pos hx] at h
      unfold ixOf at h
      rw [if_pos rfl] at h
      cases h
      refine bindS (f1 s) ?_
      show some (Sum.inr s) = some (Sum.inr (s + ((0 : Nat) : Int) * e))
      simp
    · rw [List.filter_cons] at h
      refine bindS (f2 s y hy) ?_
      show lpR f T _ = _
      by_cases hq : decide (p ≠ some (-y)) = true
      · rw [if_pos hq] at h ⊢
        unfold ixOf at h
        rw [if_neg hy] at h
        cases e1 : ixOf (T.filter fun y => decide (p ≠ some (-y))) x with
        | none =>
          rw [e1] at h
          cases h
        | some c' =>
          rw [e1] at h
          have ec : c' + 1 = c := Option.some.inj h
          rw [ahead_in hx f1 f2 e1, ← ec]
          refine congrArg (fun z : Int => some (Sum.inr z)) ?_
          rw [Int.natCast_add, Int.add_mul]
          omega
      · rw [if_neg hq] at h ⊢
        exact ahead_in hx f1 f2 h
theorem ahead_lp (h1 : 1 ≤ n) (h4 : n ≤ 4) {w : List Int} (hw : w.length ≤ 1000) : ∀ (t a : List Int) (s : Int), w = a ++ t → ok n a.getLast? t → lp (fun (s7 : Int) (at_8 : Int) => ((m_l_steps (n : Int)).bind fun t12 => ((lpR (fun (s13 : Int) (step14 : Int) => (((idx w at_8).bind fun t18 => (if (decide (step14 = t18)) = true then some (Step.brk s13) else ((if (decide (at_8 = 0)) = true then some true else ((idx w (at_8 - 1)).bind fun t19 => some (!decide (step14 = (-t19))))).bind fun t20 => ((if t20 = true then ((m_l_times (n : Int) (((w.length : Int) - at_8) - 1)).bind fun t21 => some (s13 + t21)) else some s13 : Option Int).bind fun s22 => some (Step.go s22))))) : Option (Step Int Int))) t12 s7).bind fun f15o => Sum.elim (fun r24 => none) (fun f15 => some f15) f15o))) (range' ((a.length : Nat) : Int) (w.length : Int)) s = some (s + ((num n a.getLast? t : Nat) : Int))
  | [], a, s, e, _ => by
    have hl : w.length = a.length := by rw [e, List.append_nil]
    rw [rng_nil (by omega)]
    show some s = some (s + ((0 : Nat) : Int))
    simp
  | x :: t, a, s, e, h => by
    have hl : w.length = a.length + t.length + 1 := by
      rw [e, List.length_append, List.length_cons]
      omega
    have ih := ahead_lp h1 h4 hw t (a ++ [x]) (s + ((ix n a.getLast? x : Nat) : Int) * ((dd n ^ t.length : Nat) : Int)) (by rw [e, List.append_assoc]; rfl) (by rw [last_snoc]; exact h.2)
    rw [last_snoc, List.length_append, List.length_singleton] at ih
    rw [rng_cons (by omega)]
    unfold lp
    have i1 : idx w ((a.length : Nat) : Int) = some x := by
      refine idx_of (Int.natCast_nonneg _) ?_
      rw [Int.toNat_natCast, e, List.getElem?_append_right (Nat.le_refl _), Nat.sub_self]
      rfl
    have i2 : m_l_times (n : Int) (((w.length : Int) - ((a.length : Nat) : Int)) - 1) = some ((dd n ^ t.length : Nat) : Int) := by
      rw [show ((w.length : Int) - ((a.length : Nat) : Int)) - 1 = ((t.length : Nat) : Int) by omega, lbehind_ok h1 h4 (Int.natCast_nonneg _) (by omega), Int.toNat_natCast]
    refine bindS (bindS (lsteps_ok h1 h4) (bindS (ahead_in (p := a.getLast?) (x := x) (e := ((dd n ^ t.length : Nat) : Int)) (decide_eq_true (alw_ne h.1)) (fun s => ?_) (fun s y hy => ?_) (ix_at h.1).1) rfl)) ?_
    · refine bindS i1 ?_
      rw [if_pos (decide_eq_true rfl)]
    · refine bindS i1 ?_
      rw [if_neg (by rw [decide_eq_true_eq]; exact hy)]
      have cc := cond_ok a t x y
      rw [← e] at cc
      refine bindS cc ?_
      by_cases hq : decide (a.getLast? ≠ some (-y)) = true
      · rw [if_pos hq, if_pos hq]
        exact bindS (bindS i2 rfl) rfl
      · rw [if_neg hq, if_neg hq]
        rfl
    · have e3 : ((a.length + 1 : Nat) : Int) = ((a.length : Nat) : Int) + 1 := by omega
      rw [e3] at ih
      rw [ih]
      refine congrArg some ?_
      show _ = s + ((ix n a.getLast? x * dd n ^ t.length + num n (some x) t : Nat) : Int)
      rw [Int.natCast_add, Int.natCast_mul, Int.add_assoc]
theorem ahead_ok (h1 : 1 ≤ n) (h4 : n ≤ 4) {w : List Int} (hw : w.length ≤ 1000) (h : ok n none w) : m_l_ahead (n : Int) w = some ((NN n w : Nat) : Int) := by
  unfold m_l_ahead
  refine bindS (rngO_ok (by omega)) (bindS (tots_ok h1 h4 hw) (bindS (rngO_ok (by omega)) ?_))
  rw [tot_sum]
  refine bindS (ahead_lp h1 h4 hw w [] _ rfl h) ?_
  refine congrArg some ?_
  show _ = ((tot n w.length + num n none w : Nat) : Int)
  rw [Int.natCast_add]
  rfl
theorem S_le : (S n).length ≤ 8 := by
  unfold S
  rw [List.length_take]
  exact Nat.min_le_right _ _
theorem least_lp (h1 : 1 ≤ n) (h4 : n ≤ 4) : ∀ (xs : List Int) (a : List Int), pok n a.getLast? → a.length + xs.length ≤ 10000 → lp (fun (s2 : (List Int)) (turn3 : Int) => ((m_l_steps (n : Int)).bind fun t7 => (lcF (fun (step8 : Int) => (!decide ((cut s2 (some (-1)) none) = [(-step8)]))) (fun (step8 : Int) => step8) t7).bind fun t10 => (idx t10 0).bind fun t11 => (catO (α := Int) s2 ([t11])).bind fun t12 => some t12)) xs a = some (a ++ mn n a.getLast? xs.length)
  | [], a, _, _ => by
    show some a = some (a ++ [])
    rw [List.append_nil]
  | x :: xs, a, hp, hl => by
    rw [List.length_cons] at hl
    have q : 0 < (alw n a.getLast?).length := Nat.lt_of_lt_of_le (dd_pos h1) (alw_len h1 h4 hp).1
    have hm : (alw n a.getLast?).getD 0 0 ∈ alw n a.getLast? := List.mem_of_getElem? (getD_at q)
    have i1 : idx (alw n a.getLast?) 0 = some ((alw n a.getLast?).getD 0 0) := idx_of (Int.le_refl 0) (getD_at q)
    have i2 : lcF (fun (step8 : Int) => (!decide ((cut a (some (-1)) none) = [(-step8)]))) (fun (step8 : Int) => step8) (S n) = some (alw n a.getLast?) := by
      unfold lcF
      rw [if_pos (by have := S_le (n := n); rw [big]; omega), cut_last, List.map_id']
      refine congrArg some ?_
      unfold alw
      exact List.filter_congr fun s _ => last_test _ s
    have e0 : mn n a.getLast? (x :: xs).length = (alw n a.getLast?).getD 0 0 :: mn n (some ((alw n a.getLast?).getD 0 0)) xs.length := rfl
    rw [e0]
    generalize (alw n a.getLast?).getD 0 0 = s at hm i1
    have ih := least_lp h1 h4 xs (a ++ [s]) (by rw [last_snoc]; exact pok_of hm) (by rw [List.length_append, List.length_singleton]; omega)
    rw [last_snoc, List.append_assoc] at ih
    unfold lp
    exact bindS (bindS (lsteps_ok h1 h4) (bindS i2 (bindS i1 (bindS (cat_ok (by rw [List.length_singleton, big]; omega)) rfl)))) ih
theorem least_ok (h1 : 1 ≤ n) (h4 : n ≤ 4) {a : List Int} {L : Int} (hp : pok n a.getLast?) (hL : L ≤ 5000) (ha : (a.length : Int) ≤ L) : m_l_least (n : Int) a L = some (a ++ mn n a.getLast? (L - (a.length : Int)).toNat) := by
  unfold m_l_least
  refine bindS (rngO_ok (by omega)) ?_
  have e := least_lp h1 h4 (range' 0 (L - (a.length : Int))) a hp (by rw [rng_len]; omega)
  rw [rng_len, Int.sub_zero] at e
  exact bindS e rfl
theorem mapG_filter {α : Type} {f : α → Option (Option α)} (c : α → Bool) : ∀ {xs : List α}, (∀ x ∈ xs, f x = some (if c x = true then some x else none)) → mapG f xs = some (xs.filter c)
  | [], _ => rfl
  | x :: xs, h => by
    unfold mapG
    rw [h x List.mem_cons_self, mapG_filter c (xs := xs) fun y hy => h y (List.mem_cons_of_mem _ hy), List.filter_cons]
    cases c x <;> rfl
def RD (k : Nat) : List Int := (List.range k).map fun (i : Nat) => ((k : Int) - 1) + (i : Int) * (-1)
theorem RD_succ (k : Nat) : RD (k + 1) = (k : Int) :: RD k := by
  unfold RD
  rw [List.range_succ_eq_map, List.map_cons, List.map_map, List.cons.injEq]
  refine ⟨by omega, List.map_congr_left fun i _ => ?_⟩
  show ((k + 1 : Nat) : Int) - 1 + ((i + 1 : Nat) : Int) * (-1) = (k : Int) - 1 + (i : Int) * (-1)
  omega
theorem next_lp (h1 : 1 ≤ n) (h4 : n ≤ 4) {w : List Int} (hw : w.length ≤ 1000) (h : ok n none w) : ∀ (k : Nat) (a t : List Int), w = a ++ t → a.length = k → nx n a.getLast? t = none → lpR (fun (s2 : Unit) (at_3 : Int) => (((m_l_steps (n : Int)).bind fun t7 => (lcG (β := Int) (fun (step8 : Int) => ((if (decide (at_3 = 0)) = true then some true else ((idx w (at_3 - 1)).bind fun t10 => some (!decide (step8 = (-t10))))).bind fun t11 => if t11 = true then some (some step8) else some none)) t7).bind fun t12 => ((idx w at_3).bind fun t13 => (ixOf t12 t13).bind fun t14 => (if (!decide ((cut t12 (some (((t14 : Nat) : Int) + 1)) none) = ([] : (List Int)))) = true then ((idx (cut t12 (some (((t14 : Nat) : Int) + 1)) none) 0).bind fun t15 => (catO (α := Int) (cut w none (some at_3)) ([t15])).bind fun t16 => (m_l_least (n : Int) t16 (w.length : Int)).bind fun t17 => some (Step.ret t17)) else some (Step.go ())))) : Option (Step (List Int) Unit))) (RD k) () = some (match nx n none w with | some u => .inl u | none => .inr ())
  | 0, a, t, e, ha, hn => by
    have ea : a = [] := List.eq_nil_of_length_eq_zero ha
    subst ea
    have ew : w = t := e
    rw [ew, show nx n none t = none from hn]
    rfl
  | k + 1, a, t, e, ha, hn => by
    rcases List.eq_nil_or_concat a with rfl | ⟨b, x, rfl⟩
    · cases ha
    · rw [List.concat_eq_append] at e ha hn
      rw [last_snoc] at hn
      rw [List.length_append, List.length_singleton] at ha
      have hb : b.length = k := by omega
      have e' : w = b ++ x :: t := by rw [e, List.append_assoc]; rfl
      have hok := ok_app (a := b) (t := x :: t) (p := none) (e' ▸ h)
      rw [lst_none] at hok
      have hx : x ∈ alw n b.getLast? := hok.1
      have i1 : idx w (k : Int) = some x := by
        refine idx_of (Int.natCast_nonneg _) ?_
        rw [Int.toNat_natCast, e', ← hb, List.getElem?_append_right (Nat.le_refl _), Nat.sub_self]
        rfl
      have i2 : lcG (β := Int) (fun (step8 : Int) => ((if (decide ((k : Int) = 0)) = true then some true else ((idx w ((k : Int) - 1)).bind fun t10 => some (!decide (step8 = (-t10))))).bind fun t11 => if t11 = true then some (some step8) else some none)) (S n) = some (alw n b.getLast?) := by
        unfold lcG
        rw [if_pos (by have := S_le (n := n); rw [big]; omega)]
        refine mapG_filter _ fun s _ => ?_
        have cc := cond_ok b t x s
        rw [← e', hb] at cc
        refine bindS cc ?_
        by_cases hq : decide (b.getLast? ≠ some (-s)) = true
        · rw [if_pos hq, if_pos hq]
        · rw [if_neg hq, if_neg hq]
      have i3 : cut (alw n b.getLast?) (some (((ix n b.getLast? x : Nat) : Int) + 1)) none = (alw n b.getLast?).drop (ix n b.getLast? x + 1) := by
        rw [cut_from _ (by omega), show (((ix n b.getLast? x : Nat) : Int) + 1).toNat = ix n b.getLast? x + 1 by omega]
      have e0 : nx n b.getLast? (x :: t) = match (alw n b.getLast?)[ix n b.getLast? x + 1]? with
        | some y => some (y :: mn n (some y) t.length)
        | none => none := by
        show (match nx n (some x) t with
          | some u => some (x :: u)
          | none => match (alw n b.getLast?)[ix n b.getLast? x + 1]? with
            | some y => some (y :: mn n (some y) t.length)
            | none => none) = _
        rw [hn]
      rw [RD_succ]
      unfold lpR
      cases ey : (alw n b.getLast?)[ix n b.getLast? x + 1]? with
      | none =>
        rw [ey] at e0
        have hl : (alw n b.getLast?).length ≤ ix n b.getLast? x + 1 := List.getElem?_eq_none_iff.mp ey
        refine bindS (a := (Step.go () : Step (List Int) Unit)) (bindS (lsteps_ok h1 h4) (bindS i2 (bindS i1 (bindS (ix_at hx).1 ?_)))) (next_lp h1 h4 hw h k b (x :: t) e' hb e0)
        rw [i3, List.drop_of_length_le hl]
        rfl
      | some y =>
        rw [ey] at e0
        have hy : y ∈ alw n b.getLast? := List.mem_of_getElem? ey
        have hlt := (List.getElem?_eq_some_iff.mp ey).1
        have ed : (alw n b.getLast?).drop (ix n b.getLast? x + 1) ≠ [] := fun z => by
          have := congrArg List.length z
          rw [List.length_drop, List.length_nil] at this
          omega
        have i4 : idx ((alw n b.getLast?).drop (ix n b.getLast? x + 1)) 0 = some y := by
          refine idx_of (Int.le_refl 0) ?_
          show ((alw n b.getLast?).drop (ix n b.getLast? x + 1))[0]? = some y
          rw [List.getElem?_drop, Nat.add_zero]
          exact ey
        have hwl : w.length = b.length + 1 + t.length := by
          rw [e', List.length_append, List.length_cons]
          omega
        have i5 : cut w none (some (k : Int)) = b := by
          rw [cut_to _ (Int.natCast_nonneg _), Int.toNat_natCast, e', ← hb, List.take_left]
        have i6 : m_l_least (n : Int) (b ++ [y]) (w.length : Int) = some (b ++ (y :: mn n (some y) t.length)) := by
          rw [least_ok h1 h4 (by rw [last_snoc]; exact pok_of hy) (by omega) (by rw [List.length_append, List.length_singleton]; omega), last_snoc, List.length_append, List.length_singleton, show ((w.length : Int) - ((b.length + 1 : Nat) : Int)).toNat = t.length by omega, List.append_assoc]
          rfl
        have en : nx n none w = some (b ++ (y :: mn n (some y) t.length)) := by
          rw [e']
          refine nx_app ?_
          rw [lst_none]
          exact e0
        rw [en]
        refine bindS (a := (Step.ret (b ++ (y :: mn n (some y) t.length)) : Step (List Int) Unit)) (bindS (lsteps_ok h1 h4) (bindS i2 (bindS i1 (bindS (ix_at hx).1 ?_)))) rfl
        rw [i3, if_pos (by rw [decide_eq_false ed]; rfl), i5]
        exact bindS i4 (bindS (cat_ok (by rw [List.length_singleton, big]; omega)) (bindS i6 rfl))
theorem rngDO_RD (k : Nat) (hk : k ≤ 1000) : rngDO ((k : Int) - 1) (-1) = some (RD k) := by
  unfold rngDO
  rw [if_pos (by omega)]
  refine congrArg some ?_
  unfold rangeD RD
  rw [show ((k : Int) - 1 - -1).toNat = k by omega]
theorem least0 (h1 : 1 ≤ n) (h4 : n ≤ 4) (k : Nat) (hk : k ≤ 1000) : m_l_least (n : Int) ([] : (List Int)) ((k : Int) + 1) = some (mn n none (k + 1)) := by
  have q := least_ok h1 h4 (a := []) (L := (k : Int) + 1) (fun x z => by cases z) (by omega) (by rw [List.length_nil]; omega)
  rw [q, List.nil_append, List.length_nil, List.getLast?_nil]
  rw [show ((k : Int) + 1 - ((0 : Nat) : Int)).toNat = k + 1 by omega]
theorem lnext_ok (h1 : 1 ≤ n) (h4 : n ≤ 4) {w : List Int} (hw : w.length ≤ 1000) (h : ok n none w) : m_l_next (n : Int) w = some (nxt n w) := by
  have e0 : nx n w.getLast? [] = none := rfl
  have e1 := next_lp h1 h4 hw h w.length w [] (List.append_nil w).symm rfl e0
  have e2 := least0 h1 h4 w.length hw
  unfold m_l_next
  rw [rngDO_RD _ hw, Option.bind_some, e1, Option.bind_some]
  unfold nxt
  cases e : nx n none w with
  | some u => rw [Sum.elim_inl, Option.getD_some]
  | none => rw [Sum.elim_inr, Option.getD_none, e2, Option.bind_some]
end

/-! ### the law's own walks -/
section
variable {n : Nat}
theorem ok_S : ∀ {w : List Int} {p : Option Int}, ok n p w → ∀ x ∈ w, x ∈ S n
  | [], _, _, _, hx => by cases hx
  | y :: t, _, h, x, hx => by
    rcases List.mem_cons.mp hx with rfl | hx
    · exact alw_S h.1
    · exact ok_S h.2 x hx
theorem ok_gd : ∀ {w : List Int} {p : Option Int}, ok n p w → Gd w
  | [], _, _ => trivial
  | [_], _, _ => trivial
  | x :: y :: t, _, h => ⟨by
      have := alw_ne h.2.1
      intro z
      apply this
      rw [z]
      simp, ok_gd (w := y :: t) h.2⟩
theorem ok_of : ∀ {w : List Int} {p : Option Int}, Gd w → (∀ x ∈ w, x ∈ S n) → (∀ x t, w = x :: t → p ≠ some (-x)) → ok n p w
  | [], _, _, _, _ => trivial
  | x :: t, p, g, h, hp => by
    refine ⟨List.mem_filter.mpr ⟨h x List.mem_cons_self, decide_eq_true (hp x t rfl)⟩, ok_of (gd_tail g) (fun y hy => h y (List.mem_cons_of_mem _ hy)) fun y u e z => ?_⟩
    subst e
    have g1 : y ≠ -x := g.1
    have z1 : x = -y := Option.some.inj z
    omega
theorem ok_red {w : List Int} (h : ∀ x ∈ w, x ∈ S n) : ok n none (red w) := ok_of (red_gd w) (red_mem h) fun _ _ _ z => nomatch z
theorem is_ok {u : List Int} (h : u.length ≤ 100000) : m_l_is u u = some true := by
  unfold m_l_is
  rw [if_neg (by simp), lcT_some _ (by rw [big]; omega)]
  simp
theorem joined_ok {u v : List Int} (h : u.length ≤ 100000) (h2 : v.length < 1000) (gu : Gd u) (gv : Gd v) : m_l_joined u v = some (red (u ++ v)) := by
  rw [← jn_red gu gv]
  have hk := kk_le u.reverse v
  rw [List.length_reverse] at hk
  have e := join_wh u v 1000 0 (by simp only [List.drop_zero]; omega)
  rw [show ((0 : Nat) : Int) = 0 from rfl] at e
  unfold m_l_joined
  rw [e]
  simp only [Option.bind_some, Sum.elim_inr, List.drop_zero, Nat.zero_add]
  rw [cut_to _ (by omega), cut_from _ (by omega), cat_ok (by rw [List.length_take, List.length_drop, big]; omega)]
  unfold jn
  rw [Int.toNat_natCast, show (((u.length : Int) - (kk u.reverse v : Int))).toNat = u.length - kk u.reverse v by omega]
  rfl
theorem lstraight_ok {w : List Int} (h : w.length ≤ 10000) : m_l_straight w = some (red w) := by
  unfold m_l_straight
  obtain ⟨s, e, hs⟩ := lp_goN (f := (fun (s1 : (List Int)) (step2 : Int) => ((m_l_joined s1 ([step2])).bind fun t6 => some t6))) (xs := w) (fun i (s : List Int) => s = red (w.take i)) (fun i x s hx hs => by
    have hi := (List.getElem?_eq_some_iff.mp hx).1
    subst hs
    refine ⟨red (red (w.take i) ++ [x]), bindS (joined_ok ?_ (by simp) (red_gd _) trivial) rfl, ?_⟩
    · have := red_len (w.take i)
      rw [List.length_take] at this
      omega
    · rw [red_appL, List.take_add_one, hx]
      rfl) (s0 := []) (by rw [List.take_zero]; rfl)
  refine bindS e ?_
  rw [hs, List.take_length]
theorem letters_ok (h1 : 1 ≤ n) (h4 : n ≤ 4) : m_p_need_letters (n : Int) = some () := by
  rcases four h1 h4 with rfl | rfl | rfl | rfl <;> decide +kernel
theorem number_ok {N : Int} (h : 0 ≤ N) : m_p_need_number N 0 () = some () := by
  unfold m_p_need_number
  rw [if_neg]
  simp
  omega
theorem step_ok (h1 : 1 ≤ n) (h4 : n ≤ 4) : ∀ x ∈ S n, m_p_is_step x (n : Int) = some true := by
  rcases four h1 h4 with rfl | rfl | rfl | rfl <;> decide +kernel
theorem walk_need (h1 : 1 ≤ n) (h4 : n ≤ 4) {w : List Int} (h : ∀ x ∈ w, x ∈ S n) (hl : w.length ≤ 10000) : m_p_need_walk w (n : Int) = some () := by
  have e : m_p_is_a_walk w (n : Int) = some true := by
    unfold m_p_is_a_walk
    rw [if_pos rfl, lcO_some (fun _ => true) (by rw [big]; omega) (fun x hx => by rw [step_ok h1 h4 x (h x hx)]; rfl)]
    simp
  unfold m_p_need_walk
  rw [e]
  rfl
theorem nth_ok (h1 : 1 ≤ n) (h4 : n ≤ 4) {N : Nat} {w : List Int} (e : m_p_walk_at (n : Int) (N : Int) = some w) : m_p_nth_walk (n : Int) (N : Int) = some w := by
  unfold m_p_nth_walk
  rw [letters_ok h1 h4, number_ok (Int.natCast_nonneg _), e]
  rfl
theorem numof_ok (h1 : 1 ≤ n) (h4 : n ≤ 4) {w : List Int} (h : ∀ x ∈ w, x ∈ S n) (hl : w.length ≤ 1000) : m_p_number_of (n : Int) w = some ((NN n (red w) : Nat) : Int) := by
  have e : m_p_straightened w = some (red w) := straight_ok (w := w) (by rw [big]; omega)
  have hr := red_len w
  unfold m_p_number_of
  rw [letters_ok h1 h4, walk_need h1 h4 h (by omega), Option.bind_some, Option.bind_some, e, Option.bind_some, numin_ok h1 h4 (by omega) (ok_red h)]
  rfl
theorem bound_next (h1 : 1 ≤ n) {k : Nat} (h : k < 449) (N : Nat) (hN : N < tot n (k + 1)) : N + 1 < tot n 450 := by
  have a : tot n (k + 2) = tot n (k + 1) + off n (k + 1) := rfl
  have b := off_pos h1 (k + 1)
  have c := tot_mono (n := n) (show k + 2 ≤ 450 by omega)
  omega
theorem NN_lt (h1 : 1 ≤ n) (h4 : n ≤ 4) {w : List Int} (h : ok n none w) : NN n w < tot n (w.length + 1) := by
  have a : tot n (w.length + 1) = tot n w.length + off n w.length := rfl
  have b := (off_fits h1 h4).mpr (num_fits h1 h4 h)
  unfold NN
  omega
theorem nextw_ok (h1 : 1 ≤ n) (h4 : n ≤ 4) {w : List Int} (h : ∀ x ∈ w, x ∈ S n) (hl : w.length ≤ 400) : m_p_next_walk (n : Int) w = some (nxt n (red w)) := by
  have e : m_p_straightened w = some (red w) := straight_ok (w := w) (by rw [big]; omega)
  have hr := red_len w
  have ho := ok_red h
  obtain ⟨a, b, c⟩ := nxt_ok h1 h4 ho
  have hb := bound_next h1 (show (red w).length < 449 by omega) _ (NN_lt h1 h4 ho)
  have ea : m_p_walk_at (n : Int) (((NN n (red w) : Nat) : Int) + 1) = some (nxt n (red w)) := by
    have q := num_at h1 h4 a (by rw [b]; exact hb)
    rw [b, Int.natCast_add] at q
    exact q
  unfold m_p_next_walk
  rw [letters_ok h1 h4, walk_need h1 h4 h (by omega), Option.bind_some, Option.bind_some, e, Option.bind_some, numin_ok h1 h4 (by omega) ho, Option.bind_some, ea]
  rfl
theorem num_same (a : Int) : m_l_number a a = some true := by
  unfold m_l_number
  simp
theorem great_ok (h1 : 1 ≤ n) (h4 : n ≤ 4) {N : Nat} (hN : N + 1 < tot n 450) : m_l_great (n : Int) (N : Int) = some true := by
  obtain ⟨w, e, ho, hn, hl⟩ := at_num h1 h4 (N := N) (by omega)
  obtain ⟨a, b, c⟩ := nxt_ok h1 h4 ho
  have ew : red w = w := red_of (ok_gd ho)
  have t1 := nth_ok h1 h4 e
  have t2 := is_ok (u := w) (by omega)
  have t3 : m_l_straight w = some w := by rw [lstraight_ok (by omega), ew]
  have t8 : lcG (β := Int) (fun (step5 : Int) => ((m_l_steps (n : Int)).bind fun t7 => if (!t7.contains step5) = true then some (some step5) else some none)) w = some [] := by
    unfold lcG
    rw [if_pos (by rw [big]; omega), mapG_filter (fun _ => false) fun x hx => ?_]
    · rw [List.filter_eq_nil_iff.mpr (fun x _ => Bool.false_ne_true)]
    · refine bindS (lsteps_ok h1 h4) ?_
      have hc : (S n).contains x = true := List.contains_iff_mem.mpr (ok_S ho x hx)
      rw [hc]
      rfl
  have t9 : m_l_ahead (n : Int) w = some (N : Int) := by rw [ahead_ok h1 h4 (by omega) ho, hn]
  have t13 : m_p_number_of (n : Int) w = some (N : Int) := by rw [numof_ok h1 h4 (ok_S ho) (by omega), ew, hn]
  have t15 : m_p_nth_walk (n : Int) ((N : Int) + 1) = some (nxt n w) := by
    have q := num_at h1 h4 a (by rw [b, hn]; exact hN)
    rw [b, hn] at q
    have q2 := nth_ok h1 h4 q
    rw [Int.natCast_add] at q2
    exact q2
  have t16 := lnext_ok h1 h4 (by omega) ho
  have t17 := is_ok (u := nxt n w) (by omega)
  unfold m_l_great
  refine bindS t1 (bindS t2 (bindS (a := false) ((if_neg (by decide)).trans (bindS t3 (by simp))) ?_))
  refine (if_neg (by decide)).trans (bindS t8 (bindS (a := false) ((if_neg (by simp)).trans (bindS t9 (by simp))) ?_))
  refine (if_neg (by decide)).trans (bindS t1 (bindS t2 ((if_neg (by decide)).trans (bindS t13 (bindS (num_same _) ((if_neg (by decide)).trans ?_))))))
  exact bindS t15 (bindS t16 (bindS t17 rfl))
theorem walked_ok (h1 : 1 ≤ n) (h4 : n ≤ 4) {w : List Int} (h : ∀ x ∈ w, x ∈ S n) (hl : w.length ≤ 400) : m_l_walked (n : Int) w (red w) = some true := by
  have hr := red_len w
  have ho := ok_red h
  obtain ⟨a, b, c⟩ := nxt_ok h1 h4 ho
  have t1 := ahead_ok h1 h4 (by omega) ho
  have t2 := numof_ok h1 h4 h (by omega)
  have t7 := lnext_ok h1 h4 (by omega) ho
  have t8 := nextw_ok h1 h4 h hl
  have t9 := is_ok (u := nxt n (red w)) (by omega)
  unfold m_l_walked
  refine bindS t1 (bindS t2 (bindS (num_same _) (bindS (a := false) ((if_neg (by decide)).trans (bindS t2 (bindS (num_same _) rfl))) ?_)))
  refine (if_neg (by decide)).trans (bindS t7 (bindS t8 (bindS t9 (bindS (a := true) ((if_pos rfl).trans (bindS t8 (bindS t9 rfl))) rfl))))
theorem sh1 : m_l_short 1 = some true := by decide +kernel
theorem sh2 : m_l_short 2 = some true := by decide +kernel
theorem sh3 : m_l_short 3 = some true := by decide +kernel
theorem sh4 : m_l_short 4 = some true := by decide +kernel
theorem short_ok (h1 : 1 ≤ n) (h4 : n ≤ 4) : m_l_short (n : Int) = some true := by
  rcases four h1 h4 with rfl | rfl | rfl | rfl
  · exact sh1
  · exact sh2
  · exact sh3
  · exact sh4
theorem tot_big (h2 : 2 ≤ n) (h4 : n ≤ 4) : 10 ^ 60 + 5 < tot n 450 := by
  have : n = 2 ∨ n = 3 ∨ n = 4 := by omega
  rcases this with rfl | rfl | rfl <;> decide +kernel
theorem tot_one : 805 < tot 1 450 := by decide +kernel
theorem S_mem (h1 : 1 ≤ n) (h4 : n ≤ 4) {x : Int} (h : Sok (n : Int) x) : x ∈ S n := by
  obtain ⟨a, b, c⟩ := h
  have : x = 1 ∨ x = -1 ∨ x = 2 ∨ x = -2 ∨ x = 3 ∨ x = -3 ∨ x = 4 ∨ x = -4 := by omega
  rcases four h1 h4 with rfl | rfl | rfl | rfl <;> rcases this with rfl | rfl | rfl | rfl | rfl | rfl | rfl | rfl <;> first | decide | omega
theorem gd_rep {y : Int} (hy : y ≠ -y) : ∀ m : Nat, Gd (List.replicate m y)
  | 0 => trivial
  | 1 => trivial
  | m + 2 => ⟨hy, gd_rep hy (m + 1)⟩
theorem flat_one (y : Int) : ∀ m : Nat, (List.replicate m [y]).flatten = List.replicate m y
  | 0 => rfl
  | m + 1 => by rw [List.replicate_succ, List.replicate_succ, List.flatten_cons, flat_one y m]; rfl
theorem right_ok {w : List Int} (h : WeOk 0 w) : ∃ w', m_l_right w = some (true, w') := by
  obtain ⟨v1, w1, e1, a1, b1, k1⟩ := take_ok (by omega) h (many := 4) (by omega) (by omega)
  obtain ⟨n, hn⟩ : ∃ n : Nat, 1 + v1 = (n : Int) := ⟨(1 + v1).toNat, by omega⟩
  have h1 : 1 ≤ n := by omega
  have h4 : n ≤ 4 := by omega
  obtain ⟨mo, w2, e2, m0, m1, m2, k2⟩ : ∃ mo w2, (if (decide (1 < (n : Int))) = true then ((takeM w1 4).bind fun t2 => (idx ([1000, 1000000000000000000, 10000000000000000000000000000000000000000, 999999999999999999999999999999999999999999999999999999999998] : List Int) t2.1).bind fun t3 => some (t3, t2.2)) else some (799, w1) : Option (Int × (List Int))) = some (mo, w2) ∧ 0 ≤ mo ∧ mo + 2 < ((tot n 450 : Nat) : Int) ∧ mo < 10 ^ 60 ∧ WeOk 2 w2 := by
    by_cases hq : (1 : Int) < (n : Int)
    · obtain ⟨v, x, e, a, b, k⟩ := take_ok (by omega) k1 (many := 4) (by omega) (by omega)
      have tb := tot_big (n := n) (by omega) h4
      have hv : v = 0 ∨ v = 1 ∨ v = 2 ∨ v = 3 := by omega
      rw [if_pos (decide_eq_true hq)]
      rcases hv with rfl | rfl | rfl | rfl
      · exact ⟨1000, x, bindS e (bindS rfl rfl), by omega, by omega, by omega, k⟩
      · exact ⟨1000000000000000000, x, bindS e (bindS rfl rfl), by omega, by omega, by omega, k⟩
      · exact ⟨10000000000000000000000000000000000000000, x, bindS e (bindS rfl rfl), by omega, by omega, by omega, k⟩
      · exact ⟨999999999999999999999999999999999999999999999999999999999998, x, bindS e (bindS rfl rfl), by omega, by omega, by omega, k⟩
    · have hn1 : n = 1 := by omega
      subst hn1
      have tb := tot_one
      rw [if_neg (by rw [decide_eq_true_eq]; exact hq)]
      exact ⟨799, w1, rfl, by omega, by omega, by omega, k1.mono (by omega)⟩
  obtain ⟨v5, w5, e5, a5, b5, k5⟩ := take_big (by omega) k2 (many := mo + 1) (by omega) (Nat.lt_trans (log2_int (k := 201) (by omega) (by omega) (by omega)) (by omega))
  obtain ⟨v6, w6, e6, a6, b6, k6⟩ := take_ok (by omega) k5 (many := 5) (by omega) (by omega)
  obtain ⟨nu, e7, a7, b7⟩ : ∃ nu, idx ([v5, mo]) (if (decide (v6 = 0)) = true then 1 else 0) = some nu ∧ 0 ≤ nu ∧ nu ≤ mo := by
    by_cases hv : v6 = 0
    · rw [if_pos (decide_eq_true hv)]
      exact ⟨mo, rfl, m0, Int.le_refl _⟩
    · rw [if_neg (by rw [decide_eq_true_eq]; exact hv)]
      exact ⟨v5, rfl, a5, by omega⟩
  obtain ⟨N, hN⟩ : ∃ N : Nat, nu = (N : Int) := ⟨nu.toNat, by omega⟩
  have t9 := great_ok h1 h4 (N := N) (by omega)
  rw [← hN] at t9
  have t8 := short_ok h1 h4
  obtain ⟨u, w11, e11, o11, l11, k11⟩ := walk_ok (by omega) k6 (L := (n : Int)) (most := 58) (by omega) (by omega) (by omega) (by omega)
  have hu : ∀ x ∈ u, x ∈ S n := fun x hx => S_mem h1 h4 (o11 x hx)
  obtain ⟨v12, w12, e12, a12, b12, k12⟩ := take_ok (by omega) k11 (many := (u.length : Int) + 1) (by omega) (by omega)
  obtain ⟨v13, w13, e13, a13, b13, k13⟩ := take_ok (by omega) k12 (many := (n : Int)) (by omega) (by omega)
  obtain ⟨v17, w17, e17, a17, b17, k17⟩ := take_ok (by omega) k13 (many := 61) (by omega) (by omega)
  obtain ⟨v27, w27, e27, a27, b27, k27⟩ := take_ok (by omega) k17 (many := 101) (by omega) (by omega)
  have hs : -(1 + v13) ∈ S n := S_mem h1 h4 ⟨by omega, by omega, by omega⟩
  have hs2 : 1 + v13 ∈ S n := S_mem h1 h4 ⟨by omega, by omega, by omega⟩
  have hs3 : -(n : Int) ∈ S n := S_mem h1 h4 ⟨by omega, by omega, by omega⟩
  have c1 : catO (cut u none (some v12)) [-(1 + v13), 1 + v13] = some (u.take v12.toNat ++ [-(1 + v13), 1 + v13]) := by
    rw [cut_to _ a12]
    refine cat_ok ?_
    rw [List.length_take, big]
    show min v12.toNat u.length + 2 ≤ _
    omega
  have c2 : catO (u.take v12.toNat ++ [-(1 + v13), 1 + v13]) (cut u (some v12) none) = some (u.take v12.toNat ++ [-(1 + v13), 1 + v13] ++ u.drop v12.toNat) := by
    rw [cut_from _ a12]
    refine cat_ok ?_
    rw [List.length_append, List.length_take, List.length_drop, big]
    show min v12.toNat u.length + 2 + _ ≤ _
    omega
  have em : red (u.take v12.toNat ++ [-(1 + v13), 1 + v13] ++ u.drop v12.toNat) = red u := by
    have q := red_pair (u.take v12.toNat) (u.drop v12.toNat) (-(1 + v13))
    rw [Int.neg_neg, List.take_append_drop] at q
    rw [List.append_assoc]
    exact q
  have hm : ∀ x ∈ u.take v12.toNat ++ [-(1 + v13), 1 + v13] ++ u.drop v12.toNat, x ∈ S n := fun x hx => by
    rcases List.mem_append.mp hx with hx | hx
    · rcases List.mem_append.mp hx with hx | hx
      · exact hu x (List.mem_of_mem_take hx)
      · rcases List.mem_cons.mp hx with rfl | hx
        · exact hs
        · have : x = 1 + v13 := by simpa using hx
          rw [this]
          exact hs2
    · exact hu x (List.mem_of_mem_drop hx)
  have hml : (u.take v12.toNat ++ [-(1 + v13), 1 + v13] ++ u.drop v12.toNat).length ≤ 400 := by
    rw [List.length_append, List.length_append, List.length_take, List.length_drop]
    show min v12.toNat u.length + 2 + _ ≤ _
    omega
  have t16 : m_l_straight u = some (red u) := lstraight_ok (by omega)
  have hru := red_len u
  have t18 : repT [-(n : Int)] v17 = some (List.replicate v17.toNat (-(n : Int))) := by
    unfold repT
    rw [if_pos ⟨by omega, by omega, by simp⟩, flat_one]
  have t19 := walked_ok h1 h4 hu (by omega)
  have t20 := walked_ok h1 h4 hm hml
  rw [em] at t20
  have t22 := walked_ok h1 h4 (w := List.replicate v17.toNat (-(n : Int))) (fun x hx => by rw [(List.mem_replicate.mp hx).2]; exact hs3) (by rw [List.length_replicate]; omega)
  rw [red_of (gd_rep (by omega) _)] at t22
  have ho := ok_red hu
  have t23 := ahead_ok h1 h4 (by omega) ho
  have hb := bound_next h1 (show (red u).length < 449 by omega) _ (NN_lt h1 h4 ho)
  have t24 := nth_ok h1 h4 (num_at h1 h4 ho (by omega))
  have t25 := is_ok (u := red u) (by omega)
  have t28 := lmany_ok h1 h4 (k := v27) a27 (by omega)
  have t29 : m_p_how_many (n : Int) v27 = some ((off n v27.toNat : Nat) : Int) := by
    unfold m_p_how_many
    rw [letters_ok h1 h4, number_ok a27, wof_ok h1 h4 a27 (by omega)]
    rfl
  have r1 : ∀ m, m_l_take w m = takeM w m := fun _ => rfl
  refine ⟨w27, ?_⟩
  have go : m_l_right w = ((takeM w 4).bind fun t1 => _) := rfl
  unfold m_l_right
  refine bindS (show m_l_take w 4 = some (v1, w1) from e1) ?_
  show (((if (decide (1 < (1 + v1))) = true then ((m_l_take w1 4).bind fun t2 => (idx ([1000, 1000000000000000000, 10000000000000000000000000000000000000000, 999999999999999999999999999999999999999999999999999999999998]) t2.1).bind fun t3 => some (t3, t2.2)) else some (799, w1) : Option (Int × (List Int)))).bind _) = _
  rw [hn]
  refine bindS (show _ = some (mo, w2) from e2) ?_
  refine bindS (show m_l_take w2 (mo + 1) = some (v5, w5) from e5) (bindS (show m_l_take w5 5 = some (v6, w6) from e6) (bindS e7 ?_))
  refine bindS t8 (bindS (a := false) ((if_neg (by decide)).trans (bindS t9 rfl)) ((if_neg (by decide)).trans ?_))
  refine bindS (show m_l_walk w6 (n : Int) 58 = some (u, w11) from e11) (bindS (show m_l_take w11 ((u.length : Int) + 1) = some (v12, w12) from e12) (bindS (show m_l_take w12 (n : Int) = some (v13, w13) from e13) ?_))
  refine bindS c1 (bindS c2 (bindS t16 (bindS (show m_l_take w13 61 = some (v17, w17) from e17) (bindS t18 (bindS t19 (bindS (a := false) ((if_neg (by decide)).trans (bindS t20 rfl)) ?_))))))
  refine (if_neg (by decide)).trans (bindS t22 (bindS (a := false) ((if_neg (by decide)).trans (bindS t23 (bindS t24 (bindS t25 rfl)))) ?_))
  exact (if_neg (by decide)).trans (bindS (show m_l_take w17 101 = some (v27, w27) from e27) (bindS t28 (bindS t29 (bindS (num_same _) (bindS (a := true) ((if_pos rfl).trans (bindS t29 (bindS (num_same _) rfl))) rfl)))))
theorem law_true : ∀ ns : List Int, ns.length ≤ 63 → m_l_law ns = some true := fun ns hl => by
  have hn : ns.length < sizeLine := by
    rw [big]
    omega
  unfold m_l_law
  have b : maxI 1 (minI 3 (ns.length : Int)) ≤ 3 := by
    unfold maxI minI
    split <;> split <;> omega
  have b0 : 1 ≤ maxI 1 (minI 3 (ns.length : Int)) := by
    unfold maxI minI
    split <;> split <;> omega
  rw [rngO_ok (by omega)]
  obtain ⟨_, f1, _⟩ := lpR_go (R := Bool) (f := (fun (s2 : Unit) (k_3 : Int) => (((m_l_well ns k_3).bind fun t7 => (m_l_right t7).bind fun t8 => (if (!t8.1) = true then some (Step.ret false) else some (Step.go ()))) : Option (Step Bool Unit)))) (fun _ => True) (xs := range' 0 (maxI 1 (minI 3 (ns.length : Int)))) (fun x hx s _ => by
    obtain ⟨p1, p2⟩ := mem_rng hx
    obtain ⟨w, e, hw⟩ := well_ok (k := x) hn p1
    obtain ⟨w', e'⟩ := right_ok hw
    exact ⟨(), bindS (show m_l_well ns x = some w from e) (bindS e' rfl), trivial⟩) (s0 := ()) trivial
  rw [Option.bind_some, f1, Option.bind_some, Sum.elim_inr]
end
end L05
namespace L05
open PySem PySem.Spec PyProof.Rows L2 Z
theorem tops {l : PySem.W.OpenLaw} {w : World} {K : PySem.W.Frag} {h : Heap} {mg : Str → Option Value} {fa f0 f1 f2 f3 f4 f5 f6 f7 f8 f9 f10 f11 f12 f13 f14 f15 f16 f17 f18 f19 f20 f21 f22 f23 f24 f25 f26 f27 f28 f29 f30 f31 f32 f33 f34 f35 f36 : Addr} (IK : K.In h) (IG : h.Ns mainGlobals mg) (hfa : mg "law" = some (.ref fa))
    {od0 od1 od2 od3 od4 od5 od6 od7 od8 od9 od10 od11 od12 od13 od14 od15 od16 od17 od18 od19 od20 od21 od22 od23 od24 od25 od26 od27 od28 od29 od30 od31 od32 od33 od34 od35 od36 an0 an1 an2 an3 an4 an5 an6 an7 an8 an9 an10 an11 an12 an13 an14 an15 an16 an17 an18 an19 an20 an21 an22 an23 an24 an25 an26 an27 an28 an29 an30 an31 an32 an33 an34 an35 an36 : Option Addr} {sl0 sl1 sl2 sl3 sl4 sl5 sl6 sl7 sl8 sl9 sl10 sl11 sl12 sl13 sl14 sl15 sl16 sl17 sl18 sl19 sl20 sl21 sl22 sl23 sl24 sl25 sl26 sl27 sl28 sl29 sl30 sl31 sl32 sl33 sl34 sl35 sl36 : Array (Option Value)} {oc0 oc1 oc2 oc3 oc4 oc5 oc6 oc7 oc8 oc9 oc10 oc11 oc12 oc13 oc14 oc15 oc16 oc17 oc18 oc19 oc20 oc21 oc22 oc23 oc24 oc25 oc26 oc27 oc28 oc29 oc30 oc31 oc32 oc33 oc34 oc35 oc36 kV0 kV1 kV2 kV3 kV4 kV5 kV6 kV7 kV8 kV9 kV10 kV11 kV12 kV13 kV14 kV15 kV16 kV17 kV18 kV19 kV20 kV21 kV22 kV23 kV24 kV25 kV26 kV27 kV28 kV29 kV30 kV31 kV32 kV33 kV34 kV35 kV36 dc0 dc1 dc2 dc3 dc4 dc5 dc6 dc7 dc8 dc9 dc10 dc11 dc12 dc13 dc14 dc15 dc16 dc17 dc18 dc19 dc20 dc21 dc22 dc23 dc24 dc25 dc26 dc27 dc28 dc29 dc30 dc31 dc32 dc33 dc34 dc35 dc36 pm0 pm1 pm2 pm3 pm4 pm5 pm6 pm7 pm8 pm9 pm10 pm11 pm12 pm13 pm14 pm15 pm16 pm17 pm18 pm19 pm20 pm21 pm22 pm23 pm24 pm25 pm26 pm27 pm28 pm29 pm30 pm31 pm32 pm33 pm34 pm35 pm36 cd0 cd1 cd2 cd3 cd4 cd5 cd6 cd7 cd8 cd9 cd10 cd11 cd12 cd13 cd14 cd15 cd16 cd17 cd18 cd19 cd20 cd21 cd22 cd23 cd24 cd25 cd26 cd27 cd28 cd29 cd30 cd31 cd32 cd33 cd34 cd35 cd36 ct0 ct1 ct2 ct3 ct4 ct5 ct6 ct7 ct8 ct9 ct10 ct11 ct12 ct13 ct14 ct15 ct16 ct17 ct18 ct19 ct20 ct21 ct22 ct23 ct24 ct25 ct26 ct27 ct28 ct29 ct30 ct31 ct32 ct33 ct34 ct35 ct36 : Value}
    (a0 : PySem.W.nsIn K mainGlobals "steps_of" = some (some (.ref f0)))
    (b0 : K.lookup f0 = some ⟨oc0, od0, .func (PySem.W.fnOf "steps_of" "steps_of" (defArgs s_p_steps_of) (defBody s_p_steps_of) (defScope s_p_steps_of) .none kV0 dc0 pm0 an0 cd0 ct0), sl0⟩)
    (c0 : PySem.W.codeIn K cd0 "steps_of" = true) (d0 : PySem.W.keepIn K (.ref f0) = true)
    (a1 : PySem.W.nsIn K mainGlobals "straightened" = some (some (.ref f1)))
    (b1 : K.lookup f1 = some ⟨oc1, od1, .func (PySem.W.fnOf "straightened" "straightened" (defArgs s_p_straightened) (defBody s_p_straightened) (defScope s_p_straightened) .none kV1 dc1 pm1 an1 cd1 ct1), sl1⟩)
    (c1 : PySem.W.codeIn K cd1 "straightened" = true) (d1 : PySem.W.keepIn K (.ref f1) = true)
    (a2 : PySem.W.nsIn K mainGlobals "is_integer" = some (some (.ref f2)))
    (b2 : K.lookup f2 = some ⟨oc2, od2, .func (PySem.W.fnOf "is_integer" "is_integer" (defArgs s_p_is_integer) (defBody s_p_is_integer) (defScope s_p_is_integer) .none kV2 dc2 pm2 an2 cd2 ct2), sl2⟩)
    (c2 : PySem.W.codeIn K cd2 "is_integer" = true) (d2 : PySem.W.keepIn K (.ref f2) = true)
    (a3 : PySem.W.nsIn K mainGlobals "is_letters" = some (some (.ref f3)))
    (b3 : K.lookup f3 = some ⟨oc3, od3, .func (PySem.W.fnOf "is_letters" "is_letters" (defArgs s_p_is_letters) (defBody s_p_is_letters) (defScope s_p_is_letters) .none kV3 dc3 pm3 an3 cd3 ct3), sl3⟩)
    (c3 : PySem.W.codeIn K cd3 "is_letters" = true) (d3 : PySem.W.keepIn K (.ref f3) = true)
    (a4 : PySem.W.nsIn K mainGlobals "is_step" = some (some (.ref f4)))
    (b4 : K.lookup f4 = some ⟨oc4, od4, .func (PySem.W.fnOf "is_step" "is_step" (defArgs s_p_is_step) (defBody s_p_is_step) (defScope s_p_is_step) .none kV4 dc4 pm4 an4 cd4 ct4), sl4⟩)
    (c4 : PySem.W.codeIn K cd4 "is_step" = true) (d4 : PySem.W.keepIn K (.ref f4) = true)
    (a5 : PySem.W.nsIn K mainGlobals "is_a_walk" = some (some (.ref f5)))
    (b5 : K.lookup f5 = some ⟨oc5, od5, .func (PySem.W.fnOf "is_a_walk" "is_a_walk" (defArgs s_p_is_a_walk) (defBody s_p_is_a_walk) (defScope s_p_is_a_walk) .none kV5 dc5 pm5 an5 cd5 ct5), sl5⟩)
    (c5 : PySem.W.codeIn K cd5 "is_a_walk" = true) (d5 : PySem.W.keepIn K (.ref f5) = true)
    (a6 : PySem.W.nsIn K mainGlobals "need_letters" = some (some (.ref f6)))
    (b6 : K.lookup f6 = some ⟨oc6, od6, .func (PySem.W.fnOf "need_letters" "need_letters" (defArgs s_p_need_letters) (defBody s_p_need_letters) (defScope s_p_need_letters) .none kV6 dc6 pm6 an6 cd6 ct6), sl6⟩)
    (c6 : PySem.W.codeIn K cd6 "need_letters" = true) (d6 : PySem.W.keepIn K (.ref f6) = true)
    (a7 : PySem.W.nsIn K mainGlobals "need_walk" = some (some (.ref f7)))
    (b7 : K.lookup f7 = some ⟨oc7, od7, .func (PySem.W.fnOf "need_walk" "need_walk" (defArgs s_p_need_walk) (defBody s_p_need_walk) (defScope s_p_need_walk) .none kV7 dc7 pm7 an7 cd7 ct7), sl7⟩)
    (c7 : PySem.W.codeIn K cd7 "need_walk" = true) (d7 : PySem.W.keepIn K (.ref f7) = true)
    (a8 : PySem.W.nsIn K mainGlobals "need_number" = some (some (.ref f8)))
    (b8 : K.lookup f8 = some ⟨oc8, od8, .func (PySem.W.fnOf "need_number" "need_number" (defArgs s_p_need_number) (defBody s_p_need_number) (defScope s_p_need_number) .none kV8 dc8 pm8 an8 cd8 ct8), sl8⟩)
    (c8 : PySem.W.codeIn K cd8 "need_number" = true) (d8 : PySem.W.keepIn K (.ref f8) = true)
    (a9 : PySem.W.nsIn K mainGlobals "walks_behind" = some (some (.ref f9)))
    (b9 : K.lookup f9 = some ⟨oc9, od9, .func (PySem.W.fnOf "walks_behind" "walks_behind" (defArgs s_p_walks_behind) (defBody s_p_walks_behind) (defScope s_p_walks_behind) .none kV9 dc9 pm9 an9 cd9 ct9), sl9⟩)
    (c9 : PySem.W.codeIn K cd9 "walks_behind" = true) (d9 : PySem.W.keepIn K (.ref f9) = true)
    (a10 : PySem.W.nsIn K mainGlobals "walks_of" = some (some (.ref f10)))
    (b10 : K.lookup f10 = some ⟨oc10, od10, .func (PySem.W.fnOf "walks_of" "walks_of" (defArgs s_p_walks_of) (defBody s_p_walks_of) (defScope s_p_walks_of) .none kV10 dc10 pm10 an10 cd10 ct10), sl10⟩)
    (c10 : PySem.W.codeIn K cd10 "walks_of" = true) (d10 : PySem.W.keepIn K (.ref f10) = true)
    (a11 : PySem.W.nsIn K mainGlobals "steps_behind" = some (some (.ref f11)))
    (b11 : K.lookup f11 = some ⟨oc11, od11, .func (PySem.W.fnOf "steps_behind" "steps_behind" (defArgs s_p_steps_behind) (defBody s_p_steps_behind) (defScope s_p_steps_behind) .none kV11 dc11 pm11 an11 cd11 ct11), sl11⟩)
    (c11 : PySem.W.codeIn K cd11 "steps_behind" = true) (d11 : PySem.W.keepIn K (.ref f11) = true)
    (a12 : PySem.W.nsIn K mainGlobals "walk_at" = some (some (.ref f12)))
    (b12 : K.lookup f12 = some ⟨oc12, od12, .func (PySem.W.fnOf "walk_at" "walk_at" (defArgs s_p_walk_at) (defBody s_p_walk_at) (defScope s_p_walk_at) .none kV12 dc12 pm12 an12 cd12 ct12), sl12⟩)
    (c12 : PySem.W.codeIn K cd12 "walk_at" = true) (d12 : PySem.W.keepIn K (.ref f12) = true)
    (a13 : PySem.W.nsIn K mainGlobals "number_in" = some (some (.ref f13)))
    (b13 : K.lookup f13 = some ⟨oc13, od13, .func (PySem.W.fnOf "number_in" "number_in" (defArgs s_p_number_in) (defBody s_p_number_in) (defScope s_p_number_in) .none kV13 dc13 pm13 an13 cd13 ct13), sl13⟩)
    (c13 : PySem.W.codeIn K cd13 "number_in" = true) (d13 : PySem.W.keepIn K (.ref f13) = true)
    (a14 : PySem.W.nsIn K mainGlobals "how_many" = some (some (.ref f14)))
    (b14 : K.lookup f14 = some ⟨oc14, od14, .func (PySem.W.fnOf "how_many" "how_many" (defArgs s_p_how_many) (defBody s_p_how_many) (defScope s_p_how_many) .none kV14 dc14 pm14 an14 cd14 ct14), sl14⟩)
    (c14 : PySem.W.codeIn K cd14 "how_many" = true) (d14 : PySem.W.keepIn K (.ref f14) = true)
    (a15 : PySem.W.nsIn K mainGlobals "nth_walk" = some (some (.ref f15)))
    (b15 : K.lookup f15 = some ⟨oc15, od15, .func (PySem.W.fnOf "nth_walk" "nth_walk" (defArgs s_p_nth_walk) (defBody s_p_nth_walk) (defScope s_p_nth_walk) .none kV15 dc15 pm15 an15 cd15 ct15), sl15⟩)
    (c15 : PySem.W.codeIn K cd15 "nth_walk" = true) (d15 : PySem.W.keepIn K (.ref f15) = true)
    (a16 : PySem.W.nsIn K mainGlobals "number_of" = some (some (.ref f16)))
    (b16 : K.lookup f16 = some ⟨oc16, od16, .func (PySem.W.fnOf "number_of" "number_of" (defArgs s_p_number_of) (defBody s_p_number_of) (defScope s_p_number_of) .none kV16 dc16 pm16 an16 cd16 ct16), sl16⟩)
    (c16 : PySem.W.codeIn K cd16 "number_of" = true) (d16 : PySem.W.keepIn K (.ref f16) = true)
    (a17 : PySem.W.nsIn K mainGlobals "next_walk" = some (some (.ref f17)))
    (b17 : K.lookup f17 = some ⟨oc17, od17, .func (PySem.W.fnOf "next_walk" "next_walk" (defArgs s_p_next_walk) (defBody s_p_next_walk) (defScope s_p_next_walk) .none kV17 dc17 pm17 an17 cd17 ct17), sl17⟩)
    (c17 : PySem.W.codeIn K cd17 "next_walk" = true) (d17 : PySem.W.keepIn K (.ref f17) = true)
    (a18 : PySem.W.nsIn K mainGlobals "_law_well" = some (some (.ref f18)))
    (b18 : K.lookup f18 = some ⟨oc18, od18, .func (PySem.W.fnOf "_law_well" "_law_well" (defArgs s_l_well) (defBody s_l_well) (defScope s_l_well) .none kV18 dc18 pm18 an18 cd18 ct18), sl18⟩)
    (c18 : PySem.W.codeIn K cd18 "_law_well" = true) (d18 : PySem.W.keepIn K (.ref f18) = true)
    (a19 : PySem.W.nsIn K mainGlobals "_law_take" = some (some (.ref f19)))
    (b19 : K.lookup f19 = some ⟨oc19, od19, .func (PySem.W.fnOf "_law_take" "_law_take" (defArgs s_l_take) (defBody s_l_take) (defScope s_l_take) .none kV19 dc19 pm19 an19 cd19 ct19), sl19⟩)
    (c19 : PySem.W.codeIn K cd19 "_law_take" = true) (d19 : PySem.W.keepIn K (.ref f19) = true)
    (a20 : PySem.W.nsIn K mainGlobals "_law_walk" = some (some (.ref f20)))
    (b20 : K.lookup f20 = some ⟨oc20, od20, .func (PySem.W.fnOf "_law_walk" "_law_walk" (defArgs s_l_walk) (defBody s_l_walk) (defScope s_l_walk) .none kV20 dc20 pm20 an20 cd20 ct20), sl20⟩)
    (c20 : PySem.W.codeIn K cd20 "_law_walk" = true) (d20 : PySem.W.keepIn K (.ref f20) = true)
    (a21 : PySem.W.nsIn K mainGlobals "_law_joined" = some (some (.ref f21)))
    (b21 : K.lookup f21 = some ⟨oc21, od21, .func (PySem.W.fnOf "_law_joined" "_law_joined" (defArgs s_l_joined) (defBody s_l_joined) (defScope s_l_joined) .none kV21 dc21 pm21 an21 cd21 ct21), sl21⟩)
    (c21 : PySem.W.codeIn K cd21 "_law_joined" = true) (d21 : PySem.W.keepIn K (.ref f21) = true)
    (a22 : PySem.W.nsIn K mainGlobals "_law_straight" = some (some (.ref f22)))
    (b22 : K.lookup f22 = some ⟨oc22, od22, .func (PySem.W.fnOf "_law_straight" "_law_straight" (defArgs s_l_straight) (defBody s_l_straight) (defScope s_l_straight) .none kV22 dc22 pm22 an22 cd22 ct22), sl22⟩)
    (c22 : PySem.W.codeIn K cd22 "_law_straight" = true) (d22 : PySem.W.keepIn K (.ref f22) = true)
    (a23 : PySem.W.nsIn K mainGlobals "_law_is" = some (some (.ref f23)))
    (b23 : K.lookup f23 = some ⟨oc23, od23, .func (PySem.W.fnOf "_law_is" "_law_is" (defArgs s_l_is) (defBody s_l_is) (defScope s_l_is) .none kV23 dc23 pm23 an23 cd23 ct23), sl23⟩)
    (c23 : PySem.W.codeIn K cd23 "_law_is" = true) (d23 : PySem.W.keepIn K (.ref f23) = true)
    (a24 : PySem.W.nsIn K mainGlobals "_law_steps" = some (some (.ref f24)))
    (b24 : K.lookup f24 = some ⟨oc24, od24, .func (PySem.W.fnOf "_law_steps" "_law_steps" (defArgs s_l_steps) (defBody s_l_steps) (defScope s_l_steps) .none kV24 dc24 pm24 an24 cd24 ct24), sl24⟩)
    (c24 : PySem.W.codeIn K cd24 "_law_steps" = true) (d24 : PySem.W.keepIn K (.ref f24) = true)
    (a25 : PySem.W.nsIn K mainGlobals "_law_times" = some (some (.ref f25)))
    (b25 : K.lookup f25 = some ⟨oc25, od25, .func (PySem.W.fnOf "_law_times" "_law_times" (defArgs s_l_times) (defBody s_l_times) (defScope s_l_times) .none kV25 dc25 pm25 an25 cd25 ct25), sl25⟩)
    (c25 : PySem.W.codeIn K cd25 "_law_times" = true) (d25 : PySem.W.keepIn K (.ref f25) = true)
    (a26 : PySem.W.nsIn K mainGlobals "_law_many" = some (some (.ref f26)))
    (b26 : K.lookup f26 = some ⟨oc26, od26, .func (PySem.W.fnOf "_law_many" "_law_many" (defArgs s_l_many) (defBody s_l_many) (defScope s_l_many) .none kV26 dc26 pm26 an26 cd26 ct26), sl26⟩)
    (c26 : PySem.W.codeIn K cd26 "_law_many" = true) (d26 : PySem.W.keepIn K (.ref f26) = true)
    (a27 : PySem.W.nsIn K mainGlobals "_law_ahead" = some (some (.ref f27)))
    (b27 : K.lookup f27 = some ⟨oc27, od27, .func (PySem.W.fnOf "_law_ahead" "_law_ahead" (defArgs s_l_ahead) (defBody s_l_ahead) (defScope s_l_ahead) .none kV27 dc27 pm27 an27 cd27 ct27), sl27⟩)
    (c27 : PySem.W.codeIn K cd27 "_law_ahead" = true) (d27 : PySem.W.keepIn K (.ref f27) = true)
    (a28 : PySem.W.nsIn K mainGlobals "_law_least" = some (some (.ref f28)))
    (b28 : K.lookup f28 = some ⟨oc28, od28, .func (PySem.W.fnOf "_law_least" "_law_least" (defArgs s_l_least) (defBody s_l_least) (defScope s_l_least) .none kV28 dc28 pm28 an28 cd28 ct28), sl28⟩)
    (c28 : PySem.W.codeIn K cd28 "_law_least" = true) (d28 : PySem.W.keepIn K (.ref f28) = true)
    (a29 : PySem.W.nsIn K mainGlobals "_law_next" = some (some (.ref f29)))
    (b29 : K.lookup f29 = some ⟨oc29, od29, .func (PySem.W.fnOf "_law_next" "_law_next" (defArgs s_l_next) (defBody s_l_next) (defScope s_l_next) .none kV29 dc29 pm29 an29 cd29 ct29), sl29⟩)
    (c29 : PySem.W.codeIn K cd29 "_law_next" = true) (d29 : PySem.W.keepIn K (.ref f29) = true)
    (a30 : PySem.W.nsIn K mainGlobals "_law_all" = some (some (.ref f30)))
    (b30 : K.lookup f30 = some ⟨oc30, od30, .func (PySem.W.fnOf "_law_all" "_law_all" (defArgs s_l_all) (defBody s_l_all) (defScope s_l_all) .none kV30 dc30 pm30 an30 cd30 ct30), sl30⟩)
    (c30 : PySem.W.codeIn K cd30 "_law_all" = true) (d30 : PySem.W.keepIn K (.ref f30) = true)
    (a31 : PySem.W.nsIn K mainGlobals "_law_number" = some (some (.ref f31)))
    (b31 : K.lookup f31 = some ⟨oc31, od31, .func (PySem.W.fnOf "_law_number" "_law_number" (defArgs s_l_number) (defBody s_l_number) (defScope s_l_number) .none kV31 dc31 pm31 an31 cd31 ct31), sl31⟩)
    (c31 : PySem.W.codeIn K cd31 "_law_number" = true) (d31 : PySem.W.keepIn K (.ref f31) = true)
    (a32 : PySem.W.nsIn K mainGlobals "_law_short" = some (some (.ref f32)))
    (b32 : K.lookup f32 = some ⟨oc32, od32, .func (PySem.W.fnOf "_law_short" "_law_short" (defArgs s_l_short) (defBody s_l_short) (defScope s_l_short) .none kV32 dc32 pm32 an32 cd32 ct32), sl32⟩)
    (c32 : PySem.W.codeIn K cd32 "_law_short" = true) (d32 : PySem.W.keepIn K (.ref f32) = true)
    (a33 : PySem.W.nsIn K mainGlobals "_law_great" = some (some (.ref f33)))
    (b33 : K.lookup f33 = some ⟨oc33, od33, .func (PySem.W.fnOf "_law_great" "_law_great" (defArgs s_l_great) (defBody s_l_great) (defScope s_l_great) .none kV33 dc33 pm33 an33 cd33 ct33), sl33⟩)
    (c33 : PySem.W.codeIn K cd33 "_law_great" = true) (d33 : PySem.W.keepIn K (.ref f33) = true)
    (a34 : PySem.W.nsIn K mainGlobals "_law_walked" = some (some (.ref f34)))
    (b34 : K.lookup f34 = some ⟨oc34, od34, .func (PySem.W.fnOf "_law_walked" "_law_walked" (defArgs s_l_walked) (defBody s_l_walked) (defScope s_l_walked) .none kV34 dc34 pm34 an34 cd34 ct34), sl34⟩)
    (c34 : PySem.W.codeIn K cd34 "_law_walked" = true) (d34 : PySem.W.keepIn K (.ref f34) = true)
    (a35 : PySem.W.nsIn K mainGlobals "_law_right" = some (some (.ref f35)))
    (b35 : K.lookup f35 = some ⟨oc35, od35, .func (PySem.W.fnOf "_law_right" "_law_right" (defArgs s_l_right) (defBody s_l_right) (defScope s_l_right) .none kV35 dc35 pm35 an35 cd35 ct35), sl35⟩)
    (c35 : PySem.W.codeIn K cd35 "_law_right" = true) (d35 : PySem.W.keepIn K (.ref f35) = true)
    (a36 : PySem.W.nsIn K mainGlobals "law" = some (some (.ref f36)))
    (b36 : K.lookup f36 = some ⟨oc36, od36, .func (PySem.W.fnOf "law" "law" (defArgs s_l_law) (defBody s_l_law) (defScope s_l_law) .none kV36 dc36 pm36 an36 cd36 ct36), sl36⟩)
    (c36 : PySem.W.codeIn K cd36 "law" = true) (d36 : PySem.W.keepIn K (.ref f36) = true)
    (g_range : PySem.W.nsIn K mainGlobals "range" = some none)
    (g_len : PySem.W.nsIn K mainGlobals "len" = some none)
    (g_tuple : PySem.W.nsIn K mainGlobals "tuple" = some none)
    (g_isinstance : PySem.W.nsIn K mainGlobals "isinstance" = some none)
    (g_int : PySem.W.nsIn K mainGlobals "int" = some none)
    (g_bool : PySem.W.nsIn K mainGlobals "bool" = some none)
    {tk_MOST_LETTERS : Tok}
    (g_MOST_LETTERS : PySem.W.nsIn K mainGlobals "MOST_LETTERS" = some (some (.int 4 tk_MOST_LETTERS)))
    (g_abs : PySem.W.nsIn K mainGlobals "abs" = some none)
    (g_all : PySem.W.nsIn K mainGlobals "all" = some none)
    (g_sum : PySem.W.nsIn K mainGlobals "sum" = some none)
    (g_enumerate : PySem.W.nsIn K mainGlobals "enumerate" = some none)
    (g_max : PySem.W.nsIn K mainGlobals "max" = some none)
    (g_min : PySem.W.nsIn K mainGlobals "min" = some none)
    : ∃ fd : FuncData, (∀ (s : Shared) (v : Value), BindsTo s fd ⟨[v], []⟩ [("_law_script", v)]) ∧ ∀ base : Heap, K.In base → base.Ns mainGlobals mg → FnG l.prog w K mg base CX0 8 fa fd ["_law_script"] (LawSp K m_l_law) := by
  have e := hfa.symm.trans (PySem.W.mg_of IK IG a36)
  cases e
  have h_g_range := PySem.W.mg_none_of IK IG g_range
  have h_g_len := PySem.W.mg_none_of IK IG g_len
  have h_g_tuple := PySem.W.mg_none_of IK IG g_tuple
  have h_g_isinstance := PySem.W.mg_none_of IK IG g_isinstance
  have h_g_int := PySem.W.mg_none_of IK IG g_int
  have h_g_bool := PySem.W.mg_none_of IK IG g_bool
  have h_g_MOST_LETTERS := PySem.W.mg_of IK IG g_MOST_LETTERS
  have h_g_abs := PySem.W.mg_none_of IK IG g_abs
  have h_g_all := PySem.W.mg_none_of IK IG g_all
  have h_g_sum := PySem.W.mg_none_of IK IG g_sum
  have h_g_enumerate := PySem.W.mg_none_of IK IG g_enumerate
  have h_g_max := PySem.W.mg_none_of IK IG g_max
  have h_g_min := PySem.W.mg_none_of IK IG g_min
  have F0 := fun_mk (st := s_p_steps_of) b0 c0 d0
  have B0 := F0.binds (ps := ["letters"]) fun _ _ _ _ _ _ us hl => match us, hl with | [_], _ => rfl
  have F1 := fun_mk (st := s_p_straightened) b1 c1 d1
  have B1 := F1.binds (ps := ["walk"]) fun _ _ _ _ _ _ us hl => match us, hl with | [_], _ => rfl
  have F2 := fun_mk (st := s_p_is_integer) b2 c2 d2
  have B2 := F2.binds (ps := ["value"]) fun _ _ _ _ _ _ us hl => match us, hl with | [_], _ => rfl
  have F3 := fun_mk (st := s_p_is_letters) b3 c3 d3
  have B3 := F3.binds (ps := ["value"]) fun _ _ _ _ _ _ us hl => match us, hl with | [_], _ => rfl
  have F4 := fun_mk (st := s_p_is_step) b4 c4 d4
  have B4 := F4.binds (ps := ["value", "letters"]) fun _ _ _ _ _ _ us hl => match us, hl with | [_, _], _ => rfl
  have F5 := fun_mk (st := s_p_is_a_walk) b5 c5 d5
  have B5 := F5.binds (ps := ["value", "letters"]) fun _ _ _ _ _ _ us hl => match us, hl with | [_, _], _ => rfl
  have F6 := fun_mk (st := s_p_need_letters) b6 c6 d6
  have B6 := F6.binds (ps := ["letters"]) fun _ _ _ _ _ _ us hl => match us, hl with | [_], _ => rfl
  have F7 := fun_mk (st := s_p_need_walk) b7 c7 d7
  have B7 := F7.binds (ps := ["walk", "letters"]) fun _ _ _ _ _ _ us hl => match us, hl with | [_, _], _ => rfl
  have F8 := fun_mk (st := s_p_need_number) b8 c8 d8
  have B8 := F8.binds (ps := ["number", "low", "high"]) fun _ _ _ _ _ _ us hl => match us, hl with | [_, _, _], _ => rfl
  have F9 := fun_mk (st := s_p_walks_behind) b9 c9 d9
  have B9 := F9.binds (ps := ["letters", "length"]) fun _ _ _ _ _ _ us hl => match us, hl with | [_, _], _ => rfl
  have F10 := fun_mk (st := s_p_walks_of) b10 c10 d10
  have B10 := F10.binds (ps := ["letters", "length"]) fun _ _ _ _ _ _ us hl => match us, hl with | [_, _], _ => rfl
  have F11 := fun_mk (st := s_p_steps_behind) b11 c11 d11
  have B11 := F11.binds (ps := ["letters", "walk"]) fun _ _ _ _ _ _ us hl => match us, hl with | [_, _], _ => rfl
  have F12 := fun_mk (st := s_p_walk_at) b12 c12 d12
  have B12 := F12.binds (ps := ["letters", "number"]) fun _ _ _ _ _ _ us hl => match us, hl with | [_, _], _ => rfl
  have F13 := fun_mk (st := s_p_number_in) b13 c13 d13
  have B13 := F13.binds (ps := ["letters", "walk"]) fun _ _ _ _ _ _ us hl => match us, hl with | [_, _], _ => rfl
  have F14 := fun_mk (st := s_p_how_many) b14 c14 d14
  have B14 := F14.binds (ps := ["letters", "length"]) fun _ _ _ _ _ _ us hl => match us, hl with | [_, _], _ => rfl
  have F15 := fun_mk (st := s_p_nth_walk) b15 c15 d15
  have B15 := F15.binds (ps := ["letters", "number"]) fun _ _ _ _ _ _ us hl => match us, hl with | [_, _], _ => rfl
  have F16 := fun_mk (st := s_p_number_of) b16 c16 d16
  have B16 := F16.binds (ps := ["letters", "walk"]) fun _ _ _ _ _ _ us hl => match us, hl with | [_, _], _ => rfl
  have F17 := fun_mk (st := s_p_next_walk) b17 c17 d17
  have B17 := F17.binds (ps := ["letters", "walk"]) fun _ _ _ _ _ _ us hl => match us, hl with | [_, _], _ => rfl
  have F18 := fun_mk (st := s_l_well) b18 c18 d18
  have B18 := F18.binds (ps := ["_law_script", "_law_k"]) fun _ _ _ _ _ _ us hl => match us, hl with | [_, _], _ => rfl
  have F19 := fun_mk (st := s_l_take) b19 c19 d19
  have B19 := F19.binds (ps := ["_law_well_here", "_law_many_here"]) fun _ _ _ _ _ _ us hl => match us, hl with | [_, _], _ => rfl
  have F20 := fun_mk (st := s_l_walk) b20 c20 d20
  have B20 := F20.binds (ps := ["_law_well_here", "_law_letters", "_law_most"]) fun _ _ _ _ _ _ us hl => match us, hl with | [_, _, _], _ => rfl
  have F21 := fun_mk (st := s_l_joined) b21 c21 d21
  have B21 := F21.binds (ps := ["_law_one", "_law_other"]) fun _ _ _ _ _ _ us hl => match us, hl with | [_, _], _ => rfl
  have F22 := fun_mk (st := s_l_straight) b22 c22 d22
  have B22 := F22.binds (ps := ["_law_walk_here"]) fun _ _ _ _ _ _ us hl => match us, hl with | [_], _ => rfl
  have F23 := fun_mk (st := s_l_is) b23 c23 d23
  have B23 := F23.binds (ps := ["_law_found", "_law_due"]) fun _ _ _ _ _ _ us hl => match us, hl with | [_, _], _ => rfl
  have F24 := fun_mk (st := s_l_steps) b24 c24 d24
  have B24 := F24.binds (ps := ["_law_letters"]) fun _ _ _ _ _ _ us hl => match us, hl with | [_], _ => rfl
  have F25 := fun_mk (st := s_l_times) b25 c25 d25
  have B25 := F25.binds (ps := ["_law_letters", "_law_length"]) fun _ _ _ _ _ _ us hl => match us, hl with | [_, _], _ => rfl
  have F26 := fun_mk (st := s_l_many) b26 c26 d26
  have B26 := F26.binds (ps := ["_law_letters", "_law_length"]) fun _ _ _ _ _ _ us hl => match us, hl with | [_, _], _ => rfl
  have F27 := fun_mk (st := s_l_ahead) b27 c27 d27
  have B27 := F27.binds (ps := ["_law_letters", "_law_walk_here"]) fun _ _ _ _ _ _ us hl => match us, hl with | [_, _], _ => rfl
  have F28 := fun_mk (st := s_l_least) b28 c28 d28
  have B28 := F28.binds (ps := ["_law_letters", "_law_walk_here", "_law_length"]) fun _ _ _ _ _ _ us hl => match us, hl with | [_, _, _], _ => rfl
  have F29 := fun_mk (st := s_l_next) b29 c29 d29
  have B29 := F29.binds (ps := ["_law_letters", "_law_walk_here"]) fun _ _ _ _ _ _ us hl => match us, hl with | [_, _], _ => rfl
  have F30 := fun_mk (st := s_l_all) b30 c30 d30
  have B30 := F30.binds (ps := ["_law_letters", "_law_length"]) fun _ _ _ _ _ _ us hl => match us, hl with | [_, _], _ => rfl
  have F31 := fun_mk (st := s_l_number) b31 c31 d31
  have B31 := F31.binds (ps := ["_law_found", "_law_due"]) fun _ _ _ _ _ _ us hl => match us, hl with | [_, _], _ => rfl
  have F32 := fun_mk (st := s_l_short) b32 c32 d32
  have B32 := F32.binds (ps := ["_law_letters"]) fun _ _ _ _ _ _ us hl => match us, hl with | [_], _ => rfl
  have F33 := fun_mk (st := s_l_great) b33 c33 d33
  have B33 := F33.binds (ps := ["_law_letters", "_law_number_here"]) fun _ _ _ _ _ _ us hl => match us, hl with | [_, _], _ => rfl
  have F34 := fun_mk (st := s_l_walked) b34 c34 d34
  have B34 := F34.binds (ps := ["_law_letters", "_law_walk_here", "_law_other"]) fun _ _ _ _ _ _ us hl => match us, hl with | [_, _, _], _ => rfl
  have F35 := fun_mk (st := s_l_right) b35 c35 d35
  have B35 := F35.binds (ps := ["_law_well_here"]) fun _ _ _ _ _ _ us hl => match us, hl with | [_], _ => rfl
  have F36 := fun_mk (st := s_l_law) b36 c36 d36
  have B36 := F36.binds (ps := ["_law_script"]) fun _ _ _ _ _ _ us hl => match us, hl with | [_], _ => rfl
  refine ⟨PySem.W.fnOf "law" "law" (defArgs s_l_law) (defBody s_l_law) (defScope s_l_law) .none kV36 dc36 pm36 an36 cd36 ct36, fun s v => .of_eq rfl, fun base _ _ => ?_⟩
  have C_p_steps_of := cal_p_steps_of (P := l.prog) (w := w) (base := base) F0 (PySem.W.mg_of IK IG a0) B0 h_g_range
  have C_p_straightened := cal_p_straightened (P := l.prog) (w := w) (base := base) F1 (PySem.W.mg_of IK IG a1) B1 h_g_len h_g_tuple
  have C_p_is_integer := cal_p_is_integer (P := l.prog) (w := w) (base := base) F2 (PySem.W.mg_of IK IG a2) B2 h_g_isinstance h_g_int h_g_bool
  have C_p_is_letters := cal_p_is_letters (P := l.prog) (w := w) (base := base) F3 (PySem.W.mg_of IK IG a3) B3 C_p_is_integer h_g_MOST_LETTERS
  have C_p_is_step := cal_p_is_step (P := l.prog) (w := w) (base := base) F4 (PySem.W.mg_of IK IG a4) B4 C_p_is_integer h_g_abs
  have C_p_is_a_walk := cal_p_is_a_walk (P := l.prog) (w := w) (base := base) F5 (PySem.W.mg_of IK IG a5) B5 h_g_isinstance h_g_tuple h_g_all C_p_is_step
  have C_p_need_letters := cal_p_need_letters (P := l.prog) (w := w) (base := base) F6 (PySem.W.mg_of IK IG a6) B6 C_p_is_letters
  have C_p_need_walk := cal_p_need_walk (P := l.prog) (w := w) (base := base) F7 (PySem.W.mg_of IK IG a7) B7 C_p_is_a_walk
  have C_p_need_number := cal_p_need_number (P := l.prog) (w := w) (base := base) F8 (PySem.W.mg_of IK IG a8) B8 
  have C_p_walks_behind := cal_p_walks_behind (P := l.prog) (w := w) (base := base) F9 (PySem.W.mg_of IK IG a9) B9 h_g_range
  have C_p_walks_of := cal_p_walks_of (P := l.prog) (w := w) (base := base) F10 (PySem.W.mg_of IK IG a10) B10 C_p_walks_behind
  have C_p_steps_behind := cal_p_steps_behind (P := l.prog) (w := w) (base := base) F11 (PySem.W.mg_of IK IG a11) B11 C_p_steps_of
  have C_p_walk_at := cal_p_walk_at (P := l.prog) (w := w) (base := base) F12 (PySem.W.mg_of IK IG a12) B12 C_p_walks_of h_g_range C_p_walks_behind C_p_steps_behind
  have C_p_number_in := cal_p_number_in (P := l.prog) (w := w) (base := base) F13 (PySem.W.mg_of IK IG a13) B13 h_g_sum h_g_range h_g_len C_p_walks_of h_g_enumerate C_p_steps_behind C_p_walks_behind
  have C_p_how_many := cal_p_how_many (P := l.prog) (w := w) (base := base) F14 (PySem.W.mg_of IK IG a14) B14 C_p_need_letters C_p_need_number C_p_walks_of
  have C_p_nth_walk := cal_p_nth_walk (P := l.prog) (w := w) (base := base) F15 (PySem.W.mg_of IK IG a15) B15 C_p_need_letters C_p_need_number C_p_walk_at
  have C_p_number_of := cal_p_number_of (P := l.prog) (w := w) (base := base) F16 (PySem.W.mg_of IK IG a16) B16 C_p_need_letters C_p_need_walk C_p_number_in C_p_straightened
  have C_p_next_walk := cal_p_next_walk (P := l.prog) (w := w) (base := base) F17 (PySem.W.mg_of IK IG a17) B17 C_p_need_letters C_p_need_walk C_p_walk_at C_p_number_in C_p_straightened
  have C_l_well := cal_l_well (P := l.prog) (w := w) (base := base) F18 (PySem.W.mg_of IK IG a18) B18 h_g_len h_g_sum h_g_int h_g_abs h_g_max
  have C_l_take := cal_l_take (P := l.prog) (w := w) (base := base) F19 (PySem.W.mg_of IK IG a19) B19 h_g_int
  have C_l_walk := cal_l_walk (P := l.prog) (w := w) (base := base) F20 (PySem.W.mg_of IK IG a20) B20 C_l_take h_g_int h_g_range h_g_abs h_g_tuple
  have C_l_joined := cal_l_joined (P := l.prog) (w := w) (base := base) F21 (PySem.W.mg_of IK IG a21) B21 h_g_len
  have C_l_straight := cal_l_straight (P := l.prog) (w := w) (base := base) F22 (PySem.W.mg_of IK IG a22) B22 C_l_joined
  have C_l_is := cal_l_is (P := l.prog) (w := w) (base := base) F23 (PySem.W.mg_of IK IG a23) B23 h_g_isinstance h_g_tuple h_g_all h_g_int h_g_bool
  have C_l_steps := cal_l_steps (P := l.prog) (w := w) (base := base) F24 (PySem.W.mg_of IK IG a24) B24 h_g_range
  have C_l_times := cal_l_times (P := l.prog) (w := w) (base := base) F25 (PySem.W.mg_of IK IG a25) B25 h_g_range
  have C_l_many := cal_l_many (P := l.prog) (w := w) (base := base) F26 (PySem.W.mg_of IK IG a26) B26 C_l_times
  have C_l_ahead := cal_l_ahead (P := l.prog) (w := w) (base := base) F27 (PySem.W.mg_of IK IG a27) B27 h_g_sum h_g_range h_g_len C_l_many C_l_steps C_l_times
  have C_l_least := cal_l_least (P := l.prog) (w := w) (base := base) F28 (PySem.W.mg_of IK IG a28) B28 h_g_range h_g_len C_l_steps
  have C_l_next := cal_l_next (P := l.prog) (w := w) (base := base) F29 (PySem.W.mg_of IK IG a29) B29 h_g_range h_g_len C_l_steps C_l_least
  have C_l_all := cal_l_all (P := l.prog) (w := w) (base := base) F30 (PySem.W.mg_of IK IG a30) B30 h_g_range C_l_steps
  have C_l_number := cal_l_number (P := l.prog) (w := w) (base := base) F31 (PySem.W.mg_of IK IG a31) B31 h_g_isinstance h_g_int h_g_bool
  have C_l_short := cal_l_short (P := l.prog) (w := w) (base := base) F32 (PySem.W.mg_of IK IG a32) B32 C_l_all h_g_range h_g_len C_l_is C_p_nth_walk C_l_number C_p_number_of C_p_next_walk C_p_how_many
  have C_l_great := cal_l_great (P := l.prog) (w := w) (base := base) F33 (PySem.W.mg_of IK IG a33) B33 C_p_nth_walk C_l_is C_l_straight C_l_steps C_l_ahead C_l_number C_p_number_of C_l_next
  have C_l_walked := cal_l_walked (P := l.prog) (w := w) (base := base) F34 (PySem.W.mg_of IK IG a34) B34 C_l_ahead C_l_number C_p_number_of C_l_next C_l_is C_p_next_walk
  have C_l_right := cal_l_right (P := l.prog) (w := w) (base := base) F35 (PySem.W.mg_of IK IG a35) B35 C_l_take h_g_int C_l_short C_l_great C_l_walk h_g_len C_l_straight C_l_walked C_l_is C_p_nth_walk C_l_ahead C_l_many C_l_number C_p_how_many
  have C_l_law := cal_l_law (P := l.prog) (w := w) (base := base) F36 (PySem.W.mg_of IK IG a36) B36 h_g_range h_g_max h_g_min h_g_len C_l_right C_l_well
  obtain ⟨f_, fd_, Fn_, G_, hm_, _⟩ := C_l_law.ex
  have e := hm_.symm.trans (PySem.W.mg_of IK IG a36)
  cases e
  obtain ⟨_, _, _, _, _, _, _, _, _, rfl, lk_, _⟩ := Fn_.ex
  rw [b36] at lk_
  cases lk_
  exact G_
end L05
open PySem PySem.W PyProof.Rows
set_option maxRecDepth 100000 in
set_option maxHeartbeats 0 in
theorem PySem.Challenge.cw_walkclubs_k05_walks_in_their_order_holds : PySem.Challenge.rw_walkclubs_k05_walks_in_their_order.Holds := by
  w_on; o_law; k_head; (case hw => w_witness2)
  k_fill
  refine Z.walk_ofG (l := PySem.Challenge.rw_walkclubs_k05_walks_in_their_order) (n := 63) (k := 8) (x := "_law_script") (m := L05.m_l_law) rfl (by decide) rfl ⟨rfl, by decide, by decide⟩ (fun w h Y => PySem.W.kIn_of Y) ?F L05.law_true
  case F =>
    intro w mg fa h KI KG hmg
    refine' L05.tops KI KG hmg ?a0 ?b0 ?c0 ?d0 ?a1 ?b1 ?c1 ?d1 ?a2 ?b2 ?c2 ?d2 ?a3 ?b3 ?c3 ?d3 ?a4 ?b4 ?c4 ?d4 ?a5 ?b5 ?c5 ?d5 ?a6 ?b6 ?c6 ?d6 ?a7 ?b7 ?c7 ?d7 ?a8 ?b8 ?c8 ?d8 ?a9 ?b9 ?c9 ?d9 ?a10 ?b10 ?c10 ?d10 ?a11 ?b11 ?c11 ?d11 ?a12 ?b12 ?c12 ?d12 ?a13 ?b13 ?c13 ?d13 ?a14 ?b14 ?c14 ?d14 ?a15 ?b15 ?c15 ?d15 ?a16 ?b16 ?c16 ?d16 ?a17 ?b17 ?c17 ?d17 ?a18 ?b18 ?c18 ?d18 ?a19 ?b19 ?c19 ?d19 ?a20 ?b20 ?c20 ?d20 ?a21 ?b21 ?c21 ?d21 ?a22 ?b22 ?c22 ?d22 ?a23 ?b23 ?c23 ?d23 ?a24 ?b24 ?c24 ?d24 ?a25 ?b25 ?c25 ?d25 ?a26 ?b26 ?c26 ?d26 ?a27 ?b27 ?c27 ?d27 ?a28 ?b28 ?c28 ?d28 ?a29 ?b29 ?c29 ?d29 ?a30 ?b30 ?c30 ?d30 ?a31 ?b31 ?c31 ?d31 ?a32 ?b32 ?c32 ?d32 ?a33 ?b33 ?c33 ?d33 ?a34 ?b34 ?c34 ?d34 ?a35 ?b35 ?c35 ?d35 ?a36 ?b36 ?c36 ?d36 ?g_range ?g_len ?g_tuple ?g_isinstance ?g_int ?g_bool ?g_MOST_LETTERS ?g_abs ?g_all ?g_sum ?g_enumerate ?g_max ?g_min
    (case a0 => k_is)
    (case b0 => k_is)
    (case c0 => k_is)
    (case d0 => k_is)
    (case a1 => k_is)
    (case b1 => k_is)
    (case c1 => k_is)
    (case d1 => k_is)
    (case a2 => k_is)
    (case b2 => k_is)
    (case c2 => k_is)
    (case d2 => k_is)
    (case a3 => k_is)
    (case b3 => k_is)
    (case c3 => k_is)
    (case d3 => k_is)
    (case a4 => k_is)
    (case b4 => k_is)
    (case c4 => k_is)
    (case d4 => k_is)
    (case a5 => k_is)
    (case b5 => k_is)
    (case c5 => k_is)
    (case d5 => k_is)
    (case a6 => k_is)
    (case b6 => k_is)
    (case c6 => k_is)
    (case d6 => k_is)
    (case a7 => k_is)
    (case b7 => k_is)
    (case c7 => k_is)
    (case d7 => k_is)
    (case a8 => k_is)
    (case b8 => k_is)
    (case c8 => k_is)
    (case d8 => k_is)
    (case a9 => k_is)
    (case b9 => k_is)
    (case c9 => k_is)
    (case d9 => k_is)
    (case a10 => k_is)
    (case b10 => k_is)
    (case c10 => k_is)
    (case d10 => k_is)
    (case a11 => k_is)
    (case b11 => k_is)
    (case c11 => k_is)
    (case d11 => k_is)
    (case a12 => k_is)
    (case b12 => k_is)
    (case c12 => k_is)
    (case d12 => k_is)
    (case a13 => k_is)
    (case b13 => k_is)
    (case c13 => k_is)
    (case d13 => k_is)
    (case a14 => k_is)
    (case b14 => k_is)
    (case c14 => k_is)
    (case d14 => k_is)
    (case a15 => k_is)
    (case b15 => k_is)
    (case c15 => k_is)
    (case d15 => k_is)
    (case a16 => k_is)
    (case b16 => k_is)
    (case c16 => k_is)
    (case d16 => k_is)
    (case a17 => k_is)
    (case b17 => k_is)
    (case c17 => k_is)
    (case d17 => k_is)
    (case a18 => k_is)
    (case b18 => k_is)
    (case c18 => k_is)
    (case d18 => k_is)
    (case a19 => k_is)
    (case b19 => k_is)
    (case c19 => k_is)
    (case d19 => k_is)
    (case a20 => k_is)
    (case b20 => k_is)
    (case c20 => k_is)
    (case d20 => k_is)
    (case a21 => k_is)
    (case b21 => k_is)
    (case c21 => k_is)
    (case d21 => k_is)
    (case a22 => k_is)
    (case b22 => k_is)
    (case c22 => k_is)
    (case d22 => k_is)
    (case a23 => k_is)
    (case b23 => k_is)
    (case c23 => k_is)
    (case d23 => k_is)
    (case a24 => k_is)
    (case b24 => k_is)
    (case c24 => k_is)
    (case d24 => k_is)
    (case a25 => k_is)
    (case b25 => k_is)
    (case c25 => k_is)
    (case d25 => k_is)
    (case a26 => k_is)
    (case b26 => k_is)
    (case c26 => k_is)
    (case d26 => k_is)
    (case a27 => k_is)
    (case b27 => k_is)
    (case c27 => k_is)
    (case d27 => k_is)
    (case a28 => k_is)
    (case b28 => k_is)
    (case c28 => k_is)
    (case d28 => k_is)
    (case a29 => k_is)
    (case b29 => k_is)
    (case c29 => k_is)
    (case d29 => k_is)
    (case a30 => k_is)
    (case b30 => k_is)
    (case c30 => k_is)
    (case d30 => k_is)
    (case a31 => k_is)
    (case b31 => k_is)
    (case c31 => k_is)
    (case d31 => k_is)
    (case a32 => k_is)
    (case b32 => k_is)
    (case c32 => k_is)
    (case d32 => k_is)
    (case a33 => k_is)
    (case b33 => k_is)
    (case c33 => k_is)
    (case d33 => k_is)
    (case a34 => k_is)
    (case b34 => k_is)
    (case c34 => k_is)
    (case d34 => k_is)
    (case a35 => k_is)
    (case b35 => k_is)
    (case c35 => k_is)
    (case d35 => k_is)
    (case a36 => k_is)
    (case b36 => k_is)
    (case c36 => k_is)
    (case d36 => k_is)
    (case g_range => k_is)
    (case g_len => k_is)
    (case g_tuple => k_is)
    (case g_isinstance => k_is)
    (case g_int => k_is)
    (case g_bool => k_is)
    (case g_MOST_LETTERS => k_is)
    (case g_abs => k_is)
    (case g_all => k_is)
    (case g_sum => k_is)
    (case g_enumerate => k_is)
    (case g_max => k_is)
    (case g_min => k_is)
