import PyProof.Rows.All
import Wide.All
import OpenK.AllK
import Wide.FinOn
import HandS.ForMost
import HandS.HeadHook1
import HandS.Deep
import HandS.IsInst
import HandS.TupAny
import HandS.TupMul
import HandS.Style
import HandS.Walk
import HandS.Defaults
import KE.GoesEnum
import HandS.HeadHook2
import HandS.MakeKwOnly
import HandS.Ends
import KE.KStateDown
import Lean
import HandS.Head0
import HandS.Head1
import HandS.Head2
import HandS.HeadEnd
import PySem.Challenge.RW_cutweave_k40_what_stays
section
set_option Elab.async false
set_option linter.all false
set_option maxRecDepth 100000
/-! Dv1: plain data D, a store of few changeable objects, how they lie in HandS's heap -/
namespace DV
open PySem PySem.Spec PyProof.Rows L2

inductive D where
  | non | bl (b : Bool) | int (i : Int) | str (x : Str)
  | tup (l : List D) | lst (l : List D) | kl (l : List D) | kt (l : List D)
  | ref (r : Nat) | obj (C : Str) (ns : List Str) (ds : List D)

/-- what may change -/
inductive Ob where
  | lst (l : List D)
  | ins (C : Str) (ns : List Str) (ds : List D)
abbrev Sto := List Ob
abbrev Env := List (Option D)

structure Wd where
  ρ : Nat → Addr
  O : Addr → Prop
  M : Sto
  H : Hp

def KLst (K : PySem.W.Frag) (a : Addr) (xs : List V) : Prop :=
  ∃ (o : Obj) (its : Array Value) (n : Nat), K.lookup a = some o ∧ o.cls = .type "list" ∧ o.dict = none ∧ o.data = .seq its n ∧ its.size ≤ sizeLine ∧ Vals xs its.toList
def KTup (K : PySem.W.Frag) (a : Addr) (xs : List V) : Prop :=
  ∃ (o : Obj) (its : Array Value) (n : Nat), K.lookup a = some o ∧ o.cls = .type "tuple" ∧ o.data = .seq its n ∧ its.size ≤ sizeLine ∧ Vals xs its.toList

mutual
def VRel (K : PySem.W.Frag) (W : Wd) : D → V → Prop
  | .non, v => v = .non
  | .bl b, v => v = .bl b
  | .int i, v => v = .int i
  | .str x, v => v = .str x
  | .tup l, v => ∃ a xs, v = .ref a ∧ W.H a = some (.tup xs) ∧ ¬ W.O a ∧ VRels K W l xs
  | .lst l, v => ∃ a xs, v = .ref a ∧ W.H a = some (.lst xs) ∧ ¬ W.O a ∧ VRels K W l xs
  | .kl l, v => ∃ a xs, v = .ref a ∧ (((∃ o, W.H a = some (.frz o (.lst xs))) ∧ ¬ W.O a) ∨ KLst K a xs) ∧ VRels K W l xs
  | .kt l, v => ∃ a xs, v = .ref a ∧ KTup K a xs ∧ VRels K W l xs
  | .ref r, v => r < W.M.length ∧ v = .ref (W.ρ r)
  | .obj C ns ds, v => ∃ a dx xs, v = .ref a ∧ W.H a = some (.ins (He.ga K C) dx (ns.zip xs)) ∧ ¬ W.O a ∧ xs.length = ns.length ∧ VRels K W ds xs
def VRels (K : PySem.W.Frag) (W : Wd) : List D → List V → Prop
  | [], xs => xs = []
  | d :: ds, xs => ∃ v r, xs = v :: r ∧ VRel K W d v ∧ VRels K W ds r
end

def ORel (K : PySem.W.Frag) (W : Wd) : Ob → Addr → Prop
  | .lst l, a => ∃ xs, W.H a = some (.lst xs) ∧ VRels K W l xs
  | .ins C ns ds, a => ∃ dx xs, W.H a = some (.ins (He.ga K C) dx (ns.zip xs)) ∧ xs.length = ns.length ∧ VRels K W ds xs

structure Ok (K : PySem.W.Frag) (W : Wd) : Prop where
  inj : ∀ r s, r < W.M.length → s < W.M.length → W.ρ r = W.ρ s → r = s
  own : ∀ r, r < W.M.length → W.O (W.ρ r)
  trk : ∀ a, W.O a → W.H a ≠ none
  obj : ∀ r o, W.M[r]? = some o → ORel K W o (W.ρ r)

structure Ext (W W' : Wd) : Prop where
  len : W.M.length ≤ W'.M.length
  rho : ∀ r, r < W.M.length → W'.ρ r = W.ρ r
  sub : ∀ a, W.O a → W'.O a
  new : ∀ a, W'.O a → W.O a ∨ W.H a = none
  fresh : ∀ r, W.M.length ≤ r → r < W'.M.length → W.H (W'.ρ r) = none
  keep : ∀ a o, W.H a = some o → (∀ r, r < W.M.length → W.ρ r ≠ a) → W'.H a = some o
  trk : ∀ a, W.H a ≠ none → W'.H a ≠ none

theorem Ext.refl (W : Wd) : Ext W W :=
  ⟨Nat.le_refl _, fun _ _ => rfl, fun _ h => h, fun _ h => .inl h, fun r h1 h2 => absurd h1 (by omega), fun _ _ h _ => h, fun _ h => h⟩
theorem Ext.trans {W W1 W2 : Wd} (a : Ext W W1) (b : Ext W1 W2) : Ext W W2 where
  len := Nat.le_trans a.len b.len
  rho := fun r h => (b.rho r (Nat.lt_of_lt_of_le h a.len)).trans (a.rho r h)
  sub := fun x h => b.sub x (a.sub x h)
  new := fun x h => by
    rcases b.new x h with z | z
    · exact a.new x z
    · by_cases q : W.H x = none
      · exact .inr q
      · exact absurd z (a.trk x q)
  fresh := fun r h1 h2 => by
    by_cases q : r < W1.M.length
    · rw [b.rho r q]; exact a.fresh r h1 q
    · have z := b.fresh r (by omega) h2
      by_cases y : W.H (W2.ρ r) = none
      · exact y
      · exact absurd z (a.trk _ y)
  keep := fun x o h n => by
    refine b.keep x o (a.keep x o h n) fun r hr e => ?_
    by_cases q : r < W.M.length
    · exact n r q ((a.rho r q).symm.trans e)
    · have z := a.fresh r (by omega) hr
      rw [e, h] at z
      cases z
  trk := fun x h => b.trk x (a.trk x h)

section
variable {K : PySem.W.Frag} {W W' : Wd}
theorem Ok.nrng (ok : Ok K W) {a : Addr} (h : ¬ W.O a) : ∀ r, r < W.M.length → W.ρ r ≠ a := fun r hr e => h (e ▸ ok.own r hr)
theorem Ext.no (e : Ext W W') {a : Addr} (h : ¬ W.O a) (t : W.H a ≠ none) : ¬ W'.O a := fun z => by
  rcases e.new a z with q | q
  · exact h q
  · exact t q
mutual
theorem VRel.ext (ok : Ok K W) (e : Ext W W') : ∀ (d : D) (v : V), VRel K W d v → VRel K W' d v
  | .non, v, h => by simpa only [VRel] using h
  | .bl b, v, h => by simpa only [VRel] using h
  | .int i, v, h => by simpa only [VRel] using h
  | .str x, v, h => by simpa only [VRel] using h
  | .tup l, v, h => by
    simp only [VRel] at h ⊢
    obtain ⟨a, xs, rfl, h1, h2, h3⟩ := h
    exact ⟨a, xs, rfl, e.keep _ _ h1 (ok.nrng h2), e.no h2 (by rw [h1]; simp), VRels.ext ok e l xs h3⟩
  | .lst l, v, h => by
    simp only [VRel] at h ⊢
    obtain ⟨a, xs, rfl, h1, h2, h3⟩ := h
    exact ⟨a, xs, rfl, e.keep _ _ h1 (ok.nrng h2), e.no h2 (by rw [h1]; simp), VRels.ext ok e l xs h3⟩
  | .kl l, v, h => by
    simp only [VRel] at h ⊢
    obtain ⟨a, xs, rfl, h1, h3⟩ := h
    refine ⟨a, xs, rfl, ?_, VRels.ext ok e l xs h3⟩
    rcases h1 with ⟨⟨o, h1⟩, h2⟩ | h1
    · exact .inl ⟨⟨o, e.keep _ _ h1 (ok.nrng h2)⟩, e.no h2 (by rw [h1]; simp)⟩
    · exact .inr h1
  | .kt l, v, h => by
    simp only [VRel] at h ⊢
    obtain ⟨a, xs, rfl, h1, h3⟩ := h
    exact ⟨a, xs, rfl, h1, VRels.ext ok e l xs h3⟩
  | .ref r, v, h => by
    simp only [VRel] at h ⊢
    exact ⟨Nat.lt_of_lt_of_le h.1 e.len, by rw [e.rho r h.1]; exact h.2⟩
  | .obj C ns ds, v, h => by
    simp only [VRel] at h ⊢
    obtain ⟨a, dx, xs, rfl, h1, h2, h4, h3⟩ := h
    exact ⟨a, dx, xs, rfl, e.keep _ _ h1 (ok.nrng h2), e.no h2 (by rw [h1]; simp), h4, VRels.ext ok e ds xs h3⟩
theorem VRels.ext (ok : Ok K W) (e : Ext W W') : ∀ (ds : List D) (vs : List V), VRels K W ds vs → VRels K W' ds vs
  | [], vs, h => by simpa only [VRels] using h
  | d :: ds, vs, h => by
    simp only [VRels] at h ⊢
    obtain ⟨v, r, rfl, h1, h2⟩ := h
    exact ⟨v, r, rfl, VRel.ext ok e d v h1, VRels.ext ok e ds r h2⟩
end
theorem VRels.length : ∀ {ds : List D} {vs : List V}, VRels K W ds vs → ds.length = vs.length
  | [], vs, h => by simp only [VRels] at h; subst h; rfl
  | d :: ds, vs, h => by
    simp only [VRels] at h
    obtain ⟨v, r, rfl, _, h2⟩ := h
    simp [VRels.length h2]
theorem VRels.nil : VRels K W [] [] := by simp only [VRels]
theorem VRels.cons {d : D} {v : V} {ds : List D} {vs : List V} (h : VRel K W d v) (h2 : VRels K W ds vs) : VRels K W (d :: ds) (v :: vs) := by
  simp only [VRels]; exact ⟨v, vs, rfl, h, h2⟩
theorem VRels.append : ∀ {ds : List D} {vs : List V} {es : List D} {us : List V}, VRels K W ds vs → VRels K W es us → VRels K W (ds ++ es) (vs ++ us)
  | [], vs, es, us, h, g => by simp only [VRels] at h; subst h; exact g
  | d :: ds, vs, es, us, h, g => by
    simp only [VRels] at h
    obtain ⟨v, r, rfl, h1, h2⟩ := h
    exact VRels.cons h1 (VRels.append h2 g)
theorem VRels.get : ∀ {ds : List D} {vs : List V} {i : Nat} {d : D}, VRels K W ds vs → ds[i]? = some d → ∃ v, vs[i]? = some v ∧ VRel K W d v
  | [], vs, i, d, h, g => by simp at g
  | d :: ds, vs, 0, d', h, g => by
    simp only [VRels] at h
    obtain ⟨v, r, rfl, h1, h2⟩ := h
    simp at g; subst g; exact ⟨v, rfl, h1⟩
  | d :: ds, vs, i + 1, d', h, g => by
    simp only [VRels] at h
    obtain ⟨v, r, rfl, h1, h2⟩ := h
    obtain ⟨u, q1, q2⟩ := VRels.get (i := i) h2 (by simpa using g)
    exact ⟨u, by simpa using q1, q2⟩
theorem VRels.take : ∀ {ds : List D} {vs : List V} (n : Nat), VRels K W ds vs → VRels K W (ds.take n) (vs.take n)
  | [], vs, n, h => by simp only [VRels] at h; subst h; simp; exact VRels.nil
  | d :: ds, vs, 0, h => by simp; exact VRels.nil
  | d :: ds, vs, n + 1, h => by
    simp only [VRels] at h
    obtain ⟨v, r, rfl, h1, h2⟩ := h
    simpa using VRels.cons h1 (VRels.take n h2)
theorem VRels.drop : ∀ {ds : List D} {vs : List V} (n : Nat), VRels K W ds vs → VRels K W (ds.drop n) (vs.drop n)
  | [], vs, n, h => by simp only [VRels] at h; subst h; simp; exact VRels.nil
  | d :: ds, vs, 0, h => by simpa using h
  | d :: ds, vs, n + 1, h => by
    simp only [VRels] at h
    obtain ⟨v, r, rfl, h1, h2⟩ := h
    simpa using VRels.drop n h2
theorem VRels.set {d : D} {v : V} (q : VRel K W d v) : ∀ {ds : List D} {vs : List V} (i : Nat), VRels K W ds vs → VRels K W (ds.set i d) (vs.set i v)
  | [], vs, i, h => by simp only [VRels] at h; subst h; simp; exact VRels.nil
  | d :: ds, vs, 0, h => by
    simp only [VRels] at h
    obtain ⟨v, r, rfl, h1, h2⟩ := h
    simpa using VRels.cons q h2
  | d :: ds, vs, n + 1, h => by
    simp only [VRels] at h
    obtain ⟨v, r, rfl, h1, h2⟩ := h
    simpa using VRels.cons h1 (VRels.set q n h2)
theorem VRels.eraseIdx : ∀ {ds : List D} {vs : List V} (i : Nat), VRels K W ds vs → VRels K W (ds.eraseIdx i) (vs.eraseIdx i)
  | [], vs, i, h => by simp only [VRels] at h; subst h; simp; exact VRels.nil
  | d :: ds, vs, 0, h => by
    simp only [VRels] at h
    obtain ⟨v, r, rfl, h1, h2⟩ := h
    simpa using h2
  | d :: ds, vs, n + 1, h => by
    simp only [VRels] at h
    obtain ⟨v, r, rfl, h1, h2⟩ := h
    simpa using VRels.cons h1 (VRels.eraseIdx n h2)
theorem VRels.ints : ∀ {ns : List Int} {vs : List V}, VRels K W (ns.map D.int) vs → vs = ns.map V.int
  | [], vs, h => by simpa only [List.map_nil, VRels] using h
  | n :: ns, vs, h => by
    simp only [List.map_cons, VRels, VRel] at h
    obtain ⟨v, r, rfl, rfl, h2⟩ := h
    rw [VRels.ints h2]; rfl
theorem VRels.bls : ∀ {ns : List Bool} {vs : List V}, VRels K W (ns.map D.bl) vs → vs = ns.map V.bl
  | [], vs, h => by simpa only [List.map_nil, VRels] using h
  | n :: ns, vs, h => by
    simp only [List.map_cons, VRels, VRel] at h
    obtain ⟨v, r, rfl, rfl, h2⟩ := h
    rw [VRels.bls h2]; rfl
theorem VRels.strs : ∀ {ns : List Str} {vs : List V}, VRels K W (ns.map D.str) vs → vs = ns.map V.str
  | [], vs, h => by simpa only [List.map_nil, VRels] using h
  | n :: ns, vs, h => by
    simp only [List.map_cons, VRels, VRel] at h
    obtain ⟨v, r, rfl, rfl, h2⟩ := h
    rw [VRels.strs h2]; rfl
theorem ORel.ext (ok : Ok K W) (e : Ext W W') {o : Ob} {a : Addr} (h : ORel K W o a) (hk : W'.H a = W.H a) : ORel K W' o a := by
  cases o with
  | lst l =>
    obtain ⟨xs, h1, h2⟩ := h
    exact ⟨xs, by rw [hk]; exact h1, VRels.ext ok e _ _ h2⟩
  | ins C ns ds =>
    obtain ⟨dx, xs, h1, h3, h2⟩ := h
    exact ⟨dx, xs, by rw [hk]; exact h1, h3, VRels.ext ok e _ _ h2⟩
theorem ORel.trk {o : Ob} {a : Addr} (h : ORel K W o a) : W.H a ≠ none := by
  cases o with
  | lst l => obtain ⟨xs, h1, _⟩ := h; rw [h1]; simp
  | ins C ns ds => obtain ⟨dx, xs, h1, _⟩ := h; rw [h1]; simp
theorem Ok.at (ok : Ok K W) {r : Nat} (h : r < W.M.length) : W.H (W.ρ r) ≠ none :=
  ok.trk _ (ok.own r h)

/-! a new object that never changes -/
def Wd.grow (W : Wd) (p : Addr) (o : HO) : Wd := { W with H := upd W.H p o }
theorem Wd.grow_ext {p : Addr} {o : HO} (h : W.H p = none) : Ext W (W.grow p o) :=
  ⟨Nat.le_refl _, fun _ _ => rfl, fun _ h => h, fun _ h => .inl h, fun r h1 h2 => absurd h1 (by exact Nat.not_le_of_lt h2),
    fun a u e _ => by show upd W.H p o a = _; rw [upd_ne (ne_of_none e h)]; exact e,
    fun a e => by
      show upd W.H p o a ≠ none
      by_cases q : a = p
      · subst q; rw [upd_same]; simp
      · rw [upd_ne q]; exact e⟩
theorem Wd.grow_ok (ok : Ok K W) {p : Addr} {o : HO} (h : W.H p = none) : Ok K (W.grow p o) :=
  ⟨ok.inj, ok.own, fun a q => (Wd.grow_ext (o := o) h).trk a (ok.trk a q), fun r u e => by
    refine ORel.ext ok (Wd.grow_ext h) (ok.obj r u e) ?_
    exact upd_ne fun (q : W.ρ r = p) => (ok.obj r u e).trk (by rw [q]; exact h)⟩
theorem Ok.nO (ok : Ok K W) {p : Addr} (h : W.H p = none) : ¬ W.O p := fun z => ok.trk p z h
theorem VRel.newTup (ok : Ok K W) {p : Addr} {l : List D} {xs : List V} (h : W.H p = none) (r : VRels K W l xs) : VRel K (W.grow p (.tup xs)) (.tup l) (.ref p) := by
  simp only [VRel]
  exact ⟨p, xs, rfl, upd_same, ok.nO h, VRels.ext ok (Wd.grow_ext h) _ _ r⟩
theorem VRel.newLst (ok : Ok K W) {p : Addr} {l : List D} {xs : List V} (h : W.H p = none) (r : VRels K W l xs) : VRel K (W.grow p (.lst xs)) (.lst l) (.ref p) := by
  simp only [VRel]
  exact ⟨p, xs, rfl, upd_same, ok.nO h, VRels.ext ok (Wd.grow_ext h) _ _ r⟩

/-! a new object of the store -/
def Wd.alloc (W : Wd) (p : Addr) (ob : Ob) (o : HO) : Wd := ⟨fun r => if r = W.M.length then p else W.ρ r, fun a => W.O a ∨ a = p, W.M ++ [ob], upd W.H p o⟩
theorem Wd.alloc_ext {p : Addr} {ob : Ob} {o : HO} (h : W.H p = none) : Ext W (W.alloc p ob o) :=
  ⟨by show _ ≤ (W.M ++ [ob]).length; simp, fun r h => by show (if r = W.M.length then p else W.ρ r) = _; rw [if_neg (by omega)], fun _ h => .inl h,
    fun a q => by
      rcases q with q | q
      · exact .inl q
      · exact .inr (by rw [q]; exact h),
    fun r h1 h2 => by
      have h2' : r < (W.M ++ [ob]).length := h2
      simp at h2'
      show W.H (if r = W.M.length then p else W.ρ r) = none
      rw [if_pos (by omega)]; exact h,
    fun a u e _ => by show upd W.H p o a = _; rw [upd_ne (ne_of_none e h)]; exact e,
    fun a e => by
      show upd W.H p o a ≠ none
      by_cases q : a = p
      · subst q; rw [upd_same]; simp
      · rw [upd_ne q]; exact e⟩
theorem Wd.alloc_ok (ok : Ok K W) {p : Addr} {ob : Ob} {o : HO} (h : W.H p = none) (hob : ORel K (W.alloc p ob o) ob p) : Ok K (W.alloc p ob o) := by
  have E := Wd.alloc_ext (ob := ob) (o := o) h
  have hl : (W.alloc p ob o).M.length = W.M.length + 1 := by show (W.M ++ [ob]).length = _; simp
  refine ⟨fun r s hr hs e => ?_, fun r hr => ?_, fun a q => ?_, fun r u e => ?_⟩
  · rw [hl] at hr hs
    have e' : (if r = W.M.length then p else W.ρ r) = (if s = W.M.length then p else W.ρ s) := e
    by_cases q1 : r = W.M.length <;> by_cases q2 : s = W.M.length
    · omega
    · rw [if_pos q1, if_neg q2] at e'
      exact absurd h (by rw [e']; exact ok.at (by omega))
    · rw [if_neg q1, if_pos q2] at e'
      exact absurd h (by rw [← e']; exact ok.at (by omega))
    · rw [if_neg q1, if_neg q2] at e'
      exact ok.inj r s (by omega) (by omega) e'
  · rw [hl] at hr
    by_cases q1 : r = W.M.length
    · exact .inr (by show (if r = W.M.length then p else W.ρ r) = p; rw [if_pos q1])
    · exact .inl (by show W.O (if r = W.M.length then p else W.ρ r); rw [if_neg q1]; exact ok.own r (by omega))
  · rcases q with q | q
    · exact E.trk a (ok.trk a q)
    · show upd W.H p o a ≠ none
      rw [q, upd_same]; simp
  · have e' : (W.M ++ [ob])[r]? = some u := e
    by_cases q1 : r = W.M.length
    · subst q1
      rw [List.getElem?_append_right (Nat.le_refl _)] at e'
      simp at e'
      subst e'
      show ORel K (W.alloc p ob o) ob (if W.M.length = W.M.length then p else _)
      rw [if_pos rfl]; exact hob
    · have hr : r < W.M.length := by
        have := (List.getElem?_eq_some_iff.mp e').1
        simp at this; omega
      rw [List.getElem?_append_left hr] at e'
      show ORel K (W.alloc p ob o) u (if r = W.M.length then p else W.ρ r)
      rw [if_neg q1]
      refine ORel.ext ok E (ok.obj r u e') ?_
      exact upd_ne fun q => ok.at hr (by rw [q]; exact h)

/-! an object of the store is written -/
def Wd.put (W : Wd) (r : Nat) (ob : Ob) (o : HO) : Wd := { W with M := W.M.set r ob, H := upd W.H (W.ρ r) o }
theorem Wd.put_ext {r : Nat} {ob : Ob} {o : HO} (hr : r < W.M.length) : Ext W (W.put r ob o) :=
  ⟨by show _ ≤ (W.M.set r ob).length; simp, fun _ _ => rfl, fun _ h => h, fun _ h => .inl h,
    fun s h1 h2 => by
      have h2' : s < (W.M.set r ob).length := h2
      simp at h2'; omega,
    fun a u e n => by show upd W.H (W.ρ r) o a = _; rw [upd_ne (Ne.symm (n r hr))]; exact e,
    fun a e => by
      show upd W.H (W.ρ r) o a ≠ none
      by_cases q : a = W.ρ r
      · subst q; rw [upd_same]; simp
      · rw [upd_ne q]; exact e⟩
theorem Wd.put_ok (ok : Ok K W) {r : Nat} {ob : Ob} {o : HO} (hr : r < W.M.length) (hob : ORel K (W.put r ob o) ob (W.ρ r)) : Ok K (W.put r ob o) := by
  have E := Wd.put_ext (ob := ob) (o := o) hr
  have hl : (W.put r ob o).M.length = W.M.length := by show (W.M.set r ob).length = _; simp
  refine ⟨fun s t hs ht e => ok.inj s t (by omega) (by omega) e, fun s hs => ok.own s (by omega), fun a q => E.trk a (ok.trk a q), fun s u e => ?_⟩
  have e' : (W.M.set r ob)[s]? = some u := e
  by_cases q : s = r
  · subst q
    rw [List.getElem?_set_self hr] at e'
    cases e'
    exact hob
  · rw [List.getElem?_set_ne (Ne.symm q)] at e'
    have hs : s < W.M.length := (List.getElem?_eq_some_iff.mp e').1
    refine ORel.ext ok E (ok.obj s u e') ?_
    exact upd_ne fun z => q (ok.inj s r hs hr z)
end

/-! the slots -/
def ERel (K : PySem.W.Frag) (W : Wd) (e : Env) (σ : L2.St) : Prop := e.length = σ.length ∧ ∀ (i : Nat) (d : D), e[i]? = some (some d) → ∃ v, σ[i]? = some (some v) ∧ VRel K W d v
section
variable {K : PySem.W.Frag} {W W' : Wd} {e : Env} {σ : L2.St}
theorem ERel.ext (ok : Ok K W) (x : Ext W W') (h : ERel K W e σ) : ERel K W' e σ :=
  ⟨h.1, fun i d q => let ⟨v, q1, q2⟩ := h.2 i d q; ⟨v, q1, VRel.ext ok x d v q2⟩⟩
theorem ERel.set (h : ERel K W e σ) {i : Nat} {d : D} {v : V} (r : VRel K W d v) : ERel K W (e.set i (some d)) (σ.set i (some v)) := by
  refine ⟨by simp [h.1], fun j c q => ?_⟩
  by_cases hj : j = i
  · subst hj
    by_cases hl : j < e.length
    · rw [List.getElem?_set_self hl] at q
      cases q
      exact ⟨v, List.getElem?_set_self (by rw [← h.1]; exact hl), r⟩
    · rw [List.getElem?_eq_none (by simpa using hl)] at q; cases q
  · rw [List.getElem?_set_ne (Ne.symm hj)] at q
    obtain ⟨u, q1, q2⟩ := h.2 j c q
    exact ⟨u, by rw [List.getElem?_set_ne (Ne.symm hj)]; exact q1, q2⟩
def wipeE (e : Env) : List Nat → Env
  | [] => e
  | v :: vs => (wipeE e vs).set v none
theorem ERel.none (h : ERel K W e σ) {i : Nat} : ERel K W (e.set i .none) (σ.set i .none) := by
  refine ⟨by simp [h.1], fun j c q => ?_⟩
  by_cases hj : j = i
  · subst hj
    by_cases hl : j < e.length
    · rw [List.getElem?_set_self hl] at q
      cases q
    · rw [List.getElem?_eq_none (by simpa using hl)] at q; cases q
  · rw [List.getElem?_set_ne (Ne.symm hj)] at q
    obtain ⟨u, q1, q2⟩ := h.2 j c q
    exact ⟨u, by rw [List.getElem?_set_ne (Ne.symm hj)]; exact q1, q2⟩
theorem ERel.wipe (h : ERel K W e σ) : ∀ vs : List Nat, ERel K W (wipeE e vs) (wipe σ vs)
  | [] => h
  | v :: vs => by
    show ERel K W ((wipeE e vs).set v .none) ((L2.wipe σ vs).set v .none)
    exact (ERel.wipe h vs).none
end
end DV

end

section
set_option Elab.async false
set_option linter.all false
set_option maxRecDepth 100000
/-! Dv2: readings by data, expressions -/
namespace DV
open PySem PySem.Spec PyProof.Rows L2

abbrev EM := Env → Sto → Option (D × Sto)
abbrev TM := Env → Sto → Option (Bool × Sto)
abbrev AM := Env → Sto → Option (List D × Sto)
inductive Fl where
  | nx (e : Env) | rt (d : D) | bk (e : Env) | ct (e : Env)
abbrev SM := Env → Sto → Option (Fl × Sto)
abbrev GM := D → Env → Option Env
abbrev Fn := List D → Sto → Option (D × Sto)

/-! ### readings -/
def wE (K : PySem.W.Frag) (W : Wd) (M' : Sto) (d : D) (Q : VK) : Prop := ∀ W' v, W'.M = M' → Ok K W' → Ext W W' → VRel K W' d v → Q v W'.H
def rdE (K : PySem.W.Frag) (m : EM) : TE := fun σ H Q => ∃ W e d M', W.H = H ∧ Ok K W ∧ ERel K W e σ ∧ m e W.M = some (d, M') ∧ wE K W M' d Q
def rdT (K : PySem.W.Frag) (m : TM) : TT := fun σ H Q => ∃ W e b M', W.H = H ∧ Ok K W ∧ ERel K W e σ ∧ m e W.M = some (b, M') ∧ ∀ W', W'.M = M' → Ok K W' → Ext W W' → Q b W'.H
def rdA (K : PySem.W.Frag) (m : AM) : TA := fun σ H Q => ∃ W e ds M', W.H = H ∧ Ok K W ∧ ERel K W e σ ∧ m e W.M = some (ds, M') ∧ ∀ W' vs, W'.M = M' → Ok K W' → Ext W W' → VRels K W' ds vs → Q vs W'.H
/-- a list just made -/
def rdF (K : PySem.W.Frag) (m : AM) : TE := fun σ H Q => ∃ W e ds M', W.H = H ∧ Ok K W ∧ ERel K W e σ ∧ m e W.M = some (ds, M') ∧ ∀ W' vs p, W'.M = M' → Ok K W' → Ext W W' → VRels K W' ds vs → W'.H p = none → Q (.ref p) (upd W'.H p (.lst vs))
def rdO (K : PySem.W.Frag) (f : D → D → Sto → Option D) : R2 := fun x y H Q => ∃ W dx dy d, W.H = H ∧ Ok K W ∧ VRel K W dx x ∧ VRel K W dy y ∧ f dx dy W.M = some d ∧ wE K W W.M d Q
def rdC (K : PySem.W.Frag) (f : List D → Sto → Option D) : List V → Hp → VK → Prop := fun xs H Q => ∃ W ds d, W.H = H ∧ Ok K W ∧ VRels K W ds xs ∧ f ds W.M = some d ∧ wE K W W.M d Q
def rdS (K : PySem.W.Frag) (m : SM) : TS := fun D σ H => ∃ W e fl M', W.H = H ∧ Ok K W ∧ ERel K W e σ ∧ m e W.M = some (fl, M') ∧ (match fl with
  | .nx e' => ∀ W' σ', W'.M = M' → Ok K W' → Ext W W' → ERel K W' e' σ' → D.nx σ' W'.H
  | .bk e' => ∀ W' σ', W'.M = M' → Ok K W' → Ext W W' → ERel K W' e' σ' → D.bk σ' W'.H
  | .ct e' => ∀ W' σ', W'.M = M' → Ok K W' → Ext W W' → ERel K W' e' σ' → D.ct σ' W'.H
  | .rt d => ∀ W' v, W'.M = M' → Ok K W' → Ext W W' → VRel K W' d v → D.rt v W'.H)

abbrev JE (X : Cx) (e : Expr) (m : EM) : Prop := PE X e (rdE X.K m)
abbrev JT (X : Cx) (e : Expr) (m : TM) : Prop := PT X e (rdT X.K m)
abbrev JA (X : Cx) (es : List Expr) (m : AM) : Prop := PA X es (rdA X.K m)
abbrev JF (X : Cx) (e : Expr) (m : AM) : Prop := PE X e (rdF X.K m)
abbrev JS (X : Cx) (st : Stmt) (m : SM) : Prop := PS X st (rdS X.K m)
abbrev JSs (X : Cx) (st : List Stmt) (m : SM) : Prop := PSs X st (rdS X.K m)

theorem PE.imp {X : Cx} {e : Expr} {t t' : TE} (h : PE X e t) (i : ∀ σ H Q, t' σ H Q → t σ H Q) : PE X e t' := ⟨fun pins s σ H Q I q => h.run pins s σ H Q I (i _ _ _ q)⟩
theorem PT.imp {X : Cx} {e : Expr} {t t' : TT} (h : PT X e t) (i : ∀ σ H Q, t' σ H Q → t σ H Q) : PT X e t' := ⟨fun pins s σ H Q I q => h.run pins s σ H Q I (i _ _ _ q)⟩
theorem PA.imp {X : Cx} {es : List Expr} {t t' : TA} (h : PA X es t) (i : ∀ σ H Q, t' σ H Q → t σ H Q) : PA X es t' := ⟨fun pos pins s σ H Q I q => h.run pos pins s σ H Q I (i _ _ _ q)⟩
theorem PS.imp {X : Cx} {e : Stmt} {t t' : TS} (h : PS X e t) (i : ∀ D σ H, t' D σ H → t D σ H) : PS X e t' := ⟨fun pins s σ H D I q => h.run pins s σ H D I (i _ _ _ q)⟩
theorem PSs.imp {X : Cx} {e : List Stmt} {t t' : TS} (h : PSs X e t) (i : ∀ D σ H, t' D σ H → t D σ H) : PSs X e t' := ⟨fun pins s σ H D I q => h.run pins s σ H D I (i _ _ _ q)⟩

section
variable {K : PySem.W.Frag} {W W' : Wd} {d : D} {Q : VK}
/-- a value that asks nothing of the heap -/
theorem wE.flat {v : V} (q : wE K W W.M d Q) (ok : Ok K W) (h : VRel K W d v) : Q v W.H := q W v rfl ok (Ext.refl W) h
theorem wE.tup {l : List D} {xs : List V} {p : Addr} (q : wE K W W.M (.tup l) Q) (ok : Ok K W) (r : VRels K W l xs) (h : W.H p = none) : Q (.ref p) (upd W.H p (.tup xs)) :=
  q (W.grow p (.tup xs)) (.ref p) rfl (Wd.grow_ok ok h) (Wd.grow_ext h) (VRel.newTup ok h r)
theorem wE.lst {l : List D} {xs : List V} {p : Addr} (q : wE K W W.M (.lst l) Q) (ok : Ok K W) (r : VRels K W l xs) (h : W.H p = none) : Q (.ref p) (upd W.H p (.lst xs)) :=
  q (W.grow p (.lst xs)) (.ref p) rfl (Wd.grow_ok ok h) (Wd.grow_ext h) (VRel.newLst ok h r)
end

/-! ### names, constants -/
def eVar (i : Nat) : EM := fun e M => match e[i]? with
  | some (some d) => some (d, M)
  | _ => none
def eC (d : D) : EM := fun _ M => some (d, M)
section
variable {X : Cx} {pos : Pos}
theorem je_var {i : Nat} {x : Str} (h : PE X (.Name x pos) (tVar i)) : JE X (.Name x pos) (eVar i) := by
  refine PE.imp h fun σ H Q q => ?_
  obtain ⟨W, e, d, M', rfl, ok, er, hm, w⟩ := q
  unfold eVar at hm
  split at hm
  · rename_i d' hd
    cases hm
    obtain ⟨v, h1, h2⟩ := er.2 i _ hd
    exact ⟨v, h1, w W v rfl ok (Ext.refl W) h2⟩
  · cases hm
/-- constants of the flat kinds -/
theorem je_c {e : Expr} {d : D} {v : V} (h : PE X e (tC v)) (hv : ∀ W, VRel X.K W d v) : JE X e (eC d) := by
  refine PE.imp h fun σ H Q q => ?_
  obtain ⟨W, en, d', M', rfl, ok, er, hm, w⟩ := q
  cases hm
  exact w W v rfl ok (Ext.refl W) (hv W)
theorem je_int {i j} : JE X (.Constant (.int i) j pos) (eC (.int i)) := je_c pe_int fun _ => by simp only [VRel]
theorem je_bl {i j} : JE X (.Constant (.bool i) j pos) (eC (.bl i)) := je_c pe_bl fun _ => by simp only [VRel]
theorem je_non {j} : JE X (.Constant .none j pos) (eC .non) := je_c pe_non fun _ => by simp only [VRel]
theorem je_str {x j} : JE X (.Constant (.str x) j pos) (eC (.str x)) := je_c pe_str fun _ => by simp only [VRel]
theorem je_gint {x : Str} {i : Int} (hg : Gl X x) (hm : ∃ t, X.mg x = some (.int i t)) (hd : (x == ("__debug__" : Str)) = false := by decide) : JE X (.Name x pos) (eC (.int i)) := by
  obtain ⟨t, hm⟩ := hm
  exact je_c (pe_glob hg hm (v := .int i) ⟨t, rfl⟩ hd) fun _ => by simp only [VRel]
theorem je_gstr {x z : Str} (hg : Gl X x) (hm : ∃ t, X.mg x = some (.str z t)) (hd : (x == ("__debug__" : Str)) = false := by decide) : JE X (.Name x pos) (eC (.str z)) := by
  obtain ⟨t, hm⟩ := hm
  exact je_c (pe_glob hg hm (v := .str z) ⟨t, rfl⟩ hd) fun _ => by simp only [VRel]
/-- a tuple of the module -/
theorem je_gtup {x : Str} {a : Addr} {zs : List Str} (hg : Gl X x) (hm : X.mg x = some (.ref a)) (hk : KTup X.K a (zs.map V.str)) (hd : (x == ("__debug__" : Str)) = false := by decide) : JE X (.Name x pos) (eC (.kt (zs.map D.str))) := by
  refine je_c (pe_glob hg hm (v := .ref a) rfl hd) fun W => ?_
  simp only [VRel]
  refine ⟨a, _, rfl, hk, ?_⟩
  clear hk hm
  induction zs with
  | nil => exact VRels.nil
  | cons z zs ih => exact VRels.cons (by simp only [VRel]) ih
end

/-! ### two places -/
def eBin (f : D → D → Sto → Option D) (a b : EM) : EM := fun e M => match a e M with
  | some (x, M1) => (match b e M1 with
    | some (y, M2) => (f x y M2).map fun d => (d, M2)
    | none => none)
  | none => none
section
variable {X : Cx} {pos : Pos} {a b c : Expr} {ma mb mc : EM} {f f' : D → D → Sto → Option D}
theorem rd_bin {K : PySem.W.Frag} {σ : L2.St} {H : Hp} {Q : VK} (q : rdE K (eBin f ma mb) σ H Q) : tOp (rdO K f) (rdE K ma) (rdE K mb) σ H Q := by
  obtain ⟨W, e, d, M', rfl, ok, er, hm, w⟩ := q
  unfold eBin at hm
  split at hm
  · rename_i x M1 h1
    split at hm
    · rename_i y M2 h2
      cases hf : f x y M2 with
      | none => rw [hf] at hm; cases hm
      | some z =>
        rw [hf] at hm
        cases hm
        refine ⟨W, e, x, M1, rfl, ok, er, h1, fun W1 v1 e1 ok1 x1 r1 => ⟨W1, e, y, _, rfl, ok1, er.ext ok x1, by rw [e1]; exact h2, fun W2 v2 e2 ok2 x2 r2 => ⟨W2, x, y, d, rfl, ok2, VRel.ext ok1 x2 _ _ r1, r2, by rw [e2]; exact hf, ?_⟩⟩⟩
        intro W3 v3 e3 ok3 x3 r3
        exact w W3 v3 (e3.trans e2) ok3 ((x1.trans x2).trans x3) r3
    · cases hm
  · cases hm
theorem je_bin {op : Operator} (ho : OpR X (binaryOp op) (rdO X.K f)) (ha : JE X a ma) (hb : JE X b mb) : JE X (.BinOp a op b pos) (eBin f ma mb) :=
  PE.imp (pe_op ho ha hb) fun _ _ _ q => rd_bin q
theorem je_cmp {op : CmpOp} (ho : OpR X (compareOp op) (rdO X.K f)) (ha : JE X a ma) (hb : JE X b mb) (h1 : behindInMarks op b = false) : JE X (.Compare a [op] [b] pos) (eBin f ma mb) :=
  PE.imp (pe_cmpR ho ha hb h1) fun _ _ _ q => rd_bin q
/-- a value as a test -/
def tV (m : EM) : TM := fun e M => match m e M with
  | some (.bl b, M') => some (b, M')
  | _ => none
theorem tV_some {m : EM} {e : Env} {M M' : Sto} {b : Bool} (h : tV m e M = some (b, M')) : m e M = some (.bl b, M') := by
  unfold tV at h
  split at h
  · cases h; assumption
  · cases h
theorem rd_test {K : PySem.W.Frag} {m : EM} {t : TE} (i : ∀ σ H Q, rdE K m σ H Q → t σ H Q) {σ : L2.St} {H : Hp} {Q : Bool → Hp → Prop} (q : rdT K (tV m) σ H Q) : t σ H fun x H' => ∃ k, x = .bl k ∧ Q k H' := by
  obtain ⟨W, e, b, M', rfl, ok, er, hm, w⟩ := q
  refine i _ _ _ ⟨W, e, .bl b, M', rfl, ok, er, tV_some hm, fun W1 v1 e1 ok1 x1 r1 => ?_⟩
  simp only [VRel] at r1
  exact ⟨b, r1, w W1 e1 ok1 x1⟩
theorem jt_cmp {op : CmpOp} (ho : OpR X (compareOp op) (rdO X.K f)) (ha : JE X a ma) (hb : JE X b mb) (h1 : behindInMarks op b = false) : JT X (.Compare a [op] [b] pos) (tV (eBin f ma mb)) :=
  PT.imp (pt_cmpR ho ha hb h1) fun _ _ _ q => rd_test (fun _ _ _ z => rd_bin z) q
theorem jt_val {m : EM} (h : JE X a m) (he : ∀ whole, isTrue a X.env whole = (do let v ← whole; standAt a.pos; holding [v] (truthy v)) := by intro _; rfl) : JT X a (tV m) :=
  PT.imp (pt_val h he) fun _ _ _ q => rd_test (fun _ _ _ z => z) q
/-- a op1 b op2 c -/
def eChain (f f' : D → D → Sto → Option D) (a b c : EM) : EM := fun e M => match a e M with
  | some (x, M1) => (match b e M1 with
    | some (y, M2) => (match f x y M2 with
      | some (.bl true) => (match c e M2 with
        | some (z, M3) => (f' y z M3).map fun d => (d, M3)
        | none => none)
      | some (.bl false) => some (.bl false, M2)
      | _ => none)
    | none => none)
  | none => none
theorem rd_chain {K : PySem.W.Frag} {σ : L2.St} {H : Hp} {Q : VK} (q : rdE K (eChain f f' ma mb mc) σ H Q) : tChain (rdO K f) (rdO K f') (rdE K ma) (rdE K mb) (rdE K mc) σ H Q := by
  obtain ⟨W, e, d, M', rfl, ok, er, hm, w⟩ := q
  unfold eChain at hm
  split at hm
  · rename_i x M1 h1
    split at hm
    · rename_i y N2 h2
      refine ⟨W, e, x, M1, rfl, ok, er, h1, fun W1 v1 e1 ok1 x1 r1 => ⟨W1, e, y, _, rfl, ok1, er.ext ok x1, by rw [e1]; exact h2, fun W2 v2 e2 ok2 x2 r2 => ?_⟩⟩
      split at hm
      · rename_i hf
        refine ⟨W2, x, y, .bl true, rfl, ok2, VRel.ext ok1 x2 _ _ r1, r2, by rw [e2]; exact hf, fun W3 v3 e3 ok3 x3 r3 => ?_⟩
        simp only [VRel] at r3
        refine ⟨true, r3, ?_⟩
        refine iteT ?_
        split at hm
        · rename_i z N3 h3
          cases hf2 : f' y z N3 with
          | none => rw [hf2] at hm; cases hm
          | some z' =>
            rw [hf2] at hm
            cases hm
            refine ⟨W3, e, z, _, rfl, ok3, ((er.ext ok x1).ext ok1 x2).ext ok2 x3, by rw [e3, e2]; exact h3, fun W4 v4 e4 ok4 x4 r4 => ?_⟩
            refine ⟨W4, y, z, d, rfl, ok4, VRel.ext ok3 x4 _ _ (VRel.ext ok2 x3 _ _ r2), r4, by rw [e4]; exact hf2, fun W5 v5 e5 ok5 x5 r5 => ?_⟩
            exact w W5 v5 (e5.trans e4) ok5 ((((x1.trans x2).trans x3).trans x4).trans x5) r5
        · cases hm
      · rename_i hf
        cases hm
        refine ⟨W2, x, y, .bl false, rfl, ok2, VRel.ext ok1 x2 _ _ r1, r2, by rw [e2]; exact hf, fun W3 v3 e3 ok3 x3 r3 => ?_⟩
        have r3' := r3
        simp only [VRel] at r3'
        refine ⟨false, r3', ?_⟩
        refine iteF ?_
        exact w W3 _ (e3.trans e2) ok3 ((x1.trans x2).trans x3) (by simp only [VRel])
      · cases hm
    · cases hm
  · cases hm
theorem je_chain {op op' : CmpOp} (ho : OpR X (compareOp op) (rdO X.K f)) (ho' : OpR X (compareOp op') (rdO X.K f')) (ha : JE X a ma) (hb : JE X b mb) (hc : JE X c mc) (hm : lastMarks [op, op'] [b, c] = false := by with_unfolding_all rfl) :
    JE X (.Compare a [op, op'] [b, c] pos) (eChain f f' ma mb mc) := PE.imp (pe_chain ho ho' ha hb hc hm) fun _ _ _ q => rd_chain q
theorem jt_chain {op op' : CmpOp} (ho : OpR X (compareOp op) (rdO X.K f)) (ho' : OpR X (compareOp op') (rdO X.K f')) (ha : JE X a ma) (hb : JE X b mb) (hc : JE X c mc) (hm : lastMarks [op, op'] [b, c] = false := by with_unfolding_all rfl) :
    JT X (.Compare a [op, op'] [b, c] pos) (tV (eChain f f' ma mb mc)) := PT.imp (pt_chain ho ho' ha hb hc hm) fun _ _ _ q => rd_test (fun _ _ _ z => rd_chain z) q

/-! ### and, or, not, if -/
def eAnd (a b : EM) : EM := fun e M => match a e M with
  | some (.bl true, M1) => b e M1
  | some (.bl false, M1) => some (.bl false, M1)
  | _ => none
def eOr (a b : EM) : EM := fun e M => match a e M with
  | some (.bl false, M1) => b e M1
  | some (.bl true, M1) => some (.bl true, M1)
  | _ => none
def eNot (a : EM) : EM := fun e M => match a e M with
  | some (.bl b, M1) => some (.bl (!b), M1)
  | _ => none
def mAnd (a b : TM) : TM := fun e M => match a e M with
  | some (true, M1) => b e M1
  | some (false, M1) => some (false, M1)
  | _ => none
def mOr (a b : TM) : TM := fun e M => match a e M with
  | some (false, M1) => b e M1
  | some (true, M1) => some (true, M1)
  | _ => none
def mNot (a : TM) : TM := fun e M => match a e M with
  | some (b, M1) => some (!b, M1)
  | _ => none
def eIf (t : TM) (a b : EM) : EM := fun e M => match t e M with
  | some (true, M1) => a e M1
  | some (false, M1) => b e M1
  | none => none
variable {rest : List Expr} {ta tb : TM}
theorem je_one {op} {m : EM} (h : JE X a m) : JE X (.BoolOp op [a] pos) m := pe_one h
theorem je_and (ha : JE X a ma) (hb : JE X (.BoolOp .And (b :: rest) pos) mb) : JE X (.BoolOp .And (a :: b :: rest) pos) (eAnd ma mb) := by
  refine PE.imp (pe_and ha hb) fun σ H Q q => ?_
  obtain ⟨W, e, d, M', rfl, ok, er, hm, w⟩ := q
  unfold eAnd at hm
  split at hm
  · rename_i N1 h1
    refine ⟨W, e, .bl true, N1, rfl, ok, er, h1, fun W1 v1 e1 ok1 x1 r1 => ?_⟩
    simp only [VRel] at r1
    refine ⟨true, r1, ?_⟩
    refine iteT ?_
    exact ⟨W1, e, d, M', rfl, ok1, er.ext ok x1, by rw [e1]; exact hm, fun W2 v2 e2 ok2 x2 r2 => w W2 v2 e2 ok2 (x1.trans x2) r2⟩
  · rename_i N1 h1
    cases hm
    refine ⟨W, e, .bl false, _, rfl, ok, er, h1, fun W1 v1 e1 ok1 x1 r1 => ?_⟩
    have r1' := r1
    simp only [VRel] at r1'
    refine ⟨false, r1', ?_⟩
    refine iteF ?_
    exact w W1 _ e1 ok1 x1 (by simp only [VRel])
  · cases hm
theorem je_or (ha : JE X a ma) (hb : JE X (.BoolOp .Or (b :: rest) pos) mb) : JE X (.BoolOp .Or (a :: b :: rest) pos) (eOr ma mb) := by
  refine PE.imp (pe_or ha hb) fun σ H Q q => ?_
  obtain ⟨W, e, d, M', rfl, ok, er, hm, w⟩ := q
  unfold eOr at hm
  split at hm
  · rename_i N1 h1
    refine ⟨W, e, .bl false, N1, rfl, ok, er, h1, fun W1 v1 e1 ok1 x1 r1 => ?_⟩
    simp only [VRel] at r1
    refine ⟨false, r1, ?_⟩
    refine iteF ?_
    exact ⟨W1, e, d, M', rfl, ok1, er.ext ok x1, by rw [e1]; exact hm, fun W2 v2 e2 ok2 x2 r2 => w W2 v2 e2 ok2 (x1.trans x2) r2⟩
  · rename_i N1 h1
    cases hm
    refine ⟨W, e, .bl true, _, rfl, ok, er, h1, fun W1 v1 e1 ok1 x1 r1 => ?_⟩
    have r1' := r1
    simp only [VRel] at r1'
    refine ⟨true, r1', ?_⟩
    refine iteT ?_
    exact w W1 _ e1 ok1 x1 (by simp only [VRel])
  · cases hm
theorem je_not (ha : JE X a ma) : JE X (.UnaryOp .Not a pos) (eNot ma) := by
  refine PE.imp (pe_not ha) fun σ H Q q => ?_
  obtain ⟨W, e, d, M', rfl, ok, er, hm, w⟩ := q
  unfold eNot at hm
  split at hm
  · rename_i b N1 h1
    cases hm
    refine ⟨W, e, .bl b, _, rfl, ok, er, h1, fun W1 v1 e1 ok1 x1 r1 => ?_⟩
    simp only [VRel] at r1
    exact ⟨b, r1, w W1 _ e1 ok1 x1 (by simp only [VRel])⟩
  · cases hm
theorem je_if (hc : JT X c ta) (ha : JE X a ma) (hb : JE X b mb) : JE X (.IfExp c a b pos) (eIf ta ma mb) := by
  refine PE.imp (pe_ifExp hc ha hb) fun σ H Q q => ?_
  obtain ⟨W, e, d, M', rfl, ok, er, hm, w⟩ := q
  unfold eIf at hm
  split at hm
  · rename_i N1 h1
    refine ⟨W, e, true, N1, rfl, ok, er, h1, fun W1 e1 ok1 x1 => ?_⟩
    refine iteT ?_
    exact ⟨W1, e, d, M', rfl, ok1, er.ext ok x1, by rw [e1]; exact hm, fun W2 v2 e2 ok2 x2 r2 => w W2 v2 e2 ok2 (x1.trans x2) r2⟩
  · rename_i N1 h1
    refine ⟨W, e, false, N1, rfl, ok, er, h1, fun W1 e1 ok1 x1 => ?_⟩
    refine iteF ?_
    exact ⟨W1, e, d, M', rfl, ok1, er.ext ok x1, by rw [e1]; exact hm, fun W2 v2 e2 ok2 x2 r2 => w W2 v2 e2 ok2 (x1.trans x2) r2⟩
  · cases hm
abbrev JW (X : Cx) (e : Expr) (m : TM) : Prop := PW X e (rdT X.K m)
theorem PW.imp {e : Expr} {t t' : TT} (h : PW X e t) (i : ∀ σ H Q, t' σ H Q → t σ H Q) : PW X e t' := ⟨fun wh pins s σ H Q I q => h.run wh pins s σ H Q I (i _ _ _ q)⟩
theorem jw_and1 (ha : JT X a ta) : JW X (.BoolOp .And [a] pos) ta := pw_and1 ha
theorem jw_or1 (ha : JT X a ta) : JW X (.BoolOp .Or [a] pos) ta := pw_or1 ha
theorem jw_and (ha : JT X a ta) (hb : JW X (.BoolOp .And (b :: rest) pos) tb) : JW X (.BoolOp .And (a :: b :: rest) pos) (mAnd ta tb) := by
  refine PW.imp (pw_and ha hb) fun σ H Q q => ?_
  obtain ⟨W, e, d, M', rfl, ok, er, hm, w⟩ := q
  unfold mAnd at hm
  split at hm
  · rename_i N1 h1
    refine ⟨W, e, true, N1, rfl, ok, er, h1, fun W1 e1 ok1 x1 => ?_⟩
    refine iteT ?_
    exact ⟨W1, e, d, M', rfl, ok1, er.ext ok x1, by rw [e1]; exact hm, fun W2 e2 ok2 x2 => w W2 e2 ok2 (x1.trans x2)⟩
  · rename_i N1 h1
    cases hm
    refine ⟨W, e, false, _, rfl, ok, er, h1, fun W1 e1 ok1 x1 => ?_⟩
    refine iteF ?_
    exact w W1 e1 ok1 x1
  · cases hm
theorem jw_or (ha : JT X a ta) (hb : JW X (.BoolOp .Or (b :: rest) pos) tb) : JW X (.BoolOp .Or (a :: b :: rest) pos) (mOr ta tb) := by
  refine PW.imp (pw_or ha hb) fun σ H Q q => ?_
  obtain ⟨W, e, d, M', rfl, ok, er, hm, w⟩ := q
  unfold mOr at hm
  split at hm
  · rename_i N1 h1
    refine ⟨W, e, false, N1, rfl, ok, er, h1, fun W1 e1 ok1 x1 => ?_⟩
    refine iteF ?_
    exact ⟨W1, e, d, M', rfl, ok1, er.ext ok x1, by rw [e1]; exact hm, fun W2 e2 ok2 x2 => w W2 e2 ok2 (x1.trans x2)⟩
  · rename_i N1 h1
    cases hm
    refine ⟨W, e, true, _, rfl, ok, er, h1, fun W1 e1 ok1 x1 => ?_⟩
    refine iteT ?_
    exact w W1 e1 ok1 x1
  · cases hm
theorem jt_w {m : TM} (h : JW X a m) : JT X a m := h.pt
theorem jt_not (ha : JT X a ta) : JT X (.UnaryOp .Not a pos) (mNot ta) := by
  refine PT.imp (pt_not ha) fun σ H Q q => ?_
  obtain ⟨W, e, d, M', rfl, ok, er, hm, w⟩ := q
  unfold mNot at hm
  split at hm
  · rename_i b N1 h1
    cases hm
    exact ⟨W, e, b, _, rfl, ok, er, h1, fun W1 e1 ok1 x1 => w W1 e1 ok1 x1⟩
  · cases hm

/-! ### rows of values; tuples, lists -/
def aNil : AM := fun _ M => some ([], M)
def aCons (a : EM) (r : AM) : AM := fun e M => match a e M with
  | some (x, M1) => (match r e M1 with
    | some (xs, M2) => some (x :: xs, M2)
    | none => none)
  | none => none
variable {es : List Expr} {mr : AM}
theorem ja_nil : JA X [] aNil := PA.imp pa_nil fun σ H Q q => by
  obtain ⟨W, e, d, M', rfl, ok, er, hm, w⟩ := q
  cases hm
  exact w W [] rfl ok (Ext.refl W) VRels.nil
theorem ja_cons (ha : JE X a ma) (hr : JA X es mr) (hs : starEach (a :: es) X.env = (false, eval a X.env) :: starEach es X.env := by rfl) : JA X (a :: es) (aCons ma mr) := by
  refine PA.imp (pa_cons ha hr hs) fun σ H Q q => ?_
  obtain ⟨W, e, d, M', rfl, ok, er, hm, w⟩ := q
  unfold aCons at hm
  split at hm
  · rename_i x N1 h1
    split at hm
    · rename_i xs N2 h2
      cases hm
      exact ⟨W, e, x, N1, rfl, ok, er, h1, fun W1 v1 e1 ok1 x1 r1 => ⟨W1, e, xs, _, rfl, ok1, er.ext ok x1, by rw [e1]; exact h2, fun W2 vs e2 ok2 x2 r2 => w W2 (v1 :: vs) e2 ok2 (x1.trans x2) (VRels.cons (VRel.ext ok1 x2 _ _ r1) r2)⟩⟩
    · cases hm
  · cases hm
def eTup (r : AM) : EM := fun e M => match r e M with
  | some (xs, M1) => if xs.length ≤ sizeLine then some (.tup xs, M1) else none
  | none => none
theorem je_tup {k} (h : JA X es mr) : JE X (.Tuple es k pos) (eTup mr) := by
  refine PE.imp (pe_tup h) fun σ H Q q => ?_
  obtain ⟨W, e, d, M', rfl, ok, er, hm, w⟩ := q
  unfold eTup at hm
  split at hm
  · rename_i xs N1 h1
    by_cases hl : xs.length ≤ sizeLine
    · rw [if_pos hl] at hm
      cases hm
      refine ⟨W, e, xs, _, rfl, ok, er, h1, fun W1 vs e1 ok1 x1 r1 => ⟨by rw [← VRels.length r1]; exact hl, fun p hp => ?_⟩⟩
      exact w (W1.grow p (.tup vs)) (.ref p) e1 (Wd.grow_ok ok1 hp) (x1.trans (Wd.grow_ext hp)) (VRel.newTup ok1 hp r1)
    · rw [if_neg hl] at hm; cases hm
  · cases hm
/-- a list just made: by its items -/
def fLst (r : AM) : AM := fun e M => match r e M with
  | some (xs, M1) => if xs.length ≤ sizeLine then some (xs, M1) else none
  | none => none
theorem jf_lst (h : JA X es mr) : JF X (.List es pos) (fLst mr) := by
  refine PE.imp (pe_lst h) fun σ H Q q => ?_
  obtain ⟨W, e, d, M', rfl, ok, er, hm, w⟩ := q
  unfold fLst at hm
  split at hm
  · rename_i xs N1 h1
    by_cases hl : xs.length ≤ sizeLine
    · rw [if_pos hl] at hm
      cases hm
      exact ⟨W, e, _, _, rfl, ok, er, h1, fun W1 vs e1 ok1 x1 r1 => ⟨by have := VRels.length r1; omega, fun p hp => w W1 vs p e1 ok1 x1 r1 hp⟩⟩
    · rw [if_neg hl] at hm; cases hm
  · cases hm
/-- a list just made, as a value that nobody changes -/
def eVal (r : AM) : EM := fun e M => match r e M with
  | some (xs, M1) => some (.lst xs, M1)
  | none => none
/-- a list just made, as an object that may change -/
def eNew (r : AM) : EM := fun e M => match r e M with
  | some (xs, M1) => some (.ref M1.length, M1 ++ [.lst xs])
  | none => none
theorem je_val (h : JF X a mr) : JE X a (eVal mr) := by
  refine PE.imp h fun σ H Q q => ?_
  obtain ⟨W, e, d, M', rfl, ok, er, hm, w⟩ := q
  unfold eVal at hm
  split at hm
  · rename_i xs N1 h1
    cases hm
    refine ⟨W, e, xs, _, rfl, ok, er, h1, fun W1 vs p e1 ok1 x1 r1 hp => ?_⟩
    exact w (W1.grow p (.lst vs)) (.ref p) e1 (Wd.grow_ok ok1 hp) (x1.trans (Wd.grow_ext hp)) (VRel.newLst ok1 hp r1)
  · cases hm
theorem je_new (h : JF X a mr) : JE X a (eNew mr) := by
  refine PE.imp h fun σ H Q q => ?_
  obtain ⟨W, e, d, M', rfl, ok, er, hm, w⟩ := q
  unfold eNew at hm
  split at hm
  · rename_i xs N1 h1
    cases hm
    refine ⟨W, e, xs, N1, rfl, ok, er, h1, fun W1 vs p e1 ok1 x1 r1 hp => ?_⟩
    have E := Wd.alloc_ext (ob := .lst xs) (o := .lst vs) hp
    refine w (W1.alloc p (.lst xs) (.lst vs)) (.ref p) (by show W1.M ++ _ = _; rw [e1]) (Wd.alloc_ok ok1 hp ⟨vs, upd_same, VRels.ext ok1 E _ _ r1⟩) (x1.trans E) ?_
    simp only [VRel]
    refine ⟨?_, ?_⟩
    · show N1.length < (W1.M ++ [Ob.lst xs]).length
      rw [e1]; simp
    · show V.ref p = V.ref (if N1.length = W1.M.length then p else _)
      rw [e1, if_pos rfl]
  · cases hm
end
end DV

end

section
set_option Elab.async false
set_option linter.all false
set_option maxRecDepth 100000
/-! Dv3: what the built-in operations do on data -/
namespace DV
open PySem PySem.Spec PyProof.Rows L2

/-! ### lists and tuples read -/
def asL : D → Sto → Option (List D)
  | .lst l, _ => some l
  | .ref r, M => match M[r]? with
    | some (.lst l) => some l
    | _ => none
  | _, _ => none
def asLk : D → Sto → Option (List D)
  | .kl l, _ => some l
  | d, M => asL d M
def asT : D → Option (List D)
  | .tup l => some l
  | .kt l => some l
  | _ => none
section
variable {K : PySem.W.Frag} {W : Wd} {d : D} {v : V} {l : List D}
theorem asL_rel (ok : Ok K W) (r : VRel K W d v) (h : asL d W.M = some l) : ∃ a xs, v = .ref a ∧ W.H a = some (.lst xs) ∧ VRels K W l xs := by
  unfold asL at h
  split at h
  · cases h
    simp only [VRel] at r
    obtain ⟨a, xs, rfl, h1, h2, h3⟩ := r
    exact ⟨a, xs, rfl, h1, h3⟩
  · split at h
    · rename_i hm
      cases h
      simp only [VRel] at r
      obtain ⟨xs, h1, h2⟩ := ok.obj _ _ hm
      exact ⟨_, xs, r.2, h1, h2⟩
    · cases h
  · cases h
theorem asLk_rel (ok : Ok K W) (r : VRel K W d v) (h : asLk d W.M = some l) : ∃ a xs, v = .ref a ∧ SqL K W.H a xs ∧ VRels K W l xs := by
  unfold asLk at h
  split at h
  · cases h
    simp only [VRel] at r
    obtain ⟨a, xs, rfl, h1, h3⟩ := r
    refine ⟨a, xs, rfl, ?_, h3⟩
    rcases h1 with ⟨h1, _⟩ | h1
    · exact .inl (.inr h1)
    · exact .inr h1
  · obtain ⟨a, xs, e, h1, h2⟩ := asL_rel ok r h
    exact ⟨a, xs, e, SqL.of h1, h2⟩
theorem asT_rel (r : VRel K W d v) (h : asT d = some l) : ∃ a xs, v = .ref a ∧ SqT K W.H a xs ∧ VRels K W l xs := by
  unfold asT at h
  split at h
  · cases h
    simp only [VRel] at r
    obtain ⟨a, xs, rfl, h1, h2, h3⟩ := r
    exact ⟨a, xs, rfl, SqT.of h1, h3⟩
  · cases h
    simp only [VRel] at r
    obtain ⟨a, xs, rfl, h1, h3⟩ := r
    exact ⟨a, xs, rfl, .inr h1, h3⟩
  · cases h
end
/-! flat values -/
def scD : D → Option V
  | .non => some .non
  | .bl b => some (.bl b)
  | .int i => some (.int i)
  | .str x => some (.str x)
  | _ => none
theorem scD_rel {K : PySem.W.Frag} {W : Wd} {d : D} {v u : V} (r : VRel K W d v) (h : scD d = some u) : v = u ∧ flatV u = true := by
  unfold scD at h
  split at h <;> first
    | (cases h; simp only [VRel] at r; exact ⟨r, rfl⟩)
    | cases h
def scDs : List D → Option (List V)
  | [] => some []
  | d :: ds => match scD d, scDs ds with
    | some v, some vs => some (v :: vs)
    | _, _ => none
theorem scDs_rel {K : PySem.W.Frag} {W : Wd} : ∀ {ds : List D} {vs us : List V}, VRels K W ds vs → scDs ds = some us → vs = us ∧ us.all flatV = true
  | [], vs, us, r, h => by cases h; simp only [VRels] at r; exact ⟨r, rfl⟩
  | d :: ds, vs, us, r, h => by
    simp only [VRels] at r
    obtain ⟨v, r', rfl, h1, h2⟩ := r
    unfold scDs at h
    split at h
    · rename_i a as e1 e2
      cases h
      obtain ⟨q1, q2⟩ := scD_rel h1 e1
      obtain ⟨q3, q4⟩ := scDs_rel h2 e2
      exact ⟨by rw [q1, q3], by rw [List.all_cons, q2, q4]; rfl⟩
    · cases h
/-! data at any depth -/
mutual
def toPy0 : D → Option PyData
  | .non => some .none
  | .bl b => some (.bool b)
  | .int i => some (.int i)
  | .str x => some (.str x)
  | .tup l => match toPy0s l with
    | some ps => some (.tuple ps)
    | none => none
  | .lst l => match toPy0s l with
    | some ps => some (.list ps)
    | none => none
  | .kl l => match toPy0s l with
    | some ps => some (.list ps)
    | none => none
  | .kt l => match toPy0s l with
    | some ps => some (.tuple ps)
    | none => none
  | .ref _ => none
  | .obj _ _ _ => none
def toPy0s : List D → Option (List PyData)
  | [] => some []
  | d :: ds => match toPy0 d, toPy0s ds with
    | some p, some ps => some (p :: ps)
    | _, _ => none
end
mutual
theorem toPy0_rel {K : PySem.W.Frag} {W : Wd} : ∀ (d : D) (v : V) (p : PyData), VRel K W d v → toPy0 d = some p → Dp K W.H v p
  | .non, v, p, r, h => by simp only [toPy0] at h; cases h; simp only [VRel] at r; subst r; exact .non
  | .bl b, v, p, r, h => by simp only [toPy0] at h; cases h; simp only [VRel] at r; subst r; exact .bl b
  | .int i, v, p, r, h => by simp only [toPy0] at h; cases h; simp only [VRel] at r; subst r; exact .int i
  | .str x, v, p, r, h => by simp only [toPy0] at h; cases h; simp only [VRel] at r; subst r; exact .str x
  | .tup l, v, p, r, h => by
    simp only [toPy0] at h
    split at h
    · rename_i ps e
      cases h
      simp only [VRel] at r
      obtain ⟨a, xs, rfl, h1, h2, h3⟩ := r
      exact .tup (SqT.of h1) (toPy0s_rel l xs ps h3 e)
    · cases h
  | .lst l, v, p, r, h => by
    simp only [toPy0] at h
    split at h
    · rename_i ps e
      cases h
      simp only [VRel] at r
      obtain ⟨a, xs, rfl, h1, h2, h3⟩ := r
      exact .lst (SqL.of h1) (toPy0s_rel l xs ps h3 e)
    · cases h
  | .kl l, v, p, r, h => by
    simp only [toPy0] at h
    split at h
    · rename_i ps e
      cases h
      simp only [VRel] at r
      obtain ⟨a, xs, rfl, h1, h3⟩ := r
      refine .lst ?_ (toPy0s_rel l xs ps h3 e)
      rcases h1 with ⟨h1, _⟩ | h1
      · exact .inl (.inr h1)
      · exact .inr h1
    · cases h
  | .kt l, v, p, r, h => by
    simp only [toPy0] at h
    split at h
    · rename_i ps e
      cases h
      simp only [VRel] at r
      obtain ⟨a, xs, rfl, h1, h3⟩ := r
      exact .tup (.inr h1) (toPy0s_rel l xs ps h3 e)
    · cases h
  | .ref _, v, p, r, h => by simp only [toPy0] at h; cases h
  | .obj _ _ _, v, p, r, h => by simp only [toPy0] at h; cases h
theorem toPy0s_rel {K : PySem.W.Frag} {W : Wd} : ∀ (ds : List D) (vs : List V) (ps : List PyData), VRels K W ds vs → toPy0s ds = some ps → DpAll K W.H vs ps
  | [], vs, ps, r, h => by simp only [toPy0s] at h; cases h; simp only [VRels] at r; subst r; exact .nil
  | d :: ds, vs, ps, r, h => by
    simp only [VRels] at r
    obtain ⟨v, r', rfl, h1, h2⟩ := r
    simp only [toPy0s] at h
    split at h
    · rename_i p qs e1 e2
      cases h
      exact .cons (toPy0_rel d v p h1 e1) (toPy0s_rel ds r' qs h2 e2)
    · cases h
end
def toPy (d : D) (M : Sto) : Option PyData := match d with
  | .ref r => (match M[r]? with
    | some (.lst l) => (match toPy0s l with
      | some ps => some (.list ps)
      | none => none)
    | _ => none)
  | d => toPy0 d
theorem toPy_rel {K : PySem.W.Frag} {W : Wd} {d : D} {v : V} {p : PyData} (ok : Ok K W) (r : VRel K W d v) (h : toPy d W.M = some p) : Dp K W.H v p := by
  unfold toPy at h
  split at h
  · split at h
    · rename_i hm
      split at h
      · rename_i ps e
        cases h
        simp only [VRel] at r
        obtain ⟨xs, h1, h2⟩ := ok.obj _ _ hm
        rw [r.2]
        exact .lst (SqL.of h1) (toPy0s_rel _ xs ps h2 e)
      · cases h
    · cases h
  · exact toPy0_rel _ _ _ r h

/-! ### operators -/
def dAdd : D → D → Sto → Option D := fun x y M => match x, y with
  | .int i, .int j => some (.int (i + j))
  | .str a, .str b => if a.length + b.length ≤ sizeLine then some (.str (a ++ b)) else none
  | .tup a, .tup b => if a.length + b.length ≤ sizeLine then some (.tup (a ++ b)) else none
  | x, y => match asL x M, asL y M with
    | some a, some b => if a.length + b.length ≤ sizeLine then some (.lst (a ++ b)) else none
    | _, _ => none
def dI (C : Int → Int → Prop) [∀ i j, Decidable (C i j)] (g : Int → Int → Int) : D → D → Sto → Option D := fun x y _ => match x, y with
  | .int i, .int j => if C i j then some (.int (g i j)) else none
  | _, _ => none
abbrev dSub := dI (fun _ _ => True) (fun i j => i - j)
abbrev dMul := dI (fun i j => (-(2 ^ 64) < i ∧ i < 2 ^ 64) ∨ (-(2 ^ 64) < j ∧ j < 2 ^ 64)) (fun i j => i * j)
abbrev dDiv := dI (fun _ j => 0 < j ∧ j < 1073741824) (fun i j => i / j)
abbrev dMod := dI (fun _ j => 0 < j) (fun i j => i % j)
abbrev dPow := dI (fun i j => 0 ≤ j ∧ j ≤ 1000 ∧ i.natAbs < 1000) (fun i j => i ^ j.toNat)
def dCmpI (g : Int → Int → Bool) : D → D → Sto → Option D := fun x y _ => match x, y with
  | .int i, .int j => some (.bl (g i j))
  | _, _ => none
abbrev dLt := dCmpI fun i j => decide (i < j)
abbrev dLe := dCmpI fun i j => decide (i ≤ j)
abbrev dGt := dCmpI fun i j => decide (j < i)
abbrev dGe := dCmpI fun i j => decide (j ≤ i)
def eqD (x y : D) (M : Sto) : Option Bool := match scD x, scD y with
  | some a, some b => if scal a b then some (decide (a = b)) else match toPy x M, toPy y M with
    | some p, some q => if SeqAt.shaped p && SeqAt.shaped q then some (PyData.eqv p q) else none
    | _, _ => none
  | _, _ => match toPy x M, toPy y M with
    | some p, some q => if SeqAt.shaped p && SeqAt.shaped q then some (PyData.eqv p q) else none
    | _, _ => none
def dEq : D → D → Sto → Option D := fun x y M => (eqD x y M).map .bl
def dNe : D → D → Sto → Option D := fun x y M => (eqD x y M).map fun b => .bl (!b)
def isNon : D → Bool
  | .non => true
  | _ => false
def dIs : D → D → Sto → Option D := fun x y _ => match x, y with
  | x, .non => some (.bl (isNon x))
  | .bl a, .bl b => some (.bl (decide (a = b)))
  | _, _ => none
def dIsNot : D → D → Sto → Option D := fun x y _ => match x, y with
  | x, .non => some (.bl (!isNon x))
  | .bl a, .bl b => some (.bl (!decide (a = b)))
  | _, _ => none
/-- x in y -/
def inD (x y : D) (M : Sto) : Option Bool := match x, y with
  | .str c, .str z => (match c.cps.toList with
    | [k] => some (decide (k ∈ z.cps.toList))
    | _ => none)
  | x, y => match asT y with
    | some l => (match scD x, scDs l with
      | some a, some bs => some (inV a bs)
      | _, _ => none)
    | none => match asLk y M with
      | some l => (match scD x, scDs l with
        | some a, some bs => some (inV a bs)
        | _, _ => match toPy x M, toPy0s l with
          | some p, some qs => if SeqAt.shaped p && SeqAt.shaped (.list qs) then some (qs.any fun z => PyData.eqv z p) else none
          | _, _ => none)
      | none => none
def dIn : D → D → Sto → Option D := fun x y M => (inD x y M).map .bl
def dNotIn : D → D → Sto → Option D := fun x y M => (inD x y M).map fun b => .bl (!b)

section
variable {X : Cx}
theorem opO {f : Value → Value → Sem Value} {g : D → D → Sto → Option D} (h : ∀ (pins : List (Addr × Obj)) (s : Shared) (σ : L2.St) (x y : V) (v u : Value) (Q : VK) (W : Wd) (dx dy d : D), Inv X pins σ W.H s → RelV x v → RelV y u → Ok X.K W → VRel X.K W dx x → VRel X.K W dy y →
    g dx dy W.M = some d → wE X.K W W.M d Q → wpAny (model X.prog X.w) X.A (f v u) (EP X pins σ Q) X.xe s) : OpR X f (rdO X.K g) := by
  intro pins s σ H x y v u Q I rx ry q
  obtain ⟨W, dx, dy, d, rfl, ok, r1, r2, hf, w⟩ := q
  exact h pins s σ x y v u Q W dx dy d I rx ry ok r1 r2 hf w
theorem o_add : OpR X (binaryOp .Add) (rdO X.K dAdd) := by
  refine opO fun pins s σ x y v u Q W dx dy d I rx ry ok r1 r2 hf w => ?_
  unfold dAdd at hf
  split at hf
  · cases hf
    simp only [VRel] at r1 r2
    exact op_add pins s σ _ x y v u Q I rx ry ⟨_, _, r1, r2, w.flat ok (by simp only [VRel])⟩
  · split at hf
    · cases hf
      simp only [VRel] at r1 r2
      exact op_add_str pins s σ _ x y v u Q I rx ry ⟨_, _, r1, r2, by assumption, w.flat ok (by simp only [VRel])⟩
    · cases hf
  · split at hf
    · rename_i hl
      cases hf
      have r1' := r1
      have r2' := r2
      simp only [VRel] at r1 r2
      obtain ⟨a, xs, rfl, h1, h2, h3⟩ := r1
      obtain ⟨b, ys, rfl, g1, g2, g3⟩ := r2
      have l1 := VRels.length h3
      have l2 := VRels.length g3
      refine op_catA pins s σ _ _ _ v u Q I rx ry ⟨a, b, xs, ys, rfl, rfl, SqT.of h1, SqT.of g1, by omega, fun e => ?_, fun _ e => ?_, fun _ _ p hp => ?_⟩
      · subst e
        have z := List.length_eq_zero_iff.mp l1
        subst z
        exact w.flat ok r2'
      · subst e
        have z := List.length_eq_zero_iff.mp l2
        subst z
        exact w.flat ok (by rw [List.append_nil]; exact r1')
      · exact w.tup ok (VRels.append h3 g3) hp
    · cases hf
  · split at hf
    · rename_i a b ha hb
      split at hf
      · rename_i hl
        cases hf
        obtain ⟨p1, xs, rfl, h1, h3⟩ := asL_rel ok r1 ha
        obtain ⟨p2, ys, rfl, g1, g3⟩ := asL_rel ok r2 hb
        have l1 := VRels.length h3
        have l2 := VRels.length g3
        exact op_cat pins s σ _ _ _ v u Q I rx ry ⟨p1, p2, xs, ys, rfl, rfl, h1, g1, by omega, fun p hp => w.lst ok (VRels.append h3 g3) hp⟩
      · cases hf
    · cases hf
theorem o_I {op : Operator} {C : Int → Int → Prop} [∀ i j, Decidable (C i j)] {g : Int → Int → Int} (h : OpR X (binaryOp op) (rI C fun i j => .int (g i j))) : OpR X (binaryOp op) (rdO X.K (dI C g)) := by
  refine opO fun pins s σ x y v u Q W dx dy d I rx ry ok r1 r2 hf w => ?_
  unfold dI at hf
  split at hf
  · split at hf
    · cases hf
      simp only [VRel] at r1 r2
      exact h pins s σ _ x y v u Q I rx ry ⟨_, _, r1, r2, by assumption, w.flat ok (by simp only [VRel])⟩
    · cases hf
  · cases hf
theorem rI0_I {f : Value → Value → Sem Value} {g : Int → Int → V} (h : OpR X f (rI0 g)) : OpR X f (rI (fun _ _ => True) g) := by
  intro pins s σ H x y v u Q I rx ry q
  obtain ⟨i, j, e1, e2, _, q⟩ := q
  exact h pins s σ H x y v u Q I rx ry ⟨i, j, e1, e2, q⟩
theorem o_sub : OpR X (binaryOp .Sub) (rdO X.K dSub) := o_I (rI0_I op_sub)
theorem o_mul : OpR X (binaryOp .Mult) (rdO X.K dMul) := o_I op_mul
theorem o_div : OpR X (binaryOp .FloorDiv) (rdO X.K dDiv) := o_I op_fdiv
theorem o_mod : OpR X (binaryOp .Mod) (rdO X.K dMod) := o_I op_mod
theorem o_pow : OpR X (binaryOp .Pow) (rdO X.K dPow) := o_I (by
  intro pins s σ H x y v u Q I rx ry q
  obtain ⟨i, j, e1, e2, ⟨c1, c2, c3⟩, q⟩ := q
  exact op_pow pins s σ H x y v u Q I rx ry ⟨i, j, e1, e2, ⟨c1, by omega, by omega⟩, q⟩)
theorem o_cmp {op : CmpOp} {g : Int → Int → Bool} (h : OpR X (compareOp op) (rI0 fun i j => .bl (g i j))) : OpR X (compareOp op) (rdO X.K (dCmpI g)) := by
  refine opO fun pins s σ x y v u Q W dx dy d I rx ry ok r1 r2 hf w => ?_
  unfold dCmpI at hf
  split at hf
  · cases hf
    simp only [VRel] at r1 r2
    exact h pins s σ _ x y v u Q I rx ry ⟨_, _, r1, r2, w.flat ok (by simp only [VRel])⟩
  · cases hf
theorem o_lt : OpR X (compareOp .Lt) (rdO X.K dLt) := o_cmp op_lt
theorem o_le : OpR X (compareOp .LtE) (rdO X.K dLe) := o_cmp op_le
theorem o_gt : OpR X (compareOp .Gt) (rdO X.K dGt) := o_cmp op_gt
theorem o_ge : OpR X (compareOp .GtE) (rdO X.K dGe) := o_cmp op_ge
theorem eqD_some {K : PySem.W.Frag} {W : Wd} {dx dy : D} {x y : V} {b : Bool} (ok : Ok K W) (r1 : VRel K W dx x) (r2 : VRel K W dy y) (h : eqD dx dy W.M = some b) :
    (scal x y = true ∧ b = decide (x = y)) ∨ ∃ p q, Dp K W.H x p ∧ Dp K W.H y q ∧ SeqAt.shaped p = true ∧ SeqAt.shaped q = true ∧ b = PyData.eqv p q := by
  have deep : (match toPy dx W.M, toPy dy W.M with
    | some p, some q => if SeqAt.shaped p && SeqAt.shaped q then some (PyData.eqv p q) else none
    | _, _ => none) = some b → ∃ p q, Dp K W.H x p ∧ Dp K W.H y q ∧ SeqAt.shaped p = true ∧ SeqAt.shaped q = true ∧ b = PyData.eqv p q := by
    intro h
    split at h
    · rename_i p q e1 e2
      split at h
      · rename_i hs
        cases h
        obtain ⟨s1, s2⟩ := Bool.and_eq_true_iff.mp hs
        exact ⟨p, q, toPy_rel ok r1 e1, toPy_rel ok r2 e2, s1, s2, rfl⟩
      · cases h
    · cases h
  unfold eqD at h
  split at h
  · rename_i a b' e1 e2
    split at h
    · rename_i hs
      cases h
      obtain ⟨q1, _⟩ := scD_rel r1 e1
      obtain ⟨q2, _⟩ := scD_rel r2 e2
      subst q1 q2
      exact .inl ⟨hs, rfl⟩
    · exact .inr (deep h)
  · exact .inr (deep h)
theorem o_eq (hu : X.A.units + 64 < cLine) : OpR X (compareOp .Eq) (rdO X.K dEq) := by
  refine opO fun pins s σ x y v u Q W dx dy d I rx ry ok r1 r2 hf w => ?_
  unfold dEq at hf
  cases e : eqD dx dy W.M with
  | none => rw [e] at hf; cases hf
  | some b =>
    rw [e] at hf
    cases hf
    have fin : Q (.bl b) W.H := w.flat ok (by simp only [VRel])
    rcases eqD_some ok r1 r2 e with ⟨h1, rfl⟩ | ⟨p, q, h1, h2, h3, h4, rfl⟩
    · exact op_eq pins s σ _ x y v u Q I rx ry ⟨h1, fin⟩
    · exact op_eqD hu pins s σ _ x y v u Q I rx ry ⟨p, q, h1, h2, h3, h4, fin⟩
theorem o_ne (hu : X.A.units + 64 < cLine) : OpR X (compareOp .NotEq) (rdO X.K dNe) := by
  refine opO fun pins s σ x y v u Q W dx dy d I rx ry ok r1 r2 hf w => ?_
  unfold dNe at hf
  cases e : eqD dx dy W.M with
  | none => rw [e] at hf; cases hf
  | some b =>
    rw [e] at hf
    cases hf
    have fin : Q (.bl (!b)) W.H := w.flat ok (by simp only [VRel])
    rcases eqD_some ok r1 r2 e with ⟨h1, rfl⟩ | ⟨p, q, h1, h2, h3, h4, rfl⟩
    · exact op_ne pins s σ _ x y v u Q I rx ry ⟨h1, fin⟩
    · exact op_neD hu pins s σ _ x y v u Q I rx ry ⟨p, q, h1, h2, h3, h4, fin⟩
theorem isNon_rel {K : PySem.W.Frag} {W : Wd} {d : D} {x : V} (r : VRel K W d x) : decide (x = .non) = isNon d := by
  cases d <;> simp only [VRel] at r
  case non => subst r; rfl
  case bl => subst r; rfl
  case int => subst r; rfl
  case str => subst r; rfl
  case ref => rw [r.2]; rfl
  all_goals (obtain ⟨a, r⟩ := r; first | (obtain ⟨xs, rfl, _⟩ := r; rfl) | (obtain ⟨dx, xs, rfl, _⟩ := r; rfl))
theorem o_is : OpR X (compareOp .Is) (rdO X.K dIs) := by
  refine opO fun pins s σ x y v u Q W dx dy d I rx ry ok r1 r2 hf w => ?_
  unfold dIs at hf
  split at hf
  · cases hf
    simp only [VRel] at r2
    exact op_isN pins s σ _ x y v u Q I rx ry ⟨r2, by rw [isNon_rel r1]; exact w.flat ok (by simp only [VRel])⟩
  · cases hf
    simp only [VRel] at r1 r2
    exact op_isBl pins s σ _ x y v u Q I rx ry ⟨_, _, r1, r2, w.flat ok (by simp only [VRel])⟩
  · cases hf
theorem o_isnot : OpR X (compareOp .IsNot) (rdO X.K dIsNot) := by
  refine opO fun pins s σ x y v u Q W dx dy d I rx ry ok r1 r2 hf w => ?_
  unfold dIsNot at hf
  split at hf
  · cases hf
    simp only [VRel] at r2
    exact op_notN pins s σ _ x y v u Q I rx ry ⟨r2, by rw [isNon_rel r1]; exact w.flat ok (by simp only [VRel])⟩
  · cases hf
    simp only [VRel] at r1 r2
    exact op_notBl pins s σ _ x y v u Q I rx ry ⟨_, _, r1, r2, w.flat ok (by simp only [VRel])⟩
  · cases hf
theorem str_one {c : Str} {k : Nat} (h : c.cps.toList = [k]) : c = ⟨#[k]⟩ := by
  obtain ⟨a⟩ := c
  have : a = #[k] := by
    apply Array.ext'
    simpa using h
  rw [this]
theorem inD_some {K : PySem.W.Frag} {W : Wd} {dx dy : D} {x y : V} {b : Bool} (ok : Ok K W) (r1 : VRel K W dx x) (r2 : VRel K W dy y) (h : inD dx dy W.M = some b) :
    (∃ (c : Nat) (z : Str), x = .str ⟨#[c]⟩ ∧ y = .str z ∧ b = decide (c ∈ z.cps.toList)) ∨
    (∃ p xs, y = .ref p ∧ (SqL K W.H p xs ∨ SqT K W.H p xs) ∧ flatV x = true ∧ xs.all flatV = true ∧ b = inV x xs) ∨
    ∃ p qs, Dp K W.H x p ∧ Dp K W.H y (.list qs) ∧ SeqAt.shaped p = true ∧ SeqAt.shaped (.list qs) = true ∧ b = qs.any fun z => PyData.eqv z p := by
  unfold inD at h
  split at h
  · split at h
    · rename_i k e
      cases h
      simp only [VRel] at r1 r2
      exact .inl ⟨k, _, by rw [r1, str_one e], r2, rfl⟩
    · cases h
  · split at h
    · rename_i l e
      split at h
      · rename_i a bs e1 e2
        cases h
        obtain ⟨p, xs, rfl, h1, h2⟩ := asT_rel r2 e
        obtain ⟨q1, q2⟩ := scD_rel r1 e1
        obtain ⟨q3, q4⟩ := scDs_rel h2 e2
        subst q1 q3
        exact .inr (.inl ⟨p, _, rfl, .inr h1, q2, q4, rfl⟩)
      · cases h
    · split at h
      · rename_i l e
        obtain ⟨p, xs, rfl, h1, h2⟩ := asLk_rel ok r2 e
        split at h
        · rename_i a bs e1 e2
          cases h
          obtain ⟨q1, q2⟩ := scD_rel r1 e1
          obtain ⟨q3, q4⟩ := scDs_rel h2 e2
          subst q1 q3
          exact .inr (.inl ⟨p, _, rfl, .inl h1, q2, q4, rfl⟩)
        · split at h
          · rename_i pp qs e1 e2
            split at h
            · rename_i hs
              cases h
              obtain ⟨s1, s2⟩ := Bool.and_eq_true_iff.mp hs
              exact .inr (.inr ⟨pp, qs, toPy_rel ok r1 e1, .lst h1 (toPy0s_rel _ _ _ h2 e2), s1, s2, rfl⟩)
            · cases h
          · cases h
      · cases h
theorem o_in (hu : X.A.units + 65 < cLine) : OpR X (compareOp .In) (rdO X.K dIn) := by
  refine opO fun pins s σ x y v u Q W dx dy d I rx ry ok r1 r2 hf w => ?_
  unfold dIn at hf
  cases e : inD dx dy W.M with
  | none => rw [e] at hf; cases hf
  | some b =>
    rw [e] at hf
    cases hf
    have fin : Q (.bl b) W.H := w.flat ok (by simp only [VRel])
    rcases inD_some ok r1 r2 e with ⟨c, z, h1, h2, rfl⟩ | ⟨p, xs, h1, h2, h3, h4, rfl⟩ | ⟨p, q, h1, h2, h3, h4, rfl⟩
    · exact op_in_sign pins s σ _ x y v u Q I rx ry ⟨c, z, h1, h2, fin⟩
    · exact op_in_seq pins s σ _ x y v u Q I rx ry ⟨p, xs, h1, h2, h3, h4, fin⟩
    · exact op_inD hu pins s σ _ x y v u Q I rx ry ⟨p, q, h1, h2, h3, h4, fin⟩
theorem o_notin (hu : X.A.units + 65 < cLine) : OpR X (compareOp .NotIn) (rdO X.K dNotIn) := by
  refine opO fun pins s σ x y v u Q W dx dy d I rx ry ok r1 r2 hf w => ?_
  unfold dNotIn at hf
  cases e : inD dx dy W.M with
  | none => rw [e] at hf; cases hf
  | some b =>
    rw [e] at hf
    cases hf
    have fin : Q (.bl (!b)) W.H := w.flat ok (by simp only [VRel])
    rcases inD_some ok r1 r2 e with ⟨c, z, h1, h2, rfl⟩ | ⟨p, xs, h1, h2, h3, h4, rfl⟩ | ⟨p, q, h1, h2, h3, h4, rfl⟩
    · exact op_notIn_sign pins s σ _ x y v u Q I rx ry ⟨c, z, h1, h2, fin⟩
    · exact op_notIn_seq pins s σ _ x y v u Q I rx ry ⟨p, xs, h1, h2, h3, h4, fin⟩
    · exact op_notInD hu pins s σ _ x y v u Q I rx ry ⟨p, q, h1, h2, h3, h4, fin⟩
end

/-! ### -x -/
def eNeg (a : EM) : EM := fun e M => match a e M with
  | some (.int i, M1) => some (.int (-i), M1)
  | _ => none
theorem je_neg {X : Cx} {a : Expr} {m : EM} {pos : Pos} (ha : JE X a m) : JE X (.UnaryOp .USub a pos) (eNeg m) := by
  refine PE.imp (pe_un un_neg ha) fun σ H Q q => ?_
  obtain ⟨W, e, d, M', rfl, ok, er, hm, w⟩ := q
  unfold eNeg at hm
  split at hm
  · rename_i i N1 h1
    cases hm
    refine ⟨W, e, .int i, _, rfl, ok, er, h1, fun W1 v1 e1 ok1 x1 r1 => ?_⟩
    simp only [VRel] at r1
    exact ⟨i, r1, w W1 _ e1 ok1 x1 (by simp only [VRel])⟩
  · cases hm

/-! ### a[i] -/
def dIdx : D → D → Sto → Option D := fun x y M => match y with
  | .int i => (match x with
    | .str z => if z.length ≤ sizeLine then (atI z.cps.toList i).map fun c => .str ⟨#[c]⟩ else none
    | x => match asT x with
      | some l => atI l i
      | none => match asLk x M with
        | some l => atI l i
        | none => none)
  | _ => none
theorem atI_rel {K : PySem.W.Frag} {W : Wd} {ds : List D} {vs : List V} {i : Int} {d : D} (r : VRels K W ds vs) (h : atI ds i = some d) : ∃ v, atI vs i = some v ∧ VRel K W d v := by
  unfold atI at h ⊢
  rw [← VRels.length r]
  cases e : ixN ds.length i with
  | none => rw [e] at h; cases h
  | some j =>
    rw [e] at h
    exact VRels.get r h
theorem ix_rd {X : Cx} : IxR X (rdO X.K dIdx) := by
  intro value slice pins s σ H x y v u Q I rx ry q hs
  obtain ⟨W, dx, dy, d, rfl, ok, r1, r2, hf, w⟩ := q
  unfold dIdx at hf
  split at hf
  · rename_i i
    simp only [VRel] at r2
    split at hf
    · rename_i z
      split at hf
      · rename_i hz
        cases e : atI z.cps.toList i with
        | none => rw [e] at hf; cases hf
        | some c =>
          rw [e] at hf
          cases hf
          simp only [VRel] at r1
          exact ix_str value slice pins s σ _ x y v u Q I rx ry ⟨z, i, c, r1, r2, hz, e, w.flat ok (by simp only [VRel])⟩ hs
      · cases hf
    · split at hf
      · rename_i l e
        obtain ⟨p, xs, rfl, h1, h2⟩ := asT_rel r1 e
        obtain ⟨t, h3, h4⟩ := atI_rel h2 hf
        exact ix_tup value slice pins s σ _ _ y v u Q I rx ry ⟨p, xs, i, t, rfl, r2, h1, h3, w.flat ok h4⟩ hs
      · split at hf
        · rename_i l e
          obtain ⟨p, xs, rfl, h1, h2⟩ := asLk_rel ok r1 e
          obtain ⟨t, h3, h4⟩ := atI_rel h2 hf
          exact ix_list value slice pins s σ _ _ y v u Q I rx ry ⟨p, xs, i, t, rfl, r2, h1, h3, w.flat ok h4⟩ hs
        · cases hf
  · cases hf
theorem je_ix {X : Cx} {a b : Expr} {ma mb : EM} {pos : Pos} (ha : JE X a ma) (hb : JE X b mb) (hs : PlainIx b := by exact fun _ _ => rfl) : JE X (.Subscript a b pos) (eBin dIdx ma mb) :=
  PE.imp (pe_ix ix_rd ha hb hs) fun _ _ _ q => rd_bin q

/-! ### a[lo:hi] -/
abbrev PM := Env → Sto → Option (Option Int × Sto)
def rdP (K : PySem.W.Frag) (m : PM) : TO := fun σ H Q => ∃ W e o M', W.H = H ∧ Ok K W ∧ ERel K W e σ ∧ m e W.M = some (o, M') ∧ ∀ W', W'.M = M' → Ok K W' → Ext W W' → Q o W'.H
abbrev JP (X : Cx) (e : Option Expr) (m : PM) : Prop := PO X e (rdP X.K m)
theorem PO.imp {X : Cx} {e : Option Expr} {t t' : TO} (h : PO X e t) (i : ∀ σ H Q, t' σ H Q → t σ H Q) : PO X e t' := ⟨fun pins s σ H Q I q => h.run pins s σ H Q I (i _ _ _ q)⟩
def pNo : PM := fun _ M => some (none, M)
def pAt (m : EM) : PM := fun e M => match m e M with
  | some (.int i, M1) => some (some i, M1)
  | _ => none
theorem jp_no {X : Cx} : JP X none pNo := PO.imp po_none fun σ H Q q => by
  obtain ⟨W, e, o, M', rfl, ok, er, hm, w⟩ := q
  cases hm
  exact w W rfl ok (Ext.refl W)
theorem jp_at {X : Cx} {a : Expr} {m : EM} (h : JE X a m) : JP X (some a) (pAt m) := PO.imp (po_some h) fun σ H Q q => by
  obtain ⟨W, e, o, M', rfl, ok, er, hm, w⟩ := q
  unfold pAt at hm
  split at hm
  · rename_i i N1 h1
    cases hm
    refine ⟨W, e, .int i, _, rfl, ok, er, h1, fun W1 v1 e1 ok1 x1 r1 => ?_⟩
    simp only [VRel] at r1
    exact ⟨i, r1, w W1 e1 ok1 x1⟩
  · cases hm
def cut {α : Type} (l : List α) (lo hi : Option Int) : List α := (l.drop (HT.sIx l.length 0 lo)).take (HT.sIx l.length l.length hi - HT.sIx l.length 0 lo)
theorem cut_rel {K : PySem.W.Frag} {W : Wd} {ds : List D} {vs : List V} (r : VRels K W ds vs) (lo hi : Option Int) : VRels K W (cut ds lo hi) (cutV vs lo hi) := by
  unfold cut cutV
  rw [VRels.length r]
  exact VRels.take _ (VRels.drop _ r)
theorem cut_all {α : Type} (l : List α) (lo hi : Option Int) (h : HT.sIx l.length 0 lo = 0 ∧ HT.sIx l.length l.length hi = l.length) : cut l lo hi = l := by
  unfold cut
  rw [h.1, h.2]
  simp
def dSlc (x : D) (lo hi : Option Int) (M : Sto) : Option D := match x with
  | .str z => if z.length ≤ sizeLine then some (.str (cutS z lo hi)) else none
  | .tup l => some (.tup (cut l lo hi))
  | x => match asLk x M with
    | some l => some (.lst (cut l lo hi))
    | none => none
def eSlc (a : EM) (lo hi : PM) : EM := fun e M => match a e M with
  | some (x, M1) => (match lo e M1 with
    | some (l, M2) => (match hi e M2 with
      | some (h, M3) => (dSlc x l h M3).map fun d => (d, M3)
      | none => none)
    | none => none)
  | none => none
def rdSl (K : PySem.W.Frag) : V → Option Int → Option Int → Hp → VK → Prop := fun x lo hi H Q => ∃ W dx d, W.H = H ∧ Ok K W ∧ VRel K W dx x ∧ dSlc dx lo hi W.M = some d ∧ wE K W W.M d Q
theorem sl_rd {X : Cx} : SlR X (rdSl X.K) := by
  intro pins s σ H x v vl vu lo hi sl Q I rx hs pl pu q
  obtain ⟨W, dx, d, rfl, ok, r1, hf, w⟩ := q
  unfold dSlc at hf
  split at hf
  · split at hf
    · cases hf
      simp only [VRel] at r1
      exact sl_str pins s σ _ x v vl vu lo hi sl Q I rx hs pl pu ⟨_, r1, by assumption, w.flat ok (by simp only [VRel])⟩
    · cases hf
  · cases hf
    have r1' := r1
    simp only [VRel] at r1
    obtain ⟨a, xs, rfl, h1, h2, h3⟩ := r1
    have hl := VRels.length h3
    refine sl_tupA pins s σ _ _ v vl vu lo hi sl Q I rx hs pl pu ⟨a, xs, rfl, SqT.of h1, fun c => ?_, fun c p hp => w.tup ok (cut_rel h3 lo hi) hp⟩
    rw [← hl] at c
    rw [cut_all _ _ _ c] at w
    exact w.flat ok r1'
  · split at hf
    · rename_i l e
      cases hf
      obtain ⟨p, xs, rfl, h1, h2⟩ := asLk_rel ok r1 e
      exact sl_list pins s σ _ _ v vl vu lo hi sl Q I rx hs pl pu ⟨p, xs, rfl, h1, fun p hp => w.lst ok (cut_rel h2 lo hi) hp⟩
    · cases hf
theorem je_slc {X : Cx} {a : Expr} {lo hi : Option Expr} {ma : EM} {ml mh : PM} {pos p2 : Pos} (ha : JE X a ma) (hl : JP X lo ml) (hh : JP X hi mh) : JE X (.Subscript a (.Slice lo hi none p2) pos) (eSlc ma ml mh) := by
  refine PE.imp (pe_slice sl_rd ha hl hh) fun σ H Q q => ?_
  obtain ⟨W, e, d, M', rfl, ok, er, hm, w⟩ := q
  unfold eSlc at hm
  split at hm
  · rename_i x N1 h1
    split at hm
    · rename_i l N2 h2
      split at hm
      · rename_i h N3 h3
        cases hf : dSlc x l h N3 with
        | none => rw [hf] at hm; cases hm
        | some z =>
          rw [hf] at hm
          cases hm
          refine ⟨W, e, x, N1, rfl, ok, er, h1, fun W1 v1 e1 ok1 x1 r1 => ⟨W1, e, l, N2, rfl, ok1, er.ext ok x1, by rw [e1]; exact h2, fun W2 e2 ok2 x2 => ⟨W2, e, h, _, rfl, ok2, (er.ext ok x1).ext ok1 x2, by rw [e2]; exact h3, fun W3 e3 ok3 x3 => ?_⟩⟩⟩
          refine ⟨W3, x, d, rfl, ok3, VRel.ext ok2 x3 _ _ (VRel.ext ok1 x2 _ _ r1), by rw [e3]; exact hf, fun W4 v4 e4 ok4 x4 r4 => ?_⟩
          exact w W4 v4 (e4.trans e3) ok4 (((x1.trans x2).trans x3).trans x4) r4
      · cases hm
    · cases hm
  · cases hm
end DV

end

section
set_option Elab.async false
set_option linter.all false
set_option maxRecDepth 100000
/-! Dv4: calls of built-ins, methods of lists and texts, fields -/
namespace DV
open PySem PySem.Spec PyProof.Rows L2

/-! ### calls by values -/
def eB (f : List D → Sto → Option D) (r : AM) : EM := fun e M => match r e M with
  | some (ds, M1) => (f ds M1).map fun d => (d, M1)
  | none => none
section
variable {X : Cx} {pos p : Pos} {x : Str} {e : Expr} {es : List Expr} {mr : AM} {f : List D → Sto → Option D} {id T : String}
theorem rd_cb {K : PySem.W.Frag} {σ : L2.St} {H : Hp} {Q : VK} (q : rdE K (eB f mr) σ H Q) : tCB (rdC K f) (rdA K mr) σ H Q := by
  obtain ⟨W, e, d, M', rfl, ok, er, hm, w⟩ := q
  unfold eB at hm
  split at hm
  · rename_i ds N1 h1
    cases hf : f ds N1 with
    | none => rw [hf] at hm; cases hm
    | some z =>
      rw [hf] at hm
      cases hm
      exact ⟨W, e, ds, _, rfl, ok, er, h1, fun W1 vs e1 ok1 x1 r1 => ⟨W1, ds, d, rfl, ok1, r1, by rw [e1]; exact hf, fun W2 v2 e2 ok2 x2 r2 => w W2 v2 (e2.trans e1) ok2 (x1.trans x2) r2⟩⟩
  · cases hm
theorem je_cb (hc : CallR X (.builtin id) (rdC X.K f)) (hg : Gl X x) (hm : X.mg x = none) (hv : bootBuiltins x = some (.builtin id)) (ha : JA X (e :: es) mr) (hn : x ≠ "__name__" := by decide) (hdb : (x == ("__debug__" : Str)) = false := by decide)
    (he : starEach (e :: es) X.env = (false, eval e X.env) :: starEach es X.env := by rfl) (hpl : (backTo pos (starEach es X.env)).any (·.1) = false := by rfl) : JE X (.Call (.Name x p) (e :: es) [] pos) (eB f mr) :=
  PE.imp (pe_callB hc hg hm hv ha hn hdb he hpl) fun _ _ _ q => rd_cb q
theorem je_ct (hc : CallR X (.type T) (rdC X.K f)) (hg : Gl X x) (hm : X.mg x = none) (hv : bootBuiltins x = some (.type T)) (ha : JA X (e :: es) mr) (hn : x ≠ "__name__" := by decide) (hdb : (x == ("__debug__" : Str)) = false := by decide)
    (he : starEach (e :: es) X.env = (false, eval e X.env) :: starEach es X.env := by rfl) (hpl : (backTo pos (starEach es X.env)).any (·.1) = false := by rfl) : JE X (.Call (.Name x p) (e :: es) [] pos) (eB f mr) :=
  PE.imp (pe_callTy hc hg hm hv ha hn hdb he hpl) fun _ _ _ q => rd_cb q
/-- a call that makes a list -/
def rdCF (K : PySem.W.Frag) (f : List D → Sto → Option (List D)) : List V → Hp → VK → Prop := fun xs H Q => ∃ W ds l, W.H = H ∧ Ok K W ∧ VRels K W ds xs ∧ f ds W.M = some l ∧ ∀ vs p, VRels K W l vs → W.H p = none → Q (.ref p) (upd W.H p (.lst vs))
def fB (f : List D → Sto → Option (List D)) (r : AM) : AM := fun e M => match r e M with
  | some (ds, M1) => (f ds M1).map fun d => (d, M1)
  | none => none
theorem jf_ct {g : List D → Sto → Option (List D)} (hc : CallR X (.type T) (rdCF X.K g)) (hg : Gl X x) (hm : X.mg x = none) (hv : bootBuiltins x = some (.type T)) (ha : JA X (e :: es) mr) (hn : x ≠ "__name__" := by decide) (hdb : (x == ("__debug__" : Str)) = false := by decide)
    (he : starEach (e :: es) X.env = (false, eval e X.env) :: starEach es X.env := by rfl) (hpl : (backTo pos (starEach es X.env)).any (·.1) = false := by rfl) : JF X (.Call (.Name x p) (e :: es) [] pos) (fB g mr) := by
  refine PE.imp (pe_callTy hc hg hm hv ha hn hdb he hpl) fun σ H Q q => ?_
  obtain ⟨W, e, d, M', rfl, ok, er, hm, w⟩ := q
  unfold fB at hm
  split at hm
  · rename_i ds N1 h1
    cases hf : g ds N1 with
    | none => rw [hf] at hm; cases hm
    | some z =>
      rw [hf] at hm
      cases hm
      exact ⟨W, e, ds, _, rfl, ok, er, h1, fun W1 vs e1 ok1 x1 r1 => ⟨W1, ds, d, rfl, ok1, r1, by rw [e1]; exact hf, fun us p r2 hp => w W1 us p e1 ok1 x1 r2 hp⟩⟩
  · cases hm
theorem callC {v : Value} {f : List D → Sto → Option D} (h : ∀ (pins : List (Addr × Obj)) (s : Shared) (σ : L2.St) (xs : List V) (us : List Value) (Q : VK) (W : Wd) (ds : List D) (d : D), Inv X pins σ W.H s → Vals xs us → Ok X.K W → VRels X.K W ds xs →
    f ds W.M = some d → wE X.K W W.M d Q → wpAny (model X.prog X.w) X.A (call v us) (EP X pins σ Q) X.xe s) : CallR X v (rdC X.K f) := by
  intro pins s σ H xs us Q I rs q
  obtain ⟨W, ds, d, rfl, ok, r, hf, w⟩ := q
  exact h pins s σ xs us Q W ds d I rs ok r hf w
theorem VRels.one {K : PySem.W.Frag} {W : Wd} {d : D} {xs : List V} (r : VRels K W [d] xs) : ∃ v, xs = [v] ∧ VRel K W d v := by
  simp only [VRels] at r
  obtain ⟨v, r', rfl, h1, rfl⟩ := r
  exact ⟨v, rfl, h1⟩
theorem VRels.two {K : PySem.W.Frag} {W : Wd} {d c : D} {xs : List V} (r : VRels K W [d, c] xs) : ∃ v u, xs = [v, u] ∧ VRel K W d v ∧ VRel K W c u := by
  simp only [VRels] at r
  obtain ⟨v, r', rfl, h1, u, r2, rfl, h2, rfl⟩ := r
  exact ⟨v, u, rfl, h1, h2⟩

def cLen : List D → Sto → Option D := fun ds M => match ds with
  | [.str z] => if z.length ≤ sizeLine then some (.int z.length) else none
  | [d] => match asT d with
    | some l => some (.int l.length)
    | none => match asLk d M with
      | some l => some (.int l.length)
      | none => none
  | _ => none
theorem c_len : CallR X (.builtin "len") (rdC X.K cLen) := callC fun pins s σ xs us Q W ds d I rs ok r hf w => by
  unfold cLen at hf
  split at hf
  · split at hf
    · cases hf
      obtain ⟨v, rfl, h1⟩ := VRels.one r
      simp only [VRel] at h1
      subst h1
      exact call_len_str pins s σ _ _ us Q I rs ⟨_, rfl, by assumption, w.flat ok (by simp only [VRel])⟩
    · cases hf
  · obtain ⟨v, rfl, h1⟩ := VRels.one r
    split at hf
    · rename_i l e
      cases hf
      obtain ⟨p, ys, rfl, g1, g2⟩ := asT_rel h1 e
      exact call_len_seq pins s σ _ _ us Q I rs ⟨p, ys, rfl, .inr g1, by rw [← VRels.length g2]; exact w.flat ok (by simp only [VRel])⟩
    · split at hf
      · rename_i l e
        cases hf
        obtain ⟨p, ys, rfl, g1, g2⟩ := asLk_rel ok h1 e
        exact call_len_seq pins s σ _ _ us Q I rs ⟨p, ys, rfl, .inl g1, by rw [← VRels.length g2]; exact w.flat ok (by simp only [VRel])⟩
      · cases hf
  · cases hf
def cInt : List D → Sto → Option D := fun ds _ => match ds with
  | [.int i] => some (.int i)
  | [.bl b] => some (.int (if b then 1 else 0))
  | _ => none
theorem c_int : CallR X (.type "int") (rdC X.K cInt) := callC fun pins s σ xs us Q W ds d I rs ok r hf w => by
  unfold cInt at hf
  split at hf
  · cases hf
    obtain ⟨v, rfl, h1⟩ := VRels.one r
    simp only [VRel] at h1
    subst h1
    exact call_int1 pins s σ _ _ us Q I rs (.inl ⟨_, rfl, w.flat ok (by simp only [VRel])⟩)
  · cases hf
    obtain ⟨v, rfl, h1⟩ := VRels.one r
    simp only [VRel] at h1
    subst h1
    exact call_int1 pins s σ _ _ us Q I rs (.inr ⟨_, rfl, w.flat ok (by simp only [VRel])⟩)
  · cases hf
def cTuple : List D → Sto → Option D := fun ds M => match ds with
  | [.tup l] => some (.tup l)
  | [.kt l] => some (.kt l)
  | [d] => match asLk d M with
    | some l => some (.tup l)
    | none => none
  | _ => none
theorem c_tuple : CallR X (.type "tuple") (rdC X.K cTuple) := callC fun pins s σ xs us Q W ds d I rs ok r hf w => by
  unfold cTuple at hf
  split at hf
  · cases hf
    obtain ⟨v, rfl, h1⟩ := VRels.one r
    obtain ⟨p, ys, rfl, g1, g2⟩ := asT_rel h1 rfl
    exact call_tuple_of pins s σ _ _ us Q I rs ⟨p, ys, rfl, .inr ⟨g1, w.flat ok h1⟩⟩
  · cases hf
    obtain ⟨v, rfl, h1⟩ := VRels.one r
    obtain ⟨p, ys, rfl, g1, g2⟩ := asT_rel h1 rfl
    exact call_tuple_of pins s σ _ _ us Q I rs ⟨p, ys, rfl, .inr ⟨g1, w.flat ok h1⟩⟩
  · obtain ⟨v, rfl, h1⟩ := VRels.one r
    split at hf
    · rename_i l e
      cases hf
      obtain ⟨p, ys, rfl, g1, g2⟩ := asLk_rel ok h1 e
      exact call_tuple_of pins s σ _ _ us Q I rs ⟨p, ys, rfl, .inl ⟨g1, fun q hq => w.tup ok g2 hq⟩⟩
    · cases hf
  · cases hf
def cList : List D → Sto → Option (List D) := fun ds M => match ds with
  | [d] => match asT d with
    | some l => some l
    | none => asLk d M
  | _ => none
theorem c_list : CallR X (.type "list") (rdCF X.K cList) := by
  intro pins s σ H xs us Q I rs q
  obtain ⟨W, ds, d, rfl, ok, r, hf, w⟩ := q
  unfold cList at hf
  split at hf
  · obtain ⟨v, rfl, h1⟩ := VRels.one r
    split at hf
    · rename_i l e
      cases hf
      obtain ⟨p, ys, rfl, g1, g2⟩ := asT_rel h1 e
      exact call_list_of pins s σ _ _ us Q I rs ⟨p, ys, rfl, .inr g1, fun q hq => w ys q g2 hq⟩
    · obtain ⟨p, ys, rfl, g1, g2⟩ := asLk_rel ok h1 hf
      exact call_list_of pins s σ _ _ us Q I rs ⟨p, ys, rfl, .inl g1, fun q hq => w ys q g2 hq⟩
  · cases hf
def asBls : List D → Option (List Bool)
  | [] => some []
  | .bl b :: r => (asBls r).map (b :: ·)
  | _ => none
theorem asBls_eq : ∀ {ds : List D} {bs : List Bool}, asBls ds = some bs → ds = bs.map D.bl
  | [], bs, h => by simp only [asBls] at h; cases h; rfl
  | d :: ds, bs, h => by
    cases d <;> simp only [asBls] at h <;> try cases h
    cases e : asBls ds with
    | none => rw [e] at h; cases h
    | some c => rw [e] at h; cases h; rw [asBls_eq e]; rfl
def asInts : List D → Option (List Int)
  | [] => some []
  | .int b :: r => (asInts r).map (b :: ·)
  | _ => none
theorem asInts_eq : ∀ {ds : List D} {bs : List Int}, asInts ds = some bs → ds = bs.map D.int
  | [], bs, h => by simp only [asInts] at h; cases h; rfl
  | d :: ds, bs, h => by
    cases d <;> simp only [asInts] at h <;> try cases h
    cases e : asInts ds with
    | none => rw [e] at h; cases h
    | some c => rw [e] at h; cases h; rw [asInts_eq e]; rfl
def asStrs : List D → Option (List Str)
  | [] => some []
  | .str b :: r => (asStrs r).map (b :: ·)
  | _ => none
theorem asStrs_eq : ∀ {ds : List D} {bs : List Str}, asStrs ds = some bs → ds = bs.map D.str
  | [], bs, h => by simp only [asStrs] at h; cases h; rfl
  | d :: ds, bs, h => by
    cases d <;> simp only [asStrs] at h <;> try cases h
    cases e : asStrs ds with
    | none => rw [e] at h; cases h
    | some c => rw [e] at h; cases h; rw [asStrs_eq e]; rfl
def cAll : List D → Sto → Option D := fun ds M => match ds with
  | [d] => (match asLk d M with
    | some l => (asBls l).map fun bs => .bl (bs.all fun b => b)
    | none => none)
  | _ => none
def cAny : List D → Sto → Option D := fun ds M => match ds with
  | [d] => (match asLk d M with
    | some l => (asBls l).map fun bs => .bl (bs.any fun b => b)
    | none => none)
  | _ => none
def cSum : List D → Sto → Option D := fun ds M => match ds with
  | [d] => (match asT d with
    | some l => (asInts l).map fun bs => .int bs.sum
    | none => (match asLk d M with
      | some l => (asInts l).map fun bs => .int bs.sum
      | none => none))
  | _ => none
section
variable {prog : Program} {w : World} {A : Around} {E : Value → Shared → Prop} {s : Shared} {l : Addr}
theorem sum_intTupG {xs : Array (Int × Tok)} {Q : Value → Shared → Prop} (hh : A.handled = none) (hl : s.heap.IsTuple l (intItems xs))
    (h : ∀ h' tk t', (∀ b o, s.heap.get? b = some o → h'.get? b = some o) → Q (.int (preSum (numAt xs) xs.size) t') { s with heap := h', toks := tk }) :
    wpAny (model prog w) A (call (.builtin "sum") [.ref l]) Q E s := by
  have hlt : l < s.heap.objs.size := by obtain ⟨_, e, _⟩ := hl; exact Heap.lt_size e
  refine call_sum_walkG (wpAny_pyIter_tuple hl ?_)
  refine ⟨_, _, _, _, _, _, numAt xs, rfl, Walks.tuple (A := A.in1) hh _ l (Nat.ne_of_lt hlt) (intItems xs), ⟨⟨_, Heap.get?_push_size _ rfl, rfl, rfl⟩, hl.push _⟩, fun b hb => ?_, (fun _ _ => intItems_at), fun h' tk t' hk => ?_⟩
  · show b < (s.heap.push _).objs.size
    rw [Heap.size_push]
    rcases List.mem_cons.mp hb with rfl | hb
    · exact Nat.lt_succ_self _
    · rcases List.mem_cons.mp hb with rfl | hb
      · exact Nat.lt_succ_of_lt hlt
      · cases hb
  · have := h h' tk t' (fun b o e => hk b o (fun hm => by
      rcases List.mem_cons.mp hm with e1 | hm
      · exact absurd (e1 ▸ Heap.lt_size e) (Nat.lt_irrefl _)
      · cases hm) (Heap.get?_push_of_some _ e))
    simpa [intItems] using this
theorem sum_rawT {its : List Value} {ns : List Int} {Q : Value → Shared → Prop} (hh : A.handled = none) (hl : s.heap.IsTuple l its.toArray) (hi : IntsAre its ns)
    (h : ∀ h' tk t', (∀ b o, s.heap.get? b = some o → h'.get? b = some o) → Q (.int ns.sum t') { s with heap := h', toks := tk }) : wpAny (model prog w) A (call (.builtin "sum") [.ref l]) Q E s := by
  obtain ⟨xs, e⟩ := hi.allInts.items
  have hn : numsOf (intItems xs).toList = ns := by rw [← e]; exact hi.numsOf
  rw [nums_intItems] at hn
  rw [e] at hl
  refine sum_intTupG hh hl fun h' tk t' hk => ?_
  have := h h' tk t' hk
  rw [preSum_eq, List.take_of_length_le (by simp), hn]; exact this
end
theorem cr_sumT (hc : X.calm = true) : CallR X (.builtin "sum") (fun vs H Q => ∃ (a : Addr) (ns : List Int), vs = [V.ref a] ∧ SqT X.K H a (ns.map V.int) ∧ Q (.int ns.sum) H) := by
  intro pins s σ H vs us Q I r h
  obtain ⟨a, ns, rfl, hs, q⟩ := h
  obtain ⟨its, rv, hl, _⟩ := I.tuple hs
  rw [Vals.ref1 r]
  exact sum_rawT (I.ok.hd hc) (show s.heap.IsTuple a its.toArray from hl) rv.ints fun h' tk t' hk => ⟨.int _, H, I.kept hk, ⟨_, rfl⟩, q⟩
theorem c_all (hc : X.calm = true) : CallR X (.builtin "all") (rdC X.K cAll) := callC fun pins s σ xs us Q W ds d I rs ok r hf w => by
  unfold cAll at hf
  split at hf
  · obtain ⟨v, rfl, h1⟩ := VRels.one r
    split at hf
    · rename_i l e
      cases eb : asBls l with
      | none => rw [eb] at hf; cases hf
      | some bs =>
        rw [eb] at hf
        cases hf
        obtain ⟨p, ys, rfl, g1, g2⟩ := asLk_rel ok h1 e
        rw [asBls_eq eb] at g2
        rw [VRels.bls g2] at g1
        exact cr_all hc pins s σ _ _ us Q I rs ⟨p, bs, rfl, g1, w.flat ok (by simp only [VRel]; rfl)⟩
    · cases hf
  · cases hf
theorem c_any (hc : X.calm = true) : CallR X (.builtin "any") (rdC X.K cAny) := callC fun pins s σ xs us Q W ds d I rs ok r hf w => by
  unfold cAny at hf
  split at hf
  · obtain ⟨v, rfl, h1⟩ := VRels.one r
    split at hf
    · rename_i l e
      cases eb : asBls l with
      | none => rw [eb] at hf; cases hf
      | some bs =>
        rw [eb] at hf
        cases hf
        obtain ⟨p, ys, rfl, g1, g2⟩ := asLk_rel ok h1 e
        rw [asBls_eq eb] at g2
        rw [VRels.bls g2] at g1
        exact cr_any hc pins s σ _ _ us Q I rs ⟨p, bs, rfl, g1, w.flat ok (by simp only [VRel]; rfl)⟩
    · cases hf
  · cases hf
theorem c_sum (hc : X.calm = true) : CallR X (.builtin "sum") (rdC X.K cSum) := callC fun pins s σ xs us Q W ds d I rs ok r hf w => by
  unfold cSum at hf
  split at hf
  · obtain ⟨v, rfl, h1⟩ := VRels.one r
    split at hf
    · rename_i l e
      cases eb : asInts l with
      | none => rw [eb] at hf; cases hf
      | some bs =>
        rw [eb] at hf
        cases hf
        obtain ⟨p, ys, rfl, g1, g2⟩ := asT_rel h1 e
        rw [asInts_eq eb] at g2
        rw [VRels.ints g2] at g1
        exact cr_sumT hc pins s σ _ _ us Q I rs ⟨p, bs, rfl, g1, w.flat ok (by simp only [VRel])⟩
    · split at hf
      · rename_i l e
        cases eb : asInts l with
        | none => rw [eb] at hf; cases hf
        | some bs =>
          rw [eb] at hf
          cases hf
          obtain ⟨p, ys, rfl, g1, g2⟩ := asLk_rel ok h1 e
          rw [asInts_eq eb] at g2
          rw [VRels.ints g2] at g1
          exact cr_sum hc pins s σ _ _ us Q I rs ⟨p, bs, rfl, g1, w.flat ok (by simp only [VRel])⟩
      · cases hf
  · cases hf

/-! ### isinstance with built-in types -/
def tyN : D → Sto → Option String
  | .non, _ => some "NoneType"
  | .bl _, _ => some "bool"
  | .int _, _ => some "int"
  | .str _, _ => some "str"
  | .tup _, _ => some "tuple"
  | .lst _, _ => some "list"
  | .ref r, M => match M[r]? with
    | some (.lst _) => some "list"
    | _ => none
  | _, _ => none
theorem tyN_rel {K : PySem.W.Frag} {W : Wd} {d : D} {v : V} {t : String} (ok : Ok K W) (r : VRel K W d v) (h : tyN d W.M = some t) : TyX K W.H v (.type t) := by
  unfold tyN at h
  split at h
  · cases h; simp only [VRel] at r; subst r; exact .base .non
  · cases h; simp only [VRel] at r; subst r; exact .base (.bl _)
  · cases h; simp only [VRel] at r; subst r; exact .base (.int _)
  · cases h; simp only [VRel] at r; subst r; exact .base (.str _)
  · cases h; simp only [VRel] at r; obtain ⟨a, xs, rfl, h1, _⟩ := r; exact .base (.tup h1)
  · cases h; simp only [VRel] at r; obtain ⟨a, xs, rfl, h1, _⟩ := r; exact .base (.lst h1)
  · split at h
    · rename_i hm
      cases h
      simp only [VRel] at r
      obtain ⟨xs, h1, h2⟩ := ok.obj _ _ hm
      rw [r.2]
      exact .base (.lst h1)
    · cases h
  · cases h
def eIsi (T : String) (a : EM) : EM := fun e M => match a e M with
  | some (d, M1) => (match tyN d M1 with
    | some t => (kitB t T).map fun b => (.bl b, M1)
    | none => none)
  | none => none
/-- isinstance(a, T), T a built-in type -/
theorem je_isi {a : Expr} {ma : EM} {y : Str} {py : Pos} (ha : JE X a ma) (hg : Gl X "isinstance") (hm : X.mg "isinstance" = none) (hgT : Gl X y) (hmT : X.mg y = none) (hvT : bootBuiltins y = some (.type T)) (hnT : y ≠ "__name__" := by decide)
    (hdT : (y == ("__debug__" : Str)) = false := by decide)
    (hs : starEach [a, .Name y py] X.env = (false, eval a X.env) :: starEach [.Name y py] X.env := by rfl) (hs2 : starEach [.Name y py] X.env = (false, eval (.Name y py) X.env) :: starEach [] X.env := by rfl)
    (hpl : (backTo pos (starEach [.Name y py] X.env)).any (·.1) = false := by rfl) :
    JE X (.Call (.Name "isinstance" p) [a, .Name y py] [] pos) (eIsi T ma) := by
  refine PE.imp (pe_callB call_isi hg hm PyProof.Rows.boot_isinstance (pa_cons ha (pa_cons (pe_bltn (v := .ty T) hgT hmT hvT rfl hnT hdT) pa_nil hs2) hs) (by decide) (by decide) hs hpl) fun σ H Q q => ?_
  obtain ⟨W, e, d, M', rfl, ok, er, hm, w⟩ := q
  unfold eIsi at hm
  split at hm
  · rename_i d' N1 h1
    split at hm
    · rename_i t e
      cases eb : kitB t T with
      | none => rw [eb] at hm; cases hm
      | some b =>
        rw [eb] at hm
        cases hm
        refine ⟨W, _, d', _, rfl, ok, er, h1, fun W1 v1 e1 ok1 x1 r1 => ?_⟩
        exact ⟨v1, .ty T, .type t, .type T, b, rfl, .ty T, tyN_rel ok1 r1 (by rw [e1]; exact e), kit_ty eb, w W1 _ e1 ok1 x1 (by simp only [VRel])⟩
    · cases hm
  · cases hm
def eIsi2 (T U : String) (a : EM) : EM := fun e M => match a e M with
  | some (d, M1) => (match tyN d M1 with
    | some t => (match kitB t T, kitB t U with
      | some b, some c => some (.bl (b || c), M1)
      | _, _ => none)
    | none => none)
  | none => none
/-- isinstance(a, (T, U)) -/
theorem je_isi2 {a : Expr} {ma : EM} {y z : Str} {py pz pt : Pos} {kt : Nat} {U : String} (ha : JE X a ma) (hg : Gl X "isinstance") (hm : X.mg "isinstance" = none) (hgT : Gl X y) (hmT : X.mg y = none) (hvT : bootBuiltins y = some (.type T))
    (hgU : Gl X z) (hmU : X.mg z = none) (hvU : bootBuiltins z = some (.type U)) (hnT : y ≠ "__name__" := by decide)
    (hdT : (y == ("__debug__" : Str)) = false := by decide) (hnU : z ≠ "__name__" := by decide)
    (hdU : (z == ("__debug__" : Str)) = false := by decide)
    (hs : starEach [a, .Tuple [.Name y py, .Name z pz] kt pt] X.env = (false, eval a X.env) :: starEach [.Tuple [.Name y py, .Name z pz] kt pt] X.env := by rfl)
    (hs2 : starEach [.Tuple [.Name y py, .Name z pz] kt pt] X.env = (false, eval (.Tuple [.Name y py, .Name z pz] kt pt) X.env) :: starEach [] X.env := by rfl)
    (hs3 : starEach [.Name y py, .Name z pz] X.env = (false, eval (.Name y py) X.env) :: starEach [.Name z pz] X.env := by rfl)
    (hs4 : starEach [.Name z pz] X.env = (false, eval (.Name z pz) X.env) :: starEach [] X.env := by rfl)
    (hpl : (backTo pos (starEach [.Tuple [.Name y py, .Name z pz] kt pt] X.env)).any (·.1) = false := by rfl) :
    JE X (.Call (.Name "isinstance" p) [a, .Tuple [.Name y py, .Name z pz] kt pt] [] pos) (eIsi2 T U ma) := by
  refine PE.imp (pe_callB call_isiT hg hm PyProof.Rows.boot_isinstance (pa_cons ha (pa_cons (pe_tup (pa_cons (pe_bltn (v := .ty T) hgT hmT hvT rfl hnT hdT) (pa_cons (pe_bltn (v := .ty U) hgU hmU hvU rfl hnU hdU) pa_nil hs4) hs3)) pa_nil hs2) hs) (by decide) (by decide) hs hpl) fun σ H Q q => ?_
  obtain ⟨W, e, d, M', rfl, ok, er, hm, w⟩ := q
  unfold eIsi2 at hm
  split at hm
  · rename_i d' N1 h1
    split at hm
    · rename_i t e
      split at hm
      · rename_i b c e1' e2'
        cases hm
        refine ⟨W, _, d', _, rfl, ok, er, h1, fun W1 v1 e1 ok1 x1 r1 => ⟨by show 2 ≤ sizeLine; decide, fun q hq => ?_⟩⟩
        have x2 := Wd.grow_ext (o := .tup [V.ty T, V.ty U]) hq
        have ok2 := Wd.grow_ok ok1 (o := .tup [V.ty T, V.ty U]) hq
        refine ⟨v1, q, [.ty T, .ty U], .type t, [.type T, .type U], b || c, rfl, upd_same, .cons (.ty T) (.cons (.ty U) .nil), tyN_rel ok2 (VRel.ext ok1 x2 _ _ r1) (by show tyN d' W1.M = _; rw [e1]; exact e), ?_, ?_⟩
        · refine kitAny_cons (kit_ty e1') (fun hb => ?_) (fun hb => by rw [hb]; rfl)
          subst hb
          refine kitAny_cons (kit_ty e2') (fun hc => ?_) (fun hc => by rw [hc]; rfl)
          subst hc
          rfl
        · exact w (W1.grow q (.tup [V.ty T, V.ty U])) _ e1 ok2 (x1.trans x2) (by simp only [VRel])
      · cases hm
    · cases hm
  · cases hm
end
end DV

end

section
set_option Elab.async false
set_option linter.all false
set_option maxRecDepth 100000
/-! Dv5: methods, fields, calls of own defs, making an object -/
namespace DV
open PySem PySem.Spec PyProof.Rows L2

/-! ### methods of built-ins -/
def rdM (K : PySem.W.Frag) (f : D → List D → Sto → Option (D × Sto)) : V → List V → Hp → VK → Prop := fun x xs H Q => ∃ W dx ds d M', W.H = H ∧ Ok K W ∧ VRel K W dx x ∧ VRels K W ds xs ∧ f dx ds W.M = some (d, M') ∧ wE K W M' d Q
def isTy (T : String) (d : D) (M : Sto) : Bool := if T = "list" then (asLk d M).isSome else if T = "str" then (match d with
  | .str _ => true
  | _ => false) else false
theorem isTy_rel {K : PySem.W.Frag} {W : Wd} {d : D} {v : V} {T : String} (ok : Ok K W) (r : VRel K W d v) (h : isTy T d W.M = true) : tyV K T v W.H := by
  unfold isTy at h
  split at h
  · rename_i hT
    cases e : asLk d W.M with
    | none => rw [e] at h; cases h
    | some l =>
      obtain ⟨a, xs, rfl, h1, h2⟩ := asLk_rel ok r e
      exact .inl ⟨hT, xs, h1⟩
  · split at h
    · rename_i hT
      split at h
      · simp only [VRel] at r
        subst r
        exact hT
      · cases h
    · cases h
def eM (T : String) (f : D → List D → Sto → Option (D × Sto)) (a : EM) (r : AM) : EM := fun e M => match a e M with
  | some (x, M1) => if isTy T x M1 then (match r e M1 with
    | some (ds, M2) => f x ds M2
    | none => none) else none
  | none => none
section
variable {X : Cx} {o e : Expr} {es : List Expr} {ma : EM} {mr : AM} {name : Str} {apos cpos : Pos} {T id : String} {f : D → List D → Sto → Option (D × Sto)}
theorem je_m (pa : PlainAttrs T) (slot : Slot T name id) (hty : typeOf (.builtin id) = pure (.type "method_descriptor")) (hm : MtR X id (rdM X.K f)) (ho : JE X o ma) (ha : JA X (e :: es) mr)
    (hbase : attributeBase o name X.env (eval o X.env) = eval o X.env := by rfl)
    (hfew : ((backTo cpos (starEach (e :: es) X.env)).all (fun x => !x.1) && (backToKw cpos (keywordEach [] X.env)).all (fun x => x.1.isSome)
      && decide ((e :: es).length + ([] : List Keyword).length + (if ([] : List Keyword).isEmpty then 0 else 1) < 30)) = true := by rfl)
    (hline : (apos.endLine == cpos.line) = true := by rfl) (hs : starEach (e :: es) X.env = (false, eval e X.env) :: starEach es X.env := by rfl) (hplain : (backTo cpos (starEach es X.env)).any (·.1) = false := by rfl) :
    JE X (.Call (.Attribute o name apos) (e :: es) [] cpos) (eM T f ma mr) := by
  refine PE.imp (pe_bm pa slot hty hm ho ha hbase hfew hline hs hplain) fun σ H Q q => ?_
  obtain ⟨W, en, d, M', rfl, ok, er, hm, w⟩ := q
  unfold eM at hm
  split at hm
  · rename_i x N1 h1
    split at hm
    · rename_i hty'
      split at hm
      · rename_i ds N2 h2
        refine ⟨W, en, x, N1, rfl, ok, er, h1, fun W1 v1 e1 ok1 x1 r1 => ⟨isTy_rel ok1 r1 (by rw [e1]; exact hty'), ?_⟩⟩
        refine ⟨W1, en, ds, N2, rfl, ok1, er.ext ok x1, by rw [e1]; exact h2, fun W2 vs e2 ok2 x2 r2 => ?_⟩
        exact ⟨W2, x, ds, d, M', rfl, ok2, VRel.ext ok1 x2 _ _ r1, r2, by rw [e2]; exact hm, fun W3 v3 e3 ok3 x3 r3 => w W3 v3 e3 ok3 ((x1.trans x2).trans x3) r3⟩
      · cases hm
    · cases hm
  · cases hm
def mApp : D → List D → Sto → Option (D × Sto) := fun x ds M => match x, ds with
  | .ref r, [d] => (match M[r]? with
    | some (.lst l) => if l.length < sizeLine then some (.non, M.set r (.lst (l ++ [d]))) else none
    | _ => none)
  | _, _ => none
def mExt : D → List D → Sto → Option (D × Sto) := fun x ds M => match x, ds with
  | .ref r, [d] => (match M[r]?, asL d M with
    | some (.lst l), some l2 => if l.length + l2.length ≤ sizeLine then some (.non, M.set r (.lst (l ++ l2))) else none
    | _, _ => none)
  | _, _ => none
def mPopAt : D → List D → Sto → Option (D × Sto) := fun x ds M => match x, ds with
  | .ref r, [.int i] => (match M[r]? with
    | some (.lst l) => if -(2 ^ 63) ≤ i ∧ i < 2 ^ 63 then (match ixN l.length i with
      | some k => (match l[k]? with
        | some d => some (d, M.set r (.lst (l.eraseIdx k)))
        | none => none)
      | none => none) else none
    | _ => none)
  | _, _ => none
def mJoin : D → List D → Sto → Option (D × Sto) := fun x ds M => match x, ds with
  | .str a, [d] => (match asLk d M with
    | some l => (match asStrs l with
      | some ys => if (ys.map (·.length)).sum + ys.length * a.length ≤ 16777216 then some (.str (Txt.join a ys), M) else none
      | none => none)
    | none => none)
  | _, _ => none
theorem lt_of_at {M : Sto} {r : Nat} {o : Ob} (h : M[r]? = some o) : r < M.length := (List.getElem?_eq_some_iff.mp h).1
theorem m_app : MtR X "list.append" (rdM X.K mApp) := by
  intro pins s σ H x xs v us Q I rx rs q
  obtain ⟨W, dx, ds, d, M', rfl, ok, r1, r2, hf, w⟩ := q
  unfold mApp at hf
  split at hf
  · rename_i r d'
    split at hf
    · rename_i l hl
      split at hf
      · rename_i hz
        cases hf
        simp only [VRel] at r1
        obtain ⟨h1, rfl⟩ := r1
        obtain ⟨y, rfl, hy⟩ := VRels.one r2
        obtain ⟨zs, g1, g2⟩ := ok.obj _ _ hl
        refine mt_append pins s σ _ _ _ v us Q I rx rs ⟨_, zs, y, rfl, rfl, g1, by rw [← VRels.length g2]; exact hz, ?_⟩
        have E := Wd.put_ext (ob := .lst (l ++ [d'])) (o := .lst (zs ++ [y])) h1
        exact w (W.put r (.lst (l ++ [d'])) (.lst (zs ++ [y]))) .non rfl (Wd.put_ok ok h1 ⟨_, upd_same, VRels.ext ok E _ _ (VRels.append g2 (VRels.cons hy VRels.nil))⟩) E (by simp only [VRel])
      · cases hf
    · cases hf
  · cases hf
theorem m_ext : MtR X "list.extend" (rdM X.K mExt) := by
  intro pins s σ H x xs v us Q I rx rs q
  obtain ⟨W, dx, ds, d, M', rfl, ok, r1, r2, hf, w⟩ := q
  unfold mExt at hf
  split at hf
  · rename_i r d'
    split at hf
    · rename_i l l2 hl hl2
      split at hf
      · rename_i hz
        cases hf
        simp only [VRel] at r1
        obtain ⟨h1, rfl⟩ := r1
        obtain ⟨y, rfl, hy⟩ := VRels.one r2
        obtain ⟨zs, g1, g2⟩ := ok.obj _ _ hl
        obtain ⟨b, ys, rfl, g3, g4⟩ := asL_rel ok hy hl2
        refine mt_extend pins s σ _ _ _ v us Q I rx rs ⟨_, b, zs, ys, rfl, rfl, g1, g3, by rw [← VRels.length g2, ← VRels.length g4]; exact hz, ?_⟩
        have E := Wd.put_ext (ob := .lst (l ++ l2)) (o := .lst (zs ++ ys)) h1
        exact w (W.put r (.lst (l ++ l2)) (.lst (zs ++ ys))) .non rfl (Wd.put_ok ok h1 ⟨_, upd_same, VRels.ext ok E _ _ (VRels.append g2 g4)⟩) E (by simp only [VRel])
      · cases hf
    · cases hf
  · cases hf
theorem m_popAt : MtR X "list.pop" (rdM X.K mPopAt) := by
  intro pins s σ H x xs v us Q I rx rs q
  obtain ⟨W, dx, ds, d, M', rfl, ok, r1, r2, hf, w⟩ := q
  unfold mPopAt at hf
  split at hf
  · rename_i r i
    split at hf
    · rename_i l hl
      split at hf
      · rename_i hz
        split at hf
        · rename_i k hk
          split at hf
          · rename_i d' hd
            cases hf
            simp only [VRel] at r1
            obtain ⟨h1, rfl⟩ := r1
            obtain ⟨y, rfl, hy⟩ := VRels.one r2
            simp only [VRel] at hy
            obtain ⟨zs, g1, g2⟩ := ok.obj _ _ hl
            obtain ⟨t, g3, g4⟩ := VRels.get g2 hd
            rw [VRels.length g2] at hk
            refine mt_popAt pins s σ _ _ _ v us Q I rx rs ⟨_, zs, i, k, t, rfl, by rw [hy], g1, hz.1, hz.2, (ixN_seq hk).1, g3, ?_⟩
            have E := Wd.put_ext (ob := .lst (l.eraseIdx k)) (o := .lst (zs.eraseIdx k)) h1
            exact w (W.put r (.lst (l.eraseIdx k)) (.lst (zs.eraseIdx k))) t rfl (Wd.put_ok ok h1 ⟨_, upd_same, VRels.ext ok E _ _ (VRels.eraseIdx k g2)⟩) E (VRel.ext ok E _ _ g4)
          · cases hf
        · cases hf
      · cases hf
    · cases hf
  · cases hf
theorem m_join : MtR X "str.join" (rdM X.K mJoin) := by
  intro pins s σ H x xs v us Q I rx rs q
  obtain ⟨W, dx, ds, d, M', rfl, ok, r1, r2, hf, w⟩ := q
  unfold mJoin at hf
  split at hf
  · split at hf
    · rename_i l hl
      split at hf
      · rename_i ys hys
        split at hf
        · rename_i hz
          cases hf
          simp only [VRel] at r1
          subst r1
          obtain ⟨y, rfl, hy⟩ := VRels.one r2
          obtain ⟨p, zs, rfl, g1, g2⟩ := asLk_rel ok hy hl
          rw [asStrs_eq hys] at g2
          rw [VRels.strs g2] at g1
          exact mt_join pins s σ _ _ _ v us Q I rx rs ⟨_, p, ys, rfl, rfl, .inl g1, hz, w W _ rfl ok (Ext.refl W) (by simp only [VRel])⟩
        · cases hf
      · cases hf
    · cases hf
  · cases hf
end

/-! ### fields -/
theorem lookup_rel {K : PySem.W.Frag} {W : Wd} {f : Str} : ∀ {ns : List Str} {ds : List D} {xs : List V} {d : D}, xs.length = ns.length → VRels K W ds xs → (ns.zip ds).lookup f = some d → ∃ v, (ns.zip xs).lookup f = some v ∧ VRel K W d v
  | [], ds, xs, d, hl, r, h => by simp at h
  | n :: ns, [], xs, d, hl, r, h => by simp at h
  | n :: ns, c :: ds, xs, d, hl, r, h => by
    simp only [VRels] at r
    obtain ⟨v, r', rfl, h1, h2⟩ := r
    rw [List.zip_cons_cons, List.lookup_cons] at h ⊢
    cases e : (f == n) with
    | true =>
      rw [e] at h
      cases h
      exact ⟨v, rfl, h1⟩
    | false =>
      rw [e] at h
      exact lookup_rel (by simpa using hl) h2 h
def getF (C f : Str) (d : D) (M : Sto) : Option D := match d with
  | .obj C' ns ds => if C' = C then (ns.zip ds).lookup f else none
  | .ref r => (match M[r]? with
    | some (.ins C' ns ds) => if C' = C then (ns.zip ds).lookup f else none
    | _ => none)
  | _ => none
def eFld (C f : Str) (a : EM) : EM := fun e M => match a e M with
  | some (x, M1) => (getF C f x M1).map fun d => (d, M1)
  | none => none
section
variable {X : Cx} {a : Expr} {ma : EM} {C f : Str} {pos : Pos}
theorem getF_rel {K : PySem.W.Frag} {W : Wd} {d c : D} {v : V} (ok : Ok K W) (r : VRel K W d v) (h : getF C f d W.M = some c) : ∃ p dx fs u, v = .ref p ∧ W.H p = some (.ins (He.ga K C) dx fs) ∧ fs.lookup f = some u ∧ VRel K W c u := by
  unfold getF at h
  split at h
  · split at h
    · rename_i hC
      subst hC
      simp only [VRel] at r
      obtain ⟨p, dx, xs, rfl, h1, h2, h3, h4⟩ := r
      obtain ⟨u, g1, g2⟩ := lookup_rel h3 h4 h
      exact ⟨p, dx, _, u, rfl, h1, g1, g2⟩
    · cases h
  · split at h
    · rename_i hm
      split at h
      · rename_i hC
        subst hC
        simp only [VRel] at r
        obtain ⟨dx, xs, h1, h3, h4⟩ := ok.obj _ _ hm
        obtain ⟨u, g1, g2⟩ := lookup_rel h3 h4 h
        exact ⟨_, dx, _, u, r.2, h1, g1, g2⟩
      · cases h
    · cases h
  · cases h
theorem je_fld (ha : JE X a ma) (hc : Cls X.K (He.ga X.K C)) (hn : NoAttr X.K (He.ga X.K C) f) (hb : attributeBase a f X.env (eval a X.env) = eval a X.env := by rfl) : JE X (.Attribute a f pos) (eFld C f ma) := by
  refine PE.imp (pe_fld ha hb) fun σ H Q q => ?_
  obtain ⟨W, e, d, M', rfl, ok, er, hm, w⟩ := q
  unfold eFld at hm
  split at hm
  · rename_i x N1 h1
    cases hf : getF C f x N1 with
    | none => rw [hf] at hm; cases hm
    | some z =>
      rw [hf] at hm
      cases hm
      refine ⟨W, e, x, _, rfl, ok, er, h1, fun W1 v1 e1 ok1 x1 r1 => ?_⟩
      obtain ⟨p, dx, fs, u, rfl, g1, g2, g3⟩ := getF_rel ok1 r1 (by rw [e1]; exact hf)
      exact ⟨p, _, dx, fs, u, rfl, g1, hc, hn, g2, w W1 u e1 ok1 x1 g3⟩
  · cases hm
end

/-! ### own defs -/
def spF (K : PySem.W.Frag) (n : Nat) (F : Fn) : Sp := fun vs H Q _ => ∃ W ds d M', W.H = H ∧ Ok K W ∧ VRels K W ds vs ∧ ds.length = n ∧ F ds W.M = some (d, M') ∧ wE K W M' d Q
def eCall (F : Fn) (n : Nat) (r : AM) : EM := fun e M => match r e M with
  | some (ds, M1) => if ds.length = n then F ds M1 else none
  | none => none
section
variable {X : Cx} {x : Str} {p pos : Pos} {e : Expr} {es : List Expr} {mr : AM} {F : Fn} {n k : Nat} {f : Addr} {fd : FuncData} {ps : List Str}
theorem rd_call {K : PySem.W.Frag} {σ : L2.St} {H : Hp} {Q : VK} (q : rdE K (eCall F n mr) σ H Q) : tCall (spF K n F) [] E0 (rdA K mr) σ H Q := by
  obtain ⟨W, e, d, M', rfl, ok, er, hm, w⟩ := q
  unfold eCall at hm
  split at hm
  · rename_i ds N1 h1
    split at hm
    · rename_i hl
      refine ⟨W, e, ds, N1, rfl, ok, er, h1, fun W1 vs e1 ok1 x1 r1 => ?_⟩
      exact ⟨W1, ds, d, M', rfl, ok1, by rw [List.append_nil]; exact r1, hl, by rw [e1]; exact hm, fun W2 v2 e2 ok2 x2 r2 => w W2 v2 e2 ok2 (x1.trans x2) r2⟩
    · cases hm
  · cases hm
theorem je_call (G : FnOk X.prog X.w X.K X.mg X.base CX0 k f fd ps (spF X.K n F)) (hr : Room k X.A) (hg : Gl X x) (hm : X.mg x = some (.ref f)) (hk : PySem.W.keepIn X.K (.ref f) = true) (hb : Binds X.K fd ps []) (ha : JA X (e :: es) mr)
    (hdb : (x == ("__debug__" : Str)) = false := by decide) (he : starEach (e :: es) X.env = (false, eval e X.env) :: starEach es X.env := by rfl) (hpl : (backTo pos (starEach es X.env)).any (·.1) = false := by rfl) :
    JE X (.Call (.Name x p) (e :: es) [] pos) (eCall F n mr) :=
  PE.imp (pe_call G hr hg hm hk hb .nil pass0 ha hdb he hpl) fun _ _ _ q => rd_call q
end

/-! ### what is made within a call, at its end -/
mutual
def below (n : Nat) : D → Bool
  | .ref r => decide (r < n)
  | .tup l => belows n l
  | .lst l => belows n l
  | .kl l => belows n l
  | .kt l => belows n l
  | .obj _ _ ds => belows n ds
  | _ => true
def belows (n : Nat) : List D → Bool
  | [] => true
  | d :: ds => below n d && belows n ds
end
def belowOb (n : Nat) : Ob → Bool
  | .lst l => belows n l
  | .ins _ _ ds => belows n ds
mutual
def freeze (n : Nat) (M : Sto) : D → Option D
  | .ref r => if r < n then some (.ref r) else (match M[r]? with
    | some (.lst l) => if belows n l then some (.lst l) else none
    | some (.ins C ns ds) => if belows n ds then some (.obj C ns ds) else none
    | none => none)
  | .tup l => (match freezes n M l with
    | some l' => some (.tup l')
    | none => none)
  | .lst l => (match freezes n M l with
    | some l' => some (.lst l')
    | none => none)
  | .obj C ns ds => if belows n ds then some (.obj C ns ds) else none
  | .kl l => if belows n l then some (.kl l) else none
  | .kt l => if belows n l then some (.kt l) else none
  | .non => some .non
  | .bl b => some (.bl b)
  | .int i => some (.int i)
  | .str x => some (.str x)
def freezes (n : Nat) (M : Sto) : List D → Option (List D)
  | [] => some []
  | d :: ds => (match freeze n M d, freezes n M ds with
    | some d', some ds' => some (d' :: ds')
    | _, _ => none)
end
section
variable {K : PySem.W.Frag} {W W' : Wd}
mutual
theorem VRel.below : ∀ (d : D) (v : V), VRel K W d v → below W.M.length d = true
  | .non, v, h => by simp only [DV.below]
  | .bl b, v, h => by simp only [DV.below]
  | .int i, v, h => by simp only [DV.below]
  | .str x, v, h => by simp only [DV.below]
  | .tup l, v, h => by simp only [VRel] at h; obtain ⟨a, xs, _, _, _, h3⟩ := h; simp only [DV.below]; exact VRels.belows l xs h3
  | .lst l, v, h => by simp only [VRel] at h; obtain ⟨a, xs, _, _, _, h3⟩ := h; simp only [DV.below]; exact VRels.belows l xs h3
  | .kl l, v, h => by simp only [VRel] at h; obtain ⟨a, xs, _, _, h3⟩ := h; simp only [DV.below]; exact VRels.belows l xs h3
  | .kt l, v, h => by simp only [VRel] at h; obtain ⟨a, xs, _, _, h3⟩ := h; simp only [DV.below]; exact VRels.belows l xs h3
  | .ref r, v, h => by simp only [VRel] at h; simp only [DV.below]; exact decide_eq_true h.1
  | .obj C ns ds, v, h => by simp only [VRel] at h; obtain ⟨a, dx, xs, _, _, _, _, h3⟩ := h; simp only [DV.below]; exact VRels.belows ds xs h3
theorem VRels.belows : ∀ (ds : List D) (vs : List V), VRels K W ds vs → belows W.M.length ds = true
  | [], vs, h => by simp only [DV.belows]
  | d :: ds, vs, h => by
    simp only [VRels] at h
    obtain ⟨v, r, rfl, h1, h2⟩ := h
    simp only [DV.belows, VRel.below d v h1, VRels.belows ds r h2, Bool.and_self]
end
/-- the heap of W' seen with the n first objects of the store and W's own ones -/
def Wd.back (W W' : Wd) : Wd := { W' with O := W.O, M := W'.M.take W.M.length }
theorem back_len (x : Ext W W') : (W.back W').M.length = W.M.length := by
  show (W'.M.take W.M.length).length = _
  rw [List.length_take]
  exact Nat.min_eq_left x.len
mutual
theorem VRel.back (x : Ext W W') : ∀ (d : D) (v : V), VRel K W' d v → DV.below W.M.length d = true → VRel K (W.back W') d v
  | .non, v, h, _ => by simpa only [VRel] using h
  | .bl b, v, h, _ => by simpa only [VRel] using h
  | .int i, v, h, _ => by simpa only [VRel] using h
  | .str x, v, h, _ => by simpa only [VRel] using h
  | .tup l, v, h, hb => by
    simp only [VRel] at h ⊢
    simp only [DV.below] at hb
    obtain ⟨a, xs, rfl, h1, h2, h3⟩ := h
    exact ⟨a, xs, rfl, h1, fun z => h2 (x.sub _ z), VRels.back x l xs h3 hb⟩
  | .lst l, v, h, hb => by
    simp only [VRel] at h ⊢
    simp only [DV.below] at hb
    obtain ⟨a, xs, rfl, h1, h2, h3⟩ := h
    exact ⟨a, xs, rfl, h1, fun z => h2 (x.sub _ z), VRels.back x l xs h3 hb⟩
  | .kl l, v, h, hb => by
    simp only [VRel] at h ⊢
    simp only [DV.below] at hb
    obtain ⟨a, xs, rfl, h1, h3⟩ := h
    refine ⟨a, xs, rfl, ?_, VRels.back x l xs h3 hb⟩
    rcases h1 with ⟨h1, h2⟩ | h1
    · exact .inl ⟨h1, fun z => h2 (x.sub _ z)⟩
    · exact .inr h1
  | .kt l, v, h, hb => by
    simp only [VRel] at h ⊢
    simp only [DV.below] at hb
    obtain ⟨a, xs, rfl, h1, h3⟩ := h
    exact ⟨a, xs, rfl, h1, VRels.back x l xs h3 hb⟩
  | .ref r, v, h, hb => by
    simp only [VRel] at h ⊢
    simp only [DV.below] at hb
    exact ⟨by rw [back_len x]; exact of_decide_eq_true hb, h.2⟩
  | .obj C ns ds, v, h, hb => by
    simp only [VRel] at h ⊢
    simp only [DV.below] at hb
    obtain ⟨a, dx, xs, rfl, h1, h2, h4, h3⟩ := h
    exact ⟨a, dx, xs, rfl, h1, fun z => h2 (x.sub _ z), h4, VRels.back x ds xs h3 hb⟩
theorem VRels.back (x : Ext W W') : ∀ (ds : List D) (vs : List V), VRels K W' ds vs → DV.belows W.M.length ds = true → VRels K (W.back W') ds vs
  | [], vs, h, _ => by simpa only [VRels] using h
  | d :: ds, vs, h, hb => by
    simp only [VRels] at h ⊢
    simp only [DV.belows, Bool.and_eq_true] at hb
    obtain ⟨v, r, rfl, h1, h2⟩ := h
    exact ⟨v, r, rfl, VRel.back x d v h1 hb.1, VRels.back x ds r h2 hb.2⟩
end
theorem ORel.back (x : Ext W W') {o : Ob} {a : Addr} (h : ORel K W' o a) (hb : belowOb W.M.length o = true) : ORel K (W.back W') o a := by
  cases o with
  | lst l => obtain ⟨xs, h1, h2⟩ := h; exact ⟨xs, h1, VRels.back x l xs h2 hb⟩
  | ins C ns ds => obtain ⟨dx, xs, h1, h3, h2⟩ := h; exact ⟨dx, xs, h1, h3, VRels.back x ds xs h2 hb⟩
/-- the old objects lean on nothing that goes -/
def Kept (M M' : Sto) : Prop := ∀ r o, r < M.length → M'[r]? = some o → M[r]? = some o ∨ belowOb M.length o = true
theorem ORel.below {o : Ob} {a : Addr} (h : ORel K W o a) : belowOb W.M.length o = true := by
  cases o with
  | lst l => obtain ⟨xs, h1, h2⟩ := h; exact VRels.belows l xs h2
  | ins C ns ds => obtain ⟨dx, xs, h1, h3, h2⟩ := h; exact VRels.belows ds xs h2
theorem Ok.back (ok : Ok K W) (x : Ext W W') (ok' : Ok K W') (hk : Kept W.M W'.M) : Ok K (W.back W') := by
  have hl := back_len x
  refine ⟨fun r s hr hs e => ok'.inj r s (by have := x.len; omega) (by have := x.len; omega) e, fun r hr => ?_, fun a h => x.trk a (ok.trk a h), fun r o e => ?_⟩
  · show W.O (W'.ρ r)
    rw [x.rho r (by omega)]
    exact ok.own r (by omega)
  · have hr : r < W.M.length := by
      have := lt_of_at e
      omega
    have e' : (W'.M.take W.M.length)[r]? = some o := e
    rw [List.getElem?_take_of_lt hr] at e'
    refine ORel.back x (ok'.obj r o e') ?_
    rcases hk r o hr e' with h | h
    · exact (ok.obj r o h).below
    · exact h
theorem Ext.back (x : Ext W W') : Ext W (W.back W') :=
  ⟨by rw [back_len x]; exact Nat.le_refl _, fun r h => x.rho r h, fun _ h => h, fun _ h => .inl h, fun r h1 h2 => by rw [back_len x] at h2; omega, x.keep, x.trk⟩
mutual
theorem VRel.freeze (ok : Ok K W) (x : Ext W W') (ok' : Ok K W') : ∀ (d : D) (v : V) (d' : D), VRel K W' d v → DV.freeze W.M.length W'.M d = some d' → VRel K (W.back W') d' v
  | .non, v, d', h, hf => by simp only [DV.freeze] at hf; cases hf; exact VRel.back x _ _ h (by simp only [DV.below])
  | .bl b, v, d', h, hf => by simp only [DV.freeze] at hf; cases hf; exact VRel.back x _ _ h (by simp only [DV.below])
  | .int i, v, d', h, hf => by simp only [DV.freeze] at hf; cases hf; exact VRel.back x _ _ h (by simp only [DV.below])
  | .str y, v, d', h, hf => by simp only [DV.freeze] at hf; cases hf; exact VRel.back x _ _ h (by simp only [DV.below])
  | .tup l, v, d', h, hf => by
    simp only [DV.freeze] at hf
    split at hf
    · rename_i l' e
      cases hf
      simp only [VRel] at h ⊢
      obtain ⟨a, xs, rfl, h1, h2, h3⟩ := h
      exact ⟨a, xs, rfl, h1, fun z => h2 (x.sub _ z), VRels.freezes ok x ok' l xs l' h3 e⟩
    · cases hf
  | .lst l, v, d', h, hf => by
    simp only [DV.freeze] at hf
    split at hf
    · rename_i l' e
      cases hf
      simp only [VRel] at h ⊢
      obtain ⟨a, xs, rfl, h1, h2, h3⟩ := h
      exact ⟨a, xs, rfl, h1, fun z => h2 (x.sub _ z), VRels.freezes ok x ok' l xs l' h3 e⟩
    · cases hf
  | .kl l, v, d', h, hf => by
    simp only [DV.freeze] at hf
    split at hf
    · rename_i e
      cases hf
      exact VRel.back x _ _ h (by simp only [DV.below]; exact e)
    · cases hf
  | .kt l, v, d', h, hf => by
    simp only [DV.freeze] at hf
    split at hf
    · rename_i e
      cases hf
      exact VRel.back x _ _ h (by simp only [DV.below]; exact e)
    · cases hf
  | .obj C ns ds, v, d', h, hf => by
    simp only [DV.freeze] at hf
    split at hf
    · rename_i e
      cases hf
      exact VRel.back x _ _ h (by simp only [DV.below]; exact e)
    · cases hf
  | .ref r, v, d', h, hf => by
    simp only [DV.freeze] at hf
    split at hf
    · rename_i e
      cases hf
      exact VRel.back x _ _ h (by simp only [DV.below]; exact decide_eq_true e)
    · rename_i hr
      have h' := h
      simp only [VRel] at h'
      have hO : ¬ W.O (W'.ρ r) := fun z => ok.trk _ z (x.fresh r (by omega) h'.1)
      split at hf
      · rename_i l e
        split at hf
        · rename_i hb
          cases hf
          obtain ⟨xs, h1, h2⟩ := ok'.obj _ _ e
          simp only [VRel]
          exact ⟨_, xs, h'.2, h1, hO, VRels.back x _ _ h2 hb⟩
        · cases hf
      · rename_i C ns ds e
        split at hf
        · rename_i hb
          cases hf
          obtain ⟨dx, xs, h1, h3, h2⟩ := ok'.obj _ _ e
          simp only [VRel]
          exact ⟨_, dx, xs, h'.2, h1, hO, h3, VRels.back x _ _ h2 hb⟩
        · cases hf
      · cases hf
theorem VRels.freezes (ok : Ok K W) (x : Ext W W') (ok' : Ok K W') : ∀ (ds : List D) (vs : List V) (ds' : List D), VRels K W' ds vs → DV.freezes W.M.length W'.M ds = some ds' → VRels K (W.back W') ds' vs
  | [], vs, ds', h, hf => by simp only [DV.freezes] at hf; cases hf; simpa only [VRels] using h
  | d :: ds, vs, ds', h, hf => by
    simp only [DV.freezes] at hf
    split at hf
    · rename_i c cs e1 e2
      cases hf
      simp only [VRels] at h ⊢
      obtain ⟨v, r, rfl, h1, h2⟩ := h
      exact ⟨v, r, rfl, VRel.freeze ok x ok' d v c h1 e1, VRels.freezes ok x ok' ds r cs h2 e2⟩
    · cases hf
end
end

open Classical in
/-- a def: its slots, its body; what it made is given out as values -/
noncomputable def retF (M : Sto) (d : D) (M' : Sto) : Option (D × Sto) := if Kept M M' then (match freeze M.length M' d with
  | some d' => some (d', M'.take M.length)
  | none => none) else none
noncomputable def fnD (n : Nat) (fz : Bool) (m : SM) : Fn := fun ds M => match m (ds.map some ++ List.replicate (n - ds.length) none) M with
  | some (.rt d, M') => if fz then retF M d M' else some (d, M')
  | some (.nx _, M') => if fz then retF M .non M' else some (.non, M')
  | _ => none
theorem erel_start {K : PySem.W.Frag} {W : Wd} {N : List Str} {ds : List D} {vs : List V} (r : VRels K W ds vs) : ERel K W (ds.map some ++ List.replicate (N.length - ds.length) none) (L2.start N vs) := by
  have hl := VRels.length r
  refine ⟨by unfold L2.start; simp [hl], fun i d e => ?_⟩
  have hi : i < ds.length := by
    by_cases hi : i < ds.length
    · exact hi
    · rw [List.getElem?_append_right (by simpa using hi), List.getElem?_replicate] at e
      split at e <;> cases e
  rw [List.getElem?_append_left (by simpa using hi), List.getElem?_map] at e
  cases q : ds[i]? with
  | none => rw [q] at e; cases e
  | some c =>
    rw [q] at e
    cases e
    obtain ⟨v, h1, h2⟩ := VRels.get r q
    exact ⟨v, by unfold L2.start; rw [List.getElem?_append_left (by simp; omega), List.getElem?_map, h1]; rfl, h2⟩
theorem wE.back {K : PySem.W.Frag} {W W' : Wd} {d d' : D} {M' : Sto} {v : V} {Q : VK} (ok : Ok K W) (hr : retF W.M d W'.M = some (d', M')) (w : wE K W M' d' Q) (ok' : Ok K W') (x : Ext W W') (r : VRel K W' d v) : Q v W'.H := by
  unfold retF at hr
  split at hr
  · rename_i hk
    split at hr
    · rename_i c e
      cases hr
      exact w (W.back W') v rfl (Ok.back ok x ok' hk) x.back (VRel.freeze ok x ok' d v _ r e)
    · cases hr
  · cases hr
theorem fn_ok {P : Program} {w : World} {K : PySem.W.Frag} {mg : Str → Option Value} {base : Heap} {x qual : Str} {params : Arguments} {body : List Stmt} {scope : Scope} {f : Addr} {fd : FuncData} {N ps : List Str} {k : Nat} {fz : Bool} {m : SM}
    (F : FunD K x qual params body scope [] [] f fd) (S : FnScope N ps scope)
    (hb : ∀ (cdv : Value) (A : Around) (outer : List PySem.Env) (s : Shared) (H : Hp) (E : XK), Room k (A.deeper (envOfC qual scope s.heap.objs.size f cdv)) → JSs (cxOf CX0 P w K mg base N qual scope f cdv A outer s H E).nox body m) :
    FnOk P w K mg base CX0 (k + 1) f fd ps (spF K ps.length (fnD N.length fz m)) := by
  refine F.ok S (fun vs H Q E h => ?_) (fun cdv A outer s H vs Q E hr h => ⟨_, PSs.nox (hb cdv A outer s H E hr), ?_⟩)
  · obtain ⟨W, ds, d, M', rfl, ok, r, hl, hf, q⟩ := h
    rw [← VRels.length r]; exact hl
  · obtain ⟨W, ds, d, M', rfl, ok, r, hl, hf, q⟩ := h
    unfold fnD at hf
    split at hf
    · rename_i d1 M1 h1
      refine ⟨W, _, _, M1, rfl, ok, erel_start r, h1, ?_⟩
      intro W1 v e1 ok1 x1 r1
      cases fz with
      | true => exact wE.back ok (by rw [e1]; exact hf) q ok1 x1 r1
      | false => cases hf; exact q W1 v e1 ok1 x1 r1
    · rename_i en M1 h1
      refine ⟨W, _, _, M1, rfl, ok, erel_start r, h1, ?_⟩
      intro W1 σ' e1 ok1 x1 r1
      have rn : VRel K W1 .non .non := by simp only [VRel]
      cases fz with
      | true => exact wE.back ok (by rw [e1]; exact hf) q ok1 x1 rn
      | false => cases hf; exact q W1 .non e1 ok1 x1 rn
    · cases hf
end DV

end

section
set_option Elab.async false
set_option linter.all false
set_option maxRecDepth 100000
/-! Dv6: targets, statements, loops, comprehensions, objects made -/
namespace DV
open PySem PySem.Spec PyProof.Rows L2

/-! ### wiped slots -/
theorem wipe_in {σ : L2.St} {i : Nat} : ∀ {vs : List Nat}, i ∈ vs → i < σ.length → (wipe σ vs)[i]? = some none
  | v :: vs, h, hl => by
    show ((wipe σ vs).set v none)[i]? = _
    by_cases e : v = i
    · subst e
      rw [List.getElem?_set_self (by rw [wipe_length]; exact hl)]
    · rw [List.getElem?_set_ne e]
      exact wipe_in ((List.mem_cons.mp h).resolve_left (fun z => e z.symm)) hl
theorem wipe_ext {σ τ : L2.St} {vs : List Nat} (hl : σ.length = τ.length) (h : ∀ i, i ∉ vs → σ[i]? = τ[i]?) : wipe σ vs = wipe τ vs := by
  apply List.ext_getElem?
  intro i
  by_cases hi : i ∈ vs
  · by_cases hl2 : i < σ.length
    · rw [wipe_in hi hl2, wipe_in hi (by omega)]
    · rw [List.getElem?_eq_none (by rw [wipe_length]; omega), List.getElem?_eq_none (by rw [wipe_length]; omega)]
  · rw [wipe_out hi, wipe_out hi, h i hi]
theorem wipe_idem (σ : L2.St) (vs : List Nat) : wipe (wipe σ vs) vs = wipe σ vs := wipe_ext (wipe_length _ _) fun _ hi => wipe_out hi
theorem wipe_set {σ : L2.St} {vs : List Nat} {i : Nat} {x : Option V} (hi : i ∈ vs) : wipe (σ.set i x) vs = wipe σ vs :=
  wipe_ext (by simp) fun j hj => List.getElem?_set_ne (fun (e : i = j) => hj (by rw [← e]; exact hi))

/-! ### targets -/
abbrev GsM := List D → Env → Option Env
def rdG (K : PySem.W.Frag) (vs : List Nat) (g : GM) : TG := fun v σ H Q => ∃ W e d e', W.H = H ∧ Ok K W ∧ ERel K W e σ ∧ VRel K W d v ∧ g d e = some e' ∧ ∀ σ', ERel K W e' σ' → wipe σ' vs = wipe σ vs → Q σ' H
def rdGs (K : PySem.W.Frag) (vs : List Nat) (g : GsM) : TGs := fun us σ H Q => ∃ W e ds e', W.H = H ∧ Ok K W ∧ ERel K W e σ ∧ VRels K W ds us ∧ g ds e = some e' ∧ ∀ σ', ERel K W e' σ' → wipe σ' vs = wipe σ vs → Q σ' H
abbrev JG (X : Cx) (vs : List Nat) (tg : Expr) (g : GM) : Prop := PG X tg (rdG X.K vs g)
abbrev JGs (X : Cx) (vs : List Nat) (tg : List Expr) (g : GsM) : Prop := PGs X tg (rdGs X.K vs g)
theorem PG.imp {X : Cx} {e : Expr} {t t' : TG} (h : PG X e t) (i : ∀ v σ H Q, t' v σ H Q → t v σ H Q) : PG X e t' := ⟨fun pins s σ H v u Q I r q => h.run pins s σ H v u Q I r (i _ _ _ _ q)⟩
theorem PGs.imp {X : Cx} {e : List Expr} {t t' : TGs} (h : PGs X e t) (i : ∀ v σ H Q, t' v σ H Q → t v σ H Q) : PGs X e t' := ⟨fun pins s σ H v u Q I r q => h.run pins s σ H v u Q I r (i _ _ _ _ q)⟩
def gN (i : Nat) : GM := fun d e => some (e.set i (some d))
def gNl : GsM := fun ds e => match ds with
  | [] => some e
  | _ => none
def gCs (g : GM) (r : GsM) : GsM := fun ds e => match ds with
  | d :: ds => (match g d e with
    | some e1 => r ds e1
    | none => none)
  | [] => none
def gT (n : Nat) (r : GsM) : GM := fun d e => match asT d with
  | some l => if l.length = n then r l e else none
  | none => none
section
variable {X : Cx} {vs : List Nat} {pos : Pos}
theorem jg_name {i : Nat} {x : Str} (h : PG X (.Name x pos) (gName i)) (hi : i ∈ vs := by decide) : JG X vs (.Name x pos) (gN i) := by
  refine PG.imp h fun v σ H Q q => ?_
  obtain ⟨W, e, d, e', rfl, ok, er, r, hg, w⟩ := q
  cases hg
  exact w _ (er.set r) (wipe_set hi)
theorem jgs_nil : JGs X vs [] gNl := by
  refine PGs.imp pgs_nil fun us σ H Q q => ?_
  obtain ⟨W, e, d, e', rfl, ok, er, r, hg, w⟩ := q
  unfold gNl at hg
  split at hg
  · cases hg
    simp only [VRels] at r
    exact ⟨r, w σ er rfl⟩
  · cases hg
theorem jgs_cons {t : Expr} {ts : List Expr} {g : GM} {r : GsM} (h1 : JG X vs t g) (h2 : JGs X vs ts r) (hs : (assignEach (t :: ts) X.env).map (·.2) = assign t X.env :: (assignEach ts X.env).map (·.2) := by rfl) : JGs X vs (t :: ts) (gCs g r) := by
  refine PGs.imp (pgs_cons h1 h2 hs) fun us σ H Q q => ?_
  obtain ⟨W, e, ds, e', rfl, ok, er, r, hg, w⟩ := q
  unfold gCs at hg
  split at hg
  · rename_i d ds'
    split at hg
    · rename_i e1 he1
      simp only [VRels] at r
      obtain ⟨v, us', rfl, r1, r2⟩ := r
      refine ⟨v, us', rfl, W, e, d, e1, rfl, ok, er, r1, he1, fun σ1 er1 hw1 => ?_⟩
      exact ⟨W, e1, ds', e', rfl, ok, er1, r2, hg, fun σ2 er2 hw2 => w σ2 er2 (hw2.trans hw1)⟩
    · cases hg
  · cases hg
theorem jg_tup {ts : List Expr} {k n : Nat} {r : GsM} (hc : X.calm = true) (h : JGs X vs ts r) (hn : (assignEach ts X.env).length = n := by rfl) (hst : (assignEach ts X.env).findIdx? (·.1) = none := by rfl) : JG X vs (.Tuple ts k pos) (gT n r) := by
  refine PG.imp (pg_tup hc h hn hst) fun v σ H Q q => ?_
  obtain ⟨W, e, d, e', rfl, ok, er, r, hg, w⟩ := q
  unfold gT at hg
  split at hg
  · rename_i l hl
    split at hg
    · rename_i hl2
      obtain ⟨a, xs, rfl, h1, h2⟩ := asT_rel r hl
      exact ⟨a, xs, rfl, h1, by rw [← VRels.length h2]; exact hl2, W, e, l, e', rfl, ok, er, h2, hg, w⟩
    · cases hg
  · cases hg
end

/-! ### statements -/
def sNext : SM := fun e M => some (.nx e, M)
def sSeq (a b : SM) : SM := fun e M => match a e M with
  | some (.nx e1, M1) => b e1 M1
  | r => r
def sAsg (m : EM) (g : GM) : SM := fun e M => match m e M with
  | some (d, M1) => (match g d e with
    | some e1 => some (.nx e1, M1)
    | none => none)
  | none => none
def sDrop (m : EM) : SM := fun e M => match m e M with
  | some (_, M1) => some (.nx e, M1)
  | none => none
def sRet (m : EM) : SM := fun e M => match m e M with
  | some (d, M1) => some (.rt d, M1)
  | none => none
def sRetN : SM := fun _ M => some (.rt .non, M)
def sIf (t : TM) (a b : SM) : SM := fun e M => match t e M with
  | some (true, M1) => a e M1
  | some (false, M1) => b e M1
  | none => none
def sStuck : SM := fun _ _ => none
section
variable {X : Cx} {st : Stmt} {rest body : List Stmt} {pos : Pos} {a b : SM} {m : EM} {g : GM} {t : TM} {e c tg : Expr} {vs : List Nat}
theorem jss_nil : JSs X [] sNext := PSs.imp pss_nil fun D σ H q => by
  obtain ⟨W, e, fl, M', rfl, ok, er, hm, w⟩ := q
  cases hm
  exact w W σ rfl ok (Ext.refl W) er
theorem rd_seq {K : PySem.W.Frag} {D : Ends} {σ : L2.St} {H : Hp} (q : rdS K (sSeq a b) D σ H) : tSeq (rdS K a) (rdS K b) D σ H := by
  obtain ⟨W, e, fl, M', rfl, ok, er, hm, w⟩ := q
  unfold sSeq at hm
  split at hm
  · rename_i e1 N1 h1
    refine ⟨W, e, _, N1, rfl, ok, er, h1, fun W1 σ1 q1 ok1 x1 er1 => ?_⟩
    refine ⟨W1, e1, fl, M', rfl, ok1, er1, by rw [q1]; exact hm, ?_⟩
    cases fl with
    | nx e2 => exact fun W2 σ2 q2 ok2 x2 er2 => w W2 σ2 q2 ok2 (x1.trans x2) er2
    | bk e2 => exact fun W2 σ2 q2 ok2 x2 er2 => w W2 σ2 q2 ok2 (x1.trans x2) er2
    | ct e2 => exact fun W2 σ2 q2 ok2 x2 er2 => w W2 σ2 q2 ok2 (x1.trans x2) er2
    | rt d => exact fun W2 v q2 ok2 x2 r2 => w W2 v q2 ok2 (x1.trans x2) r2
  · rename_i r hr
    refine ⟨W, e, fl, M', rfl, ok, er, hm, ?_⟩
    cases fl with
    | nx e2 => exact absurd hm (by intro z; exact hr _ _ z)
    | bk e2 => exact w
    | ct e2 => exact w
    | rt d => exact w
theorem jss_cons (h1 : JS X st a) (h2 : JSs X rest b) : JSs X (st :: rest) (sSeq a b) := PSs.imp (pss_cons h1 h2) fun _ _ _ q => rd_seq q
theorem jss_one (h1 : JS X st a) : JSs X [st] a := pss_one h1
theorem js_never : JS X st sStuck := PS.imp ps_never fun D σ H q => by
  obtain ⟨W, e, fl, M', rfl, ok, er, hm, w⟩ := q
  cases hm
theorem js_pass : JS X (.Pass pos) sNext := PS.imp ps_pass fun D σ H q => by
  obtain ⟨W, e, fl, M', rfl, ok, er, hm, w⟩ := q
  cases hm
  exact w W σ rfl ok (Ext.refl W) er
theorem rd_asg {K : PySem.W.Frag} {D : Ends} {σ : L2.St} {H : Hp} {te : TE} (i : ∀ σ H Q, rdE K m σ H Q → te σ H Q) (q : rdS K (sAsg m g) D σ H) : tAsg te (rdG K vs g) D σ H := by
  obtain ⟨W, e, fl, M', rfl, ok, er, hm, w⟩ := q
  unfold sAsg at hm
  split at hm
  · rename_i d N1 h1
    split at hm
    · rename_i e1 he1
      cases hm
      refine i _ _ _ ⟨W, e, d, _, rfl, ok, er, h1, fun W1 v1 q1 ok1 x1 r1 => ?_⟩
      exact ⟨W1, e, d, e1, rfl, ok1, er.ext ok x1, r1, he1, fun σ1 er1 _ => w W1 σ1 q1 ok1 x1 er1⟩
    · cases hm
  · cases hm
theorem js_asg (he : JE X e m) (hg : JG X vs tg g) (hs : swapsWithSole [tg] e pos.line X.env = pure false := by rfl) (hw : swappedStores [tg] e X.env = pure none := by rfl)
    (h1 : (assignEach [tg] X.env).map (·.2) = [assign tg X.env] := by rfl) : JS X (.Assign [tg] e pos) (sAsg m g) := PS.imp (ps_asg he hg hs hw h1) fun _ _ _ q => rd_asg (fun _ _ _ z => z) q
theorem js_set {i : Nat} {x : Str} {pos' : Pos} (h : ∀ {te : TE}, PE X e te → PS X (.Assign [.Name x pos'] e pos) (tAsg te (gName i))) (he : JE X e m) : JS X (.Assign [.Name x pos'] e pos) (sAsg m (gN i)) := by
  refine PS.imp (h he) fun D σ H q => ?_
  obtain ⟨W, e, fl, M', rfl, ok, er, hm, w⟩ := q
  unfold sAsg gN at hm
  split at hm
  · rename_i d N1 h1
    cases hm
    exact ⟨W, e, d, _, rfl, ok, er, h1, fun W1 v1 q1 ok1 x1 r1 => w W1 _ q1 ok1 x1 ((er.ext ok x1).set r1)⟩
  · cases hm
theorem js_expr (he : JE X e m) (hs : swapsWith e none pos.line X.env = pure false := by rfl) : JS X (.Expr e pos) (sDrop m) := by
  refine PS.imp (ps_expr he hs) fun D σ H q => ?_
  obtain ⟨W, e, fl, M', rfl, ok, er, hm, w⟩ := q
  unfold sDrop at hm
  split at hm
  · rename_i d N1 h1
    cases hm
    exact ⟨W, e, d, _, rfl, ok, er, h1, fun W1 v1 q1 ok1 x1 r1 => w W1 σ q1 ok1 x1 (er.ext ok x1)⟩
  · cases hm
theorem js_ret (he : JE X e m) : JS X (.Return (some e) pos) (sRet m) := by
  refine PS.imp (ps_ret he) fun D σ H q => ?_
  obtain ⟨W, e, fl, M', rfl, ok, er, hm, w⟩ := q
  unfold sRet at hm
  split at hm
  · rename_i d N1 h1
    cases hm
    exact ⟨W, e, d, _, rfl, ok, er, h1, fun W1 v1 q1 ok1 x1 r1 => w W1 v1 q1 ok1 x1 r1⟩
  · cases hm
theorem js_retN : JS X (.Return none pos) sRetN := PS.imp ps_retN fun D σ H q => by
  obtain ⟨W, e, fl, M', rfl, ok, er, hm, w⟩ := q
  cases hm
  exact w W .non rfl ok (Ext.refl W) (by simp only [VRel])
theorem js_if {as bs : List Stmt} (hc : JT X c t) (ha : JSs X as a) (hb : JSs X bs b) : JS X (.If c as bs pos) (sIf t a b) := by
  refine PS.imp (ps_if hc ha hb) fun D σ H q => ?_
  obtain ⟨W, e, fl, M', rfl, ok, er, hm, w⟩ := q
  unfold sIf at hm
  split at hm
  · rename_i N1 h1
    refine ⟨W, e, true, N1, rfl, ok, er, h1, fun W1 q1 ok1 x1 => ?_⟩
    refine iteT ?_
    refine ⟨W1, e, fl, M', rfl, ok1, er.ext ok x1, by rw [q1]; exact hm, ?_⟩
    cases fl with
    | nx e2 => exact fun W2 σ2 q2 ok2 x2 er2 => w W2 σ2 q2 ok2 (x1.trans x2) er2
    | bk e2 => exact fun W2 σ2 q2 ok2 x2 er2 => w W2 σ2 q2 ok2 (x1.trans x2) er2
    | ct e2 => exact fun W2 σ2 q2 ok2 x2 er2 => w W2 σ2 q2 ok2 (x1.trans x2) er2
    | rt d => exact fun W2 v q2 ok2 x2 r2 => w W2 v q2 ok2 (x1.trans x2) r2
  · rename_i N1 h1
    refine ⟨W, e, false, N1, rfl, ok, er, h1, fun W1 q1 ok1 x1 => ?_⟩
    refine iteF ?_
    refine ⟨W1, e, fl, M', rfl, ok1, er.ext ok x1, by rw [q1]; exact hm, ?_⟩
    cases fl with
    | nx e2 => exact fun W2 σ2 q2 ok2 x2 er2 => w W2 σ2 q2 ok2 (x1.trans x2) er2
    | bk e2 => exact fun W2 σ2 q2 ok2 x2 er2 => w W2 σ2 q2 ok2 (x1.trans x2) er2
    | ct e2 => exact fun W2 σ2 q2 ok2 x2 er2 => w W2 σ2 q2 ok2 (x1.trans x2) er2
    | rt d => exact fun W2 v q2 ok2 x2 r2 => w W2 v q2 ok2 (x1.trans x2) r2
  · cases hm

/-! ### a[i] = v -/
def putI : D → D → D → Sto → Option Sto := fun o i v M => match o, i with
  | .ref r, .int k => (match M[r]? with
    | some (.lst l) => (match ixN l.length k with
      | some j => some (M.set r (.lst (l.set j v)))
      | none => none)
    | _ => none)
  | _, _ => none
def sSub (mv mo mi : EM) : SM := fun e M => match mv e M with
  | some (v, M1) => (match mo e M1 with
    | some (o, M2) => (match mi e M2 with
      | some (i, M3) => (putI o i v M3).map fun M4 => (.nx e, M4)
      | none => none)
    | none => none)
  | none => none
variable {mo mi : EM} {eo ei : Expr} {p2 : Pos}
theorem js_sub (he : JE X e m) (ho : JE X eo mo) (hi : JE X ei mi)
    (ha : ∀ v, assign (.Subscript eo ei p2) X.env v = (do
      let ov ← holding [v] (eval eo X.env)
      let iv ← holding [v, ov] (eval ei X.env)
      standAt p2
      holding [v, ov, iv] (setItem ov iv v)
      release [v, ov, iv] []) := by intro _; rfl)
    (hs : swapsWithSole [.Subscript eo ei p2] e pos.line X.env = pure false := by rfl) (hw : swappedStores [.Subscript eo ei p2] e X.env = pure none := by rfl)
    (h1 : (assignEach [.Subscript eo ei p2] X.env).map (·.2) = [assign (.Subscript eo ei p2) X.env] := by rfl) : JS X (.Assign [.Subscript eo ei p2] e pos) (sSub m mo mi) := by
  refine PS.imp (ps_asg he (pg_sub ho hi set_list ha) hs hw h1) fun D σ H q => ?_
  obtain ⟨W, e, fl, M', rfl, ok, er, hm, w⟩ := q
  unfold sSub at hm
  split at hm
  · rename_i v N1 h1
    split at hm
    · rename_i o N2 h2
      split at hm
      · rename_i i N3 h3
        cases hp : putI o i v N3 with
        | none => rw [hp] at hm; cases hm
        | some N4 =>
          rw [hp] at hm
          cases hm
          refine ⟨W, e, v, N1, rfl, ok, er, h1, fun W1 v1 q1 ok1 x1 r1 => ⟨W1, e, o, N2, rfl, ok1, er.ext ok x1, by rw [q1]; exact h2, fun W2 v2 q2 ok2 x2 r2 => ⟨W2, e, i, N3, rfl, ok2, (er.ext ok x1).ext ok1 x2, by rw [q2]; exact h3, fun W3 v3 q3 ok3 x3 r3 => ?_⟩⟩⟩
          have er3 := ((er.ext ok x1).ext ok1 x2).ext ok2 x3
          have rv := VRel.ext ok2 x3 _ _ (VRel.ext ok1 x2 _ _ r1)
          have ro := VRel.ext ok2 x3 _ _ r2
          unfold putI at hp
          split at hp
          · rename_i r k
            split at hp
            · rename_i l hl
              split at hp
              · rename_i j hj
                cases hp
                simp only [VRel] at ro r3
                obtain ⟨g1, rfl⟩ := ro
                obtain ⟨zs, g2, g3⟩ := ok3.obj r _ (by rw [q3]; exact hl)
                have E := Wd.put_ext (ob := .lst (l.set j v)) (o := .lst (zs.set j v1)) g1
                refine ⟨_, zs, k, j, rfl, r3, g2, by rw [← VRels.length g3]; exact hj, ?_⟩
                exact w (W3.put r (.lst (l.set j v)) (.lst (zs.set j v1))) σ (by show W3.M.set _ _ = _; rw [q3]) (Wd.put_ok ok3 g1 ⟨_, upd_same, VRels.ext ok3 E _ _ (VRels.set rv j g3)⟩) (((x1.trans x2).trans x3).trans E) (er3.ext ok3 E)
              · cases hp
            · cases hp
          · cases hp
      · cases hm
    · cases hm
  · cases hm

/-! ### o.f = v -/
def putN (f : Str) (v : D) : List Str → List D → List Str × List D
  | n :: ns, d :: ds => if n = f then (n :: ns, v :: ds) else let r := putN f v ns ds; (n :: r.1, d :: r.2)
  | _, _ => ([f], [v])
theorem putN_rel {K : PySem.W.Frag} {W : Wd} {f : Str} {d : D} {v : V} (hv : VRel K W d v) : ∀ {ns : List Str} {ds : List D} {xs : List V}, xs.length = ns.length → VRels K W ds xs →
    ∃ ys, putF f v (ns.zip xs) = (putN f d ns ds).1.zip ys ∧ ys.length = (putN f d ns ds).1.length ∧ VRels K W (putN f d ns ds).2 ys
  | [], ds, xs, hl, r => by
    have : xs = [] := List.length_eq_zero_iff.mp hl
    subst this
    have : ds = [] := List.length_eq_zero_iff.mp (VRels.length r)
    subst this
    exact ⟨[v], rfl, rfl, VRels.cons hv VRels.nil⟩
  | n :: ns, [], xs, hl, r => by
    have := VRels.length r
    simp at this hl
    omega
  | n :: ns, c :: ds, xs, hl, r => by
    simp only [VRels] at r
    obtain ⟨x, r', rfl, h1, h2⟩ := r
    simp only [putN, List.zip_cons_cons, putF]
    by_cases e : n = f
    · rw [if_pos e, if_pos e]
      exact ⟨v :: r', rfl, by simpa using hl, VRels.cons hv h2⟩
    · rw [if_neg e, if_neg e]
      obtain ⟨ys, g1, g2, g3⟩ := putN_rel hv (ns := ns) (by simpa using hl) h2
      exact ⟨x :: ys, by rw [g1]; rfl, by simp [g2], VRels.cons h1 g3⟩
def putA (C f : Str) (o v : D) (M : Sto) : Option Sto := match o with
  | .ref r => (match M[r]? with
    | some (.ins C' ns ds) => if C' = C ∧ ns.length < 1000 then some (M.set r (.ins C (putN f v ns ds).1 (putN f v ns ds).2)) else none
    | _ => none)
  | _ => none
def sFld (C f : Str) (mv mo : EM) : SM := fun e M => match mv e M with
  | some (v, M1) => (match mo e M1 with
    | some (o, M2) => (putA C f o v M2).map fun M3 => (.nx e, M3)
    | none => none)
  | none => none
theorem js_fld {C f : Str} (he : JE X e m) (ho : JE X eo mo) (hc : Cls X.K (He.ga X.K C)) (hn : NoAttr X.K (He.ga X.K C) f) (hs : swapsWith e (some (.Attribute eo f p2)) pos.line X.env = pure false := by rfl) :
    JS X (.Assign [.Attribute eo f p2] e pos) (sFld C f m mo) := by
  refine PS.imp (ps_fld ho he hs) fun D σ H q => ?_
  obtain ⟨W, e, fl, M', rfl, ok, er, hm, w⟩ := q
  unfold sFld at hm
  split at hm
  · rename_i v N1 h1
    split at hm
    · rename_i o N2 h2
      cases hp : putA C f o v N2 with
      | none => rw [hp] at hm; cases hm
      | some N3 =>
        rw [hp] at hm
        cases hm
        refine ⟨W, e, v, N1, rfl, ok, er, h1, fun W1 v1 q1 ok1 x1 r1 => ⟨W1, e, o, N2, rfl, ok1, er.ext ok x1, by rw [q1]; exact h2, fun W2 v2 q2 ok2 x2 r2 => ?_⟩⟩
        unfold putA at hp
        split at hp
        · rename_i r
          split at hp
          · rename_i C' ns ds hl
            split at hp
            · rename_i hC
              obtain ⟨rfl, hlen⟩ := hC
              cases hp
              simp only [VRel] at r2
              obtain ⟨g1, rfl⟩ := r2
              obtain ⟨dx, zs, g2, g4, g3⟩ := ok2.obj r _ (by rw [q2]; exact hl)
              obtain ⟨ys, p1, p2, p3⟩ := putN_rel (f := f) (VRel.ext ok1 x2 _ _ r1) g4 g3
              have E := Wd.put_ext (ob := .ins C' (putN f v ns ds).1 (putN f v ns ds).2) (o := .ins (He.ga X.K C') dx (putF f v1 (ns.zip zs))) g1
              refine ⟨_, _, dx, _, rfl, g2, hc, hn, by rw [List.length_zip]; omega, ?_⟩
              exact w (W2.put r (.ins C' (putN f v ns ds).1 (putN f v ns ds).2) (.ins (He.ga X.K C') dx (putF f v1 (ns.zip zs)))) σ (by show W2.M.set _ _ = _; rw [q2])
                (Wd.put_ok ok2 g1 ⟨dx, ys, by rw [← p1]; exact upd_same, p2, VRels.ext ok2 E _ _ p3⟩) ((x1.trans x2).trans E) (((er.ext ok x1).ext ok1 x2).ext ok2 E)
            · cases hp
          · cases hp
        · cases hp
    · cases hm
  · cases hm
end

/-! ### an object made, given out as a value -/
noncomputable def eMk (C : Str) (F : Fn) (n : Nat) (r : AM) : EM := fun e M => match r e M with
  | some (ds, M1) => if ds.length + 1 = n then (match F (.ref M1.length :: ds) (M1 ++ [.ins C [] []]) with
    | some (.non, M2) => retF M1 (.ref M1.length) M2
    | _ => none) else none
  | none => none
theorem je_mk {X : Cx} {C x : Str} {p pos : Pos} {e : Expr} {es : List Expr} {mr : AM} {F : Fn} {n k : Nat} {f : Addr} {fd : FuncData} {ps : List Str} (M : Mk X.K (He.ga X.K C) f) (G : FnOk X.prog X.w X.K X.mg X.base CX0 k f fd ps (spF X.K n F)) (hr : Room (k + 1) X.A) (hg : Gl X x)
    (hm : X.mg x = some (.ref (He.ga X.K C))) (hb : Binds X.K fd ps []) (ha : JA X (e :: es) mr)
    (hdb : (x == ("__debug__" : Str)) = false := by decide) (he : starEach (e :: es) X.env = (false, eval e X.env) :: starEach es X.env := by rfl) (hpl : (backTo pos (starEach es X.env)).any (·.1) = false := by rfl) :
    JE X (.Call (.Name x p) (e :: es) [] pos) (eMk C F n mr) := by
  refine PE.imp (pe_make M G hr hg hm hb .nil pass0 ha hdb he hpl) fun σ H Q q => ?_
  obtain ⟨W, e, d, M', rfl, ok, er, hm, w⟩ := q
  unfold eMk at hm
  split at hm
  · rename_i ds N1 h1
    split at hm
    · rename_i hl
      split at hm
      · rename_i N2 h2
        refine ⟨W, e, ds, N1, rfl, ok, er, h1, fun W1 vs e1 ok1 x1 r1 => fun o dx hx hdx hne => ?_⟩
        have E1 := Wd.grow_ext (o := .own o) hdx
        have okA := Wd.grow_ok ok1 (o := .own o) hdx
        have hx' : (W1.grow dx (.own o)).H o = none := by
          show upd W1.H dx (.own o) o = none
          rw [upd_ne (Ne.symm hne)]; exact hx
        have E2 := Wd.alloc_ext (ob := .ins C [] []) (o := .ins (He.ga X.K C) dx []) hx'
        have okB := Wd.alloc_ok okA (ob := .ins C [] []) (o := .ins (He.ga X.K C) dx []) hx' ⟨dx, [], upd_same, rfl, VRels.nil⟩
        have xx := E1.trans E2
        have hρ : ((W1.grow dx (.own o)).alloc o (.ins C [] []) (.ins (He.ga X.K C) dx [])).ρ N1.length = o := by
          show (if N1.length = W1.M.length then o else _) = o
          rw [e1, if_pos rfl]
        have hlt : N1.length < ((W1.grow dx (.own o)).alloc o (.ins C [] []) (.ins (He.ga X.K C) dx [])).M.length := by
          show N1.length < (W1.M ++ [Ob.ins C [] []]).length
          rw [e1]; simp
        refine ⟨(W1.grow dx (.own o)).alloc o (.ins C [] []) (.ins (He.ga X.K C) dx []), .ref N1.length :: ds, .non, N2, rfl, okB, ?_, by simpa using hl, ?_, ?_⟩
        · rw [List.append_nil]
          refine VRels.cons ?_ (VRels.ext ok1 xx _ _ r1)
          simp only [VRel]
          exact ⟨hlt, by rw [hρ]⟩
        · show F _ (W1.M ++ [Ob.ins C [] []]) = _
          rw [e1]; exact h2
        · intro W3 v3 e3 ok3 x3 r3
          simp only [VRel] at r3
          refine ⟨r3, ?_⟩
          refine wE.back (W := W1) (d := .ref N1.length) ok1 (by rw [e1, e3]; exact hm) ?_ ok3 (xx.trans x3) ?_
          · intro W4 v4 e4 ok4 x4 r4
            exact w W4 v4 e4 ok4 (x1.trans x4) r4
          · simp only [VRel]
            exact ⟨Nat.lt_of_lt_of_le hlt x3.len, by rw [x3.rho _ hlt, hρ]⟩
      · cases hm
    · cases hm
  · cases hm
end DV

end

section
set_option Elab.async false
set_option linter.all false
set_option maxRecDepth 100000
/-! Dv7: what is walked; for, while, comprehensions -/
namespace DV
open PySem PySem.Spec PyProof.Rows L2

/-! ### what is walked -/
def JRel (K : PySem.W.Frag) (W0 : Wd) (J : It) (ds : List D) : Prop := ∃ (G : Hp → Prop) (Y : Nat → Hp → V → Hp → Prop), Walk J ds.length G Y ∧ (∀ W, Ok K W → Ext W0 W → G W.H) ∧
  ∀ W i x H' d, Ok K W → Ext W0 W → ds[i]? = some d → Y i W.H x H' → ∃ W', W'.H = H' ∧ W'.M = W.M ∧ Ok K W' ∧ Ext W W' ∧ VRel K W' d x
def rdI (K : PySem.W.Frag) (m : AM) : TI := fun σ H R => ∃ W e ds M', W.H = H ∧ Ok K W ∧ ERel K W e σ ∧ m e W.M = some (ds, M') ∧ ∀ W' J, W'.M = M' → Ok K W' → Ext W W' → JRel K W' J ds → R J W'.H
abbrev JI (X : Cx) (tg it : Expr) (m : AM) : Prop := PI X tg it (rdI X.K m)
theorem PI.imp {X : Cx} {tg it : Expr} {t t' : TI} (h : PI X tg it t) (i : ∀ σ H R, t' σ H R → t σ H R) : PI X tg it t' := ⟨fun pins s σ H R I q => h.run pins s σ H R I (i _ _ _ q)⟩
theorem PI.or {X : Cx} {tg it : Expr} {t t' : TI} (h : PI X tg it t) (h' : PI X tg it t') : PI X tg it (fun σ H R => t σ H R ∨ t' σ H R) := ⟨fun pins s σ H R I q => q.elim (fun z => h.run pins s σ H R I z) fun z => h'.run pins s σ H R I z⟩

section
variable {K : PySem.W.Frag} {W : Wd}
theorem fixL {a : Addr} {d : D} {ds : List D} (r : VRel K W d (.ref a)) (hd : asLk d [] = some ds) (ok : Ok K W) : ∃ xs, ∀ W', Ok K W' → Ext W W' → SqL K W'.H a xs ∧ VRels K W' ds xs := by
  unfold asLk asL at hd
  split at hd
  · cases hd
    simp only [VRel] at r
    obtain ⟨b, xs, e, h1, h3⟩ := r
    cases e
    refine ⟨xs, fun W' ok' x => ⟨?_, VRels.ext ok x _ _ h3⟩⟩
    rcases h1 with ⟨⟨o, h1⟩, h2⟩ | h1
    · exact .inl (.inr ⟨o, x.keep _ _ h1 (ok.nrng h2)⟩)
    · exact .inr h1
  · split at hd
    · cases hd
      simp only [VRel] at r
      obtain ⟨b, xs, e, h1, h2, h3⟩ := r
      cases e
      exact ⟨xs, fun W' ok' x => ⟨SqL.of (x.keep _ _ h1 (ok.nrng h2)), VRels.ext ok x _ _ h3⟩⟩
    · simp at hd
    · cases hd
theorem fixT {a : Addr} {d : D} {ds : List D} (r : VRel K W d (.ref a)) (hd : asT d = some ds) (ok : Ok K W) : ∃ xs, ∀ W', Ok K W' → Ext W W' → SqT K W'.H a xs ∧ VRels K W' ds xs := by
  unfold asT at hd
  split at hd
  · cases hd
    simp only [VRel] at r
    obtain ⟨b, xs, e, h1, h2, h3⟩ := r
    cases e
    exact ⟨xs, fun W' ok' x => ⟨SqT.of (x.keep _ _ h1 (ok.nrng h2)), VRels.ext ok x _ _ h3⟩⟩
  · cases hd
    simp only [VRel] at r
    obtain ⟨b, xs, e, h1, h3⟩ := r
    cases e
    exact ⟨xs, fun W' ok' x => ⟨.inr h1, VRels.ext ok x _ _ h3⟩⟩
  · cases hd
theorem jrel_list {a : Addr} {d : D} {ds : List D} (r : VRel K W d (.ref a)) (hd : asLk d [] = some ds) (ok : Ok K W) : JRel K W (Itl K a) ds := by
  obtain ⟨xs, hx⟩ := fixL r hd ok
  have hl := VRels.length (hx W ok (Ext.refl W)).2
  refine ⟨fun H => SqL K H a xs, YAt xs, by rw [hl]; exact walk_list, fun W' ok' x => (hx W' ok' x).1, ?_⟩
  intro W' i x H' d ok' xx hi hy
  obtain ⟨rfl, hy⟩ := hy
  obtain ⟨v, g1, g2⟩ := VRels.get (hx W' ok' xx).2 hi
  rw [hy] at g1
  cases g1
  exact ⟨W', rfl, rfl, ok', Ext.refl W', g2⟩
theorem jrel_tup {a : Addr} {d : D} {ds : List D} (r : VRel K W d (.ref a)) (hd : asT d = some ds) (ok : Ok K W) : JRel K W (Itt K a) ds := by
  obtain ⟨xs, hx⟩ := fixT r hd ok
  have hl := VRels.length (hx W ok (Ext.refl W)).2
  refine ⟨fun H => SqT K H a xs, YAt xs, by rw [hl]; exact walk_tup, fun W' ok' x => (hx W' ok' x).1, ?_⟩
  intro W' i x H' d ok' xx hi hy
  obtain ⟨rfl, hy⟩ := hy
  obtain ⟨v, g1, g2⟩ := VRels.get (hx W' ok' xx).2 hi
  rw [hy] at g1
  cases g1
  exact ⟨W', rfl, rfl, ok', Ext.refl W', g2⟩
theorem asLk_nil {d : D} {ds : List D} (h : asLk d [] = some ds) (M : Sto) : asLk d M = some ds := by
  unfold asLk asL at h ⊢
  split at h
  · exact h
  · split at h
    · exact h
    · simp at h
    · cases h
end
def chars (z : Str) : List D := z.cps.toList.map fun c => .str ⟨#[c]⟩
def itD (d : D) : Option (List D) := match d with
  | .str z => some (chars z)
  | d => match asT d with
    | some l => some l
    | none => asLk d []
def iIt (m : EM) : AM := fun e M => match m e M with
  | some (d, M1) => (itD d).map fun l => (l, M1)
  | none => none
theorem ji_it {X : Cx} {tg it : Expr} {m : EM} (h : JE X it m) : JI X tg it (iIt m) := by
  refine PI.imp (PI.or (pi_list h) (PI.or (pi_tup h) (pi_str h))) fun σ H R q => ?_
  obtain ⟨W, e, ds, M', rfl, ok, er, hm, w⟩ := q
  unfold iIt at hm
  split at hm
  · rename_i d N1 h1
    cases hf : itD d with
    | none => rw [hf] at hm; cases hm
    | some l =>
      rw [hf] at hm
      cases hm
      unfold itD at hf
      split at hf
      · rename_i z
        cases hf
        refine .inr (.inr ⟨W, e, _, _, rfl, ok, er, h1, fun W1 v1 e1 ok1 x1 r1 => ?_⟩)
        simp only [VRel] at r1
        refine ⟨z, r1, w W1 _ e1 ok1 x1 ?_⟩
        refine ⟨fun _ => True, _, by
          have hl : (chars z).length = z.cps.size := by unfold chars; simp
          rw [hl]; exact walk_str, fun _ _ _ => trivial, ?_⟩
        intro W2 i x H' c ok2 x2 hi hy
        obtain ⟨rfl, k, hk, rfl⟩ := hy
        unfold chars at hi
        rw [List.getElem?_map, Array.getElem?_toList, hk] at hi
        cases hi
        exact ⟨W2, rfl, rfl, ok2, Ext.refl W2, by simp only [VRel]⟩
      · split at hf
        · rename_i l' el
          cases hf
          refine .inr (.inl ⟨W, e, _, _, rfl, ok, er, h1, fun W1 v1 e1 ok1 x1 r1 => ?_⟩)
          obtain ⟨a, xs, rfl, g1, g2⟩ := asT_rel r1 el
          exact ⟨a, rfl, ⟨xs, g1⟩, w W1 _ e1 ok1 x1 (jrel_tup r1 el ok1)⟩
        · refine .inl ⟨W, e, _, _, rfl, ok, er, h1, fun W1 v1 e1 ok1 x1 r1 => ?_⟩
          have el : asLk d W1.M = some ds := asLk_nil hf _
          obtain ⟨a, xs, rfl, g1, g2⟩ := asLk_rel ok1 r1 el
          exact ⟨a, rfl, ⟨xs, g1⟩, w W1 _ e1 ok1 x1 (jrel_list r1 hf ok1)⟩
  · cases hm
def rngD (a b : Int) : List D := (List.range (b - a).toNat).map fun (i : Nat) => .int (a + i)
def iRng1 (r : AM) : AM := fun e M => match r e M with
  | some ([.int j], M1) => if -(2 ^ 62) ≤ j ∧ j < 2 ^ 62 then some (rngD 0 j, M1) else none
  | _ => none
def iRng2 (r : AM) : AM := fun e M => match r e M with
  | some ([.int i, .int j], M1) => if -(2 ^ 62) ≤ i ∧ i < 2 ^ 62 ∧ -(2 ^ 62) ≤ j ∧ j < 2 ^ 62 then some (rngD i j, M1) else none
  | _ => none
theorem jrel_rng {K : PySem.W.Frag} {W : Wd} (a b : Int) : JRel K W (Itr a (b - a).toNat) (rngD a b) := by
  refine ⟨fun _ => True, _, by
    have hl : (rngD a b).length = (b - a).toNat := by unfold rngD; simp
    rw [hl]; exact walk_range, fun _ _ _ => trivial, ?_⟩
  intro W2 i x H' c ok2 x2 hi hy
  obtain ⟨rfl, rfl⟩ := hy
  unfold rngD at hi
  rw [List.getElem?_map] at hi
  cases e : (List.range (b - a).toNat)[i]? with
  | none => rw [e] at hi; cases hi
  | some k =>
    rw [e] at hi
    cases hi
    have hk : k = i := by
      rw [List.getElem?_range] at e
      · cases e; rfl
      · have := (List.getElem?_eq_some_iff.mp e).1
        simpa using this
    subst hk
    exact ⟨W2, rfl, rfl, ok2, Ext.refl W2, by simp only [VRel]⟩
/-! enumerate of anything that begins as the library knows -/
end DV
namespace PySem
open Sem (wp)
open AutoSeq1 (wpAny_loadPart')
set_option maxHeartbeats 1000000 in
theorem meets_enumerate_newB1 {v : Value} {o : Obj} {H : Heap → Prop} (B : Begins v o H) :
    Meets (Builtin.«enumerate.__new__» ⟨[.type "enumerate", v], []⟩) (fun _ R s => H s.heap ∧
      R (.ok (.ret (.ref (s.heap.push o).objs.size))) { s with heap := (s.heap.push o).push { cls := .type "enumerate", data := .fields #[.none, .bool false, .ref s.heap.objs.size, rawInt 0, .none, .none] } }) :=
  .of_wp fun prog w A R s h => by
    obtain ⟨hp, g, d, tk, os⟩ := s; obtain ⟨h1, h⟩ := h
    have hsub := sub_enumerate
    have q1 : ∀ {A' : Around} {E : Value → Shared → Prop} {Q : Value → Shared → Prop}, Q (.ref hp.objs.size) ⟨hp.push o, g, d, tk, os⟩ → wpAny (model prog w) A' (pyIter v) Q E ⟨hp, g, d, tk, os⟩ :=
      fun q => B.iter prog w _ _ ⟨hp, g, d, tk, os⟩ _ h1 q
    wp_walk using q1
    refine wpAny_stack_any fun st => wpAny_pure ?_
    split
    · rename_i c _ _ _ _ _
      cases (c == Value.type "enumerate")
      · wp_walk using q1
        exact ⟨_, rfl, h⟩
      · wp_walk using q1
        exact ⟨_, rfl, h⟩
    · wp_walk using q1
      exact ⟨_, rfl, h⟩
section
variable {prog : Program} {w : World} {A : Around} {E : Value → Shared → Prop} {s : Shared}
theorem enum_begins1 {v : Value} {o : Obj} {H : Heap → Prop} {Q : Value → Shared → Prop} (B : Begins v o H) (h1 : H s.heap)
    (h : ∀ h', IsEnum h' (s.heap.objs.size + 1) s.heap.objs.size 0 .none → h'.get? s.heap.objs.size = some o → h'.objs.size = s.heap.objs.size + 2 →
      (∀ b o, s.heap.get? b = some o → h'.get? b = some o) → Q (.ref (s.heap.objs.size + 1)) { s with heap := h' }) :
    wpAny (model prog w) A (call (.type "enumerate") [v]) Q E s := by
  refine callType_new F.called_enumerate (by decide) (F.typeCall_enumerate_1 _) (F.newCall_enumerate_1 _) (fun obj => F.args_object_init_2 obj _) F.entry_enumerate_new
    (meets_enumerate_newB1 B) ⟨h1, ?_⟩
  have hz : (s.heap.push o).objs.size = s.heap.objs.size + 1 := Heap.size_push ..
  show _ ∧ _
  rw [hz]
  have he : IsEnum ((s.heap.push o).push { cls := .type "enumerate", data := .fields #[.none, .bool false, .ref s.heap.objs.size, rawInt 0, .none, .none] }) (s.heap.objs.size + 1) s.heap.objs.size 0 .none := by
    have := Heap.get?_push_size (s.heap.push o) (o := { cls := .type "enumerate", data := .fields #[.none, .bool false, .ref s.heap.objs.size, rawInt 0, .none, .none] }) rfl
    rw [hz] at this; exact this
  refine ⟨⟨_, he, rfl⟩, h _ he (Heap.get?_push_of_some _ (Heap.get?_push_size _ B.free)) (by rw [Heap.size_push, hz]) fun b o x => Heap.get?_push_of_some _ (Heap.get?_push_of_some _ x)⟩
end
end PySem
namespace DV
open PySem PySem.Spec PyProof.Rows L2
/-- enumerate(a tuple): as Ite for a list -/
def IteT (K : PySem.W.Frag) (a : Addr) : It :=
  ⟨fun i H => ∃ (xs : List V) (x : V), SqT K H a xs ∧ xs[i]? = some x, fun i H v H' => ∃ T x, v = .ref T ∧ H T = none ∧ H' = upd H T (.tup [.int (i : Nat), x]) ∧ ∀ xs, SqT K H a xs → xs[i]? = some x, fun i H => ∃ xs : List V, SqT K H a xs ∧ xs.length ≤ i⟩
theorem turn_enumT {P : Program} {w : World} {K : PySem.W.Frag} {elts : List Expr} {kk : Nat} {tpos : Pos} (a e it : Addr) :
    Turn P w K (.Tuple elts kk tpos) (IteT K a) [e, it] e (fun i h => (∃ old, IsEnum h e it ((i : Nat) : Int) old) ∧ h.IsTupleIter it a i ∧ e ≠ it ∧ a ≠ it) where
  mem := by simp
  obj := fun i h st b hb => by
    obtain ⟨⟨old, he⟩, ⟨o, ho, hc, hd⟩, _⟩ := st
    have e' : b = e ∨ b = it := by simpa using hb
    rcases e' with z | z
    · rw [z]; exact ⟨_, he, fun v q => nomatch q⟩
    · rw [z]; exact ⟨o, ho, fun v q => by rw [hd] at q; cases q⟩
  keep := fun i h h' st k => let ⟨⟨old, he⟩, hi, hne⟩ := st; ⟨⟨old, k e (by simp) _ he⟩, hi.at fun o q => k it (by simp) o q, hne⟩
  item := by
    intro X hP hw hK hc i pins s σ H E I hf st hg
    subst hP hw hK
    obtain ⟨⟨old, he⟩, hit, hne, hna⟩ := st
    obtain ⟨xs, x, hq, hx⟩ := hg
    obtain ⟨its, rv, p, hz⟩ := I.tuple hq
    obtain ⟨u, hu, ru⟩ := rv.get hx
    have hel : e < s.heap.objs.size := Heap.lt_size he
    have hil : it < s.heap.objs.size := by obtain ⟨_, q, _⟩ := hit; exact Heap.lt_size q
    have hal : a ≠ e := by
      intro z
      obtain ⟨o, q, c, _⟩ := p
      rw [z, he] at q
      cases q
      exact absurd (Value.type.inj c) (by decide)
    have hx2 : its.toArray[i]? = some u := by simpa using hu
    have D : Draws X.prog X.w X.A.in1 it [it, a] its.toArray.size (fun i v => its.toArray[i]? = some v) (fun i h => h.IsTupleIter it a i ∧ h.IsTuple a its.toArray) :=
      Draws.tuple (A := X.A.in1) (show X.A.in1.handled = none from I.ok.hd hc) it a hna its.toArray
    refine wpAny_pyNext_enum_itemD D he ⟨hit, p⟩ (by have := (Array.getElem?_eq_some_iff.mp hx2).1; exact this) hne (by simp [hne, Ne.symm hal]) fun x' h' tk hP ho hit' hT hsz hk => ?_
    have ex : x' = u := by rw [hx2] at hP; exact (Option.some.inj hP).symm
    subst ex
    refine ⟨_, rfl, wpAny_letOwnedTupleGo_enum (s := { s with heap := h', toks := tk + 1 }) ho fun h'' he' sb => ?_⟩
    have hT2 : h''.get? s.heap.objs.size = some { cls := .type "tuple", data := .seq #[.int i tk, x'] } := (sb.2 _ (Nat.ne_of_gt hel)).trans hT
    have new : ObjOk X.prog X.w (upd H s.heap.objs.size (.tup [.int (i : Nat), x])) h'' s.heap.objs.size (.tup [.int (i : Nat), x]) :=
      ⟨by show 2 ≤ sizeLine; decide, [.int i tk, x'], .cons ⟨_, rfl⟩ (.cons ru .nil), ⟨_, hT2, rfl, _, rfl⟩⟩
    have I1 : Inv X pins σ (upd H s.heap.objs.size (.tup [.int (i : Nat), x])) { s with heap := h'', toks := tk + 1 } :=
      I.turnedNew (ch := [e, it]) (fun b ob hb q => (sb.2 b (fun z => hb (by simp [z]))).trans (hk b ob (fun z => hb (by simp [z])) (fun z => hb (by simp [z])) q)) hf (Nat.le_refl _) new
    refine ⟨.ref s.heap.objs.size, _, I1, rfl, ⟨_, x, rfl, I.hok.fresh (Nat.le_refl _), rfl, fun ys hy => by rw [I.tuple_inj hy hq]; exact hx⟩, ⟨⟨x', ?_⟩, hit'.1.at fun o q => (sb.2 it (Ne.symm hne)).trans q, hne, hna⟩, fun b hb => ?_⟩
    · have e1 : ((i + 1 : Nat) : Int) = (i : Int) + 1 := by omega
      rw [e1]; exact he'
    · have hb' : b < s.heap.objs.size := by
        have e' : b = e ∨ b = it := by simpa using hb
        rcases e' with z | z
        · rw [z]; exact hel
        · rw [z]; exact hil
      rw [upd_ne (Nat.ne_of_lt hb')]
      exact (hf b hb).1
  done := by
    intro X hP hw hK hc i pins s σ H E I hf st hg
    subst hP hw hK
    obtain ⟨⟨old, he⟩, hit, hne, hna⟩ := st
    obtain ⟨xs, hq, hx⟩ := hg
    obtain ⟨its, rv, p, hz⟩ := I.tuple hq
    obtain ⟨f0, f1, f2, f3, f4, f5⟩ := hf it (by simp)
    have hl := rv.length
    have hT : s.TypeIs (.ref e) "enumerate" := ⟨_, he, rfl⟩
    unfold pyNext
    refine wpAny_bind (wpAny_attempt (wpAny_callSpecial?_slot (name := Str.ofString "__next__") hT F.slot_enumerate_next
      (wpAny_call_entry F.slot_enumerate_next hT F.entry_enumerate_next ?_ (F.args_enumerate_next_1 _))))
    show wpAny _ _ (field (.ref e) 2 >>= _) _ _ _
    refine wpAny_bind (wpAny_field he rfl (x := .ref it) rfl ?_)
    refine wpAny_bind (wpAny_nextOf_tuple_end (I.ok.hd hc) hit p (by simp; omega) fun h' x he' hx' => ?_)
    obtain ⟨o, ho, hc⟩ := hx'
    refine wpAny_bind (wpAny_isInstance (T := "StopIteration") (b := true) ⟨o, ho, hc⟩ isSubtype_stop ?_)
    exact wpAny_pure ⟨rfl, I.turned (t' := s.toks) (fun b o hb q => he' b o hb q) f0 f1 f3 f4 f5⟩
  self := fun A i s Q E st h => let ⟨⟨_, he⟩, _⟩ := st; wpAny_pyIter_enum he h
def iEnumT (K : PySem.W.Frag) (ta : TA) : TI := fun σ H R => ta σ H fun vs H1 => ∃ a xs, vs = [.ref a] ∧ SqT K H1 a xs ∧ R (IteT K a) H1
theorem pi_enumT {X : Cx} {e : Expr} {ta : TA} {p pos tpos : Pos} {elts : List Expr} {kk : Nat} (hg : Gl X "enumerate") (hm : X.mg "enumerate" = none) (ha : PA X [e] ta) (hs : starEach [e] X.env = [(false, eval e X.env)] := by rfl) :
    PI X (.Tuple elts kk tpos) (.Call (.Name "enumerate" p) [e] [] pos) (iEnumT X.K ta) := by
  refine ⟨fun pins s σ H R I h => ?_⟩
  refine Call_ (ld_blt I hg hm PyProof.Rows.boot_enumerate (PyProof.Rows.callWith_type1 (thn (ha.run pos pins s σ H _ I h) fun us s1 ⟨vs, H1, I1, r1, q1⟩ => ?_) hs rfl))
  obtain ⟨a, xs, ex, hq, q⟩ := q1
  subst ex
  cases r1 with
  | cons r rr =>
    cases rr
    cases r
    obtain ⟨its, rv, p', hz⟩ := I1.tuple hq
    have hal : a < s1.heap.objs.size := by obtain ⟨o, q, _⟩ := p'; exact Heap.lt_size q
    refine enum_begins1 (begins_tuple a its.toArray) p' fun h' he hit hsz hk => wpAny_pyIter_enum he ?_
    have I2 : Inv X pins σ H1 { s1 with heap := h' } := I1.kept (t' := s1.toks) hk
    refine ⟨s1.heap.objs.size + 1, [s1.heap.objs.size + 1, s1.heap.objs.size], _, _, H1, rfl, I2, turn_enumT a (s1.heap.objs.size + 1) s1.heap.objs.size, ⟨⟨.none, he⟩, ⟨_, hit, rfl, rfl⟩, Nat.succ_ne_self _, Nat.ne_of_lt hal⟩, fun b hb => ?_, q⟩
    have e' : b = s1.heap.objs.size + 1 ∨ b = s1.heap.objs.size := by simpa using hb
    have hle : s1.heap.objs.size ≤ b := by
      rcases e' with z | z
      · rw [z]; exact Nat.le_add_right _ _
      · rw [z]; exact Nat.le_refl _
    exact I1.fpOk hle (I1.hok.fresh hle)
theorem walk_enumT {K : PySem.W.Frag} {a : Addr} {xs : List V} : Walk (IteT K a) xs.length (fun H => SqT K H a xs) (YPair (fun i => some (.int (i : Nat))) (fun i => xs[i]?)) :=
  ⟨fun i H hi h => ⟨xs, xs[i], h, by simp [hi]⟩, fun H h => ⟨xs, h, Nat.le_refl _⟩, fun i H x H' hi h y => by
    obtain ⟨T, z, e1, e2, e3, e4⟩ := y
    exact ⟨T, .int (i : Nat), z, e1, e2, e3, rfl, e4 xs h⟩⟩
def enumD (l : List D) : List D := l.zipIdx.map fun p => .tup [.int p.2, p.1]
def iEn (m : EM) : AM := fun e M => match m e M with
  | some (d, M1) => (match asT d with
    | some l => some (enumD l, M1)
    | none => (match asLk d [] with
      | some l => some (enumD l, M1)
      | none => none))
  | none => none
theorem jrel_pair {K : PySem.W.Frag} {W : Wd} {G : Hp → Prop} {J : It} {l : List D} {xs : List V} (hl : l.length = xs.length) (w : Walk J xs.length G (YPair (fun i => some (.int (i : Nat))) (fun i => xs[i]?))) (hG : ∀ W', Ok K W' → Ext W W' → G W'.H)
    (hr : ∀ W', Ok K W' → Ext W W' → VRels K W' l xs) : JRel K W J (enumD l) := by
  have he : (enumD l).length = xs.length := by unfold enumD; simp [hl]
  refine ⟨G, _, by rw [he]; exact w, hG, ?_⟩
  intro W2 i x H' d ok2 x2 hi hy
  obtain ⟨T, v, u, rfl, hT, rfl, hv, hu⟩ := hy
  cases hv
  unfold enumD at hi
  rw [List.getElem?_map, List.getElem?_zipIdx] at hi
  cases e : l[i]? with
  | none => rw [e] at hi; cases hi
  | some c =>
    rw [e] at hi
    simp at hi
    subst hi
    obtain ⟨u', g1, g2⟩ := VRels.get (hr W2 ok2 x2) e
    have hu : xs[i]? = some u := hu
    rw [hu] at g1
    cases g1
    exact ⟨W2.grow T (.tup [.int (i : Nat), u]), rfl, rfl, Wd.grow_ok ok2 hT, Wd.grow_ext hT, VRel.newTup ok2 hT (VRels.cons (by simp only [VRel]) (VRels.cons g2 VRels.nil))⟩
section
variable {X : Cx} {tg a b : Expr} {mr : AM} {p pos : Pos}
theorem ji_rng1 (hg : Gl X "range") (hm : X.mg "range" = none) (ha : JA X [a] mr) (hs : starEach [a] X.env = [(false, eval a X.env)] := by rfl) : JI X tg (.Call (.Name "range" p) [a] [] pos) (iRng1 mr) := by
  refine PI.imp (pi_range1 hg hm ha hs) fun σ H R q => ?_
  obtain ⟨W, e, ds, M', rfl, ok, er, hm, w⟩ := q
  unfold iRng1 at hm
  split at hm
  · rename_i j N1 h1
    split at hm
    · rename_i hb
      cases hm
      refine ⟨W, e, _, _, rfl, ok, er, h1, fun W1 v1 e1 ok1 x1 r1 => ?_⟩
      obtain ⟨v, rfl, r⟩ := VRels.one r1
      simp only [VRel] at r
      subst r
      refine ⟨j, rfl, hb.1, hb.2, w W1 _ e1 ok1 x1 ?_⟩
      have := jrel_rng (K := X.K) (W := W1) 0 j
      simpa using this
    · cases hm
  · cases hm
theorem ji_rng2 (hg : Gl X "range") (hm : X.mg "range" = none) (ha : JA X [a, b] mr) (hs : starEach [a, b] X.env = [(false, eval a X.env), (false, eval b X.env)] := by rfl) (hs2 : starEach [b] X.env = [(false, eval b X.env)] := by rfl) : JI X tg (.Call (.Name "range" p) [a, b] [] pos) (iRng2 mr) := by
  refine PI.imp (pi_range2 hg hm ha hs hs2) fun σ H R q => ?_
  obtain ⟨W, e, ds, M', rfl, ok, er, hm, w⟩ := q
  unfold iRng2 at hm
  split at hm
  · rename_i i j N1 h1
    split at hm
    · rename_i hb
      cases hm
      refine ⟨W, e, _, _, rfl, ok, er, h1, fun W1 v1 e1 ok1 x1 r1 => ?_⟩
      obtain ⟨v, u, rfl, r, r'⟩ := VRels.two r1
      simp only [VRel] at r r'
      subst r r'
      exact ⟨i, j, rfl, hb, w W1 _ e1 ok1 x1 (jrel_rng i j)⟩
    · cases hm
  · cases hm
theorem ji_en {elts : List Expr} {kk : Nat} {tpos : Pos} {m : EM} (hg : Gl X "enumerate") (hm : X.mg "enumerate" = none) (ha : JE X a m) (hs : starEach [a] X.env = (false, eval a X.env) :: starEach [] X.env := by rfl) :
    JI X (.Tuple elts kk tpos) (.Call (.Name "enumerate" p) [a] [] pos) (iEn m) := by
  refine PI.imp (PI.or (pi_enum hg hm (pa_cons ha pa_nil hs) hs) (pi_enumT hg hm (pa_cons ha pa_nil hs) hs)) fun σ H R q => ?_
  obtain ⟨W, e, ds, M', rfl, ok, er, hm, w⟩ := q
  unfold iEn at hm
  split at hm
  · rename_i d N1 h1
    split at hm
    · rename_i l hl
      cases hm
      refine .inr ⟨W, e, _, _, rfl, ok, er, h1, fun W1 v1 e1 ok1 x1 r1 => ?_⟩
      obtain ⟨a, _, rfl, _, _⟩ := asT_rel r1 hl
      obtain ⟨xs, hx⟩ := fixT r1 hl ok1
      obtain ⟨g1, g2⟩ := hx W1 ok1 (Ext.refl W1)
      exact ⟨a, xs, rfl, g1, w W1 _ e1 ok1 x1 (jrel_pair (VRels.length g2) walk_enumT (fun W' ok' x' => (hx W' ok' x').1) (fun W' ok' x' => (hx W' ok' x').2))⟩
    · split at hm
      · rename_i l hl
        cases hm
        refine .inl ⟨W, e, _, _, rfl, ok, er, h1, fun W1 v1 e1 ok1 x1 r1 => ?_⟩
        obtain ⟨a, _, rfl, _, _⟩ := asLk_rel ok1 r1 (asLk_nil hl _)
        obtain ⟨xs, hx⟩ := fixL r1 hl ok1
        obtain ⟨g1, g2⟩ := hx W1 ok1 (Ext.refl W1)
        exact ⟨a, xs, rfl, g1, w W1 _ e1 ok1 x1 (jrel_pair (VRels.length g2) walk_enum (fun W' ok' x' => (hx W' ok' x').1) (fun W' ok' x' => (hx W' ok' x').2))⟩
      · cases hm
  · cases hm
end
end DV

end

section
set_option Elab.async false
set_option linter.all false
set_option maxRecDepth 100000
/-! Dv8: for, while, comprehensions -/
namespace DV
open PySem PySem.Spec PyProof.Rows L2

def forL (g : GM) (b : SM) : List D → SM
  | [] => fun e M => some (.nx e, M)
  | d :: ds => fun e M => match g d e with
    | some e1 => (match b e1 M with
      | some (.nx e2, M2) => forL g b ds e2 M2
      | some (.ct e2, M2) => forL g b ds e2 M2
      | some (.bk e2, M2) => some (.nx e2, M2)
      | some (.rt v, M2) => some (.rt v, M2)
      | none => none)
    | none => none
def sFor (it : AM) (g : GM) (b : SM) : SM := fun e M => match it e M with
  | some (ds, M1) => forL g b ds e M1
  | none => none
def whL (t : TM) (b : SM) : Nat → SM
  | 0 => fun _ _ => none
  | n + 1 => fun e M => match t e M with
    | some (true, M1) => (match b e M1 with
      | some (.nx e2, M2) => whL t b n e2 M2
      | some (.ct e2, M2) => whL t b n e2 M2
      | some (.bk e2, M2) => some (.nx e2, M2)
      | some (.rt v, M2) => some (.rt v, M2)
      | none => none)
    | some (false, M1) => some (.nx e, M1)
    | none => none
def fin (K : PySem.W.Frag) (W : Wd) (M' : Sto) (D : Ends) : Fl → Prop
  | .nx e' => ∀ W' σ', W'.M = M' → Ok K W' → Ext W W' → ERel K W' e' σ' → D.nx σ' W'.H
  | .bk e' => ∀ W' σ', W'.M = M' → Ok K W' → Ext W W' → ERel K W' e' σ' → D.bk σ' W'.H
  | .ct e' => ∀ W' σ', W'.M = M' → Ok K W' → Ext W W' → ERel K W' e' σ' → D.ct σ' W'.H
  | .rt d => ∀ W' v, W'.M = M' → Ok K W' → Ext W W' → VRel K W' d v → D.rt v W'.H
theorem rdS_iff {K : PySem.W.Frag} {m : SM} {D : Ends} {σ : L2.St} {H : Hp} : rdS K m D σ H ↔ ∃ W e fl M', W.H = H ∧ Ok K W ∧ ERel K W e σ ∧ m e W.M = some (fl, M') ∧ fin K W M' D fl := by
  constructor
  · rintro ⟨W, e, fl, M', h1, h2, h3, h4, h5⟩
    refine ⟨W, e, fl, M', h1, h2, h3, h4, ?_⟩
    cases fl <;> exact h5
  · rintro ⟨W, e, fl, M', h1, h2, h3, h4, h5⟩
    refine ⟨W, e, fl, M', h1, h2, h3, h4, ?_⟩
    cases fl <;> exact h5
theorem fin.ext {K : PySem.W.Frag} {W W1 : Wd} {M' : Sto} {D : Ends} {fl : Fl} (h : fin K W M' D fl) (x : Ext W W1) : fin K W1 M' D fl := by
  cases fl with
  | nx e => exact fun W' σ' h1 h2 h3 h4 => h W' σ' h1 h2 (x.trans h3) h4
  | bk e => exact fun W' σ' h1 h2 h3 h4 => h W' σ' h1 h2 (x.trans h3) h4
  | ct e => exact fun W' σ' h1 h2 h3 h4 => h W' σ' h1 h2 (x.trans h3) h4
  | rt e => exact fun W' σ' h1 h2 h3 h4 => h W' σ' h1 h2 (x.trans h3) h4
section
variable {X : Cx} {tg it c : Expr} {body : List Stmt} {mi : AM} {g : GM} {b : SM} {t : TM} {vs : List Nat} {pos : Pos}
theorem js_for (hp : PassesOwn (model X.prog X.w) X.A X.env X.xe) (hc : X.calm = true) (hi : JI X tg it mi) (hg : JG X vs tg g) (hb : JSs X body b) (hs : ∀ x, foldedSetIterable it X.env x = pure x := by intro _; rfl) :
    JS X (.For tg it body [] pos) (sFor mi g b) := by
  refine PS.imp (ps_for hp hc hi hg hb hs) fun D σ H q => ?_
  obtain ⟨W, e, fl, M', rfl, ok, er, hm, w⟩ := rdS_iff.mp q
  unfold sFor at hm
  split at hm
  · rename_i ds N1 h1
    refine ⟨W, e, ds, N1, rfl, ok, er, h1, fun W1 J e1 ok1 x1 hJ => ?_⟩
    have er1 := er.ext ok x1
    obtain ⟨G, Y, hw, hG, hY⟩ := hJ
    refine for_it hw (fun i σ H => ∃ W2 e2, W2.H = H ∧ Ok X.K W2 ∧ Ext W1 W2 ∧ ERel X.K W2 e2 σ ∧ forL g b (ds.drop i) e2 W2.M = some (fl, M'))
      ⟨W1, e, rfl, ok1, Ext.refl W1, er1, by rw [e1]; simpa using hm⟩ (fun i σ H _ ⟨W2, e2, h, ok2, x2, _⟩ => h ▸ hG W2 ok2 x2) ?_ ?_
    · rintro i x σ2 H2 H3 hi ⟨W2, e2, rfl, ok2, x2, er2, hf⟩ hy
      have hd : ds[i]? = some ds[i] := List.getElem?_eq_getElem hi
      obtain ⟨W3, rfl, hM3, ok3, x3, r3⟩ := hY W2 i x H3 ds[i] ok2 x2 hd hy
      rw [List.drop_eq_getElem_cons hi] at hf
      unfold forL at hf
      split at hf
      · rename_i e3 he3
        refine ⟨W3, e2, ds[i], e3, rfl, ok3, er2.ext ok2 x3, r3, he3, fun σ3 er3 _ => ?_⟩
        refine rdS_iff.mpr ?_
        have xx := x2.trans x3
        split at hf
        · rename_i e4 N4 h4
          exact ⟨W3, e3, .nx e4, N4, rfl, ok3, er3, by rw [hM3]; exact h4, fun W4 σ4 e5 ok4 x4 er4 => ⟨W4, e4, rfl, ok4, xx.trans x4, er4, by rw [e5]; exact hf⟩⟩
        · rename_i e4 N4 h4
          exact ⟨W3, e3, .ct e4, N4, rfl, ok3, er3, by rw [hM3]; exact h4, fun W4 σ4 e5 ok4 x4 er4 => ⟨W4, e4, rfl, ok4, xx.trans x4, er4, by rw [e5]; exact hf⟩⟩
        · rename_i e4 N4 h4
          cases hf
          exact ⟨W3, e3, .bk e4, _, rfl, ok3, er3, by rw [hM3]; exact h4, fun W4 σ4 e5 ok4 x4 er4 => w W4 σ4 e5 ok4 ((x1.trans xx).trans x4) er4⟩
        · rename_i v N4 h4
          cases hf
          exact ⟨W3, e3, .rt v, _, rfl, ok3, er3, by rw [hM3]; exact h4, fun W4 σ4 e5 ok4 x4 er4 => w W4 σ4 e5 ok4 ((x1.trans xx).trans x4) er4⟩
        · cases hf
      · cases hf
    · rintro σ2 H2 ⟨W2, e2, rfl, ok2, x2, er2, hf⟩
      rw [List.drop_length] at hf
      cases hf
      exact w W2 σ2 rfl ok2 (x1.trans x2) er2
  · cases hm
theorem js_wh (n : Nat) (hp : PassesOwn (model X.prog X.w) X.A X.env X.xe) (hc : JT X c t) (hb : JSs X body b) : JS X (.While c body [] pos) (whL t b n) := by
  refine PS.imp (ps_while hp hc hb) fun D σ H q => ?_
  obtain ⟨W, e, fl, M', rfl, ok, er, hm, w⟩ := rdS_iff.mp q
  refine ⟨fun m σ H => ∃ W2 e2, W2.H = H ∧ Ok X.K W2 ∧ Ext W W2 ∧ ERel X.K W2 e2 σ ∧ whL t b m e2 W2.M = some (fl, M'), ⟨n, W, e, rfl, ok, Ext.refl W, er, hm⟩, ?_⟩
  rintro m σ2 H2 ⟨W2, e2, rfl, ok2, x2, er2, hf⟩
  cases m with
  | zero => cases hf
  | succ m =>
    unfold whL at hf
    split at hf
    · rename_i N1 h1
      refine ⟨W2, e2, true, N1, rfl, ok2, er2, h1, fun W3 e3 ok3 x3 => ?_⟩
      refine iteT ?_
      have xx := x2.trans x3
      refine ⟨fun σ' H' => ∃ W2 e2, W2.H = H' ∧ Ok X.K W2 ∧ Ext W W2 ∧ ERel X.K W2 e2 σ' ∧ whL t b m e2 W2.M = some (fl, M'), fun σ' H' h => ⟨m, Nat.lt_succ_self m, h⟩, ?_⟩
      refine rdS_iff.mpr ?_
      have er3 := er2.ext ok2 x3
      split at hf
      · rename_i e4 N4 h4
        exact ⟨W3, e2, .nx e4, N4, rfl, ok3, er3, by rw [e3]; exact h4, fun W4 σ4 e5 ok4 x4 er4 => ⟨W4, e4, rfl, ok4, xx.trans x4, er4, by rw [e5]; exact hf⟩⟩
      · rename_i e4 N4 h4
        exact ⟨W3, e2, .ct e4, N4, rfl, ok3, er3, by rw [e3]; exact h4, fun W4 σ4 e5 ok4 x4 er4 => ⟨W4, e4, rfl, ok4, xx.trans x4, er4, by rw [e5]; exact hf⟩⟩
      · rename_i e4 N4 h4
        cases hf
        exact ⟨W3, e2, .bk e4, _, rfl, ok3, er3, by rw [e3]; exact h4, fun W4 σ4 e5 ok4 x4 er4 => w W4 σ4 e5 ok4 (xx.trans x4) er4⟩
      · rename_i v N4 h4
        cases hf
        exact ⟨W3, e2, .rt v, _, rfl, ok3, er3, by rw [e3]; exact h4, fun W4 σ4 e5 ok4 x4 er4 => w W4 σ4 e5 ok4 (xx.trans x4) er4⟩
      · cases hf
    · rename_i N1 h1
      cases hf
      refine ⟨W2, e2, false, _, rfl, ok2, er2, h1, fun W3 e3 ok3 x3 => ?_⟩
      refine iteF ?_
      exact w W3 σ2 e3 ok3 (x2.trans x3) (er2.ext ok2 x3)
    · cases hf
end

/-! ### comprehensions -/
def rdTs (K : PySem.W.Frag) (m : TM) : TT := rdT K m
abbrev JTs (X : Cx) (ifs : List Expr) (m : TM) : Prop := PTs X ifs (rdT X.K m)
def mYes : TM := fun _ M => some (true, M)
theorem PTs.imp {X : Cx} {e : List Expr} {t t' : TT} (h : PTs X e t) (i : ∀ σ H Q, t' σ H Q → t σ H Q) : PTs X e t' := ⟨fun pins s σ H Q I q => h.run pins s σ H Q I (i _ _ _ q)⟩
theorem jts_nil {X : Cx} : JTs X [] mYes := PTs.imp pts_nil fun σ H Q q => by
  obtain ⟨W, e, b, M', rfl, ok, er, hm, w⟩ := q
  cases hm
  exact w W rfl ok (Ext.refl W)
theorem jts_one {X : Cx} {c : Expr} {t : TM} (h : JT X c t) : JTs X [c] t := pts_one h
def compL (g : GM) (t : TM) (m : EM) : List D → AM
  | [] => fun _ M => some ([], M)
  | d :: ds => fun e M => match g d e with
    | some e1 => (match t e1 M with
      | some (true, M1) => (match m e1 M1 with
        | some (y, M2) => (match compL g t m ds e M2 with
          | some (ys, M3) => some (y :: ys, M3)
          | none => none)
        | none => none)
      | some (false, M1) => compL g t m ds e M1
      | none => none)
    | none => none
def fComp (it : AM) (g : GM) (t : TM) (m : EM) (vs : List Nat) : AM := fun e M => match it e M with
  | some (ds, M1) => (match compL g t m ds (wipeE e vs) M1 with
    | some (ys, M2) => if ys.length ≤ sizeLine then some (ys, M2) else none
    | none => none)
  | none => none
/-- the list that a comprehension makes: ours, not in the store -/
structure Hid (W : Wd) (p : Addr) : Prop where
  own : W.O p
  out : ∀ r, r < W.M.length → W.ρ r ≠ p
def Wd.hset (W : Wd) (p : Addr) (o : HO) : Wd := { W with H := upd W.H p o }
section
variable {K : PySem.W.Frag} {W W1 : Wd} {p : Addr} {o : HO}
mutual
theorem VRel.hset (h : W.O p) : ∀ (d : D) (v : V), VRel K W d v → VRel K (W.hset p o) d v
  | .non, v, r => by simpa only [VRel] using r
  | .bl b, v, r => by simpa only [VRel] using r
  | .int i, v, r => by simpa only [VRel] using r
  | .str x, v, r => by simpa only [VRel] using r
  | .tup l, v, r => by
    simp only [VRel] at r ⊢
    obtain ⟨a, xs, rfl, h1, h2, h3⟩ := r
    exact ⟨a, xs, rfl, (upd_ne (fun z => h2 (by rw [z]; exact h))).trans h1, h2, VRels.hset h l xs h3⟩
  | .lst l, v, r => by
    simp only [VRel] at r ⊢
    obtain ⟨a, xs, rfl, h1, h2, h3⟩ := r
    exact ⟨a, xs, rfl, (upd_ne (fun z => h2 (by rw [z]; exact h))).trans h1, h2, VRels.hset h l xs h3⟩
  | .kl l, v, r => by
    simp only [VRel] at r ⊢
    obtain ⟨a, xs, rfl, h1, h3⟩ := r
    refine ⟨a, xs, rfl, ?_, VRels.hset h l xs h3⟩
    rcases h1 with ⟨⟨ob, h1⟩, h2⟩ | h1
    · exact .inl ⟨⟨ob, (upd_ne (fun z => h2 (by rw [z]; exact h))).trans h1⟩, h2⟩
    · exact .inr h1
  | .kt l, v, r => by
    simp only [VRel] at r ⊢
    obtain ⟨a, xs, rfl, h1, h3⟩ := r
    exact ⟨a, xs, rfl, h1, VRels.hset h l xs h3⟩
  | .ref r, v, q => by
    simp only [VRel] at q ⊢
    exact q
  | .obj C ns ds, v, r => by
    simp only [VRel] at r ⊢
    obtain ⟨a, dx, xs, rfl, h1, h2, h4, h3⟩ := r
    exact ⟨a, dx, xs, rfl, (upd_ne (fun z => h2 (by rw [z]; exact h))).trans h1, h2, h4, VRels.hset h ds xs h3⟩
theorem VRels.hset (h : W.O p) : ∀ (ds : List D) (vs : List V), VRels K W ds vs → VRels K (W.hset p o) ds vs
  | [], vs, r => by simpa only [VRels] using r
  | d :: ds, vs, q => by
    simp only [VRels] at q ⊢
    obtain ⟨v, r, rfl, h1, h2⟩ := q
    exact ⟨v, r, rfl, VRel.hset h d v h1, VRels.hset h ds r h2⟩
end
theorem Ok.hset (ok : Ok K W) (h : Hid W p) : Ok K (W.hset p o) := by
  refine ⟨ok.inj, ok.own, fun a q => ?_, fun r u e => ?_⟩
  · show upd W.H p o a ≠ none
    by_cases z : a = p
    · rw [z, upd_same]; simp
    · rw [upd_ne z]; exact ok.trk a q
  · have hr := lt_of_at e
    have hne := h.out r hr
    have z := ok.obj r u e
    cases u with
    | lst l =>
      obtain ⟨xs, h1, h2⟩ := z
      exact ⟨xs, (upd_ne hne).trans h1, VRels.hset h.own _ _ h2⟩
    | ins C ns ds =>
      obtain ⟨dx, xs, h1, h3, h2⟩ := z
      exact ⟨dx, xs, (upd_ne hne).trans h1, h3, VRels.hset h.own _ _ h2⟩
theorem Ext.hset (x : Ext W1 W) (hn : W1.H p = none) : Ext W1 (W.hset p o) :=
  ⟨x.len, x.rho, x.sub, x.new, x.fresh, fun a u e n => (upd_ne (ne_of_none e hn)).trans (x.keep a u e n), fun a e => by
    show upd W.H p o a ≠ none
    by_cases z : a = p
    · rw [z, upd_same]; simp
    · rw [upd_ne z]; exact x.trk a e⟩
theorem Hid.ext (h : Hid W p) (x : Ext W W1) (t : W.H p ≠ none) : Hid W1 p :=
  ⟨x.sub p h.own, fun r hr e => by
    by_cases q : r < W.M.length
    · rw [x.rho r q] at e; exact h.out r q e
    · have z := x.fresh r (by omega) hr
      rw [e] at z
      exact t z⟩
theorem Hid.hset (h : Hid W p) : Hid (W.hset p o) p := ⟨h.own, h.out⟩
/-- the heap without it -/
def Wd.less (W : Wd) (p : Addr) : Wd := { W with O := fun a => W.O a ∧ a ≠ p, H := fun a => if a = p then none else W.H a }
mutual
theorem VRel.less (h : W.O p) : ∀ (d : D) (v : V), VRel K W d v → VRel K (W.less p) d v
  | .non, v, r => by simpa only [VRel] using r
  | .bl b, v, r => by simpa only [VRel] using r
  | .int i, v, r => by simpa only [VRel] using r
  | .str x, v, r => by simpa only [VRel] using r
  | .tup l, v, r => by
    simp only [VRel] at r ⊢
    obtain ⟨a, xs, rfl, h1, h2, h3⟩ := r
    exact ⟨a, xs, rfl, (if_neg (fun z => h2 (by rw [z]; exact h))).trans h1, fun z => h2 z.1, VRels.less h l xs h3⟩
  | .lst l, v, r => by
    simp only [VRel] at r ⊢
    obtain ⟨a, xs, rfl, h1, h2, h3⟩ := r
    exact ⟨a, xs, rfl, (if_neg (fun z => h2 (by rw [z]; exact h))).trans h1, fun z => h2 z.1, VRels.less h l xs h3⟩
  | .kl l, v, r => by
    simp only [VRel] at r ⊢
    obtain ⟨a, xs, rfl, h1, h3⟩ := r
    refine ⟨a, xs, rfl, ?_, VRels.less h l xs h3⟩
    rcases h1 with ⟨⟨ob, h1⟩, h2⟩ | h1
    · exact .inl ⟨⟨ob, (if_neg (fun z => h2 (by rw [z]; exact h))).trans h1⟩, fun z => h2 z.1⟩
    · exact .inr h1
  | .kt l, v, r => by
    simp only [VRel] at r ⊢
    obtain ⟨a, xs, rfl, h1, h3⟩ := r
    exact ⟨a, xs, rfl, h1, VRels.less h l xs h3⟩
  | .ref r, v, q => by
    simp only [VRel] at q ⊢
    exact q
  | .obj C ns ds, v, r => by
    simp only [VRel] at r ⊢
    obtain ⟨a, dx, xs, rfl, h1, h2, h4, h3⟩ := r
    exact ⟨a, dx, xs, rfl, (if_neg (fun z => h2 (by rw [z]; exact h))).trans h1, fun z => h2 z.1, h4, VRels.less h ds xs h3⟩
theorem VRels.less (h : W.O p) : ∀ (ds : List D) (vs : List V), VRels K W ds vs → VRels K (W.less p) ds vs
  | [], vs, r => by simpa only [VRels] using r
  | d :: ds, vs, q => by
    simp only [VRels] at q ⊢
    obtain ⟨v, r, rfl, h1, h2⟩ := q
    exact ⟨v, r, rfl, VRel.less h d v h1, VRels.less h ds r h2⟩
end
theorem Ok.less (ok : Ok K W) (h : Hid W p) : Ok K (W.less p) := by
  refine ⟨ok.inj, fun r hr => ⟨ok.own r hr, h.out r hr⟩, fun a q => ?_, fun r u e => ?_⟩
  · show (if a = p then none else W.H a) ≠ none
    rw [if_neg q.2]; exact ok.trk a q.1
  · have hr := lt_of_at e
    have hne := h.out r hr
    have z := ok.obj r u e
    cases u with
    | lst l =>
      obtain ⟨xs, h1, h2⟩ := z
      exact ⟨xs, (if_neg hne).trans h1, VRels.less h.own _ _ h2⟩
    | ins C ns ds =>
      obtain ⟨dx, xs, h1, h3, h2⟩ := z
      exact ⟨dx, xs, (if_neg hne).trans h1, h3, VRels.less h.own _ _ h2⟩
theorem Ext.less (ok : Ok K W1) (x : Ext W1 W) (hn : W1.H p = none) : Ext W1 (W.less p) :=
  ⟨x.len, x.rho, fun a z => ⟨x.sub a z, fun e => ok.trk a z (by rw [e]; exact hn)⟩, fun a z => x.new a z.1, x.fresh, fun a u e n => (if_neg (ne_of_none e hn)).trans (x.keep a u e n), fun a e => by
    show (if a = p then none else W.H a) ≠ none
    have z : a ≠ p := fun q => e (by rw [q]; exact hn)
    rw [if_neg z]; exact x.trk a e⟩
theorem less_upd {o : HO} (h : W.H p = some o) : upd (W.less p).H p o = W.H := by
  funext a
  by_cases z : a = p
  · rw [z, upd_same, h]
  · rw [upd_ne z]; exact if_neg z
theorem Wd.less_none : (W.less p).H p = none := if_pos rfl
/-- ahead of the loop -/
def Wd.hnew (W : Wd) (p : Addr) (o : HO) : Wd := { W with O := fun a => W.O a ∨ a = p, H := upd W.H p o }
theorem Ext.hnew (hn : W.H p = none) : Ext W (W.hnew p o) :=
  ⟨Nat.le_refl _, fun _ _ => rfl, fun _ h => .inl h, fun a h => h.elim .inl fun z => .inr (by rw [z]; exact hn), fun r h1 h2 => absurd h1 (Nat.not_le_of_lt h2),
    fun a u e _ => (upd_ne (ne_of_none e hn)).trans e, fun a e => by
      show upd W.H p o a ≠ none
      by_cases z : a = p
      · rw [z, upd_same]; simp
      · rw [upd_ne z]; exact e⟩
theorem Ok.hnew (ok : Ok K W) (hn : W.H p = none) : Ok K (W.hnew p o) := by
  refine ⟨ok.inj, fun r hr => .inl (ok.own r hr), fun a q => ?_, fun r u e => ?_⟩
  · rcases q with q | q
    · exact (Ext.hnew (o := o) hn).trk a (ok.trk a q)
    · show upd W.H p o a ≠ none
      rw [q, upd_same]; simp
  · refine ORel.ext ok (Ext.hnew hn) (ok.obj r u e) ?_
    exact upd_ne fun (z : W.ρ r = p) => ok.at (lt_of_at e) (by rw [z]; exact hn)
theorem Hid.hnew (ok : Ok K W) (hn : W.H p = none) : Hid (W.hnew p o) p := ⟨.inr rfl, fun r hr z => ok.at hr (by rw [show W.ρ r = p from z]; exact hn)⟩
end
section
variable {X : Cx} {tg it elt : Expr} {ifs : List Expr} {scope : Scope} {own : List (Str × Nat)} {mi : AM} {g : GM} {t : TM} {m : EM} {vs : List Nat} {pos : Pos}
theorem rd_comp {K : PySem.W.Frag} {σ : L2.St} {H : Hp} {Q : VK} (q : rdF K (fComp mi g t m vs) σ H Q) : tLc (rdI K mi) (rdG K vs g) (rdT K t) (rdE K m) vs σ H Q := by
  obtain ⟨W, e, ys, M', rfl, ok, er, hm, w⟩ := q
  unfold fComp at hm
  split at hm
  · rename_i ds N1 h1
    split at hm
    · rename_i zs N2 h2
      split at hm
      · rename_i hz
        cases hm
        refine ⟨W, e, ds, N1, rfl, ok, er, h1, fun W1 J e1 ok1 x1 hJ => fun p hp => ?_⟩
        have er1 := er.ext ok x1
        obtain ⟨G, Y, hw, hG, hY⟩ := hJ
        refine lc_it hw (fun i H => ∃ W2 acc vacc rest, W2.H = H ∧ Ok K W2 ∧ Ext W1 W2 ∧ Hid W2 p ∧ W2.H p = some (.lst vacc) ∧ VRels K W2 acc vacc ∧ compL g t m (ds.drop i) (wipeE e vs) W2.M = some (rest, M') ∧ ys = acc ++ rest)
          ⟨W1.hnew p (.lst []), [], [], ys, rfl, Ok.hnew ok1 hp, Ext.hnew hp, Hid.hnew ok1 hp, upd_same, VRels.nil, by rw [List.drop_zero, show (W1.hnew p (.lst [])).M = W1.M from rfl, e1]; exact h2, rfl⟩ (fun i H _ ⟨W2, acc, vacc, rest, h, ok2, x2, _⟩ => h ▸ hG W2 ok2 x2) ?_ ?_
        · rintro i x H2 H3 hi ⟨W2, acc, vacc, rest, rfl, ok2, x2, hid, hH, hacc, hc, hys⟩ hy
          have hd : ds[i]? = some ds[i] := List.getElem?_eq_getElem hi
          obtain ⟨W3, rfl, hM3, ok3, x3, r3⟩ := hY W2 i x H3 ds[i] ok2 x2 hd hy
          have hid3 := hid.ext x3 (by rw [hH]; simp)
          have hH3 := x3.keep _ _ hH hid.out
          have hacc3 := VRels.ext ok2 x3 _ _ hacc
          have xx3 := x2.trans x3
          rw [List.drop_eq_getElem_cons hi] at hc
          unfold compL at hc
          split at hc
          · rename_i e3 he3
            refine ⟨W3, wipeE e vs, ds[i], e3, rfl, ok3, (er1.ext ok1 xx3).wipe vs, r3, he3, fun σ3 er3 hw3 => ⟨hw3.trans (wipe_idem σ vs), ?_⟩⟩
            split at hc
            · rename_i N4 h4
              refine ⟨W3, e3, true, N4, rfl, ok3, er3, by rw [hM3]; exact h4, fun W4 e4 ok4 x4 => ?_⟩
              refine iteT ?_
              have hid4 := hid3.ext x4 (by rw [hH3]; simp)
              have hH4 := x4.keep _ _ hH3 hid3.out
              have hacc4 := VRels.ext ok3 x4 _ _ hacc3
              split at hc
              · rename_i y N5 h5
                split at hc
                · rename_i yr N6 h6
                  cases hc
                  refine ⟨W4, e3, y, N5, rfl, ok4, er3.ext ok3 x4, by rw [e4]; exact h5, fun W5 v5 e5 ok5 x5 r5 => ?_⟩
                  have hid5 := hid4.ext x5 (by rw [hH4]; simp)
                  have hH5 := x5.keep _ _ hH4 hid4.out
                  have hacc5 := VRels.ext ok4 x5 _ _ hacc4
                  have xx5 := (xx3.trans x4).trans x5
                  have hl := VRels.length hacc5
                  have hly : ys.length = acc.length + (yr.length + 1) := by rw [hys, List.length_append, List.length_cons]
                  refine ⟨vacc, hH5, by omega, W5.hset p (.lst (vacc ++ [v5])), acc ++ [y], vacc ++ [v5], yr, rfl, Ok.hset ok5 hid5, Ext.hset xx5 hp, hid5.hset, upd_same, VRels.hset hid5.own _ _ (VRels.append hacc5 (VRels.cons r5 VRels.nil)), ?_, by rw [hys]; simp⟩
                  show compL g t m _ _ W5.M = _
                  rw [e5]; exact h6
                · cases hc
              · cases hc
            · rename_i N4 h4
              refine ⟨W3, e3, false, N4, rfl, ok3, er3, by rw [hM3]; exact h4, fun W4 e4 ok4 x4 => ?_⟩
              refine iteF ?_
              exact ⟨W4, acc, vacc, rest, rfl, ok4, xx3.trans x4, hid3.ext x4 (by rw [hH3]; simp), x4.keep _ _ hH3 hid3.out, VRels.ext ok3 x4 _ _ hacc3, by rw [e4]; exact hc, hys⟩
            · cases hc
          · cases hc
        · rintro H2 ⟨W2, acc, vacc, rest, rfl, ok2, x2, hid, hH, hacc, hc, hys⟩
          rw [List.drop_length] at hc
          cases hc
          rw [List.append_nil] at hys
          subst hys
          have z := w (W2.less p) vacc p rfl (Ok.less ok2 hid) (x1.trans (Ext.less ok1 x2 hp)) (VRels.less hid.own _ _ hacc) Wd.less_none
          rw [less_upd hH] at z
          exact z
      · cases hm
    · cases hm
  · cases hm
theorem jf_comp (hc : X.calm = true) (hN : X.N.Nodup) (hi : JI X tg it mi) (ok : BlkOk X.N X.env.scope scope own) (hv : own.map (·.2) = vs)
    (hg : ∀ (s : Shared) (H : Hp) (C : Addr) (cl : List (Str × Addr)) (fp : List Addr), JG (X.blk s H scope (compEnvC scope cl C X.env) fp) vs tg g) (ht : ∀ (s : Shared) (H : Hp) (C : Addr) (cl : List (Str × Addr)) (fp : List Addr), JTs (X.blk s H scope (compEnvC scope cl C X.env) fp) ifs t)
    (he : ∀ (s : Shared) (H : Hp) (C : Addr) (cl : List (Str × Addr)) (fp : List Addr), JE (X.blk s H scope (compEnvC scope cl C X.env) fp) elt m) (hs : ∀ x, foldedSetIterable it X.env x = pure x := by intro _; rfl) :
    JF X (.ListComp elt [⟨tg, it, ifs, 0⟩] scope pos) (fComp mi g t m vs) := by
  subst hv
  exact PE.imp (pe_lc hc hN hi ok hg ht he hs) fun σ H Q q => rd_comp q
/-- name = [..] where the name is a plain local -/
theorem js_setLc {i : Nat} {y : Str} {py spos : Pos} (hc : X.calm = true) (hN : X.N.Nodup) (hy : X.N[i]? = some y) (hyl : X.env.scope.names.lookup y = some .local)
    (hsw : swapsWith (.ListComp elt [⟨tg, it, ifs, 0⟩] scope pos) (some (.Name y py)) spos.line X.env = pure true) (hi : JI X tg it mi) (ok : BlkOk X.N X.env.scope scope own) (hv : own.map (·.2) = vs)
    (hg : ∀ (s : Shared) (H : Hp) (C : Addr) (cl : List (Str × Addr)) (fp : List Addr), JG (X.blk s H scope (compEnvC scope cl C X.env) fp) vs tg g) (ht : ∀ (s : Shared) (H : Hp) (C : Addr) (cl : List (Str × Addr)) (fp : List Addr), JTs (X.blk s H scope (compEnvC scope cl C X.env) fp) ifs t)
    (he : ∀ (s : Shared) (H : Hp) (C : Addr) (cl : List (Str × Addr)) (fp : List Addr), JE (X.blk s H scope (compEnvC scope cl C X.env) fp) elt m) (hs : ∀ x, foldedSetIterable it X.env x = pure x := by intro _; rfl) :
    PS X (.Assign [.Name y py] (.ListComp elt [⟨tg, it, ifs, 0⟩] scope pos) spos) (tAsg (rdF X.K (fComp mi g t m vs)) (gName i)) := by
  subst hv
  exact PS.imp (ps_setLc hc hN hy hyl hsw hi ok hg ht he hs) fun D σ H q => rd_comp q
/-- .. as a value, as an object -/
theorem js_asgF {i : Nat} {st : Stmt} {mr : AM} (h : PS X st (tAsg (rdF X.K mr) (gName i))) : JS X st (sAsg (eVal mr) (gN i)) := by
  refine PS.imp h fun D σ H q => ?_
  obtain ⟨W, e, fl, M', rfl, ok, er, hm, w⟩ := q
  unfold sAsg gN eVal at hm
  split at hm
  · rename_i d N1 h1
    split at h1
    · rename_i ys N2 h2
      cases h1
      cases hm
      refine ⟨W, e, ys, _, rfl, ok, er, h2, fun W1 vs p e1 ok1 x1 r1 hp => ?_⟩
      exact w (W1.grow p (.lst vs)) _ e1 (Wd.grow_ok ok1 hp) (x1.trans (Wd.grow_ext hp)) ((er.ext ok (x1.trans (Wd.grow_ext hp))).set (VRel.newLst ok1 hp r1))
    · cases h1
  · cases hm
end
end DV

end

section
set_option Elab.async false
set_option linter.all false
set_option maxRecDepth 100000
/-! Dv9: own defs by name, keywords, the head's facts -/
namespace DV
open PySem PySem.Spec PyProof.Rows L2

theorem Room.units65 {k : Nat} {A : Around} (r : Room k A) : A.units + 65 < cLine := by have := r.un; omega
/-- a list joined from two, just made -/
def fCat (a b : EM) : AM := fun e M => match a e M with
  | some (x, M1) => (match b e M1 with
    | some (y, M2) => (match asL x M2, asL y M2 with
      | some l, some r => if l.length + r.length ≤ sizeLine then some (l ++ r, M2) else none
      | _, _ => none)
    | none => none)
  | none => none
theorem jf_cat {X : Cx} {a b : Expr} {ma mb : EM} {pos : Pos} (ha : JE X a ma) (hb : JE X b mb) : JF X (.BinOp a .Add b pos) (fCat ma mb) := by
  refine PE.imp (pe_op op_cat ha hb) fun σ H Q q => ?_
  obtain ⟨W, e, ys, M', rfl, ok, er, hm, w⟩ := q
  unfold fCat at hm
  split at hm
  · rename_i x N1 h1
    split at hm
    · rename_i y N2 h2
      split at hm
      · rename_i l r hl hr
        split at hm
        · rename_i hz
          cases hm
          refine ⟨W, e, x, N1, rfl, ok, er, h1, fun W1 v1 e1 ok1 x1 r1 => ⟨W1, e, y, _, rfl, ok1, er.ext ok x1, by rw [e1]; exact h2, fun W2 v2 e2 ok2 x2 r2 => ?_⟩⟩
          obtain ⟨p1, xs, rfl, g1, g3⟩ := asL_rel ok2 (VRel.ext ok1 x2 _ _ r1) (by rw [e2]; exact hl)
          obtain ⟨p2, zs, rfl, k1, k3⟩ := asL_rel ok2 r2 (by rw [e2]; exact hr)
          have l1 := VRels.length g3
          have l2 := VRels.length k3
          exact ⟨p1, p2, xs, zs, rfl, rfl, g1, k1, by omega, fun p hp => w W2 _ p e2 ok2 (x1.trans x2) (VRels.append g3 k3) hp⟩
        · cases hm
      · cases hm
    · cases hm
  · cases hm

/-! ### own defs by name -/
structure Cal (P : Program) (w : World) (K : PySem.W.Frag) (mg : Str → Option Value) (base : Heap) (x : Str) (k : Nat) (ps : List Str) (F : Fn) : Prop where
  ex : ∃ f fd, FnOk P w K mg base CX0 k f fd ps (spF K ps.length F) ∧ mg x = some (.ref f) ∧ PySem.W.keepIn K (.ref f) = true ∧ Binds K fd ps []
/-- .. that may be called by keywords alone -/
structure CalK (P : Program) (w : World) (K : PySem.W.Frag) (mg : Str → Option Value) (base : Heap) (x : Str) (k : Nat) (ps : List Str) (F : Fn) : Prop where
  ex : ∃ f fd, FnOk P w K mg base CX0 k f fd ps (spF K ps.length F) ∧ mg x = some (.ref f) ∧ PySem.W.keepIn K (.ref f) = true ∧ (∀ ws : List Value, ws.length = ps.length → ∀ s, BindsTo s fd ⟨[], ps.zip ws⟩ (ps.zip ws))
theorem Cal.mono {P : Program} {w : World} {K : PySem.W.Frag} {mg : Str → Option Value} {base : Heap} {x : Str} {j k : Nat} {ps : List Str} {F : Fn} (c : Cal P w K mg base x j ps F) (h : j ≤ k) : Cal P w K mg base x k ps F :=
  let ⟨f, fd, a, b⟩ := c.ex; ⟨f, fd, a.mono h, b⟩
section
variable {X : Cx} {x : Str} {p pos : Pos} {e : Expr} {es : List Expr} {mr : AM} {F : Fn} {j k : Nat} {ps ks : List Str} {kws : List Keyword}
theorem je_own (c : Cal X.prog X.w X.K X.mg X.base x j ps F) (hr : Room k X.A) (hjk : j ≤ k) (hg : Gl X x) (ha : JA X (e :: es) mr)
    (hdb : (x == ("__debug__" : Str)) = false := by decide) (he : starEach (e :: es) X.env = (false, eval e X.env) :: starEach es X.env := by rfl) (hpl : (backTo pos (starEach es X.env)).any (·.1) = false := by rfl) :
    JE X (.Call (.Name x p) (e :: es) [] pos) (eCall F ps.length mr) :=
  let ⟨_, _, G, hm, hk, hb⟩ := c.ex; je_call G (hr.mono hjk) hg hm hk hb ha hdb he hpl
abbrev JK (X : Cx) (kws : List Keyword) (m : AM) : Prop := PK X kws (rdA X.K m)
theorem PK.imp {kws : List Keyword} {t t' : TA} (h : PK X kws t) (i : ∀ σ H Q, t' σ H Q → t σ H Q) : PK X kws t' := ⟨fun pos pins s σ H Q I q => h.run pos pins s σ H Q I (i _ _ _ q)⟩
theorem jk_nil : JK X [] aNil := PK.imp pk_nil fun σ H Q q => by
  obtain ⟨W, e, d, M', rfl, ok, er, hm, w⟩ := q
  cases hm
  exact w W [] rfl ok (Ext.refl W) VRels.nil
theorem jk_cons {nm : Option Str} {kpos : Pos} {ma : EM} (ha : JE X e ma) (hr : JK X kws mr) : JK X (⟨nm, e, kpos⟩ :: kws) (aCons ma mr) := by
  refine PK.imp (pk_cons ha hr) fun σ H Q q => ?_
  obtain ⟨W, en, d, M', rfl, ok, er, hm, w⟩ := q
  unfold aCons at hm
  split at hm
  · rename_i y N1 h1
    split at hm
    · rename_i xs N2 h2
      cases hm
      exact ⟨W, en, y, N1, rfl, ok, er, h1, fun W1 v1 e1 ok1 x1 r1 => ⟨W1, en, xs, _, rfl, ok1, er.ext ok x1, by rw [e1]; exact h2, fun W2 vs e2 ok2 x2 r2 => w W2 (v1 :: vs) e2 ok2 (x1.trans x2) (VRels.cons (VRel.ext ok1 x2 _ _ r1) r2)⟩⟩
    · cases hm
  · cases hm
/-- f(k = v, ..): all by keywords, in the parameters' order -/
theorem je_ownK (c : CalK X.prog X.w X.K X.mg X.base x j ps F) (hr : Room k X.A) (hjk : j ≤ k) (hg : Gl X x) (ha : JK X kws mr)
    (hall : (backToKw pos (keywordEach kws X.env)).all (·.1.isSome) = true := by rfl) (hks : (backToKw pos (keywordEach kws X.env)).filterMap (·.1) = ps := by rfl) (hdb : (x == ("__debug__" : Str)) = false := by decide)
    (hpl : ((backTo pos (starEach [] X.env)).any (·.1) || (backToKw pos (keywordEach kws X.env)).any (·.1.isNone)) = false := by rfl) :
    JE X (.Call (.Name x p) [] kws pos) (eCall F ps.length mr) := by
  obtain ⟨f, fd, G, hm, hk, hb⟩ := c.ex
  refine ⟨fun pins s σ H Q I h => ?_⟩
  refine wpAny_Call_Name_kw (ld_glob I hg hm ?_ hdb)
  refine PySem.W.callWith_KW0 (h₀ := X.base) I.ok.mod.kin hk hall ?_ hpl
  have h2 := rd_call h
  have h2 : rdA X.K mr σ H fun vs H1 => spF X.K ps.length F (vs ++ []) H1 Q E0 := h2
  refine thn (ha.run pos pins s σ H _ I h2) fun ws s2 ⟨zs, H2, I2, rz, q2⟩ => ⟨I2.kIn, ?_⟩
  rw [hks]
  have q2 : spF X.K ps.length F (zs ++ []) H2 Q E0 := q2
  rw [List.append_nil] at q2
  have hl : zs.length = ps.length := G.len _ _ _ _ q2
  have hb2 := hb ws (by rw [← rz.length]; exact hl) s2
  refine wpAny_call (codeAny_mono (G.run X.A X.stack s2 H2 ⟨[], ps.zip ws⟩ ws zs Q E0 (hr.mono hjk) I2.env0 hb2 rz q2) fun r s' hq => ?_)
  cases r with
  | error e => exact hq.elim
  | ok fl =>
    cases fl with
    | ret u => exact I2.after hq
    | next => exact False.elim hq
    | brk => exact False.elim hq
    | cont => exact False.elim hq
end
/-- a method (an __init__) -/
structure Mth (P : Program) (w : World) (K : PySem.W.Frag) (mg : Str → Option Value) (base : Heap) (f : Addr) (k : Nat) (ps : List Str) (F : Fn) : Prop where
  ex : ∃ fd, FnOk P w K mg base CX0 k f fd ps (spF K ps.length F) ∧ Binds K fd ps []
theorem je_new2 {X : Cx} {C : Str} {p pos : Pos} {e : Expr} {es : List Expr} {mr : AM} {F : Fn} {j k : Nat} {f : Addr} {ps : List Str} (M : Mk X.K (He.ga X.K C) f) (c : Mth X.prog X.w X.K X.mg X.base f j ps F) (hr : Room k X.A) (hjk : j + 1 ≤ k) (hg : Gl X C)
    (hm : X.mg C = some (.ref (He.ga X.K C))) (ha : JA X (e :: es) mr)
    (hdb : (C == ("__debug__" : Str)) = false := by decide) (he : starEach (e :: es) X.env = (false, eval e X.env) :: starEach es X.env := by rfl) (hpl : (backTo pos (starEach es X.env)).any (·.1) = false := by rfl) :
    JE X (.Call (.Name C p) (e :: es) [] pos) (eMk C F ps.length mr) :=
  let ⟨_, G, hb⟩ := c.ex; je_mk M G (hr.mono hjk) hg hm hb ha hdb he hpl

/-- binding by keywords alone -/
theorem bindsK {K : PySem.W.Frag} {x qual : Str} {params : Arguments} {body : List Stmt} {scope : Scope} {kws : List (Str × V)} {f : Addr} {fd : FuncData} {ps : List Str} (F : FunD K x qual params body scope [] kws f fd)
    (h : ∀ (kV doc pm : Value) (an : Option Addr) (cdv ct : Value) (ws : List Value), ws.length = ps.length → bindArgs (PySem.W.fnOf x qual params body scope .none kV doc pm an cdv ct) ⟨[], ps.zip ws⟩ = pure (ps.zip ws)) (ws : List Value) (hl : ws.length = ps.length) (s : Shared) : BindsTo s fd ⟨[], ps.zip ws⟩ (ps.zip ws) := by
  obtain ⟨oc, od, dV, kV, doc, pm, an, cdv, ct, osl, rfl, lk, hcd, hD, hK⟩ := F.ex
  rcases hD with ⟨_, rfl⟩ | ⟨e, _⟩
  · exact .of_eq (h kV doc pm an cdv ct ws hl)
  · exact absurd rfl e
/-- a comprehension's list kept as an object (it will change) -/
theorem js_asgFN {X : Cx} {i : Nat} {st : Stmt} {mr : AM} (h : PS X st (tAsg (rdF X.K mr) (gName i))) : JS X st (sAsg (eNew mr) (gN i)) := by
  refine PS.imp h fun D σ H q => ?_
  obtain ⟨W, e, fl, M', rfl, ok, er, hm, w⟩ := q
  unfold sAsg gN eNew at hm
  split at hm
  · rename_i d N1 h1
    split at h1
    · rename_i ys N2 h2
      cases h1
      cases hm
      refine ⟨W, e, ys, _, rfl, ok, er, h2, fun W1 vs p e1 ok1 x1 r1 hp => ?_⟩
      have E := Wd.alloc_ext (ob := .lst ys) (o := .lst vs) hp
      refine w (W1.alloc p (.lst ys) (.lst vs)) _ (by show W1.M ++ _ = _; rw [e1]) (Wd.alloc_ok ok1 hp ⟨vs, upd_same, VRels.ext ok1 E _ _ r1⟩) (x1.trans E) ((er.ext ok (x1.trans E)).set ?_)
      simp only [VRel]
      refine ⟨?_, ?_⟩
      · show N2.length < (W1.M ++ [Ob.lst ys]).length
        rw [e1]; simp
      · show V.ref p = V.ref (if N2.length = W1.M.length then p else _)
        rw [e1]; simp
    · cases h1
  · cases hm
/-! ### a def that is never called so deep -/
theorem fn_ok_none {P : Program} {w : World} {K : PySem.W.Frag} {mg : Str → Option Value} {base : Heap} {k : Nat} {f : Addr} {fd : FuncData} {ps : List Str} : FnOk P w K mg base CX0 k f fd ps (spF K ps.length fun _ _ => none) := by
  refine ⟨fun vs H Q E h => ?_, fun A outer s H args us vs Q E hr he hb hv h => ?_⟩
  · obtain ⟨W, ds, d, M', _, _, _, _, hf, _⟩ := h
    cases hf
  · obtain ⟨W, ds, d, M', _, _, _, _, hf, _⟩ := h
    cases hf

/-! ### the head's facts -/
/-- what the head tells besides: any Bool of the written part -/
abbrev AlB : Type := He.AlD × Bool
def obsB (fa : List He.Fa) (fn : List He.DefD) (ex : PySem.W.Frag → Bool) (K : PySem.W.Frag) : AlB := (He.obsD fa fn K, ex K)
def valB (fn : List He.DefD) : AlB := (He.valD fn, true)
def SaysB (fa : List He.Fa) (fn : List He.DefD) (ex : PySem.W.Frag → Bool) (K : PySem.W.Frag) : Prop := obsB fa fn ex K = valB fn
def obsBG (n : Nat) (fa : List He.Fa) (fn : List He.DefD) (ex : PySem.W.Frag → Bool) (g : Addr → Option Obj) : AlB := obsB fa fn ex (He.frG g (He.asD g n))
def hookB (n : Nat) (fa : List He.Fa) (fn : List He.DefD) (ex : PySem.W.Frag → Bool) : PySem.W.Hook where
  α := AlB
  obs := fun s => obsBG n fa fn ex s.heap.get?
  val := fun _ => valB fn
  says := fun _ h => ∃ K : PySem.W.Frag, K.In h ∧ SaysB fa fn ex K
  of := fun _ _ e => ⟨_, He.frG_in, e⟩
  keeps := fun _ _ _ ⟨K, hK, c⟩ k => ⟨K, PySem.W.Frag.In.keeps hK k, c⟩
theorem obsBG_eq {n : Nat} {fa : List He.Fa} {fn : List He.DefD} {ex : PySem.W.Frag → Bool} {g : Addr → Option Obj} {s : Shared} (h : ∀ a, g a = s.heap.get? a) : obsBG n fa fn ex g = (hookB n fa fn ex).obs s := by
  have e : g = s.heap.get? := funext h
  rw [e] <;> rfl
theorem SaysB.d {fa : List He.Fa} {fn : List He.DefD} {ex : PySem.W.Frag → Bool} {K : PySem.W.Frag} (c : SaysB fa fn ex K) : He.SaysD fa fn K := congrArg (fun z : AlB => z.1) c
theorem SaysB.more {fa : List He.Fa} {fn : List He.DefD} {ex : PySem.W.Frag → Bool} {K : PySem.W.Frag} (c : SaysB fa fn ex K) : ex K = true := congrArg (fun z : AlB => z.2) c
/-- a tuple of texts that the module holds -/
theorem ktup_of {K : PySem.W.Frag} {x : Str} {zs : List Str} (h : He.tupB K x (zs.map He.Dv.str) = true) : KTup K (He.ga K x) (zs.map V.str) := by
  have e : (zs.map He.Dv.str).map (He.Dv.v K) = zs.map V.str := by rw [List.map_map]; rfl
  have q := He.tupB_ok h (fun _ => none)
  rw [e] at q
  rcases q with (q | ⟨o, q⟩) | q
  · cases q
  · cases q
  · exact q
end DV

end

section
set_option Elab.async false
set_option linter.all false
set_option maxRecDepth 100000
/-! Dv10: the law's script -/
namespace DV
open PySem PySem.Spec PyProof.Rows L2
theorem vrels_ints {K : PySem.W.Frag} {W : Wd} : ∀ ns : List Int, VRels K W (ns.map D.int) (ns.map V.int)
  | [] => VRels.nil
  | n :: ns => VRels.cons (by simp only [VRel]) (vrels_ints ns)
theorem spF_start {K : PySem.W.Frag} {F : Fn} {H : Hp} {a : Addr} {ns : List Int} {E : XK} (hO : Only H) (hS : SqL K H a (ns.map V.int)) (p : ∃ M', F [.kl (ns.map D.int)] [] = some (.bl true, M')) : spF K 1 F [.ref a] H (fun v _ => v = .bl true) E := by
  obtain ⟨M', p⟩ := p
  let W : Wd := ⟨fun _ => a, fun _ => False, [], H⟩
  have ok : Ok K W := ⟨fun r s h => absurd h (by show ¬ r < 0; omega), fun r h => absurd h (by show ¬ r < 0; omega), fun _ h => h.elim, fun r o h => by cases h⟩
  have hr : VRel K W (.kl (ns.map D.int)) (.ref a) := by
    simp only [VRel]
    refine ⟨a, ns.map V.int, rfl, ?_, vrels_ints ns⟩
    rcases hS with h | h
    · rcases h with h | ⟨o, h⟩
      · rcases hO a with z | ⟨o, xs, z⟩
        · have h' : H a = some _ := h; rw [z] at h'; cases h'
        · have h' : H a = some _ := h; rw [z] at h'; cases h'
      · exact .inl ⟨⟨o, h⟩, fun z => z⟩
    · exact .inr h
  refine ⟨W, [.kl (ns.map D.int)], .bl true, M', rfl, ok, VRels.cons hr VRels.nil, rfl, p, fun W1 v e1 ok1 x1 r1 => ?_⟩
  simpa only [VRel] using r1
end DV

end

section
set_option Elab.async false
set_option linter.all false
set_option maxRecDepth 100000
/-! Dv11: a list that may change is walked (it stays while it is walked) -/
namespace DV
open PySem PySem.Spec PyProof.Rows L2
def JRelR (K : PySem.W.Frag) (W0 : Wd) (r : Nat) (ds : List D) (J : It) : Prop := ∃ (G : Hp → Prop) (Y : Nat → Hp → V → Hp → Prop), Walk J ds.length G Y ∧ (∀ W, Ok K W → Ext W0 W → W.M[r]? = some (.lst ds) → G W.H) ∧
  ∀ W i x H' d, Ok K W → Ext W0 W → W.M[r]? = some (.lst ds) → ds[i]? = some d → Y i W.H x H' → ∃ W', W'.H = H' ∧ W'.M = W.M ∧ Ok K W' ∧ Ext W W' ∧ VRel K W' d x
abbrev IR := Env → Sto → Option ((Nat × List D) × Sto)
def rdR (K : PySem.W.Frag) (m : IR) : TI := fun σ H R => ∃ W e ds M', W.H = H ∧ Ok K W ∧ ERel K W e σ ∧ m e W.M = some (ds, M') ∧ ∀ W' J, W'.M = M' → Ok K W' → Ext W W' → JRelR K W' ds.1 ds.2 J → R J W'.H
abbrev JR (X : Cx) (tg it : Expr) (m : IR) : Prop := PI X tg it (rdR X.K m)
def iRef (m : EM) : IR := fun e M => match m e M with
  | some (.ref r, M1) => (match M1[r]? with
    | some (.lst l) => some ((r, l), M1)
    | _ => none)
  | _ => none
theorem jrelR_list {K : PySem.W.Frag} {W : Wd} {r : Nat} {l : List D} (ok : Ok K W) (hm : W.M[r]? = some (.lst l)) : JRelR K W r l (Itl K (W.ρ r)) := by
  have hr := lt_of_at hm
  have key : ∀ W', Ok K W' → Ext W W' → W'.M[r]? = some (.lst l) → ∃ xs, SqL K W'.H (W.ρ r) xs ∧ VRels K W' l xs := by
    intro W' ok' x h
    obtain ⟨xs, h1, h2⟩ := ok'.obj _ _ h
    rw [x.rho r hr] at h1
    exact ⟨xs, SqL.of h1, h2⟩
  refine ⟨fun H => ∃ xs, SqL K H (W.ρ r) xs ∧ xs.length = l.length, fun i H x H' => H' = H ∧ ∀ xs, SqL K H (W.ρ r) xs → xs[i]? = some x, ⟨?_, ?_, ?_⟩, ?_, ?_⟩
  · rintro i H hi ⟨xs, h, e⟩
    exact ⟨xs, xs[i], h, by simp [e, hi]⟩
  · rintro H ⟨xs, h, e⟩
    exact ⟨xs, h, by omega⟩
  · rintro i H x H' hi h y
    exact y
  · intro W' ok' x h
    obtain ⟨xs, h1, h2⟩ := key W' ok' x h
    exact ⟨xs, h1, (VRels.length h2).symm⟩
  · rintro W' i x H' d ok' xx h hd ⟨rfl, hy⟩
    obtain ⟨xs, h1, h2⟩ := key W' ok' xx h
    obtain ⟨v, g1, g2⟩ := VRels.get h2 hd
    have z := hy xs h1
    rw [z] at g1
    cases g1
    exact ⟨W', rfl, rfl, ok', Ext.refl W', g2⟩
theorem ji_ref {X : Cx} {tg it : Expr} {m : EM} (h : JE X it m) : JR X tg it (iRef m) := by
  refine PI.imp (pi_list h) fun σ H R q => ?_
  obtain ⟨W, e, ds, M', rfl, ok, er, hm, w⟩ := q
  unfold iRef at hm
  split at hm
  · rename_i r N1 h1
    split at hm
    · rename_i l hl
      cases hm
      refine ⟨W, e, .ref r, _, rfl, ok, er, h1, fun W1 v1 e1 ok1 x1 r1 => ?_⟩
      simp only [VRel] at r1
      have hl' : W1.M[r]? = some (.lst l) := by rw [e1]; exact hl
      obtain ⟨xs, g1, g2⟩ := ok1.obj _ _ hl'
      exact ⟨W1.ρ r, r1.2, ⟨xs, SqL.of g1⟩, w W1 _ e1 ok1 x1 (jrelR_list ok1 hl')⟩
    · cases hm
  · cases hm
/-- M's list at r is l -/
def Now (r : Nat) (l : List D) (M : Sto) : Prop := M[r]? = some (.lst l)
open Classical in
noncomputable def forR (r : Nat) (l : List D) (g : GM) (b : SM) : List D → SM
  | [] => fun e M => if Now r l M then some (.nx e, M) else none
  | d :: ds => fun e M => if Now r l M then (match g d e with
    | some e1 => (match b e1 M with
      | some (.nx e2, M2) => forR r l g b ds e2 M2
      | some (.ct e2, M2) => forR r l g b ds e2 M2
      | some (.bk e2, M2) => some (.nx e2, M2)
      | some (.rt v, M2) => some (.rt v, M2)
      | none => none)
    | none => none) else none
noncomputable def sForR (it : IR) (g : GM) (b : SM) : SM := fun e M => match it e M with
  | some (ds, M1) => forR ds.1 ds.2 g b ds.2 e M1
  | none => none
theorem forR_now {r : Nat} {l : List D} {g : GM} {b : SM} {ds : List D} {e : Env} {M : Sto} {z : Fl × Sto} (h : forR r l g b ds e M = some z) : Now r l M := by
  cases ds with
  | nil => unfold forR at h; split at h
           · assumption
           · cases h
  | cons d ds => unfold forR at h; split at h
                 · assumption
                 · cases h
open Classical in
noncomputable def compR (r : Nat) (l : List D) (g : GM) (t : TM) (m : EM) : List D → AM
  | [] => fun _ M => if Now r l M then some ([], M) else none
  | d :: ds => fun e M => if Now r l M then (match g d e with
    | some e1 => (match t e1 M with
      | some (true, M1) => (match m e1 M1 with
        | some (y, M2) => (match compR r l g t m ds e M2 with
          | some (ys, M3) => some (y :: ys, M3)
          | none => none)
        | none => none)
      | some (false, M1) => compR r l g t m ds e M1
      | none => none)
    | none => none) else none
theorem compR_now {r : Nat} {l : List D} {g : GM} {t : TM} {m : EM} {ds : List D} {e : Env} {M : Sto} {z : List D × Sto} (h : compR r l g t m ds e M = some z) : Now r l M := by
  cases ds with
  | nil => unfold compR at h; split at h
           · assumption
           · cases h
  | cons d ds => unfold compR at h; split at h
                 · assumption
                 · cases h
noncomputable def fCompR (it : IR) (g : GM) (t : TM) (m : EM) (vs : List Nat) : AM := fun e M => match it e M with
  | some (ds, M1) => (match compR ds.1 ds.2 g t m ds.2 (wipeE e vs) M1 with
    | some (ys, M2) => if ys.length ≤ sizeLine then some (ys, M2) else none
    | none => none)
  | none => none
section
variable {X : Cx} {tg it c : Expr} {body : List Stmt} {mi : IR} {g : GM} {b : SM} {t : TM} {vs : List Nat} {pos : Pos}
theorem js_forR (hp : PassesOwn (model X.prog X.w) X.A X.env X.xe) (hc : X.calm = true) (hi : JR X tg it mi) (hg : JG X vs tg g) (hb : JSs X body b) (hs : ∀ x, foldedSetIterable it X.env x = pure x := by intro _; rfl) :
    JS X (.For tg it body [] pos) (sForR mi g b) := by
  refine PS.imp (ps_for hp hc hi hg hb hs) fun D σ H q => ?_
  obtain ⟨W, e, fl, M', rfl, ok, er, hm, w⟩ := rdS_iff.mp q
  unfold sForR at hm
  split at hm
  · rename_i ds N1 h1
    refine ⟨W, e, ds, N1, rfl, ok, er, h1, fun W1 J e1 ok1 x1 hJ => ?_⟩
    have er1 := er.ext ok x1
    obtain ⟨G, Y, hw, hG, hY⟩ := hJ
    refine for_it hw (fun i σ H => ∃ W2 e2, W2.H = H ∧ Ok X.K W2 ∧ Ext W1 W2 ∧ ERel X.K W2 e2 σ ∧ forR ds.1 ds.2 g b (ds.2.drop i) e2 W2.M = some (fl, M'))
      ⟨W1, e, rfl, ok1, Ext.refl W1, er1, by rw [e1]; simpa using hm⟩ (fun i σ H _ ⟨W2, e2, h, ok2, x2, _, hf⟩ => h ▸ hG W2 ok2 x2 (forR_now hf)) ?_ ?_
    · rintro i x σ2 H2 H3 hi ⟨W2, e2, rfl, ok2, x2, er2, hf⟩ hy
      have hnow := forR_now hf
      have hd : ds.2[i]? = some ds.2[i] := List.getElem?_eq_getElem hi
      obtain ⟨W3, rfl, hM3, ok3, x3, r3⟩ := hY W2 i x H3 ds.2[i] ok2 x2 hnow hd hy
      rw [List.drop_eq_getElem_cons hi] at hf
      unfold forR at hf
      rw [if_pos hnow] at hf
      split at hf
      · rename_i e3 he3
        refine ⟨W3, e2, ds.2[i], e3, rfl, ok3, er2.ext ok2 x3, r3, he3, fun σ3 er3 _ => ?_⟩
        refine rdS_iff.mpr ?_
        have xx := x2.trans x3
        split at hf
        · rename_i e4 N4 h4
          exact ⟨W3, e3, .nx e4, N4, rfl, ok3, er3, by rw [hM3]; exact h4, fun W4 σ4 e5 ok4 x4 er4 => ⟨W4, e4, rfl, ok4, xx.trans x4, er4, by rw [e5]; exact hf⟩⟩
        · rename_i e4 N4 h4
          exact ⟨W3, e3, .ct e4, N4, rfl, ok3, er3, by rw [hM3]; exact h4, fun W4 σ4 e5 ok4 x4 er4 => ⟨W4, e4, rfl, ok4, xx.trans x4, er4, by rw [e5]; exact hf⟩⟩
        · rename_i e4 N4 h4
          cases hf
          exact ⟨W3, e3, .bk e4, _, rfl, ok3, er3, by rw [hM3]; exact h4, fun W4 σ4 e5 ok4 x4 er4 => w W4 σ4 e5 ok4 ((x1.trans xx).trans x4) er4⟩
        · rename_i v N4 h4
          cases hf
          exact ⟨W3, e3, .rt v, _, rfl, ok3, er3, by rw [hM3]; exact h4, fun W4 σ4 e5 ok4 x4 er4 => w W4 σ4 e5 ok4 ((x1.trans xx).trans x4) er4⟩
        · cases hf
      · cases hf
    · rintro σ2 H2 ⟨W2, e2, rfl, ok2, x2, er2, hf⟩
      have hnow := forR_now hf
      rw [List.drop_length] at hf
      unfold forR at hf
      rw [if_pos hnow] at hf
      cases hf
      exact w W2 σ2 rfl ok2 (x1.trans x2) er2
  · cases hm
end
section
variable {X : Cx} {tg it elt : Expr} {ifs : List Expr} {scope : Scope} {own : List (Str × Nat)} {mi : IR} {g : GM} {t : TM} {m : EM} {vs : List Nat} {pos : Pos}
theorem rd_compR {K : PySem.W.Frag} {σ : L2.St} {H : Hp} {Q : VK} (q : rdF K (fCompR mi g t m vs) σ H Q) : tLc (rdR K mi) (rdG K vs g) (rdT K t) (rdE K m) vs σ H Q := by
  obtain ⟨W, e, ys, M', rfl, ok, er, hm, w⟩ := q
  unfold fCompR at hm
  split at hm
  · rename_i ds N1 h1
    split at hm
    · rename_i zs N2 h2
      split at hm
      · rename_i hz
        cases hm
        refine ⟨W, e, ds, N1, rfl, ok, er, h1, fun W1 J e1 ok1 x1 hJ => fun p hp => ?_⟩
        have er1 := er.ext ok x1
        obtain ⟨G, Y, hw, hG, hY⟩ := hJ
        refine lc_it hw (fun i H => ∃ W2 acc vacc rest, W2.H = H ∧ Ok K W2 ∧ Ext W1 W2 ∧ Hid W2 p ∧ W2.H p = some (.lst vacc) ∧ VRels K W2 acc vacc ∧ compR ds.1 ds.2 g t m (ds.2.drop i) (wipeE e vs) W2.M = some (rest, M') ∧ ys = acc ++ rest)
          ⟨W1.hnew p (.lst []), [], [], ys, rfl, Ok.hnew ok1 hp, Ext.hnew hp, Hid.hnew ok1 hp, upd_same, VRels.nil, by rw [List.drop_zero, show (W1.hnew p (.lst [])).M = W1.M from rfl, e1]; exact h2, rfl⟩ (fun i H _ ⟨W2, acc, vacc, rest, h, ok2, x2, _, _, _, hc, _⟩ => h ▸ hG W2 ok2 x2 (compR_now hc)) ?_ ?_
        · rintro i x H2 H3 hi ⟨W2, acc, vacc, rest, rfl, ok2, x2, hid, hH, hacc, hc, hys⟩ hy
          have hnow := compR_now hc
          have hd : ds.2[i]? = some ds.2[i] := List.getElem?_eq_getElem hi
          obtain ⟨W3, rfl, hM3, ok3, x3, r3⟩ := hY W2 i x H3 ds.2[i] ok2 x2 hnow hd hy
          have hid3 := hid.ext x3 (by rw [hH]; simp)
          have hH3 := x3.keep _ _ hH hid.out
          have hacc3 := VRels.ext ok2 x3 _ _ hacc
          have xx3 := x2.trans x3
          rw [List.drop_eq_getElem_cons hi] at hc
          unfold compR at hc
          rw [if_pos hnow] at hc
          split at hc
          · rename_i e3 he3
            refine ⟨W3, wipeE e vs, ds.2[i], e3, rfl, ok3, (er1.ext ok1 xx3).wipe vs, r3, he3, fun σ3 er3 hw3 => ⟨hw3.trans (wipe_idem σ vs), ?_⟩⟩
            split at hc
            · rename_i N4 h4
              refine ⟨W3, e3, true, N4, rfl, ok3, er3, by rw [hM3]; exact h4, fun W4 e4 ok4 x4 => ?_⟩
              refine iteT ?_
              have hid4 := hid3.ext x4 (by rw [hH3]; simp)
              have hH4 := x4.keep _ _ hH3 hid3.out
              have hacc4 := VRels.ext ok3 x4 _ _ hacc3
              split at hc
              · rename_i y N5 h5
                split at hc
                · rename_i yr N6 h6
                  cases hc
                  refine ⟨W4, e3, y, N5, rfl, ok4, er3.ext ok3 x4, by rw [e4]; exact h5, fun W5 v5 e5 ok5 x5 r5 => ?_⟩
                  have hid5 := hid4.ext x5 (by rw [hH4]; simp)
                  have hH5 := x5.keep _ _ hH4 hid4.out
                  have hacc5 := VRels.ext ok4 x5 _ _ hacc4
                  have xx5 := (xx3.trans x4).trans x5
                  have hl := VRels.length hacc5
                  have hly : ys.length = acc.length + (yr.length + 1) := by rw [hys, List.length_append, List.length_cons]
                  refine ⟨vacc, hH5, by omega, W5.hset p (.lst (vacc ++ [v5])), acc ++ [y], vacc ++ [v5], yr, rfl, Ok.hset ok5 hid5, Ext.hset xx5 hp, hid5.hset, upd_same, VRels.hset hid5.own _ _ (VRels.append hacc5 (VRels.cons r5 VRels.nil)), ?_, by rw [hys]; simp⟩
                  show compR _ _ g t m _ _ W5.M = _
                  rw [e5]; exact h6
                · cases hc
              · cases hc
            · rename_i N4 h4
              refine ⟨W3, e3, false, N4, rfl, ok3, er3, by rw [hM3]; exact h4, fun W4 e4 ok4 x4 => ?_⟩
              refine iteF ?_
              exact ⟨W4, acc, vacc, rest, rfl, ok4, xx3.trans x4, hid3.ext x4 (by rw [hH3]; simp), x4.keep _ _ hH3 hid3.out, VRels.ext ok3 x4 _ _ hacc3, by rw [e4]; exact hc, hys⟩
            · cases hc
          · cases hc
        · rintro H2 ⟨W2, acc, vacc, rest, rfl, ok2, x2, hid, hH, hacc, hc, hys⟩
          have hnow := compR_now hc
          rw [List.drop_length] at hc
          unfold compR at hc
          rw [if_pos hnow] at hc
          cases hc
          rw [List.append_nil] at hys
          subst hys
          have z := w (W2.less p) vacc p rfl (Ok.less ok2 hid) (x1.trans (Ext.less ok1 x2 hp)) (VRels.less hid.own _ _ hacc) Wd.less_none
          rw [less_upd hH] at z
          exact z
      · cases hm
    · cases hm
  · cases hm
theorem jf_compR (hc : X.calm = true) (hN : X.N.Nodup) (hi : JR X tg it mi) (ok : BlkOk X.N X.env.scope scope own) (hv : own.map (·.2) = vs)
    (hg : ∀ (s : Shared) (H : Hp) (C : Addr) (cl : List (Str × Addr)) (fp : List Addr), JG (X.blk s H scope (compEnvC scope cl C X.env) fp) vs tg g) (ht : ∀ (s : Shared) (H : Hp) (C : Addr) (cl : List (Str × Addr)) (fp : List Addr), JTs (X.blk s H scope (compEnvC scope cl C X.env) fp) ifs t)
    (he : ∀ (s : Shared) (H : Hp) (C : Addr) (cl : List (Str × Addr)) (fp : List Addr), JE (X.blk s H scope (compEnvC scope cl C X.env) fp) elt m) (hs : ∀ x, foldedSetIterable it X.env x = pure x := by intro _; rfl) :
    JF X (.ListComp elt [⟨tg, it, ifs, 0⟩] scope pos) (fCompR mi g t m vs) := by
  subst hv
  exact PE.imp (pe_lc hc hN hi ok hg ht he hs) fun σ H Q q => rd_compR q
/-- name = [..] where the name is a plain local -/
theorem js_setLcR {i : Nat} {y : Str} {py spos : Pos} (hc : X.calm = true) (hN : X.N.Nodup) (hy : X.N[i]? = some y) (hyl : X.env.scope.names.lookup y = some .local)
    (hsw : swapsWith (.ListComp elt [⟨tg, it, ifs, 0⟩] scope pos) (some (.Name y py)) spos.line X.env = pure true) (hi : JR X tg it mi) (ok : BlkOk X.N X.env.scope scope own) (hv : own.map (·.2) = vs)
    (hg : ∀ (s : Shared) (H : Hp) (C : Addr) (cl : List (Str × Addr)) (fp : List Addr), JG (X.blk s H scope (compEnvC scope cl C X.env) fp) vs tg g) (ht : ∀ (s : Shared) (H : Hp) (C : Addr) (cl : List (Str × Addr)) (fp : List Addr), JTs (X.blk s H scope (compEnvC scope cl C X.env) fp) ifs t)
    (he : ∀ (s : Shared) (H : Hp) (C : Addr) (cl : List (Str × Addr)) (fp : List Addr), JE (X.blk s H scope (compEnvC scope cl C X.env) fp) elt m) (hs : ∀ x, foldedSetIterable it X.env x = pure x := by intro _; rfl) :
    PS X (.Assign [.Name y py] (.ListComp elt [⟨tg, it, ifs, 0⟩] scope pos) spos) (tAsg (rdF X.K (fCompR mi g t m vs)) (gName i)) := by
  subst hv
  exact PS.imp (ps_setLc hc hN hy hyl hsw hi ok hg ht he hs) fun D σ H q => rd_compR q
end
end DV

end

section
set_option Elab.async false
set_option linter.all false
set_option maxRecDepth 100000
set_option maxHeartbeats 4000000
/-! the defs of k40_what_stays as programs over data, printed by gen.py -/
namespace K40
open PySem PySem.Spec PyProof.Rows L2 DV
noncomputable def B_law_pool : SM := sRet (eNew (fLst (aCons (eVal (fB cList (aCons (eVar 0) (aNil)))) (aCons (eC (.int 0)) (aCons (eC (.int 0)) (aCons (eC (.int 0)) (aCons (eC (.int 0)) (aCons (eC .non) (aNil)))))))))
noncomputable def F_law_pool : Fn := fnD 1 false B_law_pool
noncomputable def B_law_mixed : SM := sSeq (sAsg (eBin dMod (eBin dAdd (eBin dAdd (eBin dMul (eBin dMod (eB cInt (aCons (eVar 0) (aNil))) (eC (.int 1000003))) (eC (.int 48271))) (eBin dMul (eBin dMod (eB cInt (aCons (eVar 1) (aNil))) (eC (.int 999983))) (eC (.int 69621)))) (eC (.int 12345))) (eC (.int 2147483647))) (gN 2))
  (sSeq (sAsg (eBin dMod (eBin dAdd (eBin dAdd (eBin dAdd (eBin dMul (eVar 2) (eVar 2)) (eBin dMul (eVar 2) (eC (.int 40692)))) (eBin dMul (eBin dMod (eB cInt (aCons (eVar 1) (aNil))) (eC (.int 65537))) (eC (.int 16807)))) (eC (.int 7))) (eC (.int 2147483629))) (gN 3))
  (sRet (eBin dMod (eBin dAdd (eBin dMul (eVar 3) (eC (.int 48271))) (eBin dDiv (eVar 2) (eC (.int 127)))) (eC (.int 2147483647)))))
noncomputable def F_law_mixed : Fn := fnD 4 true B_law_mixed
noncomputable def B_law_draw : SM := sSeq (sAsg (eBin dIdx (eVar 0) (eC (.int 2))) (gN 2))
  (sSeq (sIf (mAnd (tV (eBin dLt (eVar 2) (eC (.int 2)))) (tV (eBin dLt (eBin dIdx (eVar 0) (eC (.int 1))) (eB cLen (aCons (eBin dIdx (eVar 0) (eC (.int 0))) (aNil)))))) (sSeq (sAsg (eBin dIdx (eVar 0) (eC (.int 0))) (gN 3))
  (sSeq (sAsg (eBin dIdx (eVar 3) (eBin dIdx (eVar 0) (eC (.int 1)))) (gN 4))
  (sSeq (sSub (eBin dAdd (eBin dIdx (eVar 0) (eC (.int 1))) (eC (.int 1))) (eVar 0) (eC (.int 1)))
  (sSeq (sIf (tV (eBin dGe (eVar 4) (eBin dPow (eC (.int 10)) (eC (.int 18))))) (sSeq (sAsg (eBin dSub (eVar 4) (eBin dPow (eC (.int 10)) (eC (.int 18)))) (gN 2))
  (sSeq (sSub (eBin dDiv (eVar 2) (eVar 1)) (eVar 0) (eC (.int 2)))
  (sSeq (sSub (eC (.int 60)) (eVar 0) (eC (.int 4)))
  (sRet (eBin dMod (eB cInt (aCons (eVar 2) (aNil))) (eVar 1)))))) (sNext))
  (sSub (eCall F_law_mixed 2 (aCons (eBin dAdd (eBin dIdx (eVar 0) (eC (.int 3))) (eVar 4)) (aCons (eBin dIdx (eVar 0) (eC (.int 1))) (aNil)))) (eVar 0) (eC (.int 3))))))) (sIf (tV (eBin dLt (eVar 2) (eC (.int 2)))) (sSeq (sSub (eBin dAdd (eBin dIdx (eVar 0) (eC (.int 1))) (eC (.int 1))) (eVar 0) (eC (.int 1)))
  (sSub (eCall F_law_mixed 2 (aCons (eBin dIdx (eVar 0) (eC (.int 3))) (aCons (eBin dAdd (eC (.int 77)) (eBin dIdx (eVar 0) (eC (.int 1)))) (aNil)))) (eVar 0) (eC (.int 3)))) (sSeq (sSub (eBin dSub (eBin dIdx (eVar 0) (eC (.int 4))) (eC (.int 1))) (eVar 0) (eC (.int 4)))
  (sSeq (sSub (eBin dMul (eBin dDiv (eVar 2) (eVar 1)) (eB cInt (aCons (eBin dGt (eBin dIdx (eVar 0) (eC (.int 4))) (eC (.int 0))) (aNil)))) (eVar 0) (eC (.int 2)))
  (sRet (eBin dMod (eB cInt (aCons (eVar 2) (aNil))) (eVar 1)))))))
  (sSeq (sSub (eC (.int 0)) (eVar 0) (eC (.int 2)))
  (sRet (eBin dMod (eB cInt (aCons (eBin dIdx (eVar 0) (eC (.int 3))) (aNil))) (eVar 1)))))
noncomputable def F_law_draw : Fn := fnD 5 true B_law_draw
noncomputable def B_law_names : SM := sSeq (sAsg (eC (.str "abcdefghijklmnopqrstuvwxyz")) (gN 2))
  (sSeq (sAsg (eNew (fLst (aCons (eC (.str "p")) (aCons (eC (.str "q")) (aCons (eC (.str "not")) (aCons (eC (.str "and")) (aCons (eC (.str "state")) (aCons (eC (.str "or")) (aCons (eC (.str "count")) (aCons (eC (.str "z")) (aNil))))))))))) (gN 3))
  (sSeq (sAsg (eNew (fLst (aNil))) (gN 4))
  (sSeq (sFor (iRng1 (aCons (eVar 1) (aNil))) (gN 5) (sSeq (sAsg (eM "list" mPopAt (eVar 3) (aCons (eCall F_law_draw 2 (aCons (eVar 0) (aCons (eB cLen (aCons (eVar 3) (aNil))) (aNil)))) (aNil))) (gN 6))
  (sSeq (sIf (tV (eBin dEq (eCall F_law_draw 2 (aCons (eVar 0) (aCons (eC (.int 4)) (aNil)))) (eC (.int 0)))) (sAsg (eBin dAdd (eBin dIdx (eVar 2) (eVar 5)) (eM "str" mJoin (eC (.str "")) (aCons (eVal (fComp (iRng1 (aCons (eCall F_law_draw 2 (aCons (eVar 0) (aCons (eC (.int 6)) (aNil)))) (aNil))) (gN 8) (mYes) (eBin dIdx (eVar 2) (eCall F_law_draw 2 (aCons (eVar 0) (aCons (eC (.int 26)) (aNil))))) [8])) (aNil)))) (gN 6)) (sNext))
  (sSeq (sIf (tV (eBin dIn (eVar 6) (eVar 4))) (sAsg (eBin dIdx (eVal (fComp (iIt (eVal (fLst (aCons (eC (.str "ua")) (aCons (eC (.str "ub")) (aCons (eC (.str "uc")) (aCons (eC (.str "ud")) (aCons (eC (.str "ue")) (aNil))))))))) (gN 7) (tV (eBin dNotIn (eVar 7) (eVar 4))) (eVar 7) [7])) (eC (.int 0))) (gN 6)) (sNext))
  (sDrop (eM "list" mApp (eVar 4) (aCons (eVar 6) (aNil))))))))
  (sRet (eVar 4)))))
noncomputable def F_law_names : Fn := fnD 9 true B_law_names
noncomputable def B_law_picked : SM := sRet (eBin dIdx (eVar 1) (eCall F_law_draw 2 (aCons (eVar 0) (aCons (eB cLen (aCons (eVar 1) (aNil))) (aNil)))))
noncomputable def F_law_picked : Fn := fnD 2 true B_law_picked
noncomputable def B_law_rule : SM := sSeq (sAsg (eCall F_law_draw 2 (aCons (eVar 0) (aCons (eBin dIdx (eBin dIdx (eVar 1) (eVar 3)) (eC (.int 1))) (aNil)))) (gN 5))
  (sSeq (sAsg (eVal (fComp (iRng1 (aCons (eB cLen (aCons (eVar 2) (aNil))) (aNil))) (gN 10) (tV (eBin dEq (eBin dIdx (eBin dIdx (eVar 2) (eVar 10)) (eC (.int 1))) (eVar 3))) (eVar 10) [10])) (gN 6))
  (sSeq (sAsg (eVal (fComp (iRng1 (aCons (eB cLen (aCons (eVar 2) (aNil))) (aNil))) (gN 10) (tV (eBin dEq (eBin dIdx (eBin dIdx (eVar 2) (eVar 10)) (eC (.int 2))) (eVar 3))) (eVar 10) [10])) (gN 7))
  (sSeq (sAsg (eCall F_law_draw 2 (aCons (eVar 0) (aCons (eC (.int 7)) (aNil)))) (gN 8))
  (sSeq (sAsg (eBin dIdx (eVal (fLst (aCons (eC (.int 0)) (aCons (eC (.int 0)) (aCons (eC (.int 1)) (aCons (eC (.int 9)) (aNil))))))) (eCall F_law_draw 2 (aCons (eVar 0) (aCons (eC (.int 4)) (aNil))))) (gN 9))
  (sSeq (sIf (mAnd (tV (eBin dLt (eVar 8) (eC (.int 3)))) (tV (eBin dGt (eB cLen (aCons (eVar 6) (aNil))) (eC (.int 0))))) (sRet (eTup (aCons (eVar 3) (aCons (eVar 4) (aCons (eTup (aCons (eC (.str "send")) (aCons (eCall F_law_picked 2 (aCons (eVar 0) (aCons (eVar 6) (aNil)))) (aCons (eVar 9) (aNil))))) (aCons (eVar 5) (aNil))))))) (sNext))
  (sSeq (sIf (mAnd (tV (eBin dLt (eVar 8) (eC (.int 6)))) (tV (eBin dGt (eB cLen (aCons (eVar 7) (aNil))) (eC (.int 0))))) (sRet (eTup (aCons (eVar 3) (aCons (eVar 4) (aCons (eTup (aCons (eC (.str "take")) (aCons (eCall F_law_picked 2 (aCons (eVar 0) (aCons (eVar 7) (aNil)))) (aCons (eVar 9) (aNil))))) (aCons (eVar 5) (aNil))))))) (sNext))
  (sRet (eTup (aCons (eVar 3) (aCons (eVar 4) (aCons (eTup (aCons (eC (.str "do")) (aNil))) (aCons (eVar 5) (aNil)))))))))))))
noncomputable def F_law_rule : Fn := fnD 11 true B_law_rule
noncomputable def B_law_net : SM := sSeq (sAsg (eBin dIdx (eVal (fLst (aCons (eC (.int 2)) (aCons (eC (.int 2)) (aCons (eC (.int 2)) (aCons (eC (.int 3)) (aCons (eC (.int 3)) (aCons (eC (.int 1)) (aNil))))))))) (eCall F_law_draw 2 (aCons (eVar 0) (aCons (eC (.int 6)) (aNil))))) (gN 2))
  (sSeq (sAsg (eB cTuple (aCons (eVal (fComp (iIt (eCall F_law_names 2 (aCons (eVar 0) (aCons (eVar 2) (aNil))))) (gN 6) (mYes) (eTup (aCons (eVar 6) (aCons (eBin dAdd (eC (.int 1)) (eCall F_law_draw 2 (aCons (eVar 0) (aCons (eVar 1) (aNil))))) (aNil)))) [6])) (aNil))) (gN 3))
  (sSeq (sAsg (eNew (fLst (aNil))) (gN 4))
  (sSeq (sAsg (eVal (fLst (aCons (eC (.str "order")) (aCons (eC (.str "loose")) (aCons (eC (.str "order lossy")) (aCons (eC (.str "loose lossy")) (aNil))))))) (gN 5))
  (sSeq (sFor (iIt (eCall F_law_names 2 (aCons (eVar 0) (aCons (eBin dMul (eBin dIdx (eVal (fLst (aCons (eC (.int 1)) (aCons (eC (.int 2)) (aCons (eC (.int 3)) (aCons (eC (.int 4)) (aCons (eC (.int 2)) (aCons (eC (.int 0)) (aNil))))))))) (eCall F_law_draw 2 (aCons (eVar 0) (aCons (eC (.int 6)) (aNil))))) (eB cInt (aCons (eBin dGt (eVar 2) (eC (.int 1))) (aNil)))) (aNil))))) (gN 6) (sSeq (sAsg (eCall F_law_draw 2 (aCons (eVar 0) (aCons (eVar 2) (aNil)))) (gN 10))
  (sSeq (sAsg (eBin dMod (eB cInt (aCons (eBin dAdd (eBin dAdd (eVar 10) (eC (.int 1))) (eCall F_law_draw 2 (aCons (eVar 0) (aCons (eBin dSub (eVar 2) (eC (.int 1))) (aNil))))) (aNil))) (eVar 2)) (gN 11))
  (sDrop (eM "list" mApp (eVar 4) (aCons (eTup (aCons (eVar 6) (aCons (eVar 10) (aCons (eVar 11) (aCons (eCall F_law_picked 2 (aCons (eVar 0) (aCons (eVar 5) (aNil)))) (aNil)))))) (aNil)))))))
  (sSeq (sAsg (eNew (fLst (aNil))) (gN 7))
  (sSeq (sFor (iRng1 (aCons (eVar 2) (aNil))) (gN 8) (sFor (iRng1 (aCons (eBin dIdx (eBin dIdx (eVar 3) (eVar 8)) (eC (.int 1))) (aNil))) (gN 12) (sIf (tV (eBin dGt (eCall F_law_draw 2 (aCons (eVar 0) (aCons (eC (.int 5)) (aNil)))) (eC (.int 0)))) (sDrop (eM "list" mApp (eVar 7) (aCons (eCall F_law_rule 5 (aCons (eVar 0) (aCons (eVar 3) (aCons (eVar 4) (aCons (eVar 8) (aCons (eVar 12) (aNil))))))) (aNil)))) (sNext))))
  (sSeq (sFor (iRng1 (aCons (eCall F_law_draw 2 (aCons (eVar 0) (aCons (eC (.int 8)) (aNil)))) (aNil))) (gN 9) (sSeq (sAsg (eCall F_law_draw 2 (aCons (eVar 0) (aCons (eVar 2) (aNil)))) (gN 8))
  (sDrop (eM "list" mApp (eVar 7) (aCons (eCall F_law_rule 5 (aCons (eVar 0) (aCons (eVar 3) (aCons (eVar 4) (aCons (eVar 8) (aCons (eCall F_law_draw 2 (aCons (eVar 0) (aCons (eBin dIdx (eBin dIdx (eVar 3) (eVar 8)) (eC (.int 1))) (aNil)))) (aNil))))))) (aNil))))))
  (sRet (eTup (aCons (eVar 3) (aCons (eB cTuple (aCons (eVar 4) (aNil))) (aCons (eB cTuple (aCons (eVar 7) (aNil))) (aNil)))))))))))))
noncomputable def F_law_net : Fn := fnD 13 true B_law_net
noncomputable def B_frozen (rec : Fn) : SM := sSeq (sIf (mAnd (tV (eBin dGt (eVar 1) (eC (.int 0)))) (tV (eIsi2 "list" "tuple" (eVar 0)))) (sRet (eB cTuple (aCons (eVal (fComp (iIt (eVar 0)) (gN 2) (mYes) (eCall rec 2 (aCons (eVar 2) (aCons (eBin dSub (eVar 1) (eC (.int 1))) (aNil)))) [2])) (aNil)))) (sNext))
  (sRet (eVar 0))
noncomputable def F_frozen : Nat → Fn
  | 0 => fun _ _ => none
  | n + 1 => fnD 3 true (B_frozen (F_frozen n))
noncomputable def B_rows : SM := sSeq (sAsg (eCall (F_frozen 5) 2 (aCons (eVar 0) (aCons (eC (.int 3)) (aNil)))) (gN 3))
  (sSeq (sIf (mOr (mNot (tV (eIsi "tuple" (eVar 3)))) (mNot (tV (eChain dLe dLe (eVar 1) (eB cLen (aCons (eVar 3) (aNil))) (eVar 2))))) (sRet (eC .non)) (sNext))
  (sRet (eIf (tV (eB cAll (aCons (eVal (fComp (iIt (eVar 3)) (gN 4) (mYes) (eIsi "tuple" (eVar 4)) [4])) (aNil)))) (eVar 3) (eC .non))))
noncomputable def F_rows : Fn := fnD 5 true B_rows
noncomputable def B_is_name : SM := sSeq (sIf (mOr (mNot (tV (eIsi "str" (eVar 0)))) (mNot (tV (eChain dLe dLe (eC (.int 1)) (eB cLen (aCons (eVar 0) (aNil))) (eC (.int 6)))))) (sRet (eC (.bl false))) (sNext))
  (sRet (eB cAll (aCons (eVal (fComp (iIt (eVar 0)) (gN 1) (mYes) (eBin dIn (eVar 1) (eC (.str "abcdefghijklmnopqrstuvwxyz"))) [1])) (aNil))))
noncomputable def F_is_name : Fn := fnD 2 true B_is_name
noncomputable def B_is_whole : SM := sRet (eAnd (eIsi "int" (eVar 0)) (eNot (eIsi "bool" (eVar 0))))
noncomputable def F_is_whole : Fn := fnD 1 true B_is_whole
noncomputable def B_is_process : SM := sSeq (sIf (mOr (tV (eBin dNe (eB cLen (aCons (eVar 0) (aNil))) (eC (.int 2)))) (mOr (mNot (tV (eCall F_is_name 1 (aCons (eBin dIdx (eVar 0) (eC (.int 0))) (aNil))))) (mNot (tV (eCall F_is_whole 1 (aCons (eBin dIdx (eVar 0) (eC (.int 1))) (aNil))))))) (sRet (eC (.bl false))) (sNext))
  (sRet (eAnd (eChain dLe dLe (eC (.int 1)) (eBin dIdx (eVar 0) (eC (.int 1))) (eC (.int 8))) (eBin dNotIn (eSlc (eVar 0) (pNo) (pAt (eC (.int 1)))) (eVal (fComp (iIt (eVar 1)) (gN 2) (mYes) (eSlc (eVar 2) (pNo) (pAt (eC (.int 1)))) [2])))))
noncomputable def F_is_process : Fn := fnD 3 true B_is_process
noncomputable def B_is_below : SM := sRet (eAnd (eCall F_is_whole 1 (aCons (eVar 0) (aNil))) (eChain dLe dLt (eC (.int 0)) (eVar 0) (eVar 1)))
noncomputable def F_is_below : Fn := fnD 2 true B_is_below
noncomputable def B_is_channel : SM := sSeq (sIf (mOr (tV (eBin dNe (eB cLen (aCons (eVar 0) (aNil))) (eC (.int 4)))) (mOr (mNot (tV (eCall F_is_name 1 (aCons (eBin dIdx (eVar 0) (eC (.int 0))) (aNil))))) (tV (eBin dIn (eSlc (eVar 0) (pNo) (pAt (eC (.int 1)))) (eVal (fComp (iIt (eVar 2)) (gN 3) (mYes) (eSlc (eVar 3) (pNo) (pAt (eC (.int 1)))) [3])))))) (sRet (eC (.bl false))) (sNext))
  (sSeq (sIf (mOr (mNot (tV (eCall F_is_below 2 (aCons (eBin dIdx (eVar 0) (eC (.int 1))) (aCons (eB cLen (aCons (eVar 1) (aNil))) (aNil)))))) (mOr (mNot (tV (eCall F_is_below 2 (aCons (eBin dIdx (eVar 0) (eC (.int 2))) (aCons (eB cLen (aCons (eVar 1) (aNil))) (aNil)))))) (tV (eBin dEq (eBin dIdx (eVar 0) (eC (.int 1))) (eBin dIdx (eVar 0) (eC (.int 2))))))) (sRet (eC (.bl false))) (sNext))
  (sRet (eAnd (eIsi "str" (eBin dIdx (eVar 0) (eC (.int 3)))) (eBin dIn (eBin dIdx (eVar 0) (eC (.int 3))) (eC (.kt (List.map D.str ["order", "loose", "order lossy", "loose lossy"])))))))
noncomputable def F_is_channel : Fn := fnD 4 true B_is_channel
noncomputable def B_is_act : SM := sSeq (sIf (mOr (mNot (tV (eIsi "tuple" (eVar 0)))) (mOr (tV (eBin dEq (eB cLen (aCons (eVar 0) (aNil))) (eC (.int 0)))) (mNot (tV (eIsi "str" (eBin dIdx (eVar 0) (eC (.int 0)))))))) (sRet (eC (.bl false))) (sNext))
  (sSeq (sIf (tV (eBin dEq (eBin dIdx (eVar 0) (eC (.int 0))) (eC (.str "do")))) (sRet (eBin dEq (eB cLen (aCons (eVar 0) (aNil))) (eC (.int 1)))) (sNext))
  (sSeq (sIf (mOr (tV (eBin dNotIn (eBin dIdx (eVar 0) (eC (.int 0))) (eTup (aCons (eC (.str "send")) (aCons (eC (.str "take")) (aNil)))))) (tV (eBin dNe (eB cLen (aCons (eVar 0) (aNil))) (eC (.int 3))))) (sRet (eC (.bl false))) (sNext))
  (sSeq (sIf (mOr (mNot (tV (eCall F_is_below 2 (aCons (eBin dIdx (eVar 0) (eC (.int 1))) (aCons (eB cLen (aCons (eVar 2) (aNil))) (aNil)))))) (mNot (tV (eCall F_is_below 2 (aCons (eBin dIdx (eVar 0) (eC (.int 2))) (aCons (eC (.int 10)) (aNil))))))) (sRet (eC (.bl false))) (sNext))
  (sRet (eBin dEq (eBin dIdx (eBin dIdx (eVar 2) (eBin dIdx (eVar 0) (eC (.int 1)))) (eIf (tV (eBin dEq (eBin dIdx (eVar 0) (eC (.int 0))) (eC (.str "send")))) (eC (.int 1)) (eC (.int 2)))) (eVar 1))))))
noncomputable def F_is_act : Fn := fnD 3 true B_is_act
noncomputable def B_is_rule : SM := sSeq (sIf (mOr (tV (eBin dNe (eB cLen (aCons (eVar 0) (aNil))) (eC (.int 4)))) (mNot (tV (eCall F_is_below 2 (aCons (eBin dIdx (eVar 0) (eC (.int 0))) (aCons (eB cLen (aCons (eVar 1) (aNil))) (aNil))))))) (sRet (eC (.bl false))) (sNext))
  (sSeq (sAsg (eBin dIdx (eBin dIdx (eVar 1) (eBin dIdx (eVar 0) (eC (.int 0)))) (eC (.int 1))) (gN 3))
  (sRet (eAnd (eCall F_is_below 2 (aCons (eBin dIdx (eVar 0) (eC (.int 1))) (aCons (eVar 3) (aNil)))) (eAnd (eCall F_is_below 2 (aCons (eBin dIdx (eVar 0) (eC (.int 3))) (aCons (eVar 3) (aNil)))) (eCall F_is_act 3 (aCons (eBin dIdx (eVar 0) (eC (.int 2))) (aCons (eBin dIdx (eVar 0) (eC (.int 0))) (aCons (eVar 2) (aNil)))))))))
noncomputable def F_is_rule : Fn := fnD 4 true B_is_rule
noncomputable def B_Net_init : SM := sSeq (sAsg (eCall F_rows 3 (aCons (eVar 1) (aCons (eC (.int 1)) (aCons (eC (.int 5)) (aNil))))) (gN 4))
  (sSeq (sIf (mOr (tV (eBin dIs (eVar 4) (eC .non))) (mNot (tV (eB cAll (aCons (eVal (fComp (iEn (eVar 4)) (gT 2 (gCs (gN 8) (gCs (gN 9) (gNl)))) (mYes) (eCall F_is_process 2 (aCons (eVar 9) (aCons (eSlc (eVar 4) (pNo) (pAt (eVar 8))) (aNil)))) [8, 9])) (aNil)))))) (sStuck) (sNext))
  (sSeq (sAsg (eCall F_rows 3 (aCons (eVar 2) (aCons (eC (.int 0)) (aCons (eC (.int 8)) (aNil))))) (gN 5))
  (sSeq (sIf (mOr (tV (eBin dIs (eVar 5) (eC .non))) (mNot (tV (eB cAll (aCons (eVal (fComp (iEn (eVar 5)) (gT 2 (gCs (gN 8) (gCs (gN 10) (gNl)))) (mYes) (eCall F_is_channel 3 (aCons (eVar 10) (aCons (eVar 4) (aCons (eSlc (eVar 5) (pNo) (pAt (eVar 8))) (aNil))))) [8, 10])) (aNil)))))) (sStuck) (sNext))
  (sSeq (sAsg (eCall F_rows 3 (aCons (eVar 3) (aCons (eC (.int 0)) (aCons (eC (.int 40)) (aNil))))) (gN 6))
  (sSeq (sIf (mOr (tV (eBin dIs (eVar 6) (eC .non))) (mNot (tV (eB cAll (aCons (eVal (fComp (iIt (eVar 6)) (gN 7) (mYes) (eCall F_is_rule 3 (aCons (eVar 7) (aCons (eVar 4) (aCons (eVar 5) (aNil))))) [7])) (aNil)))))) (sStuck) (sNext))
  (sSeq (DV.sFld "Net" "processes" (eVar 4) (eVar 0))
  (sSeq (DV.sFld "Net" "channels" (eVar 5) (eVar 0))
  (DV.sFld "Net" "rules" (eVar 6) (eVar 0)))))))))
noncomputable def F_Net_init : Fn := fnD 11 true B_Net_init
noncomputable def B_law_made : SM := sSeq (sIf (tV (eBin dEq (eCall F_law_draw 2 (aCons (eVar 0) (aCons (eC (.int 2)) (aNil)))) (eC (.int 0)))) (sRet (eMk "Net" F_Net_init 4 (aCons (eBin dIdx (eVar 1) (eC (.int 0))) (aCons (eBin dIdx (eVar 1) (eC (.int 1))) (aCons (eBin dIdx (eVar 1) (eC (.int 2))) (aNil)))))) (sNext))
  (sRet (eMk "Net" F_Net_init 4 (aCons (eVal (fComp (iIt (eBin dIdx (eVar 1) (eC (.int 0)))) (gN 2) (mYes) (eVal (fB cList (aCons (eVar 2) (aNil)))) [2])) (aCons (eVal (fB cList (aCons (eBin dIdx (eVar 1) (eC (.int 1))) (aNil)))) (aCons (eVal (fB cList (aCons (eBin dIdx (eVar 1) (eC (.int 2))) (aNil)))) (aNil))))))
noncomputable def F_law_made : Fn := fnD 3 true B_law_made
noncomputable def B_law_start : SM := sRet (eTup (aCons (eB cTuple (aCons (eVal (fComp (iIt (eBin dIdx (eVar 0) (eC (.int 0)))) (gN 1) (mYes) (eC (.int 0)) [1])) (aNil))) (aCons (eB cTuple (aCons (eVal (fComp (iIt (eBin dIdx (eVar 0) (eC (.int 1)))) (gN 1) (mYes) (eC (.int 0)) [1])) (aNil))) (aCons (eB cTuple (aCons (eVal (fComp (iIt (eBin dIdx (eVar 0) (eC (.int 1)))) (gN 1) (mYes) (eTup (aNil)) [1])) (aNil))) (aNil)))))
noncomputable def F_law_start : Fn := fnD 2 true B_law_start
noncomputable def B_law_firsts : SM := sSeq (sIf (tV (eBin dEq (eSlc (eBin dIdx (eBin dIdx (eBin dIdx (eVar 0) (eC (.int 1))) (eVar 2)) (eC (.int 3))) (pNo) (pAt (eC (.int 5)))) (eC (.str "order")))) (sRet (eSlc (eBin dIdx (eBin dIdx (eVar 1) (eC (.int 2))) (eVar 2)) (pNo) (pAt (eC (.int 1))))) (sNext))
  (sRet (eBin dIdx (eBin dIdx (eVar 1) (eC (.int 2))) (eVar 2)))
noncomputable def F_law_firsts : Fn := fnD 3 true B_law_firsts
noncomputable def B_law_possible : SM := sSeq (sAsg (eNew (fLst (aNil))) (gN 2))
  (sSeq (sFor (iRng1 (aCons (eB cLen (aCons (eBin dIdx (eVar 0) (eC (.int 2))) (aNil))) (aNil))) (gN 3) (sSeq (sAsg (eBin dIdx (eBin dIdx (eVar 0) (eC (.int 2))) (eVar 3)) (gT 4 (gCs (gN 5) (gCs (gN 6) (gCs (gN 7) (gCs (gN 8) (gNl)))))))
  (sSeq (sIf (mAnd (tV (eBin dEq (eBin dIdx (eBin dIdx (eVar 1) (eC (.int 0))) (eVar 5)) (eVar 6))) (tV (eBin dNe (eBin dIdx (eVar 7) (eC (.int 0))) (eC (.str "take"))))) (sDrop (eM "list" mApp (eVar 2) (aCons (eTup (aCons (eC (.str "act")) (aCons (eVar 3) (aNil)))) (aNil)))) (sNext))
  (sIf (mAnd (tV (eBin dEq (eBin dIdx (eBin dIdx (eVar 1) (eC (.int 0))) (eVar 5)) (eVar 6))) (tV (eBin dEq (eBin dIdx (eVar 7) (eC (.int 0))) (eC (.str "take"))))) (sAsg (eNew (fCat (eVar 2) (eVal (fComp (iIt (eCall F_law_firsts 3 (aCons (eVar 0) (aCons (eVar 1) (aCons (eBin dIdx (eVar 7) (eC (.int 1))) (aNil)))))) (gT 2 (gCs (gN 9) (gCs (gN 10) (gNl)))) (tV (eBin dEq (eVar 10) (eBin dIdx (eVar 7) (eC (.int 2))))) (eTup (aCons (eC (.str "take")) (aCons (eVar 3) (aCons (eVar 9) (aNil))))) [9, 10])))) (gN 2)) (sNext)))))
  (sSeq (sFor (iRng1 (aCons (eB cLen (aCons (eBin dIdx (eVar 0) (eC (.int 1))) (aNil))) (aNil))) (gN 4) (sIf (tV (eBin dEq (eSlc (eBin dIdx (eBin dIdx (eBin dIdx (eVar 0) (eC (.int 1))) (eVar 4)) (eC (.int 3))) (pAt (eNeg (eC (.int 5)))) (pNo)) (eC (.str "lossy")))) (sAsg (eNew (fCat (eVar 2) (eVal (fComp (iIt (eCall F_law_firsts 3 (aCons (eVar 0) (aCons (eVar 1) (aCons (eVar 4) (aNil)))))) (gT 2 (gCs (gN 9) (gCs (gN 10) (gNl)))) (mYes) (eTup (aCons (eC (.str "lose")) (aCons (eVar 4) (aCons (eVar 9) (aNil))))) [9, 10])))) (gN 2)) (sNext)))
  (sRet (eVar 2))))
noncomputable def F_law_possible : Fn := fnD 11 true B_law_possible
noncomputable def B_law_done : SM := sSeq (sAsg (eNew (fB cList (aCons (eBin dIdx (eVar 1) (eC (.int 0))) (aNil)))) (gN 3))
  (sSeq (sAsg (eNew (fB cList (aCons (eBin dIdx (eVar 1) (eC (.int 1))) (aNil)))) (gN 4))
  (sSeq (sAsg (eNew (fB cList (aCons (eBin dIdx (eVar 1) (eC (.int 2))) (aNil)))) (gN 5))
  (sSeq (sAsg (eBin dIdx (eVar 2) (eC (.int 1))) (gN 6))
  (sSeq (sIf (tV (eBin dNe (eBin dIdx (eVar 2) (eC (.int 0))) (eC (.str "lose")))) (sSeq (sAsg (eBin dIdx (eBin dIdx (eVar 0) (eC (.int 2))) (eBin dIdx (eVar 2) (eC (.int 1)))) (gT 4 (gCs (gN 7) (gCs (gN 8) (gCs (gN 9) (gCs (gN 10) (gNl)))))))
  (sSeq (sSub (eVar 10) (eVar 3) (eVar 7))
  (sSeq (sIf (tV (eBin dNe (eBin dIdx (eVar 9) (eC (.int 0))) (eC (.str "do")))) (sAsg (eBin dIdx (eVar 9) (eC (.int 1))) (gN 6)) (sNext))
  (sIf (tV (eBin dEq (eBin dIdx (eVar 9) (eC (.int 0))) (eC (.str "send")))) (sSeq (sSub (eBin dAdd (eBin dIdx (eVar 5) (eVar 6)) (eTup (aCons (eTup (aCons (eBin dIdx (eVar 4) (eVar 6)) (aCons (eBin dIdx (eVar 9) (eC (.int 2))) (aNil)))) (aNil)))) (eVar 5) (eVar 6))
  (sSub (eBin dAdd (eBin dIdx (eVar 4) (eVar 6)) (eC (.int 1))) (eVar 4) (eVar 6))) (sNext))))) (sNext))
  (sSeq (sIf (tV (eBin dNe (eBin dIdx (eVar 2) (eC (.int 0))) (eC (.str "act")))) (sSub (eB cTuple (aCons (eVal (fComp (iIt (eBin dIdx (eVar 5) (eVar 6))) (gN 11) (tV (eBin dNe (eBin dIdx (eVar 11) (eC (.int 0))) (eBin dIdx (eVar 2) (eC (.int 2))))) (eVar 11) [11])) (aNil))) (eVar 5) (eVar 6)) (sNext))
  (sRet (eTup (aCons (eB cTuple (aCons (eVar 3) (aNil))) (aCons (eB cTuple (aCons (eVar 4) (aNil))) (aCons (eB cTuple (aCons (eVar 5) (aNil))) (aNil)))))))))))
noncomputable def F_law_done : Fn := fnD 12 true B_law_done
noncomputable def B_law_run : SM := sSeq (sAsg (eCall F_law_start 1 (aCons (eVar 1) (aNil))) (gN 3))
  (sSeq (sAsg (eNew (fLst (aNil))) (gN 4))
  (sSeq (sAsg (eNew (fLst (aCons (eVar 3) (aNil)))) (gN 5))
  (sSeq (sFor (iRng1 (aCons (eVar 2) (aNil))) (gN 6) (sSeq (sAsg (eCall F_law_possible 2 (aCons (eVar 1) (aCons (eVar 3) (aNil)))) (gN 7))
  (sSeq (sAsg (eVal (fComp (iIt (eVar 7)) (gN 9) (tV (eBin dNe (eBin dIdx (eVar 9) (eC (.int 0))) (eC (.str "lose")))) (eVar 9) [9])) (gN 8))
  (sSeq (sIf (mAnd (tV (eBin dGt (eB cLen (aCons (eVar 8) (aNil))) (eC (.int 0)))) (tV (eBin dGt (eCall F_law_draw 2 (aCons (eVar 0) (aCons (eC (.int 4)) (aNil)))) (eC (.int 0))))) (sAsg (eVar 8) (gN 7)) (sNext))
  (sIf (tV (eBin dGt (eB cLen (aCons (eVar 7) (aNil))) (eC (.int 0)))) (sSeq (sAsg (eCall F_law_picked 2 (aCons (eVar 0) (aCons (eVar 7) (aNil)))) (gN 9))
  (sSeq (sAsg (eCall F_law_done 3 (aCons (eVar 1) (aCons (eVar 3) (aCons (eVar 9) (aNil))))) (gN 3))
  (sSeq (sDrop (eM "list" mApp (eVar 4) (aCons (eVar 9) (aNil))))
  (sDrop (eM "list" mApp (eVar 5) (aCons (eVar 3) (aNil))))))) (sNext))))))
  (sRet (eTup (aCons (eVar 4) (aCons (eVar 5) (aNil))))))))
noncomputable def F_law_run : Fn := fnD 10 true B_law_run
noncomputable def B_law_told : SM := sSeq (sAsg (eNew (fComp (iIt (eBin dIdx (eVar 0) (eC (.int 0)))) (gN 5) (mYes) (eTup (aNil)) [5])) (gN 2))
  (sSeq (sFor (iIt (eVar 1)) (gN 3) (sSeq (sAsg (eIf (tV (eBin dEq (eBin dIdx (eVar 3) (eC (.int 0))) (eC (.str "lose")))) (eBin dIdx (eBin dIdx (eBin dIdx (eVar 0) (eC (.int 1))) (eBin dIdx (eVar 3) (eC (.int 1)))) (eC (.int 2))) (eBin dIdx (eBin dIdx (eBin dIdx (eVar 0) (eC (.int 2))) (eBin dIdx (eVar 3) (eC (.int 1)))) (eC (.int 0)))) (gN 4))
  (sSub (eBin dAdd (eBin dIdx (eVar 2) (eVar 4)) (eTup (aCons (eVar 3) (aNil)))) (eVar 2) (eVar 4))))
  (sRet (eB cTuple (aCons (eVar 2) (aNil)))))
noncomputable def F_law_told : Fn := fnD 6 true B_law_told
noncomputable def B_law_world : SM := sSeq (sAsg (eNew (fComp (iIt (eBin dIdx (eVar 0) (eC (.int 0)))) (gN 10) (mYes) (eC (.int 0)) [10])) (gN 3))
  (sSeq (sAsg (eNew (fComp (iIt (eBin dIdx (eVar 0) (eC (.int 1)))) (gN 10) (mYes) (eTup (aNil)) [10])) (gN 4))
  (sSeq (sAsg (eNew (fComp (iIt (eBin dIdx (eVar 0) (eC (.int 1)))) (gN 10) (mYes) (eTup (aNil)) [10])) (gN 5))
  (sSeq (sFor (iRng1 (aCons (eB cLen (aCons (eVar 1) (aNil))) (aNil))) (gN 6) (sFor (iIt (eSlc (eBin dIdx (eVar 1) (eVar 6)) (pNo) (pAt (eBin dIdx (eVar 2) (eVar 6))))) (gN 9) (sIf (tV (eBin dEq (eBin dIdx (eVar 9) (eC (.int 0))) (eC (.str "lose")))) (sSub (eBin dAdd (eBin dIdx (eVar 5) (eBin dIdx (eVar 9) (eC (.int 1)))) (eTup (aCons (eBin dIdx (eVar 9) (eC (.int 2))) (aNil)))) (eVar 5) (eBin dIdx (eVar 9) (eC (.int 1)))) (sSeq (sAsg (eBin dIdx (eBin dIdx (eBin dIdx (eVar 0) (eC (.int 2))) (eBin dIdx (eVar 9) (eC (.int 1)))) (eC (.int 2))) (gN 11))
  (sSeq (sSub (eBin dIdx (eBin dIdx (eBin dIdx (eVar 0) (eC (.int 2))) (eBin dIdx (eVar 9) (eC (.int 1)))) (eC (.int 3))) (eVar 3) (eVar 6))
  (sSeq (sIf (tV (eBin dEq (eBin dIdx (eVar 11) (eC (.int 0))) (eC (.str "send")))) (sSub (eBin dAdd (eBin dIdx (eVar 4) (eBin dIdx (eVar 11) (eC (.int 1)))) (eTup (aCons (eBin dIdx (eVar 11) (eC (.int 2))) (aNil)))) (eVar 4) (eBin dIdx (eVar 11) (eC (.int 1)))) (sNext))
  (sIf (tV (eBin dEq (eBin dIdx (eVar 11) (eC (.int 0))) (eC (.str "take")))) (sSub (eBin dAdd (eBin dIdx (eVar 5) (eBin dIdx (eVar 11) (eC (.int 1)))) (eTup (aCons (eBin dIdx (eVar 9) (eC (.int 2))) (aNil)))) (eVar 5) (eBin dIdx (eVar 11) (eC (.int 1)))) (sNext))))))))
  (sSeq (sAsg (eNew (fLst (aNil))) (gN 7))
  (sSeq (sFor (iRng1 (aCons (eB cLen (aCons (eBin dIdx (eVar 0) (eC (.int 1))) (aNil))) (aNil))) (gN 8) (sSeq (sIf (tV (eBin dGt (eB cLen (aCons (eVal (fComp (iIt (eBin dIdx (eVar 5) (eVar 8))) (gN 12) (tV (eBin dGe (eVar 12) (eB cLen (aCons (eBin dIdx (eVar 4) (eVar 8)) (aNil))))) (eVar 12) [12])) (aNil))) (eC (.int 0)))) (sRet (eC .non)) (sNext))
  (sDrop (eM "list" mApp (eVar 7) (aCons (eB cTuple (aCons (eVal (fComp (iRng1 (aCons (eB cLen (aCons (eBin dIdx (eVar 4) (eVar 8)) (aNil))) (aNil))) (gN 12) (tV (eBin dNotIn (eVar 12) (eBin dIdx (eVar 5) (eVar 8)))) (eTup (aCons (eVar 12) (aCons (eBin dIdx (eBin dIdx (eVar 4) (eVar 8)) (eVar 12)) (aNil)))) [12])) (aNil))) (aNil))))))
  (sRet (eTup (aCons (eB cTuple (aCons (eVar 3) (aNil))) (aCons (eB cTuple (aCons (eVal (fCompR (iRef (eVar 4)) (gN 10) (mYes) (eB cLen (aCons (eVar 10) (aNil))) [10])) (aNil))) (aCons (eB cTuple (aCons (eVar 7) (aNil))) (aNil)))))))))))
noncomputable def F_law_world : Fn := fnD 13 true B_law_world
noncomputable def B_law_cuts : SM := sSeq (sAsg (eVal (fLst (aCons (eTup (aNil)) (aNil)))) (gN 2))
  (sSeq (sFor (iIt (eVar 1)) (gN 3) (sSeq (sAsg (eVal (fLst (aNil))) (gN 7))
  (sSeq (sFor (iIt (eVar 2)) (gN 8) (sAsg (eBin dAdd (eVar 7) (eVal (fComp (iRng1 (aCons (eBin dAdd (eB cLen (aCons (eVar 3) (aNil))) (eC (.int 1))) (aNil))) (gN 10) (mYes) (eBin dAdd (eVar 8) (eTup (aCons (eVar 10) (aNil)))) [10]))) (gN 7)))
  (sAsg (eVar 7) (gN 2)))))
  (sSeq (sAsg (eVal (fComp (iIt (eVar 2)) (gN 8) (mYes) (eTup (aCons (eVar 8) (aCons (eCall F_law_world 3 (aCons (eVar 0) (aCons (eVar 1) (aCons (eVar 8) (aNil))))) (aNil)))) [8])) (gN 4))
  (sSeq (sAsg (eVal (fLst (aNil))) (gN 5))
  (sSeq (sFor (iRng1 (aCons (eBin dAdd (eB cSum (aCons (eVal (fComp (iIt (eVar 1)) (gN 3) (mYes) (eB cLen (aCons (eVar 3) (aNil))) [3])) (aNil))) (eC (.int 1))) (aNil))) (gN 6) (sAsg (eBin dAdd (eVar 5) (eVal (fComp (iIt (eVar 4)) (gN 9) (mAnd (tV (eBin dIsNot (eBin dIdx (eVar 9) (eC (.int 1))) (eC .non))) (tV (eBin dEq (eB cSum (aCons (eBin dIdx (eVar 9) (eC (.int 0))) (aNil))) (eVar 6)))) (eVar 9) [9]))) (gN 5)))
  (sRet (eVar 5))))))
noncomputable def F_law_cuts : Fn := fnD 11 true B_law_cuts
noncomputable def B_law_hidden : SM := sSeq (sAsg (eBin dIdx (eVal (fLst (aCons (eC (.str "order")) (aCons (eC (.str "order lossy")) (aCons (eC (.str "loose")) (aCons (eC (.str "loose lossy")) (aNil))))))) (eCall F_law_draw 2 (aCons (eVar 0) (aCons (eC (.int 4)) (aNil))))) (gN 1))
  (sSeq (sAsg (eBin dAdd (eC (.int 1)) (eCall F_law_draw 2 (aCons (eVar 0) (aCons (eC (.int 3)) (aNil))))) (gN 2))
  (sSeq (sAsg (eVal (fComp (iRng1 (aCons (eVar 2) (aNil))) (gN 4) (mYes) (eTup (aCons (eC (.int 0)) (aCons (eVar 4) (aCons (eTup (aCons (eC (.str "send")) (aCons (eC (.int 0)) (aCons (eCall F_law_picked 2 (aCons (eVar 0) (aCons (eVal (fLst (aCons (eC (.int 3)) (aCons (eC (.int 4)) (aNil))))) (aNil)))) (aNil))))) (aCons (eBin dAdd (eVar 4) (eC (.int 1))) (aNil)))))) [4])) (gN 3))
  (sSeq (sAsg (eBin dAdd (eVar 3) (eVal (fLst (aCons (eTup (aCons (eC (.int 0)) (aCons (eVar 2) (aCons (eTup (aCons (eC (.str "send")) (aCons (eC (.int 0)) (aCons (eC (.int 7)) (aNil))))) (aCons (eBin dAdd (eVar 2) (eC (.int 1))) (aNil)))))) (aCons (eTup (aCons (eC (.int 1)) (aCons (eC (.int 0)) (aCons (eTup (aCons (eC (.str "take")) (aCons (eC (.int 0)) (aCons (eC (.int 7)) (aNil))))) (aCons (eC (.int 1)) (aNil)))))) (aNil)))))) (gN 3))
  (sRet (eTup (aCons (eTup (aCons (eTup (aCons (eC (.str "p")) (aCons (eBin dAdd (eVar 2) (eC (.int 2))) (aNil)))) (aCons (eTup (aCons (eC (.str "q")) (aCons (eC (.int 2)) (aNil)))) (aNil)))) (aCons (eTup (aCons (eTup (aCons (eC (.str "c")) (aCons (eC (.int 0)) (aCons (eC (.int 1)) (aCons (eVar 1) (aNil)))))) (aNil))) (aCons (eB cTuple (aCons (eVar 3) (aNil))) (aNil)))))))))
noncomputable def F_law_hidden : Fn := fnD 5 true B_law_hidden
noncomputable def B_can_take : SM := sSeq (sAsg (eBin dIdx (eBin dIdx (eVar 1) (eC (.int 2))) (eVar 2)) (gN 4))
  (sSeq (sIf (tV (eBin dEq (eBin dIdx (eBin dIdx (eFld "Net" "channels" (eVar 0)) (eVar 2)) (eC (.int 3))) (eC (.str "order")))) (sAsg (eSlc (eVar 4) (pNo) (pAt (eC (.int 1)))) (gN 4)) (sNext))
  (sRet (eB cAny (aCons (eVal (fComp (iIt (eVar 4)) (gN 5) (mYes) (eBin dEq (eBin dIdx (eVar 5) (eC (.int 1))) (eVar 3)) [5])) (aNil)))))
noncomputable def F_can_take : Fn := fnD 6 true B_can_take
noncomputable def B_still : SM := sSeq (sFor (iIt (eFld "Net" "rules" (eVar 0))) (gT 4 (gCs (gN 2) (gCs (gN 3) (gCs (gN 4) (gCs (gN 5) (gNl)))))) (sIf (mAnd (tV (eBin dEq (eBin dIdx (eBin dIdx (eVar 1) (eC (.int 0))) (eVar 2)) (eVar 3))) (mOr (tV (eBin dNe (eBin dIdx (eVar 4) (eC (.int 0))) (eC (.str "take")))) (tV (eCall F_can_take 4 (aCons (eVar 0) (aCons (eVar 1) (aCons (eBin dIdx (eVar 4) (eC (.int 1))) (aCons (eBin dIdx (eVar 4) (eC (.int 2))) (aNil))))))))) (sRet (eC (.bl false))) (sNext)))
  (sRet (eC (.bl true)))
noncomputable def F_still : Fn := fnD 6 true B_still
noncomputable def B_law_still : SM := sSeq (sFor (iIt (eBin dIdx (eVar 0) (eC (.int 2)))) (gT 4 (gCs (gN 2) (gCs (gN 3) (gCs (gN 4) (gCs (gN 5) (gNl)))))) (sIf (tV (eBin dEq (eBin dIdx (eBin dIdx (eVar 1) (eC (.int 0))) (eVar 2)) (eVar 3))) (sSeq (sIf (tV (eBin dNe (eBin dIdx (eVar 4) (eC (.int 0))) (eC (.str "take")))) (sRet (eC (.bl false))) (sNext))
  (sSeq (sAsg (eBin dIdx (eBin dIdx (eVar 1) (eC (.int 2))) (eBin dIdx (eVar 4) (eC (.int 1)))) (gN 6))
  (sSeq (sIf (tV (eBin dEq (eBin dIdx (eBin dIdx (eBin dIdx (eVar 0) (eC (.int 1))) (eBin dIdx (eVar 4) (eC (.int 1)))) (eC (.int 3))) (eC (.str "order")))) (sAsg (eSlc (eVar 6) (pNo) (pAt (eC (.int 1)))) (gN 6)) (sNext))
  (sIf (tV (eBin dGt (eB cLen (aCons (eVal (fComp (iIt (eVar 6)) (gN 7) (tV (eBin dEq (eBin dIdx (eVar 7) (eC (.int 1))) (eBin dIdx (eVar 4) (eC (.int 2))))) (eVar 7) [7])) (aNil))) (eC (.int 0)))) (sRet (eC (.bl false))) (sNext))))) (sNext)))
  (sRet (eC (.bl true)))
noncomputable def F_law_still : Fn := fnD 8 true B_law_still
noncomputable def B_law_by_losses : SM := sSeq (sAsg (eNew (fLst (aCons (eVar 1) (aNil)))) (gN 2))
  (sSeq (sAsg (eC (.int 0)) (gN 3))
  (sSeq (whL (tV (eBin dLt (eVar 3) (eB cLen (aCons (eVar 2) (aNil))))) (sSeq (sFor (iIt (eCall F_law_possible 2 (aCons (eVar 0) (aCons (eBin dIdx (eVar 2) (eVar 3)) (aNil))))) (gN 4) (sSeq (sIf (tV (eBin dNe (eBin dIdx (eVar 4) (eC (.int 0))) (eC (.str "lose")))) (sRet (eC (.bl false))) (sNext))
  (sSeq (sAsg (eCall F_law_done 3 (aCons (eVar 0) (aCons (eBin dIdx (eVar 2) (eVar 3)) (aCons (eVar 4) (aNil))))) (gN 5))
  (sIf (tV (eBin dNotIn (eVar 5) (eVar 2))) (sDrop (eM "list" mApp (eVar 2) (aCons (eVar 5) (aNil)))) (sNext)))))
  (sSeq (sAsg (eBin dAdd (eVar 3) (eC (.int 1))) (gN 3))
  (sIf (tV (eBin dGt (eB cLen (aCons (eVar 2) (aNil))) (eC (.int 20)))) (sRet (eC .non)) (sNext)))) 100)
  (sRet (eC (.bl true)))))
noncomputable def F_law_by_losses : Fn := fnD 6 true B_law_by_losses
noncomputable def B_law_listed (rec : Fn) : SM := sSeq (sIf (mNot (tV (eIsi "tuple" (eVar 1)))) (sRet (eVar 1)) (sNext))
  (sSeq (sAsg (eVal (fComp (iIt (eVar 1)) (gN 3) (mYes) (eCall rec 2 (aCons (eVar 0) (aCons (eVar 3) (aNil)))) [3])) (gN 2))
  (sSeq (sIf (tV (eBin dEq (eCall F_law_draw 2 (aCons (eVar 0) (aCons (eC (.int 3)) (aNil)))) (eC (.int 0)))) (sRet (eVar 2)) (sNext))
  (sRet (eB cTuple (aCons (eVar 2) (aNil))))))
noncomputable def F_law_listed : Nat → Fn
  | 0 => fun _ _ => none
  | n + 1 => fnD 4 true (B_law_listed (F_law_listed n))
noncomputable def B_law_same (rec : Fn) : SM := sSeq (sIf (tV (eBin dIs (eVar 1) (eC .non))) (sRet (eBin dIs (eVar 0) (eC .non))) (sNext))
  (sSeq (sIf (tV (eIsi "tuple" (eVar 1))) (sSeq (sIf (mOr (mNot (tV (eIsi "tuple" (eVar 0)))) (tV (eBin dNe (eB cLen (aCons (eVar 0) (aNil))) (eB cLen (aCons (eVar 1) (aNil)))))) (sRet (eC (.bl false))) (sNext))
  (sSeq (sFor (iRng1 (aCons (eB cLen (aCons (eVar 1) (aNil))) (aNil))) (gN 2) (sIf (mNot (tV (eCall rec 2 (aCons (eBin dIdx (eVar 0) (eVar 2)) (aCons (eBin dIdx (eVar 1) (eVar 2)) (aNil)))))) (sRet (eC (.bl false))) (sNext)))
  (sRet (eC (.bl true))))) (sNext))
  (sSeq (sIf (tV (eIsi "bool" (eVar 1))) (sRet (eAnd (eIsi "bool" (eVar 0)) (eBin dEq (eVar 0) (eVar 1)))) (sNext))
  (sSeq (sIf (tV (eIsi "int" (eVar 1))) (sRet (eAnd (eIsi "int" (eVar 0)) (eAnd (eNot (eIsi "bool" (eVar 0))) (eBin dEq (eVar 0) (eVar 1))))) (sNext))
  (sSeq (sIf (tV (eIsi "list" (eVar 1))) (sRet (eAnd (eIsi "list" (eVar 0)) (eCall rec 2 (aCons (eB cTuple (aCons (eVar 0) (aNil))) (aCons (eB cTuple (aCons (eVar 1) (aNil))) (aNil)))))) (sNext))
  (sRet (eAnd (eIsi "str" (eVar 0)) (eBin dEq (eVar 0) (eVar 1))))))))
noncomputable def F_law_same : Nat → Fn
  | 0 => fun _ _ => none
  | n + 1 => fnD 3 true (B_law_same (F_law_same n))
noncomputable def B_ended : SM := sRet (eAnd (eCall F_still 2 (aCons (eVar 0) (aCons (eVar 1) (aNil)))) (eB cAll (aCons (eVal (fComp (iIt (eBin dIdx (eVar 1) (eC (.int 2)))) (gN 2) (mYes) (eBin dEq (eB cLen (aCons (eVar 2) (aNil))) (eC (.int 0))) [2])) (aNil))))
noncomputable def F_ended : Fn := fnD 3 true B_ended
noncomputable def B_law_is_told : SM := sSeq (sAsg (eCall F_law_still 2 (aCons (eVar 2) (aCons (eVar 3) (aNil)))) (gN 4))
  (sSeq (sAsg (eCall F_law_by_losses 2 (aCons (eVar 2) (aCons (eVar 3) (aNil)))) (gN 5))
  (sSeq (sIf (mAnd (tV (eBin dIsNot (eVar 5) (eC .non))) (tV (eBin dNe (eVar 5) (eVar 4)))) (sRet (eC (.bl false))) (sNext))
  (sSeq (sAsg (eBin dEq (eB cLen (aCons (eVal (fComp (iIt (eBin dIdx (eVar 3) (eC (.int 2)))) (gN 8) (tV (eBin dGt (eB cLen (aCons (eVar 8) (aNil))) (eC (.int 0)))) (eVar 8) [8])) (aNil))) (eC (.int 0))) (gN 6))
  (sSeq (sAsg (eCall (F_law_listed 8) 2 (aCons (eVar 0) (aCons (eVar 3) (aNil)))) (gN 7))
  (sRet (eAnd (eCall (F_law_same 8) 2 (aCons (eCall F_still 2 (aCons (eVar 1) (aCons (eVar 7) (aNil)))) (aCons (eVar 4) (aNil)))) (eCall (F_law_same 8) 2 (aCons (eCall F_ended 2 (aCons (eVar 1) (aCons (eVar 7) (aNil)))) (aCons (eAnd (eVar 4) (eVar 6)) (aNil))))))))))
noncomputable def F_law_is_told : Fn := fnD 9 true B_law_is_told
noncomputable def B_is_lossy : SM := sRet (eBin dIn (eBin dIdx (eBin dIdx (eFld "Net" "channels" (eVar 0)) (eVar 1)) (eC (.int 3))) (eTup (aCons (eC (.str "order lossy")) (aCons (eC (.str "loose lossy")) (aNil)))))
noncomputable def F_is_lossy : Fn := fnD 2 true B_is_lossy
noncomputable def B_is_ordered : SM := sRet (eBin dIn (eBin dIdx (eBin dIdx (eFld "Net" "channels" (eVar 0)) (eVar 1)) (eC (.int 3))) (eTup (aCons (eC (.str "order")) (aCons (eC (.str "order lossy")) (aNil)))))
noncomputable def F_is_ordered : Fn := fnD 2 true B_is_ordered
noncomputable def B_open_messages_of : SM := sSeq (sAsg (eB cTuple (aCons (eVal (fComp (iIt (eBin dIdx (eBin dIdx (eVar 1) (eC (.int 2))) (eVar 2))) (gN 4) (mYes) (eB cTuple (aCons (eVar 4) (aNil))) [4])) (aNil))) (gN 3))
  (sRet (eIf (tV (eCall F_is_ordered 2 (aCons (eVar 0) (aCons (eVar 2) (aNil))))) (eSlc (eVar 3) (pNo) (pAt (eC (.int 1)))) (eVar 3)))
noncomputable def F_open_messages_of : Fn := fnD 5 true B_open_messages_of
noncomputable def B_possible : SM := sSeq (sAsg (eNew (fLst (aNil))) (gN 2))
  (sSeq (sFor (iEn (eFld "Net" "rules" (eVar 0))) (gT 2 (gCs (gN 4) (gCs (gN 5) (gNl)))) (sIf (mAnd (tV (eBin dEq (eBin dIdx (eBin dIdx (eVar 1) (eC (.int 0))) (eBin dIdx (eVar 5) (eC (.int 0)))) (eBin dIdx (eVar 5) (eC (.int 1))))) (tV (eBin dNe (eBin dIdx (eBin dIdx (eVar 5) (eC (.int 2))) (eC (.int 0))) (eC (.str "take"))))) (sDrop (eM "list" mApp (eVar 2) (aCons (eTup (aCons (eC (.str "act")) (aCons (eVar 4) (aNil)))) (aNil)))) (sIf (tV (eBin dEq (eBin dIdx (eBin dIdx (eVar 1) (eC (.int 0))) (eBin dIdx (eVar 5) (eC (.int 0)))) (eBin dIdx (eVar 5) (eC (.int 1))))) (sSeq (sAsg (eCall F_open_messages_of 3 (aCons (eVar 0) (aCons (eVar 1) (aCons (eBin dIdx (eBin dIdx (eVar 5) (eC (.int 2))) (eC (.int 1))) (aNil))))) (gN 6))
  (sDrop (eM "list" mExt (eVar 2) (aCons (eVal (fComp (iIt (eVar 6)) (gT 2 (gCs (gN 7) (gCs (gN 9) (gNl)))) (tV (eBin dEq (eVar 9) (eBin dIdx (eBin dIdx (eVar 5) (eC (.int 2))) (eC (.int 2))))) (eTup (aCons (eC (.str "take")) (aCons (eVar 4) (aCons (eVar 7) (aNil))))) [7, 9])) (aNil))))) (sNext))))
  (sSeq (sFor (iRng1 (aCons (eB cLen (aCons (eFld "Net" "channels" (eVar 0)) (aNil))) (aNil))) (gN 3) (sIf (tV (eCall F_is_lossy 2 (aCons (eVar 0) (aCons (eVar 3) (aNil))))) (sDrop (eM "list" mExt (eVar 2) (aCons (eVal (fComp (iIt (eCall F_open_messages_of 3 (aCons (eVar 0) (aCons (eVar 1) (aCons (eVar 3) (aNil)))))) (gT 2 (gCs (gN 7) (gCs (gN 8) (gNl)))) (mYes) (eTup (aCons (eC (.str "lose")) (aCons (eVar 3) (aCons (eVar 7) (aNil))))) [7, 8])) (aNil)))) (sNext)))
  (sRet (eB cTuple (aCons (eVar 2) (aNil))))))
noncomputable def F_possible : Fn := fnD 10 true B_possible
noncomputable def B_law_lost_on : SM := sSeq (sFor (iRng1 (aCons (eC (.int 8)) (aNil))) (gN 4) (sSeq (sAsg (eCall F_law_possible 2 (aCons (eVar 2) (aCons (eVar 3) (aNil)))) (gN 5))
  (sSeq (sIf (mOr (mNot (tV (eCall (F_law_same 8) 2 (aCons (eCall F_possible 2 (aCons (eVar 1) (aCons (eVar 3) (aNil)))) (aCons (eB cTuple (aCons (eVar 5) (aNil))) (aNil)))))) (tV (eBin dGt (eB cLen (aCons (eVal (fComp (iIt (eVar 5)) (gN 6) (tV (eBin dNe (eBin dIdx (eVar 6) (eC (.int 0))) (eC (.str "lose")))) (eVar 6) [6])) (aNil))) (eC (.int 0))))) (sRet (eC (.bl false))) (sNext))
  (sSeq (sIf (tV (eBin dEq (eB cLen (aCons (eVar 5) (aNil))) (eC (.int 0)))) (sRet (eC (.bl true))) (sNext))
  (sSeq (sAsg (eCall F_law_done 3 (aCons (eVar 2) (aCons (eVar 3) (aCons (eCall F_law_picked 2 (aCons (eVar 0) (aCons (eVar 5) (aNil)))) (aNil))))) (gN 3))
  (sIf (mOr (mNot (tV (eCall F_law_is_told 4 (aCons (eVar 0) (aCons (eVar 1) (aCons (eVar 2) (aCons (eVar 3) (aNil)))))))) (tV (eBin dIsNot (eCall F_still 2 (aCons (eVar 1) (aCons (eVar 3) (aNil)))) (eC (.bl true))))) (sRet (eC (.bl false))) (sNext)))))))
  (sRet (eC (.bl true)))
noncomputable def F_law_lost_on : Fn := fnD 7 true B_law_lost_on
noncomputable def B_law : SM := sSeq (sAsg (eCall F_law_pool 1 (aCons (eVar 0) (aNil))) (gN 1))
  (sSeq (sAsg (eCall F_law_net 2 (aCons (eVar 1) (aCons (eC (.int 3)) (aNil)))) (gN 2))
  (sSeq (sIf (tV (eBin dEq (eCall F_law_draw 2 (aCons (eVar 1) (aCons (eC (.int 4)) (aNil)))) (eC (.int 0)))) (sAsg (eCall F_law_hidden 1 (aCons (eVar 1) (aNil))) (gN 2)) (sIf (tV (eBin dGt (eCall F_law_draw 2 (aCons (eVar 1) (aCons (eC (.int 3)) (aNil)))) (eC (.int 0)))) (sAsg (eTup (aCons (eBin dIdx (eVar 2) (eC (.int 0))) (aCons (eBin dIdx (eVar 2) (eC (.int 1))) (aCons (eB cTuple (aCons (eVal (fComp (iIt (eBin dIdx (eVar 2) (eC (.int 2)))) (gN 12) (tV (eBin dGt (eCall F_law_draw 2 (aCons (eVar 1) (aCons (eC (.int 3)) (aNil)))) (eC (.int 0)))) (eVar 12) [12])) (aNil))) (aNil))))) (gN 2)) (sNext)))
  (sSeq (sAsg (eCall F_law_made 2 (aCons (eVar 1) (aCons (eVar 2) (aNil)))) (gN 3))
  (sSeq (sAsg (eCall F_law_run 3 (aCons (eVar 1) (aCons (eVar 2) (aCons (eBin dIdx (eVal (fLst (aCons (eC (.int 5)) (aCons (eC (.int 12)) (aCons (eC (.int 25)) (aNil)))))) (eCall F_law_draw 2 (aCons (eVar 1) (aCons (eC (.int 3)) (aNil))))) (aNil))))) (gT 2 (gCs (gN 8) (gCs (gN 9) (gNl)))))
  (sSeq (sFor (iIt (eBin dAdd (eSlc (eVar 9) (pNo) (pAt (eC (.int 6)))) (eSlc (eVar 9) (pAt (eNeg (eC (.int 8)))) (pNo)))) (gN 4) (sSeq (sIf (mNot (tV (eCall F_law_is_told 4 (aCons (eVar 1) (aCons (eVar 3) (aCons (eVar 2) (aCons (eVar 4) (aNil)))))))) (sRet (eC (.bl false))) (sNext))
  (sIf (mAnd (tV (eCall F_law_still 2 (aCons (eVar 2) (aCons (eVar 4) (aNil))))) (mNot (tV (eCall F_law_lost_on 4 (aCons (eVar 1) (aCons (eVar 3) (aCons (eVar 2) (aCons (eVar 4) (aNil))))))))) (sRet (eC (.bl false))) (sNext))))
  (sSeq (sAsg (eCall F_law_told 2 (aCons (eVar 2) (aCons (eSlc (eVar 8) (pNo) (pAt (eC (.int 9)))) (aNil)))) (gN 5))
  (sSeq (sAsg (eCall F_law_cuts 2 (aCons (eVar 2) (aCons (eVar 5) (aNil)))) (gN 6))
  (sSeq (sAsg (eCall F_law_draw 2 (aCons (eVar 1) (aCons (eB cLen (aCons (eVar 6) (aNil))) (aNil)))) (gN 7))
  (sSeq (sFor (iIt (eBin dAdd (eSlc (eVar 6) (pAt (eVar 7)) (pAt (eBin dAdd (eVar 7) (eC (.int 8))))) (eSlc (eVar 6) (pAt (eNeg (eC (.int 4)))) (pNo)))) (gT 2 (gCs (gN 10) (gCs (gN 4) (gNl)))) (sSeq (sIf (mNot (tV (eCall F_law_is_told 4 (aCons (eVar 1) (aCons (eVar 3) (aCons (eVar 2) (aCons (eVar 4) (aNil)))))))) (sRet (eC (.bl false))) (sNext))
  (sIf (tV (eCall F_still 2 (aCons (eVar 3) (aCons (eVar 4) (aNil))))) (sFor (iRng1 (aCons (eB cLen (aCons (eVar 5) (aNil))) (aNil))) (gN 11) (sIf (tV (eBin dGt (eB cLen (aCons (eVal (fComp (iIt (eSlc (eBin dIdx (eVar 5) (eVar 11)) (pAt (eBin dIdx (eVar 10) (eVar 11))) (pNo))) (gN 13) (tV (eBin dNe (eBin dIdx (eVar 13) (eC (.int 0))) (eC (.str "lose")))) (eVar 13) [13])) (aNil))) (eC (.int 0)))) (sRet (eC (.bl false))) (sNext))) (sNext))))
  (sRet (eC (.bl true))))))))))))
noncomputable def F_law : Fn := fnD 14 true B_law
end K40

end

section
set_option Elab.async false
set_option linter.all false
set_option maxRecDepth 100000
set_option maxHeartbeats 4000000
/-! the text of k40_what_stays, its facts, printed by gen.py -/
namespace K40
open PySem PySem.Spec PyProof.Rows L2 DV
def top (i : Nat) : Stmt := PySem.Challenge.pw_cutweave_k40_what_stays.main.body.getD i (.Pass ⟨0, 0, 0, 0⟩)
def d_law_pool : He.DefD := ⟨("_law_pool", none), "_law_pool", "_law_pool", defArgs (top 33), defBody (top 33), defScope (top 33), [], []⟩
def d_law_mixed : He.DefD := ⟨("_law_mixed", none), "_law_mixed", "_law_mixed", defArgs (top 32), defBody (top 32), defScope (top 32), [], []⟩
def d_law_draw : He.DefD := ⟨("_law_draw", none), "_law_draw", "_law_draw", defArgs (top 34), defBody (top 34), defScope (top 34), [], []⟩
def d_law_names : He.DefD := ⟨("_law_names", none), "_law_names", "_law_names", defArgs (top 37), defBody (top 37), defScope (top 37), [], []⟩
def d_law_picked : He.DefD := ⟨("_law_picked", none), "_law_picked", "_law_picked", defArgs (top 35), defBody (top 35), defScope (top 35), [], []⟩
def d_law_rule : He.DefD := ⟨("_law_rule", none), "_law_rule", "_law_rule", defArgs (top 38), defBody (top 38), defScope (top 38), [], []⟩
def d_law_net : He.DefD := ⟨("_law_net", none), "_law_net", "_law_net", defArgs (top 39), defBody (top 39), defScope (top 39), [], []⟩
def d_frozen : He.DefD := ⟨("_frozen", none), "_frozen", "_frozen", defArgs (top 19), defBody (top 19), defScope (top 19), [], []⟩
def d_rows : He.DefD := ⟨("_rows", none), "_rows", "_rows", defArgs (top 20), defBody (top 20), defScope (top 20), [], []⟩
def d_is_name : He.DefD := ⟨("is_name", none), "is_name", "is_name", defArgs (top 14), defBody (top 14), defScope (top 14), [], []⟩
def d_is_whole : He.DefD := ⟨("is_whole", none), "is_whole", "is_whole", defArgs (top 12), defBody (top 12), defScope (top 12), [], []⟩
def d_is_process : He.DefD := ⟨("is_process", none), "is_process", "is_process", defArgs (top 15), defBody (top 15), defScope (top 15), [], []⟩
def d_is_below : He.DefD := ⟨("is_below", none), "is_below", "is_below", defArgs (top 13), defBody (top 13), defScope (top 13), [], []⟩
def d_is_channel : He.DefD := ⟨("is_channel", none), "is_channel", "is_channel", defArgs (top 16), defBody (top 16), defScope (top 16), [], []⟩
def d_is_act : He.DefD := ⟨("is_act", none), "is_act", "is_act", defArgs (top 17), defBody (top 17), defScope (top 17), [], []⟩
def d_is_rule : He.DefD := ⟨("is_rule", none), "is_rule", "is_rule", defArgs (top 18), defBody (top 18), defScope (top 18), [], []⟩
def d_Net_init : He.DefD := ⟨("Net", some "__init__"), "__init__", "Net.__init__", defArgs (inClass (top 21) 0), defBody (inClass (top 21) 0), defScope (inClass (top 21) 0), [], []⟩
def d_law_made : He.DefD := ⟨("_law_made", none), "_law_made", "_law_made", defArgs (top 40), defBody (top 40), defScope (top 40), [], []⟩
def d_law_start : He.DefD := ⟨("_law_start", none), "_law_start", "_law_start", defArgs (top 44), defBody (top 44), defScope (top 44), [], []⟩
def d_law_firsts : He.DefD := ⟨("_law_firsts", none), "_law_firsts", "_law_firsts", defArgs (top 41), defBody (top 41), defScope (top 41), [], []⟩
def d_law_possible : He.DefD := ⟨("_law_possible", none), "_law_possible", "_law_possible", defArgs (top 42), defBody (top 42), defScope (top 42), [], []⟩
def d_law_done : He.DefD := ⟨("_law_done", none), "_law_done", "_law_done", defArgs (top 43), defBody (top 43), defScope (top 43), [], []⟩
def d_law_run : He.DefD := ⟨("_law_run", none), "_law_run", "_law_run", defArgs (top 45), defBody (top 45), defScope (top 45), [], []⟩
def d_law_told : He.DefD := ⟨("_law_told", none), "_law_told", "_law_told", defArgs (top 46), defBody (top 46), defScope (top 46), [], []⟩
def d_law_world : He.DefD := ⟨("_law_world", none), "_law_world", "_law_world", defArgs (top 47), defBody (top 47), defScope (top 47), [], []⟩
def d_law_cuts : He.DefD := ⟨("_law_cuts", none), "_law_cuts", "_law_cuts", defArgs (top 48), defBody (top 48), defScope (top 48), [], []⟩
def d_law_hidden : He.DefD := ⟨("_law_hidden", none), "_law_hidden", "_law_hidden", defArgs (top 54), defBody (top 54), defScope (top 54), [], []⟩
def d_can_take : He.DefD := ⟨("can_take", none), "can_take", "can_take", defArgs (top 28), defBody (top 28), defScope (top 28), [], []⟩
def d_still : He.DefD := ⟨("still", none), "still", "still", defArgs (top 29), defBody (top 29), defScope (top 29), [], []⟩
def d_law_still : He.DefD := ⟨("_law_still", none), "_law_still", "_law_still", defArgs (top 50), defBody (top 50), defScope (top 50), [], []⟩
def d_law_by_losses : He.DefD := ⟨("_law_by_losses", none), "_law_by_losses", "_law_by_losses", defArgs (top 51), defBody (top 51), defScope (top 51), [], []⟩
def d_law_listed : He.DefD := ⟨("_law_listed", none), "_law_listed", "_law_listed", defArgs (top 49), defBody (top 49), defScope (top 49), [], []⟩
def d_law_same : He.DefD := ⟨("_law_same", none), "_law_same", "_law_same", defArgs (top 36), defBody (top 36), defScope (top 36), [], []⟩
def d_ended : He.DefD := ⟨("ended", none), "ended", "ended", defArgs (top 30), defBody (top 30), defScope (top 30), [], []⟩
def d_law_is_told : He.DefD := ⟨("_law_is_told", none), "_law_is_told", "_law_is_told", defArgs (top 52), defBody (top 52), defScope (top 52), [], []⟩
def d_is_lossy : He.DefD := ⟨("is_lossy", none), "is_lossy", "is_lossy", defArgs (top 23), defBody (top 23), defScope (top 23), [], []⟩
def d_is_ordered : He.DefD := ⟨("is_ordered", none), "is_ordered", "is_ordered", defArgs (top 24), defBody (top 24), defScope (top 24), [], []⟩
def d_open_messages_of : He.DefD := ⟨("open_messages_of", none), "open_messages_of", "open_messages_of", defArgs (top 25), defBody (top 25), defScope (top 25), [], []⟩
def d_possible : He.DefD := ⟨("possible", none), "possible", "possible", defArgs (top 26), defBody (top 26), defScope (top 26), [], []⟩
def d_law_lost_on : He.DefD := ⟨("_law_lost_on", none), "_law_lost_on", "_law_lost_on", defArgs (top 53), defBody (top 53), defScope (top 53), [], []⟩
def d_law : He.DefD := ⟨("law", none), "law", "law", defArgs (top 55), defBody (top 55), defScope (top 55), [], []⟩
def fn : List He.DefD := [d_law_pool, d_law_mixed, d_law_draw, d_law_names, d_law_picked, d_law_rule, d_law_net, d_frozen, d_rows, d_is_name, d_is_whole, d_is_process, d_is_below, d_is_channel, d_is_act, d_is_rule, d_Net_init, d_law_made, d_law_start, d_law_firsts, d_law_possible, d_law_done, d_law_run, d_law_told, d_law_world, d_law_cuts, d_law_hidden, d_can_take, d_still, d_law_still, d_law_by_losses, d_law_listed, d_law_same, d_ended, d_law_is_told, d_is_lossy, d_is_ordered, d_open_messages_of, d_possible, d_law_lost_on, d_law]
def fa : List He.Fa := [.free "list", .glo "_law_pool", .free "int", .glo "_law_mixed", .free "len", .glo "_law_draw", .free "range", .glo "_law_names", .glo "_law_picked", .glo "_law_rule", .free "tuple", .glo "_law_net", .free "isinstance", .glo "_frozen", .free "all", .glo "_rows", .free "str", .int "MOST_LETTERS" 6, .str "LETTERS" "abcdefghijklmnopqrstuvwxyz", .glo "is_name", .free "bool", .glo "is_whole", .int "MOST_STATES" 8, .glo "is_process", .glo "is_below", .glo "KINDS", .glo "is_channel", .int "TOKENS" 10, .glo "is_act", .glo "is_rule", .int "MOST_PROCESSES" 5, .free "enumerate", .int "MOST_CHANNELS" 8, .int "MOST_RULES" 40, .cls "Net", .noat "Net" "processes", .noat "Net" "channels", .noat "Net" "rules", .mkr "Net", .glo "Net", .glo "_law_made", .glo "_law_start", .glo "_law_firsts", .glo "_law_possible", .glo "_law_done", .glo "_law_run", .glo "_law_told", .glo "_law_world", .free "sum", .glo "_law_cuts", .glo "_law_hidden", .free "any", .glo "can_take", .glo "still", .glo "_law_still", .glo "_law_by_losses", .glo "_law_listed", .glo "_law_same", .glo "ended", .glo "_law_is_told", .glo "is_lossy", .glo "is_ordered", .glo "open_messages_of", .glo "possible", .glo "_law_lost_on", .glo "law"]
def ex (K : PySem.W.Frag) : Bool := He.tupB K "KINDS" ((["order", "loose", "order lossy", "loose lossy"] : List Str).map He.Dv.str) && true
structure Tx (K : PySem.W.Frag) (mg : Str → Option Value) : Prop where
  h : ∃ h : Heap, K.In h ∧ h.Ns mainGlobals mg
  c : SaysB fa fn ex K
section
variable {K : PySem.W.Frag} {mg : Str → Option Value}
theorem Tx.glo (T : Tx K mg) (x : Str) (i : Nat) (e : fa[i]? = some (.glo x)) : mg x = some (.ref (He.ga K x)) := let ⟨_, X, G⟩ := T.h; He.glo_ok X G (T.c.d.fact i e)
theorem Tx.free (T : Tx K mg) (x : Str) (i : Nat) (e : fa[i]? = some (.free x)) : mg x = none := let ⟨_, X, G⟩ := T.h; He.free_ok X G (T.c.d.fact i e)
theorem Tx.int_ (T : Tx K mg) (x : Str) (n : Int) (i : Nat) (e : fa[i]? = some (.int x n)) : ∃ t, mg x = some (.int n t) := let ⟨_, X, G⟩ := T.h; He.int_ok X G (T.c.d.fact i e)
theorem Tx.str_ (T : Tx K mg) (x z : Str) (i : Nat) (e : fa[i]? = some (.str x z)) : ∃ t, mg x = some (.str z t) := let ⟨_, X, G⟩ := T.h; He.str_ok X G (T.c.d.fact i e)
theorem Tx.cls (T : Tx K mg) (C : Str) (i : Nat) (e : fa[i]? = some (.cls C)) : Cls K (He.ga K C) := He.cls_ok (T.c.d.fact i e)
theorem Tx.noat (T : Tx K mg) (C f : Str) (i : Nat) (e : fa[i]? = some (.noat C f)) : NoAttr K (He.ga K C) f := He.noat_ok (T.c.d.fact i e)
theorem Tx.mkr (T : Tx K mg) (C : Str) (i : Nat) (e : fa[i]? = some (.mkr C)) : Mk K (He.ga K C) (He.ma K (He.ga K C) "__init__") := He.mkr_ok (T.c.d.fact i e)
theorem Tx.tup_KINDS (T : Tx K mg) : KTup K (He.ga K "KINDS") (((["order", "loose", "order lossy", "loose lossy"] : List Str)).map V.str) := ktup_of (He.ba T.c.more).1
end
theorem bb_all : bootBuiltins "all" = some (.builtin "all") := by decide +kernel
theorem bb_any : bootBuiltins "any" = some (.builtin "any") := by decide +kernel
theorem bb_bool : bootBuiltins "bool" = some (.type "bool") := by decide +kernel
theorem bb_int : bootBuiltins "int" = some (.type "int") := by decide +kernel
theorem bb_isinstance : bootBuiltins "isinstance" = some (.builtin "isinstance") := by decide +kernel
theorem bb_len : bootBuiltins "len" = some (.builtin "len") := by decide +kernel
theorem bb_list : bootBuiltins "list" = some (.type "list") := by decide +kernel
theorem bb_str : bootBuiltins "str" = some (.type "str") := by decide +kernel
theorem bb_sum : bootBuiltins "sum" = some (.builtin "sum") := by decide +kernel
theorem bb_tuple : bootBuiltins "tuple" = some (.type "tuple") := by decide +kernel
end K40

end

section
set_option Elab.async false
set_option linter.all false
set_option maxRecDepth 100000
set_option maxHeartbeats 4000000
namespace K40
open PySem PySem.Spec PyProof.Rows L2 DV
theorem sc_law_pool : FnScope ["_law_script"] ["_law_script"] (defScope (top 33)) := ⟨rfl, rfl, rfl, by decide +kernel, rfl, by decide +kernel, by decide +kernel⟩
theorem ok_law_pool {P : Program} {w : World} {K : PySem.W.Frag} {mg : Str → Option Value} {base : Heap} (T : Tx K mg) : Cal P w K mg base "_law_pool" 1 ["_law_script"] F_law_pool := by
  obtain ⟨fd, Fd⟩ := T.c.d.def_ 0 (d := d_law_pool) rfl
  refine ⟨_, fd, fn_ok (k := 0) (N := ["_law_script"]) (m := B_law_pool) Fd sc_law_pool (fun cdv A outer s H E hr => ?_), T.glo "_law_pool" 1 rfl, Fd.kp, FunD.bindsN Fd fun _ _ _ _ _ _ us hl => match us, hl with | [_], _ => rfl⟩
  exact jss_one (js_ret (je_new (jf_lst (ja_cons (je_val (jf_ct c_list (by rfl) (T.free "list" 0 rfl) bb_list (ja_cons (je_var (pv 0)) (ja_nil)))) (ja_cons (je_int) (ja_cons (je_int) (ja_cons (je_int) (ja_cons (je_int) (ja_cons (je_non) (ja_nil))))))))))
theorem sc_law_mixed : FnScope ["_law_a", "_law_b", "_law_one", "_law_two"] ["_law_a", "_law_b"] (defScope (top 32)) := ⟨rfl, rfl, rfl, by decide +kernel, rfl, by decide +kernel, by decide +kernel⟩
theorem ok_law_mixed {P : Program} {w : World} {K : PySem.W.Frag} {mg : Str → Option Value} {base : Heap} (T : Tx K mg) : Cal P w K mg base "_law_mixed" 1 ["_law_a", "_law_b"] F_law_mixed := by
  obtain ⟨fd, Fd⟩ := T.c.d.def_ 1 (d := d_law_mixed) rfl
  refine ⟨_, fd, fn_ok (k := 0) (N := ["_law_a", "_law_b", "_law_one", "_law_two"]) (m := B_law_mixed) Fd sc_law_mixed (fun cdv A outer s H E hr => ?_), T.glo "_law_mixed" 3 rfl, Fd.kp, FunD.bindsN Fd fun _ _ _ _ _ _ us hl => match us, hl with | [_, _], _ => rfl⟩
  exact jss_cons (js_set (fun he => ps_set (i := 2) sc_law_mixed.nd rfl (Or.inl rfl) he) (je_bin o_mod (je_bin o_add (je_bin o_add (je_bin o_mul (je_bin o_mod (je_ct c_int (by rfl) (T.free "int" 2 rfl) bb_int (ja_cons (je_var (pv 0)) (ja_nil))) (je_int)) (je_int)) (je_bin o_mul (je_bin o_mod (je_ct c_int (by rfl) (T.free "int" 2 rfl) bb_int (ja_cons (je_var (pv 1)) (ja_nil))) (je_int)) (je_int))) (je_int)) (je_int)))
      (jss_cons (js_set (fun he => ps_set (i := 3) sc_law_mixed.nd rfl (Or.inl rfl) he) (je_bin o_mod (je_bin o_add (je_bin o_add (je_bin o_add (je_bin o_mul (je_var (pv 2)) (je_var (pv 2))) (je_bin o_mul (je_var (pv 2)) (je_int))) (je_bin o_mul (je_bin o_mod (je_ct c_int (by rfl) (T.free "int" 2 rfl) bb_int (ja_cons (je_var (pv 1)) (ja_nil))) (je_int)) (je_int))) (je_int)) (je_int)))
      (jss_one (js_ret (je_bin o_mod (je_bin o_add (je_bin o_mul (je_var (pv 3)) (je_int)) (je_bin o_div (je_var (pv 2)) (je_int))) (je_int)))))
theorem sc_law_draw : FnScope ["_law_pool_here", "_law_many", "_law_rest", "_law_cells", "_law_cell"] ["_law_pool_here", "_law_many"] (defScope (top 34)) := ⟨rfl, rfl, rfl, by decide +kernel, rfl, by decide +kernel, by decide +kernel⟩
theorem ok_law_draw {P : Program} {w : World} {K : PySem.W.Frag} {mg : Str → Option Value} {base : Heap} (T : Tx K mg) : Cal P w K mg base "_law_draw" 2 ["_law_pool_here", "_law_many"] F_law_draw := by
  obtain ⟨fd, Fd⟩ := T.c.d.def_ 2 (d := d_law_draw) rfl
  refine ⟨_, fd, fn_ok (k := 1) (N := ["_law_pool_here", "_law_many", "_law_rest", "_law_cells", "_law_cell"]) (m := B_law_draw) Fd sc_law_draw (fun cdv A outer s H E hr => ?_), T.glo "_law_draw" 5 rfl, Fd.kp, FunD.bindsN Fd fun _ _ _ _ _ _ us hl => match us, hl with | [_, _], _ => rfl⟩
  exact jss_cons (js_set (fun he => ps_set (i := 2) sc_law_draw.nd rfl (Or.inl rfl) he) (je_ix (je_var (pv 0)) (je_int)))
      (jss_cons (js_if (jt_w (jw_and (jt_cmp o_lt (je_var (pv 2)) (je_int) (nomark _)) (jw_and1 (jt_cmp o_lt (je_ix (je_var (pv 0)) (je_int)) (je_cb c_len (by rfl) (T.free "len" 4 rfl) bb_len (ja_cons (je_ix (je_var (pv 0)) (je_int)) (ja_nil))) (nomark _))))) (jss_cons (js_set (fun he => ps_set (i := 3) sc_law_draw.nd rfl (Or.inl rfl) he) (je_ix (je_var (pv 0)) (je_int)))
      (jss_cons (js_set (fun he => ps_set (i := 4) sc_law_draw.nd rfl (Or.inl rfl) he) (je_ix (je_var (pv 3)) (je_ix (je_var (pv 0)) (je_int))))
      (jss_cons (js_sub (je_bin o_add (je_ix (je_var (pv 0)) (je_int)) (je_int)) (je_var (pv 0)) (je_int))
      (jss_cons (js_if (jt_cmp o_ge (je_var (pv 4)) (je_bin o_pow (je_int) (je_int)) (nomark _)) (jss_cons (js_set (fun he => ps_set (i := 2) sc_law_draw.nd rfl (Or.inl rfl) he) (je_bin o_sub (je_var (pv 4)) (je_bin o_pow (je_int) (je_int))))
      (jss_cons (js_sub (je_bin o_div (je_var (pv 2)) (je_var (pv 1))) (je_var (pv 0)) (je_int))
      (jss_cons (js_sub (je_int) (je_var (pv 0)) (je_int))
      (jss_one (js_ret (je_bin o_mod (je_ct c_int (by rfl) (T.free "int" 2 rfl) bb_int (ja_cons (je_var (pv 2)) (ja_nil))) (je_var (pv 1)))))))) (jss_nil))
      (jss_one (js_sub (je_own (ps := ["_law_a", "_law_b"]) (ok_law_mixed T) hr (by decide) (by rfl) (ja_cons (je_bin o_add (je_ix (je_var (pv 0)) (je_int)) (je_var (pv 4))) (ja_cons (je_ix (je_var (pv 0)) (je_int)) (ja_nil)))) (je_var (pv 0)) (je_int))))))) (jss_one (js_if (jt_cmp o_lt (je_var (pv 2)) (je_int) (nomark _)) (jss_cons (js_sub (je_bin o_add (je_ix (je_var (pv 0)) (je_int)) (je_int)) (je_var (pv 0)) (je_int))
      (jss_one (js_sub (je_own (ps := ["_law_a", "_law_b"]) (ok_law_mixed T) hr (by decide) (by rfl) (ja_cons (je_ix (je_var (pv 0)) (je_int)) (ja_cons (je_bin o_add (je_int) (je_ix (je_var (pv 0)) (je_int))) (ja_nil)))) (je_var (pv 0)) (je_int)))) (jss_cons (js_sub (je_bin o_sub (je_ix (je_var (pv 0)) (je_int)) (je_int)) (je_var (pv 0)) (je_int))
      (jss_cons (js_sub (je_bin o_mul (je_bin o_div (je_var (pv 2)) (je_var (pv 1))) (je_ct c_int (by rfl) (T.free "int" 2 rfl) bb_int (ja_cons (je_cmp o_gt (je_ix (je_var (pv 0)) (je_int)) (je_int) (nomark _)) (ja_nil)))) (je_var (pv 0)) (je_int))
      (jss_one (js_ret (je_bin o_mod (je_ct c_int (by rfl) (T.free "int" 2 rfl) bb_int (ja_cons (je_var (pv 2)) (ja_nil))) (je_var (pv 1))))))))))
      (jss_cons (js_sub (je_int) (je_var (pv 0)) (je_int))
      (jss_one (js_ret (je_bin o_mod (je_ct c_int (by rfl) (T.free "int" 2 rfl) bb_int (ja_cons (je_ix (je_var (pv 0)) (je_int)) (ja_nil))) (je_var (pv 1)))))))
theorem sc_law_names : FnScope ["_law_pool_here", "_law_many", "_law_letters", "_law_words", "_law_names_here", "_law_k", "_law_word", "_law_other", "_law_j"] ["_law_pool_here", "_law_many"] (defScope (top 37)) := ⟨rfl, rfl, rfl, by decide +kernel, rfl, by decide +kernel, by decide +kernel⟩
theorem ok_law_names {P : Program} {w : World} {K : PySem.W.Frag} {mg : Str → Option Value} {base : Heap} (T : Tx K mg) : Cal P w K mg base "_law_names" 3 ["_law_pool_here", "_law_many"] F_law_names := by
  obtain ⟨fd, Fd⟩ := T.c.d.def_ 3 (d := d_law_names) rfl
  refine ⟨_, fd, fn_ok (k := 2) (N := ["_law_pool_here", "_law_many", "_law_letters", "_law_words", "_law_names_here", "_law_k", "_law_word", "_law_other", "_law_j"]) (m := B_law_names) Fd sc_law_names (fun cdv A outer s H E hr => ?_), T.glo "_law_names" 7 rfl, Fd.kp, FunD.bindsN Fd fun _ _ _ _ _ _ us hl => match us, hl with | [_, _], _ => rfl⟩
  exact jss_cons (js_set (fun he => ps_set (i := 2) sc_law_names.nd rfl (Or.inr rfl) he) (je_str))
      (jss_cons (js_set (fun he => ps_set (i := 3) sc_law_names.nd rfl (Or.inl rfl) he) (je_new (jf_lst (ja_cons (je_str) (ja_cons (je_str) (ja_cons (je_str) (ja_cons (je_str) (ja_cons (je_str) (ja_cons (je_str) (ja_cons (je_str) (ja_cons (je_str) (ja_nil))))))))))))
      (jss_cons (js_set (fun he => ps_set (i := 4) sc_law_names.nd rfl (Or.inr rfl) he) (je_new (jf_lst (ja_nil))))
      (jss_cons (js_for (vs := [5]) PassesOwn.never rfl (ji_rng1 (by rfl) (T.free "range" 6 rfl) (ja_cons (je_var (pv 1)) (ja_nil))) (jg_name (pg_name sc_law_names.nd rfl (by first | exact Or.inl rfl | exact Or.inr rfl))) (jss_cons (js_set (fun he => ps_set (i := 6) sc_law_names.nd rfl (Or.inl rfl) he) (je_m PySem.F.plainAttrs_list PySem.F.slot_list_pop PySem.F.type_list_pop m_popAt (je_var (pv 3)) (ja_cons (je_own (ps := ["_law_pool_here", "_law_many"]) (ok_law_draw T) hr (by decide) (by rfl) (ja_cons (je_var (pv 0)) (ja_cons (je_cb c_len (by rfl) (T.free "len" 4 rfl) bb_len (ja_cons (je_var (pv 3)) (ja_nil))) (ja_nil)))) (ja_nil))))
      (jss_cons (js_if (jt_cmp (o_eq hr.units) (je_own (ps := ["_law_pool_here", "_law_many"]) (ok_law_draw T) hr (by decide) (by rfl) (ja_cons (je_var (pv 0)) (ja_cons (je_int) (ja_nil)))) (je_int) (nomark _)) (jss_one (js_set (fun he => ps_set (i := 6) sc_law_names.nd rfl (Or.inl rfl) he) (je_bin o_add (je_ix (je_var (pv 2)) (je_var (pv 5))) (je_m PySem.F.plainAttrs_str PySem.F.slot_str_join PySem.F.type_str_join m_join (je_str) (ja_cons (je_val (jf_comp (own := [("_law_j", 8)]) rfl sc_law_names.nd (ji_rng1 (by rfl) (T.free "range" 6 rfl) (ja_cons (je_own (ps := ["_law_pool_here", "_law_many"]) (ok_law_draw T) hr (by decide) (by rfl) (ja_cons (je_var (pv 0)) (ja_cons (je_int) (ja_nil)))) (ja_nil))) (blkOk_by (N := ["_law_pool_here", "_law_many", "_law_letters", "_law_words", "_law_names_here", "_law_k", "_law_word", "_law_other", "_law_j"]) (sc := defScope (top 37)) (by decide +kernel)) rfl (fun _ _ _ _ _ => jg_name (pg_name sc_law_names.nd rfl (by first | exact Or.inl rfl | exact Or.inr rfl))) (fun _ _ _ _ _ => jts_nil) (fun _ _ _ _ _ => je_ix (je_var (pv 2)) (je_own (ps := ["_law_pool_here", "_law_many"]) (ok_law_draw T) hr (by decide) (by rfl) (ja_cons (je_var (pv 0)) (ja_cons (je_int) (ja_nil))))))) (ja_nil)))))) (jss_nil))
      (jss_cons (js_if (jt_cmp (o_in (Room.units65 hr)) (je_var (pv 6)) (je_var (pv 4)) (by with_unfolding_all rfl)) (jss_one (js_set (fun he => ps_set (i := 6) sc_law_names.nd rfl (Or.inl rfl) he) (je_ix (je_val (jf_comp (own := [("_law_other", 7)]) rfl sc_law_names.nd (ji_it (je_val (jf_lst (ja_cons (je_str) (ja_cons (je_str) (ja_cons (je_str) (ja_cons (je_str) (ja_cons (je_str) (ja_nil))))))))) (blkOk_by (N := ["_law_pool_here", "_law_many", "_law_letters", "_law_words", "_law_names_here", "_law_k", "_law_word", "_law_other", "_law_j"]) (sc := defScope (top 37)) (by decide +kernel)) rfl (fun _ _ _ _ _ => jg_name (pg_name sc_law_names.nd rfl (by first | exact Or.inl rfl | exact Or.inr rfl))) (fun _ _ _ _ _ => jts_one (jt_cmp (o_notin (Room.units65 hr)) (je_var (pv 7)) (je_var (pv 4)) (by with_unfolding_all rfl))) (fun _ _ _ _ _ => je_var (pv 7)))) (je_int)))) (jss_nil))
      (jss_one (js_expr (je_m PySem.F.plainAttrs_list PySem.F.slot_list_append PySem.F.type_list_append m_app (je_var (pv 4)) (ja_cons (je_var (pv 6)) (ja_nil)))))))))
      (jss_one (js_ret (je_var (pv 4)))))))
theorem sc_law_picked : FnScope ["_law_pool_here", "_law_row"] ["_law_pool_here", "_law_row"] (defScope (top 35)) := ⟨rfl, rfl, rfl, by decide +kernel, rfl, by decide +kernel, by decide +kernel⟩
theorem ok_law_picked {P : Program} {w : World} {K : PySem.W.Frag} {mg : Str → Option Value} {base : Heap} (T : Tx K mg) : Cal P w K mg base "_law_picked" 3 ["_law_pool_here", "_law_row"] F_law_picked := by
  obtain ⟨fd, Fd⟩ := T.c.d.def_ 4 (d := d_law_picked) rfl
  refine ⟨_, fd, fn_ok (k := 2) (N := ["_law_pool_here", "_law_row"]) (m := B_law_picked) Fd sc_law_picked (fun cdv A outer s H E hr => ?_), T.glo "_law_picked" 8 rfl, Fd.kp, FunD.bindsN Fd fun _ _ _ _ _ _ us hl => match us, hl with | [_, _], _ => rfl⟩
  exact jss_one (js_ret (je_ix (je_var (pv 1)) (je_own (ps := ["_law_pool_here", "_law_many"]) (ok_law_draw T) hr (by decide) (by rfl) (ja_cons (je_var (pv 0)) (ja_cons (je_cb c_len (by rfl) (T.free "len" 4 rfl) bb_len (ja_cons (je_var (pv 1)) (ja_nil))) (ja_nil))))))
theorem sc_law_rule : FnScope ["_law_pool_here", "_law_processes", "_law_channels", "_law_p", "_law_s", "_law_then", "_law_given", "_law_taken", "_law_kind", "_law_token", "_law_c"] ["_law_pool_here", "_law_processes", "_law_channels", "_law_p", "_law_s"] (defScope (top 38)) := ⟨rfl, rfl, rfl, by decide +kernel, rfl, by decide +kernel, by decide +kernel⟩
theorem ok_law_rule {P : Program} {w : World} {K : PySem.W.Frag} {mg : Str → Option Value} {base : Heap} (T : Tx K mg) : Cal P w K mg base "_law_rule" 4 ["_law_pool_here", "_law_processes", "_law_channels", "_law_p", "_law_s"] F_law_rule := by
  obtain ⟨fd, Fd⟩ := T.c.d.def_ 5 (d := d_law_rule) rfl
  refine ⟨_, fd, fn_ok (k := 3) (N := ["_law_pool_here", "_law_processes", "_law_channels", "_law_p", "_law_s", "_law_then", "_law_given", "_law_taken", "_law_kind", "_law_token", "_law_c"]) (m := B_law_rule) Fd sc_law_rule (fun cdv A outer s H E hr => ?_), T.glo "_law_rule" 9 rfl, Fd.kp, FunD.bindsN Fd fun _ _ _ _ _ _ us hl => match us, hl with | [_, _, _, _, _], _ => rfl⟩
  exact jss_cons (js_set (fun he => ps_set (i := 5) sc_law_rule.nd rfl (Or.inl rfl) he) (je_own (ps := ["_law_pool_here", "_law_many"]) (ok_law_draw T) hr (by decide) (by rfl) (ja_cons (je_var (pv 0)) (ja_cons (je_ix (je_ix (je_var (pv 1)) (je_var (pv 3))) (je_int)) (ja_nil)))))
      (jss_cons (js_asgF (js_setLc (i := 6) (own := [("_law_c", 10)]) rfl sc_law_rule.nd rfl rfl (sw_true rfl rfl rfl (by decide +kernel)) (ji_rng1 (by rfl) (T.free "range" 6 rfl) (ja_cons (je_cb c_len (by rfl) (T.free "len" 4 rfl) bb_len (ja_cons (je_var (pv 2)) (ja_nil))) (ja_nil))) (blkOk_by (N := ["_law_pool_here", "_law_processes", "_law_channels", "_law_p", "_law_s", "_law_then", "_law_given", "_law_taken", "_law_kind", "_law_token", "_law_c"]) (sc := defScope (top 38)) (by decide +kernel)) rfl (fun _ _ _ _ _ => jg_name (pg_name sc_law_rule.nd rfl (by first | exact Or.inl rfl | exact Or.inr rfl))) (fun _ _ _ _ _ => jts_one (jt_cmp (o_eq hr.units) (je_ix (je_ix (je_var (pv 2)) (je_var (pv 10))) (je_int)) (je_var (pv 3)) (nomark _))) (fun _ _ _ _ _ => je_var (pv 10))))
      (jss_cons (js_asgF (js_setLc (i := 7) (own := [("_law_c", 10)]) rfl sc_law_rule.nd rfl rfl (sw_true rfl rfl rfl (by decide +kernel)) (ji_rng1 (by rfl) (T.free "range" 6 rfl) (ja_cons (je_cb c_len (by rfl) (T.free "len" 4 rfl) bb_len (ja_cons (je_var (pv 2)) (ja_nil))) (ja_nil))) (blkOk_by (N := ["_law_pool_here", "_law_processes", "_law_channels", "_law_p", "_law_s", "_law_then", "_law_given", "_law_taken", "_law_kind", "_law_token", "_law_c"]) (sc := defScope (top 38)) (by decide +kernel)) rfl (fun _ _ _ _ _ => jg_name (pg_name sc_law_rule.nd rfl (by first | exact Or.inl rfl | exact Or.inr rfl))) (fun _ _ _ _ _ => jts_one (jt_cmp (o_eq hr.units) (je_ix (je_ix (je_var (pv 2)) (je_var (pv 10))) (je_int)) (je_var (pv 3)) (nomark _))) (fun _ _ _ _ _ => je_var (pv 10))))
      (jss_cons (js_set (fun he => ps_set (i := 8) sc_law_rule.nd rfl (Or.inl rfl) he) (je_own (ps := ["_law_pool_here", "_law_many"]) (ok_law_draw T) hr (by decide) (by rfl) (ja_cons (je_var (pv 0)) (ja_cons (je_int) (ja_nil)))))
      (jss_cons (js_set (fun he => ps_set (i := 9) sc_law_rule.nd rfl (Or.inl rfl) he) (je_ix (je_val (jf_lst (ja_cons (je_int) (ja_cons (je_int) (ja_cons (je_int) (ja_cons (je_int) (ja_nil))))))) (je_own (ps := ["_law_pool_here", "_law_many"]) (ok_law_draw T) hr (by decide) (by rfl) (ja_cons (je_var (pv 0)) (ja_cons (je_int) (ja_nil))))))
      (jss_cons (js_if (jt_w (jw_and (jt_cmp o_lt (je_var (pv 8)) (je_int) (nomark _)) (jw_and1 (jt_cmp o_gt (je_cb c_len (by rfl) (T.free "len" 4 rfl) bb_len (ja_cons (je_var (pv 6)) (ja_nil))) (je_int) (nomark _))))) (jss_one (js_ret (je_tup (ja_cons (je_var (pv 3)) (ja_cons (je_var (pv 4)) (ja_cons (je_tup (ja_cons (je_str) (ja_cons (je_own (ps := ["_law_pool_here", "_law_row"]) (ok_law_picked T) hr (by decide) (by rfl) (ja_cons (je_var (pv 0)) (ja_cons (je_var (pv 6)) (ja_nil)))) (ja_cons (je_var (pv 9)) (ja_nil))))) (ja_cons (je_var (pv 5)) (ja_nil)))))))) (jss_nil))
      (jss_cons (js_if (jt_w (jw_and (jt_cmp o_lt (je_var (pv 8)) (je_int) (nomark _)) (jw_and1 (jt_cmp o_gt (je_cb c_len (by rfl) (T.free "len" 4 rfl) bb_len (ja_cons (je_var (pv 7)) (ja_nil))) (je_int) (nomark _))))) (jss_one (js_ret (je_tup (ja_cons (je_var (pv 3)) (ja_cons (je_var (pv 4)) (ja_cons (je_tup (ja_cons (je_str) (ja_cons (je_own (ps := ["_law_pool_here", "_law_row"]) (ok_law_picked T) hr (by decide) (by rfl) (ja_cons (je_var (pv 0)) (ja_cons (je_var (pv 7)) (ja_nil)))) (ja_cons (je_var (pv 9)) (ja_nil))))) (ja_cons (je_var (pv 5)) (ja_nil)))))))) (jss_nil))
      (jss_one (js_ret (je_tup (ja_cons (je_var (pv 3)) (ja_cons (je_var (pv 4)) (ja_cons (je_tup (ja_cons (je_str) (ja_nil))) (ja_cons (je_var (pv 5)) (ja_nil))))))))))))))
theorem sc_law_net : FnScope ["_law_pool_here", "_law_most", "_law_many", "_law_processes", "_law_channels", "_law_kinds", "_law_name", "_law_rules", "_law_p", "_law_k", "_law_giver", "_law_taker", "_law_s"] ["_law_pool_here", "_law_most"] (defScope (top 39)) := ⟨rfl, rfl, rfl, by decide +kernel, rfl, by decide +kernel, by decide +kernel⟩
theorem ok_law_net {P : Program} {w : World} {K : PySem.W.Frag} {mg : Str → Option Value} {base : Heap} (T : Tx K mg) : Cal P w K mg base "_law_net" 5 ["_law_pool_here", "_law_most"] F_law_net := by
  obtain ⟨fd, Fd⟩ := T.c.d.def_ 6 (d := d_law_net) rfl
  refine ⟨_, fd, fn_ok (k := 4) (N := ["_law_pool_here", "_law_most", "_law_many", "_law_processes", "_law_channels", "_law_kinds", "_law_name", "_law_rules", "_law_p", "_law_k", "_law_giver", "_law_taker", "_law_s"]) (m := B_law_net) Fd sc_law_net (fun cdv A outer s H E hr => ?_), T.glo "_law_net" 11 rfl, Fd.kp, FunD.bindsN Fd fun _ _ _ _ _ _ us hl => match us, hl with | [_, _], _ => rfl⟩
  exact jss_cons (js_set (fun he => ps_set (i := 2) sc_law_net.nd rfl (Or.inl rfl) he) (je_ix (je_val (jf_lst (ja_cons (je_int) (ja_cons (je_int) (ja_cons (je_int) (ja_cons (je_int) (ja_cons (je_int) (ja_cons (je_int) (ja_nil))))))))) (je_own (ps := ["_law_pool_here", "_law_many"]) (ok_law_draw T) hr (by decide) (by rfl) (ja_cons (je_var (pv 0)) (ja_cons (je_int) (ja_nil))))))
      (jss_cons (js_set (fun he => ps_set (i := 3) sc_law_net.nd rfl (Or.inl rfl) he) (je_ct c_tuple (by rfl) (T.free "tuple" 10 rfl) bb_tuple (ja_cons (je_val (jf_comp (own := [("_law_name", 6)]) rfl sc_law_net.nd (ji_it (je_own (ps := ["_law_pool_here", "_law_many"]) (ok_law_names T) hr (by decide) (by rfl) (ja_cons (je_var (pv 0)) (ja_cons (je_var (pv 2)) (ja_nil))))) (blkOk_by (N := ["_law_pool_here", "_law_most", "_law_many", "_law_processes", "_law_channels", "_law_kinds", "_law_name", "_law_rules", "_law_p", "_law_k", "_law_giver", "_law_taker", "_law_s"]) (sc := defScope (top 39)) (by decide +kernel)) rfl (fun _ _ _ _ _ => jg_name (pg_name sc_law_net.nd rfl (by first | exact Or.inl rfl | exact Or.inr rfl))) (fun _ _ _ _ _ => jts_nil) (fun _ _ _ _ _ => je_tup (ja_cons (je_var (pv 6)) (ja_cons (je_bin o_add (je_int) (je_own (ps := ["_law_pool_here", "_law_many"]) (ok_law_draw T) hr (by decide) (by rfl) (ja_cons (je_var (pv 0)) (ja_cons (je_var (pv 1)) (ja_nil))))) (ja_nil)))))) (ja_nil))))
      (jss_cons (js_set (fun he => ps_set (i := 4) sc_law_net.nd rfl (Or.inl rfl) he) (je_new (jf_lst (ja_nil))))
      (jss_cons (js_set (fun he => ps_set (i := 5) sc_law_net.nd rfl (Or.inl rfl) he) (je_val (jf_lst (ja_cons (je_str) (ja_cons (je_str) (ja_cons (je_str) (ja_cons (je_str) (ja_nil))))))))
      (jss_cons (js_for (vs := [6]) PassesOwn.never rfl (ji_it (je_own (ps := ["_law_pool_here", "_law_many"]) (ok_law_names T) hr (by decide) (by rfl) (ja_cons (je_var (pv 0)) (ja_cons (je_bin o_mul (je_ix (je_val (jf_lst (ja_cons (je_int) (ja_cons (je_int) (ja_cons (je_int) (ja_cons (je_int) (ja_cons (je_int) (ja_cons (je_int) (ja_nil))))))))) (je_own (ps := ["_law_pool_here", "_law_many"]) (ok_law_draw T) hr (by decide) (by rfl) (ja_cons (je_var (pv 0)) (ja_cons (je_int) (ja_nil))))) (je_ct c_int (by rfl) (T.free "int" 2 rfl) bb_int (ja_cons (je_cmp o_gt (je_var (pv 2)) (je_int) (nomark _)) (ja_nil)))) (ja_nil))))) (jg_name (pg_name sc_law_net.nd rfl (by first | exact Or.inl rfl | exact Or.inr rfl))) (jss_cons (js_set (fun he => ps_set (i := 10) sc_law_net.nd rfl (Or.inl rfl) he) (je_own (ps := ["_law_pool_here", "_law_many"]) (ok_law_draw T) hr (by decide) (by rfl) (ja_cons (je_var (pv 0)) (ja_cons (je_var (pv 2)) (ja_nil)))))
      (jss_cons (js_set (fun he => ps_set (i := 11) sc_law_net.nd rfl (Or.inl rfl) he) (je_bin o_mod (je_ct c_int (by rfl) (T.free "int" 2 rfl) bb_int (ja_cons (je_bin o_add (je_bin o_add (je_var (pv 10)) (je_int)) (je_own (ps := ["_law_pool_here", "_law_many"]) (ok_law_draw T) hr (by decide) (by rfl) (ja_cons (je_var (pv 0)) (ja_cons (je_bin o_sub (je_var (pv 2)) (je_int)) (ja_nil))))) (ja_nil))) (je_var (pv 2))))
      (jss_one (js_expr (je_m PySem.F.plainAttrs_list PySem.F.slot_list_append PySem.F.type_list_append m_app (je_var (pv 4)) (ja_cons (je_tup (ja_cons (je_var (pv 6)) (ja_cons (je_var (pv 10)) (ja_cons (je_var (pv 11)) (ja_cons (je_own (ps := ["_law_pool_here", "_law_row"]) (ok_law_picked T) hr (by decide) (by rfl) (ja_cons (je_var (pv 0)) (ja_cons (je_var (pv 5)) (ja_nil)))) (ja_nil)))))) (ja_nil))))))))
      (jss_cons (js_set (fun he => ps_set (i := 7) sc_law_net.nd rfl (Or.inl rfl) he) (je_new (jf_lst (ja_nil))))
      (jss_cons (js_for (vs := [8]) PassesOwn.never rfl (ji_rng1 (by rfl) (T.free "range" 6 rfl) (ja_cons (je_var (pv 2)) (ja_nil))) (jg_name (pg_name sc_law_net.nd rfl (by first | exact Or.inl rfl | exact Or.inr rfl))) (jss_one (js_for (vs := [12]) PassesOwn.never rfl (ji_rng1 (by rfl) (T.free "range" 6 rfl) (ja_cons (je_ix (je_ix (je_var (pv 3)) (je_var (pv 8))) (je_int)) (ja_nil))) (jg_name (pg_name sc_law_net.nd rfl (by first | exact Or.inl rfl | exact Or.inr rfl))) (jss_one (js_if (jt_cmp o_gt (je_own (ps := ["_law_pool_here", "_law_many"]) (ok_law_draw T) hr (by decide) (by rfl) (ja_cons (je_var (pv 0)) (ja_cons (je_int) (ja_nil)))) (je_int) (nomark _)) (jss_one (js_expr (je_m PySem.F.plainAttrs_list PySem.F.slot_list_append PySem.F.type_list_append m_app (je_var (pv 7)) (ja_cons (je_own (ps := ["_law_pool_here", "_law_processes", "_law_channels", "_law_p", "_law_s"]) (ok_law_rule T) hr (by decide) (by rfl) (ja_cons (je_var (pv 0)) (ja_cons (je_var (pv 3)) (ja_cons (je_var (pv 4)) (ja_cons (je_var (pv 8)) (ja_cons (je_var (pv 12)) (ja_nil))))))) (ja_nil))))) (jss_nil))))))
      (jss_cons (js_for (vs := [9]) PassesOwn.never rfl (ji_rng1 (by rfl) (T.free "range" 6 rfl) (ja_cons (je_own (ps := ["_law_pool_here", "_law_many"]) (ok_law_draw T) hr (by decide) (by rfl) (ja_cons (je_var (pv 0)) (ja_cons (je_int) (ja_nil)))) (ja_nil))) (jg_name (pg_name sc_law_net.nd rfl (by first | exact Or.inl rfl | exact Or.inr rfl))) (jss_cons (js_set (fun he => ps_set (i := 8) sc_law_net.nd rfl (Or.inl rfl) he) (je_own (ps := ["_law_pool_here", "_law_many"]) (ok_law_draw T) hr (by decide) (by rfl) (ja_cons (je_var (pv 0)) (ja_cons (je_var (pv 2)) (ja_nil)))))
      (jss_one (js_expr (je_m PySem.F.plainAttrs_list PySem.F.slot_list_append PySem.F.type_list_append m_app (je_var (pv 7)) (ja_cons (je_own (ps := ["_law_pool_here", "_law_processes", "_law_channels", "_law_p", "_law_s"]) (ok_law_rule T) hr (by decide) (by rfl) (ja_cons (je_var (pv 0)) (ja_cons (je_var (pv 3)) (ja_cons (je_var (pv 4)) (ja_cons (je_var (pv 8)) (ja_cons (je_own (ps := ["_law_pool_here", "_law_many"]) (ok_law_draw T) hr (by decide) (by rfl) (ja_cons (je_var (pv 0)) (ja_cons (je_ix (je_ix (je_var (pv 3)) (je_var (pv 8))) (je_int)) (ja_nil)))) (ja_nil))))))) (ja_nil)))))))
      (jss_one (js_ret (je_tup (ja_cons (je_var (pv 3)) (ja_cons (je_ct c_tuple (by rfl) (T.free "tuple" 10 rfl) bb_tuple (ja_cons (je_var (pv 4)) (ja_nil))) (ja_cons (je_ct c_tuple (by rfl) (T.free "tuple" 10 rfl) bb_tuple (ja_cons (je_var (pv 7)) (ja_nil))) (ja_nil))))))))))))))
theorem sc_frozen : FnScope ["value", "depth", "part"] ["value", "depth"] (defScope (top 19)) := ⟨rfl, rfl, rfl, by decide +kernel, rfl, by decide +kernel, by decide +kernel⟩
theorem ok_frozen {P : Program} {w : World} {K : PySem.W.Frag} {mg : Str → Option Value} {base : Heap} (T : Tx K mg) : ∀ n : Nat, Cal P w K mg base "_frozen" (1 + n) ["value", "depth"] (F_frozen n) := by
  obtain ⟨fd, Fd⟩ := T.c.d.def_ 7 (d := d_frozen) rfl
  intro n
  induction n with
  | zero => exact ⟨_, fd, fn_ok_none, T.glo "_frozen" 13 rfl, Fd.kp, FunD.bindsN Fd fun _ _ _ _ _ _ us hl => match us, hl with | [_, _], _ => rfl⟩
  | succ n ih =>
    refine ⟨_, fd, fn_ok (k := 1 + n) (N := ["value", "depth", "part"]) (m := B_frozen (F_frozen n)) Fd sc_frozen (fun cdv A outer s H E hr => ?_), T.glo "_frozen" 13 rfl, Fd.kp, FunD.bindsN Fd fun _ _ _ _ _ _ us hl => match us, hl with | [_, _], _ => rfl⟩
    exact jss_cons (js_if (jt_w (jw_and (jt_cmp o_gt (je_var (pv 1)) (je_int) (nomark _)) (jw_and1 (jt_val (je_isi2 (je_var (pv 0)) (by rfl) (T.free "isinstance" 12 rfl) (by rfl) (T.free "list" 0 rfl) bb_list (by rfl) (T.free "tuple" 10 rfl) bb_tuple))))) (jss_one (js_ret (je_ct c_tuple (by rfl) (T.free "tuple" 10 rfl) bb_tuple (ja_cons (je_val (jf_comp (own := [("part", 2)]) rfl sc_frozen.nd (ji_it (je_var (pv 0))) (blkOk_by (N := ["value", "depth", "part"]) (sc := defScope (top 19)) (by decide +kernel)) rfl (fun _ _ _ _ _ => jg_name (pg_name sc_frozen.nd rfl (by first | exact Or.inl rfl | exact Or.inr rfl))) (fun _ _ _ _ _ => jts_nil) (fun _ _ _ _ _ => je_own (ps := ["value", "depth"]) ih hr (Nat.le_refl _) (by rfl) (ja_cons (je_var (pv 2)) (ja_cons (je_bin o_sub (je_var (pv 1)) (je_int)) (ja_nil)))))) (ja_nil))))) (jss_nil))
      (jss_one (js_ret (je_var (pv 0))))
theorem sc_rows : FnScope ["value", "least", "most", "rows", "row"] ["value", "least", "most"] (defScope (top 20)) := ⟨rfl, rfl, rfl, by decide +kernel, rfl, by decide +kernel, by decide +kernel⟩
theorem ok_rows {P : Program} {w : World} {K : PySem.W.Frag} {mg : Str → Option Value} {base : Heap} (T : Tx K mg) : Cal P w K mg base "_rows" 7 ["value", "least", "most"] F_rows := by
  obtain ⟨fd, Fd⟩ := T.c.d.def_ 8 (d := d_rows) rfl
  refine ⟨_, fd, fn_ok (k := 6) (N := ["value", "least", "most", "rows", "row"]) (m := B_rows) Fd sc_rows (fun cdv A outer s H E hr => ?_), T.glo "_rows" 15 rfl, Fd.kp, FunD.bindsN Fd fun _ _ _ _ _ _ us hl => match us, hl with | [_, _, _], _ => rfl⟩
  exact jss_cons (js_set (fun he => ps_set (i := 3) sc_rows.nd rfl (Or.inl rfl) he) (je_own (ps := ["value", "depth"]) (ok_frozen T 5) hr (by decide) (by rfl) (ja_cons (je_var (pv 0)) (ja_cons (je_int) (ja_nil)))))
      (jss_cons (js_if (jt_w (jw_or (jt_not (jt_val (je_isi (je_var (pv 3)) (by rfl) (T.free "isinstance" 12 rfl) (by rfl) (T.free "tuple" 10 rfl) bb_tuple))) (jw_or1 (jt_not (jt_chain o_le o_le (je_var (pv 1)) (je_cb c_len (by rfl) (T.free "len" 4 rfl) bb_len (ja_cons (je_var (pv 3)) (ja_nil))) (je_var (pv 2))))))) (jss_one (js_ret (je_non))) (jss_nil))
      (jss_one (js_ret (je_if (jt_val (je_cb (c_all rfl) (by rfl) (T.free "all" 14 rfl) bb_all (ja_cons (je_val (jf_comp (own := [("row", 4)]) rfl sc_rows.nd (ji_it (je_var (pv 3))) (blkOk_by (N := ["value", "least", "most", "rows", "row"]) (sc := defScope (top 20)) (by decide +kernel)) rfl (fun _ _ _ _ _ => jg_name (pg_name sc_rows.nd rfl (by first | exact Or.inl rfl | exact Or.inr rfl))) (fun _ _ _ _ _ => jts_nil) (fun _ _ _ _ _ => je_isi (je_var (pv 4)) (by rfl) (T.free "isinstance" 12 rfl) (by rfl) (T.free "tuple" 10 rfl) bb_tuple))) (ja_nil)))) (je_var (pv 3)) (je_non)))))
theorem sc_is_name : FnScope ["value", "sign"] ["value"] (defScope (top 14)) := ⟨rfl, rfl, rfl, by decide +kernel, rfl, by decide +kernel, by decide +kernel⟩
theorem ok_is_name {P : Program} {w : World} {K : PySem.W.Frag} {mg : Str → Option Value} {base : Heap} (T : Tx K mg) : Cal P w K mg base "is_name" 1 ["value"] F_is_name := by
  obtain ⟨fd, Fd⟩ := T.c.d.def_ 9 (d := d_is_name) rfl
  refine ⟨_, fd, fn_ok (k := 0) (N := ["value", "sign"]) (m := B_is_name) Fd sc_is_name (fun cdv A outer s H E hr => ?_), T.glo "is_name" 19 rfl, Fd.kp, FunD.bindsN Fd fun _ _ _ _ _ _ us hl => match us, hl with | [_], _ => rfl⟩
  exact jss_cons (js_if (jt_w (jw_or (jt_not (jt_val (je_isi (je_var (pv 0)) (by rfl) (T.free "isinstance" 12 rfl) (by rfl) (T.free "str" 16 rfl) bb_str))) (jw_or1 (jt_not (jt_chain o_le o_le (je_int) (je_cb c_len (by rfl) (T.free "len" 4 rfl) bb_len (ja_cons (je_var (pv 0)) (ja_nil))) (je_gint (by rfl) (T.int_ "MOST_LETTERS" 6 17 rfl))))))) (jss_one (js_ret (je_bl))) (jss_nil))
      (jss_one (js_ret (je_cb (c_all rfl) (by rfl) (T.free "all" 14 rfl) bb_all (ja_cons (je_val (jf_comp (own := [("sign", 1)]) rfl sc_is_name.nd (ji_it (je_var (pv 0))) (blkOk_by (N := ["value", "sign"]) (sc := defScope (top 14)) (by decide +kernel)) rfl (fun _ _ _ _ _ => jg_name (pg_name sc_is_name.nd rfl (by first | exact Or.inl rfl | exact Or.inr rfl))) (fun _ _ _ _ _ => jts_nil) (fun _ _ _ _ _ => je_cmp (o_in (Room.units65 hr)) (je_var (pv 1)) (je_gstr (by rfl) (T.str_ "LETTERS" "abcdefghijklmnopqrstuvwxyz" 18 rfl)) (by with_unfolding_all rfl)))) (ja_nil)))))
theorem sc_is_whole : FnScope ["value"] ["value"] (defScope (top 12)) := ⟨rfl, rfl, rfl, by decide +kernel, rfl, by decide +kernel, by decide +kernel⟩
theorem ok_is_whole {P : Program} {w : World} {K : PySem.W.Frag} {mg : Str → Option Value} {base : Heap} (T : Tx K mg) : Cal P w K mg base "is_whole" 1 ["value"] F_is_whole := by
  obtain ⟨fd, Fd⟩ := T.c.d.def_ 10 (d := d_is_whole) rfl
  refine ⟨_, fd, fn_ok (k := 0) (N := ["value"]) (m := B_is_whole) Fd sc_is_whole (fun cdv A outer s H E hr => ?_), T.glo "is_whole" 21 rfl, Fd.kp, FunD.bindsN Fd fun _ _ _ _ _ _ us hl => match us, hl with | [_], _ => rfl⟩
  exact jss_one (js_ret (je_and (je_isi (je_var (pv 0)) (by rfl) (T.free "isinstance" 12 rfl) (by rfl) (T.free "int" 2 rfl) bb_int) (je_one (je_not (je_isi (je_var (pv 0)) (by rfl) (T.free "isinstance" 12 rfl) (by rfl) (T.free "bool" 20 rfl) bb_bool)))))
theorem sc_is_process : FnScope ["value", "elder", "one"] ["value", "elder"] (defScope (top 15)) := ⟨rfl, rfl, rfl, by decide +kernel, rfl, by decide +kernel, by decide +kernel⟩
theorem ok_is_process {P : Program} {w : World} {K : PySem.W.Frag} {mg : Str → Option Value} {base : Heap} (T : Tx K mg) : Cal P w K mg base "is_process" 2 ["value", "elder"] F_is_process := by
  obtain ⟨fd, Fd⟩ := T.c.d.def_ 11 (d := d_is_process) rfl
  refine ⟨_, fd, fn_ok (k := 1) (N := ["value", "elder", "one"]) (m := B_is_process) Fd sc_is_process (fun cdv A outer s H E hr => ?_), T.glo "is_process" 23 rfl, Fd.kp, FunD.bindsN Fd fun _ _ _ _ _ _ us hl => match us, hl with | [_, _], _ => rfl⟩
  exact jss_cons (js_if (jt_w (jw_or (jt_cmp (o_ne hr.units) (je_cb c_len (by rfl) (T.free "len" 4 rfl) bb_len (ja_cons (je_var (pv 0)) (ja_nil))) (je_int) (nomark _)) (jw_or (jt_not (jt_val (je_own (ps := ["value"]) (ok_is_name T) hr (by decide) (by rfl) (ja_cons (je_ix (je_var (pv 0)) (je_int)) (ja_nil))))) (jw_or1 (jt_not (jt_val (je_own (ps := ["value"]) (ok_is_whole T) hr (by decide) (by rfl) (ja_cons (je_ix (je_var (pv 0)) (je_int)) (ja_nil))))))))) (jss_one (js_ret (je_bl))) (jss_nil))
      (jss_one (js_ret (je_and (je_chain o_le o_le (je_int) (je_ix (je_var (pv 0)) (je_int)) (je_gint (by rfl) (T.int_ "MOST_STATES" 8 22 rfl))) (je_one (je_cmp (o_notin (Room.units65 hr)) (je_slc (je_var (pv 0)) (jp_no) (jp_at (je_int))) (je_val (jf_comp (own := [("one", 2)]) rfl sc_is_process.nd (ji_it (je_var (pv 1))) (blkOk_by (N := ["value", "elder", "one"]) (sc := defScope (top 15)) (by decide +kernel)) rfl (fun _ _ _ _ _ => jg_name (pg_name sc_is_process.nd rfl (by first | exact Or.inl rfl | exact Or.inr rfl))) (fun _ _ _ _ _ => jts_nil) (fun _ _ _ _ _ => je_slc (je_var (pv 2)) (jp_no) (jp_at (je_int))))) (by with_unfolding_all rfl))))))
end K40

end

section
set_option Elab.async false
set_option linter.all false
set_option maxRecDepth 100000
set_option maxHeartbeats 4000000
namespace K40
open PySem PySem.Spec PyProof.Rows L2 DV
theorem sc_is_below : FnScope ["value", "top"] ["value", "top"] (defScope (top 13)) := ⟨rfl, rfl, rfl, by decide +kernel, rfl, by decide +kernel, by decide +kernel⟩
theorem ok_is_below {P : Program} {w : World} {K : PySem.W.Frag} {mg : Str → Option Value} {base : Heap} (T : Tx K mg) : Cal P w K mg base "is_below" 2 ["value", "top"] F_is_below := by
  obtain ⟨fd, Fd⟩ := T.c.d.def_ 12 (d := d_is_below) rfl
  refine ⟨_, fd, fn_ok (k := 1) (N := ["value", "top"]) (m := B_is_below) Fd sc_is_below (fun cdv A outer s H E hr => ?_), T.glo "is_below" 24 rfl, Fd.kp, FunD.bindsN Fd fun _ _ _ _ _ _ us hl => match us, hl with | [_, _], _ => rfl⟩
  exact jss_one (js_ret (je_and (je_own (ps := ["value"]) (ok_is_whole T) hr (by decide) (by rfl) (ja_cons (je_var (pv 0)) (ja_nil))) (je_one (je_chain o_le o_lt (je_int) (je_var (pv 0)) (je_var (pv 1))))))
theorem sc_is_channel : FnScope ["value", "processes", "elder", "one"] ["value", "processes", "elder"] (defScope (top 16)) := ⟨rfl, rfl, rfl, by decide +kernel, rfl, by decide +kernel, by decide +kernel⟩
theorem ok_is_channel {P : Program} {w : World} {K : PySem.W.Frag} {mg : Str → Option Value} {base : Heap} (T : Tx K mg) : Cal P w K mg base "is_channel" 3 ["value", "processes", "elder"] F_is_channel := by
  obtain ⟨fd, Fd⟩ := T.c.d.def_ 13 (d := d_is_channel) rfl
  refine ⟨_, fd, fn_ok (k := 2) (N := ["value", "processes", "elder", "one"]) (m := B_is_channel) Fd sc_is_channel (fun cdv A outer s H E hr => ?_), T.glo "is_channel" 26 rfl, Fd.kp, FunD.bindsN Fd fun _ _ _ _ _ _ us hl => match us, hl with | [_, _, _], _ => rfl⟩
  exact jss_cons (js_if (jt_w (jw_or (jt_cmp (o_ne hr.units) (je_cb c_len (by rfl) (T.free "len" 4 rfl) bb_len (ja_cons (je_var (pv 0)) (ja_nil))) (je_int) (nomark _)) (jw_or (jt_not (jt_val (je_own (ps := ["value"]) (ok_is_name T) hr (by decide) (by rfl) (ja_cons (je_ix (je_var (pv 0)) (je_int)) (ja_nil))))) (jw_or1 (jt_cmp (o_in (Room.units65 hr)) (je_slc (je_var (pv 0)) (jp_no) (jp_at (je_int))) (je_val (jf_comp (own := [("one", 3)]) rfl sc_is_channel.nd (ji_it (je_var (pv 2))) (blkOk_by (N := ["value", "processes", "elder", "one"]) (sc := defScope (top 16)) (by decide +kernel)) rfl (fun _ _ _ _ _ => jg_name (pg_name sc_is_channel.nd rfl (by first | exact Or.inl rfl | exact Or.inr rfl))) (fun _ _ _ _ _ => jts_nil) (fun _ _ _ _ _ => je_slc (je_var (pv 3)) (jp_no) (jp_at (je_int))))) (by with_unfolding_all rfl)))))) (jss_one (js_ret (je_bl))) (jss_nil))
      (jss_cons (js_if (jt_w (jw_or (jt_not (jt_val (je_own (ps := ["value", "top"]) (ok_is_below T) hr (by decide) (by rfl) (ja_cons (je_ix (je_var (pv 0)) (je_int)) (ja_cons (je_cb c_len (by rfl) (T.free "len" 4 rfl) bb_len (ja_cons (je_var (pv 1)) (ja_nil))) (ja_nil)))))) (jw_or (jt_not (jt_val (je_own (ps := ["value", "top"]) (ok_is_below T) hr (by decide) (by rfl) (ja_cons (je_ix (je_var (pv 0)) (je_int)) (ja_cons (je_cb c_len (by rfl) (T.free "len" 4 rfl) bb_len (ja_cons (je_var (pv 1)) (ja_nil))) (ja_nil)))))) (jw_or1 (jt_cmp (o_eq hr.units) (je_ix (je_var (pv 0)) (je_int)) (je_ix (je_var (pv 0)) (je_int)) (nomark _)))))) (jss_one (js_ret (je_bl))) (jss_nil))
      (jss_one (js_ret (je_and (je_isi (je_ix (je_var (pv 0)) (je_int)) (by rfl) (T.free "isinstance" 12 rfl) (by rfl) (T.free "str" 16 rfl) bb_str) (je_one (je_cmp (o_in (Room.units65 hr)) (je_ix (je_var (pv 0)) (je_int)) (je_gtup (by rfl) (T.glo "KINDS" 25 rfl) (T.tup_KINDS)) (by with_unfolding_all rfl)))))))
theorem sc_is_act : FnScope ["act", "process", "channels"] ["act", "process", "channels"] (defScope (top 17)) := ⟨rfl, rfl, rfl, by decide +kernel, rfl, by decide +kernel, by decide +kernel⟩
theorem ok_is_act {P : Program} {w : World} {K : PySem.W.Frag} {mg : Str → Option Value} {base : Heap} (T : Tx K mg) : Cal P w K mg base "is_act" 3 ["act", "process", "channels"] F_is_act := by
  obtain ⟨fd, Fd⟩ := T.c.d.def_ 14 (d := d_is_act) rfl
  refine ⟨_, fd, fn_ok (k := 2) (N := ["act", "process", "channels"]) (m := B_is_act) Fd sc_is_act (fun cdv A outer s H E hr => ?_), T.glo "is_act" 28 rfl, Fd.kp, FunD.bindsN Fd fun _ _ _ _ _ _ us hl => match us, hl with | [_, _, _], _ => rfl⟩
  exact jss_cons (js_if (jt_w (jw_or (jt_not (jt_val (je_isi (je_var (pv 0)) (by rfl) (T.free "isinstance" 12 rfl) (by rfl) (T.free "tuple" 10 rfl) bb_tuple))) (jw_or (jt_cmp (o_eq hr.units) (je_cb c_len (by rfl) (T.free "len" 4 rfl) bb_len (ja_cons (je_var (pv 0)) (ja_nil))) (je_int) (nomark _)) (jw_or1 (jt_not (jt_val (je_isi (je_ix (je_var (pv 0)) (je_int)) (by rfl) (T.free "isinstance" 12 rfl) (by rfl) (T.free "str" 16 rfl) bb_str))))))) (jss_one (js_ret (je_bl))) (jss_nil))
      (jss_cons (js_if (jt_cmp (o_eq hr.units) (je_ix (je_var (pv 0)) (je_int)) (je_str) (nomark _)) (jss_one (js_ret (je_cmp (o_eq hr.units) (je_cb c_len (by rfl) (T.free "len" 4 rfl) bb_len (ja_cons (je_var (pv 0)) (ja_nil))) (je_int) (nomark _)))) (jss_nil))
      (jss_cons (js_if (jt_w (jw_or (jt_cmp (o_notin (Room.units65 hr)) (je_ix (je_var (pv 0)) (je_int)) (je_tup (ja_cons (je_str) (ja_cons (je_str) (ja_nil)))) (by with_unfolding_all rfl)) (jw_or1 (jt_cmp (o_ne hr.units) (je_cb c_len (by rfl) (T.free "len" 4 rfl) bb_len (ja_cons (je_var (pv 0)) (ja_nil))) (je_int) (nomark _))))) (jss_one (js_ret (je_bl))) (jss_nil))
      (jss_cons (js_if (jt_w (jw_or (jt_not (jt_val (je_own (ps := ["value", "top"]) (ok_is_below T) hr (by decide) (by rfl) (ja_cons (je_ix (je_var (pv 0)) (je_int)) (ja_cons (je_cb c_len (by rfl) (T.free "len" 4 rfl) bb_len (ja_cons (je_var (pv 2)) (ja_nil))) (ja_nil)))))) (jw_or1 (jt_not (jt_val (je_own (ps := ["value", "top"]) (ok_is_below T) hr (by decide) (by rfl) (ja_cons (je_ix (je_var (pv 0)) (je_int)) (ja_cons (je_gint (by rfl) (T.int_ "TOKENS" 10 27 rfl)) (ja_nil))))))))) (jss_one (js_ret (je_bl))) (jss_nil))
      (jss_one (js_ret (je_cmp (o_eq hr.units) (je_ix (je_ix (je_var (pv 2)) (je_ix (je_var (pv 0)) (je_int))) (je_if (jt_cmp (o_eq hr.units) (je_ix (je_var (pv 0)) (je_int)) (je_str) (nomark _)) (je_int) (je_int))) (je_var (pv 1)) (nomark _)))))))
theorem sc_is_rule : FnScope ["value", "processes", "channels", "states"] ["value", "processes", "channels"] (defScope (top 18)) := ⟨rfl, rfl, rfl, by decide +kernel, rfl, by decide +kernel, by decide +kernel⟩
theorem ok_is_rule {P : Program} {w : World} {K : PySem.W.Frag} {mg : Str → Option Value} {base : Heap} (T : Tx K mg) : Cal P w K mg base "is_rule" 4 ["value", "processes", "channels"] F_is_rule := by
  obtain ⟨fd, Fd⟩ := T.c.d.def_ 15 (d := d_is_rule) rfl
  refine ⟨_, fd, fn_ok (k := 3) (N := ["value", "processes", "channels", "states"]) (m := B_is_rule) Fd sc_is_rule (fun cdv A outer s H E hr => ?_), T.glo "is_rule" 29 rfl, Fd.kp, FunD.bindsN Fd fun _ _ _ _ _ _ us hl => match us, hl with | [_, _, _], _ => rfl⟩
  exact jss_cons (js_if (jt_w (jw_or (jt_cmp (o_ne hr.units) (je_cb c_len (by rfl) (T.free "len" 4 rfl) bb_len (ja_cons (je_var (pv 0)) (ja_nil))) (je_int) (nomark _)) (jw_or1 (jt_not (jt_val (je_own (ps := ["value", "top"]) (ok_is_below T) hr (by decide) (by rfl) (ja_cons (je_ix (je_var (pv 0)) (je_int)) (ja_cons (je_cb c_len (by rfl) (T.free "len" 4 rfl) bb_len (ja_cons (je_var (pv 1)) (ja_nil))) (ja_nil))))))))) (jss_one (js_ret (je_bl))) (jss_nil))
      (jss_cons (js_set (fun he => ps_set (i := 3) sc_is_rule.nd rfl (Or.inl rfl) he) (je_ix (je_ix (je_var (pv 1)) (je_ix (je_var (pv 0)) (je_int))) (je_int)))
      (jss_one (js_ret (je_and (je_own (ps := ["value", "top"]) (ok_is_below T) hr (by decide) (by rfl) (ja_cons (je_ix (je_var (pv 0)) (je_int)) (ja_cons (je_var (pv 3)) (ja_nil)))) (je_and (je_own (ps := ["value", "top"]) (ok_is_below T) hr (by decide) (by rfl) (ja_cons (je_ix (je_var (pv 0)) (je_int)) (ja_cons (je_var (pv 3)) (ja_nil)))) (je_one (je_own (ps := ["act", "process", "channels"]) (ok_is_act T) hr (by decide) (by rfl) (ja_cons (je_ix (je_var (pv 0)) (je_int)) (ja_cons (je_ix (je_var (pv 0)) (je_int)) (ja_cons (je_var (pv 2)) (ja_nil)))))))))))
theorem sc_Net_init : FnScope ["self", "processes", "channels", "rules", "rows", "ways", "told", "rule", "at", "row", "way"] ["self", "processes", "channels", "rules"] (defScope (inClass (top 21) 0)) := ⟨rfl, rfl, rfl, by decide +kernel, rfl, by decide +kernel, by decide +kernel⟩
theorem ok_Net_init {P : Program} {w : World} {K : PySem.W.Frag} {mg : Str → Option Value} {base : Heap} (T : Tx K mg) : Mth P w K mg base (He.ma K (He.ga K "Net") "__init__") 8 ["self", "processes", "channels", "rules"] F_Net_init := by
  obtain ⟨fd, Fd⟩ := T.c.d.def_ 16 (d := d_Net_init) rfl
  refine ⟨fd, fn_ok (k := 7) (N := ["self", "processes", "channels", "rules", "rows", "ways", "told", "rule", "at", "row", "way"]) (m := B_Net_init) Fd sc_Net_init (fun cdv A outer s H E hr => ?_), FunD.bindsN Fd fun _ _ _ _ _ _ us hl => match us, hl with | [_, _, _, _], _ => rfl⟩
  exact jss_cons (js_set (fun he => ps_set (i := 4) sc_Net_init.nd rfl (Or.inr rfl) he) (je_own (ps := ["value", "least", "most"]) (ok_rows T) hr (by decide) (by rfl) (ja_cons (je_var (pv 1)) (ja_cons (je_int) (ja_cons (je_gint (by rfl) (T.int_ "MOST_PROCESSES" 5 30 rfl)) (ja_nil))))))
      (jss_cons (js_if (jt_w (jw_or (jt_cmp o_is (je_var (pv 4)) (je_non) (nomark _)) (jw_or1 (jt_not (jt_val (je_cb (c_all rfl) (by rfl) (T.free "all" 14 rfl) bb_all (ja_cons (je_val (jf_comp (own := [("at", 8), ("row", 9)]) rfl sc_Net_init.nd (ji_en (by rfl) (T.free "enumerate" 31 rfl) (je_var (pv 4))) (blkOk_by (N := ["self", "processes", "channels", "rules", "rows", "ways", "told", "rule", "at", "row", "way"]) (sc := defScope (inClass (top 21) 0)) (by decide +kernel)) rfl (fun _ _ _ _ _ => jg_tup rfl (jgs_cons (jg_name (pg_name sc_Net_init.nd rfl (by first | exact Or.inl rfl | exact Or.inr rfl))) (jgs_cons (jg_name (pg_name sc_Net_init.nd rfl (by first | exact Or.inl rfl | exact Or.inr rfl))) (jgs_nil)))) (fun _ _ _ _ _ => jts_nil) (fun _ _ _ _ _ => je_own (ps := ["value", "elder"]) (ok_is_process T) hr (by decide) (by rfl) (ja_cons (je_var (pv 9)) (ja_cons (je_slc (je_var (pv 4)) (jp_no) (jp_at (je_var (pv 8)))) (ja_nil)))))) (ja_nil)))))))) (jss_one (js_never)) (jss_nil))
      (jss_cons (js_set (fun he => ps_set (i := 5) sc_Net_init.nd rfl (Or.inr rfl) he) (je_own (ps := ["value", "least", "most"]) (ok_rows T) hr (by decide) (by rfl) (ja_cons (je_var (pv 2)) (ja_cons (je_int) (ja_cons (je_gint (by rfl) (T.int_ "MOST_CHANNELS" 8 32 rfl)) (ja_nil))))))
      (jss_cons (js_if (jt_w (jw_or (jt_cmp o_is (je_var (pv 5)) (je_non) (nomark _)) (jw_or1 (jt_not (jt_val (je_cb (c_all rfl) (by rfl) (T.free "all" 14 rfl) bb_all (ja_cons (je_val (jf_comp (own := [("at", 8), ("way", 10)]) rfl sc_Net_init.nd (ji_en (by rfl) (T.free "enumerate" 31 rfl) (je_var (pv 5))) (blkOk_by (N := ["self", "processes", "channels", "rules", "rows", "ways", "told", "rule", "at", "row", "way"]) (sc := defScope (inClass (top 21) 0)) (by decide +kernel)) rfl (fun _ _ _ _ _ => jg_tup rfl (jgs_cons (jg_name (pg_name sc_Net_init.nd rfl (by first | exact Or.inl rfl | exact Or.inr rfl))) (jgs_cons (jg_name (pg_name sc_Net_init.nd rfl (by first | exact Or.inl rfl | exact Or.inr rfl))) (jgs_nil)))) (fun _ _ _ _ _ => jts_nil) (fun _ _ _ _ _ => je_own (ps := ["value", "processes", "elder"]) (ok_is_channel T) hr (by decide) (by rfl) (ja_cons (je_var (pv 10)) (ja_cons (je_var (pv 4)) (ja_cons (je_slc (je_var (pv 5)) (jp_no) (jp_at (je_var (pv 8)))) (ja_nil))))))) (ja_nil)))))))) (jss_one (js_never)) (jss_nil))
      (jss_cons (js_set (fun he => ps_set (i := 6) sc_Net_init.nd rfl (Or.inl rfl) he) (je_own (ps := ["value", "least", "most"]) (ok_rows T) hr (by decide) (by rfl) (ja_cons (je_var (pv 3)) (ja_cons (je_int) (ja_cons (je_gint (by rfl) (T.int_ "MOST_RULES" 40 33 rfl)) (ja_nil))))))
      (jss_cons (js_if (jt_w (jw_or (jt_cmp o_is (je_var (pv 6)) (je_non) (nomark _)) (jw_or1 (jt_not (jt_val (je_cb (c_all rfl) (by rfl) (T.free "all" 14 rfl) bb_all (ja_cons (je_val (jf_comp (own := [("rule", 7)]) rfl sc_Net_init.nd (ji_it (je_var (pv 6))) (blkOk_by (N := ["self", "processes", "channels", "rules", "rows", "ways", "told", "rule", "at", "row", "way"]) (sc := defScope (inClass (top 21) 0)) (by decide +kernel)) rfl (fun _ _ _ _ _ => jg_name (pg_name sc_Net_init.nd rfl (by first | exact Or.inl rfl | exact Or.inr rfl))) (fun _ _ _ _ _ => jts_nil) (fun _ _ _ _ _ => je_own (ps := ["value", "processes", "channels"]) (ok_is_rule T) hr (by decide) (by rfl) (ja_cons (je_var (pv 7)) (ja_cons (je_var (pv 4)) (ja_cons (je_var (pv 5)) (ja_nil))))))) (ja_nil)))))))) (jss_one (js_never)) (jss_nil))
      (jss_cons (DV.js_fld (C := "Net") (je_var (pv 4)) (je_var (pv 0)) (T.cls "Net" 34 rfl) (T.noat "Net" "processes" 35 rfl))
      (jss_cons (DV.js_fld (C := "Net") (je_var (pv 5)) (je_var (pv 0)) (T.cls "Net" 34 rfl) (T.noat "Net" "channels" 36 rfl))
      (jss_one (DV.js_fld (C := "Net") (je_var (pv 6)) (je_var (pv 0)) (T.cls "Net" 34 rfl) (T.noat "Net" "rules" 37 rfl))))))))))
theorem sc_law_made : FnScope ["_law_pool_here", "_law_net_here", "_law_row"] ["_law_pool_here", "_law_net_here"] (defScope (top 40)) := ⟨rfl, rfl, rfl, by decide +kernel, rfl, by decide +kernel, by decide +kernel⟩
theorem ok_law_made {P : Program} {w : World} {K : PySem.W.Frag} {mg : Str → Option Value} {base : Heap} (T : Tx K mg) : Cal P w K mg base "_law_made" 10 ["_law_pool_here", "_law_net_here"] F_law_made := by
  obtain ⟨fd, Fd⟩ := T.c.d.def_ 17 (d := d_law_made) rfl
  refine ⟨_, fd, fn_ok (k := 9) (N := ["_law_pool_here", "_law_net_here", "_law_row"]) (m := B_law_made) Fd sc_law_made (fun cdv A outer s H E hr => ?_), T.glo "_law_made" 40 rfl, Fd.kp, FunD.bindsN Fd fun _ _ _ _ _ _ us hl => match us, hl with | [_, _], _ => rfl⟩
  exact jss_cons (js_if (jt_cmp (o_eq hr.units) (je_own (ps := ["_law_pool_here", "_law_many"]) (ok_law_draw T) hr (by decide) (by rfl) (ja_cons (je_var (pv 0)) (ja_cons (je_int) (ja_nil)))) (je_int) (nomark _)) (jss_one (js_ret (je_new2 (T.mkr "Net" 38 rfl) (ok_Net_init T) hr (by decide) (by rfl) (T.glo "Net" 39 rfl) (ja_cons (je_ix (je_var (pv 1)) (je_int)) (ja_cons (je_ix (je_var (pv 1)) (je_int)) (ja_cons (je_ix (je_var (pv 1)) (je_int)) (ja_nil))))))) (jss_nil))
      (jss_one (js_ret (je_new2 (T.mkr "Net" 38 rfl) (ok_Net_init T) hr (by decide) (by rfl) (T.glo "Net" 39 rfl) (ja_cons (je_val (jf_comp (own := [("_law_row", 2)]) rfl sc_law_made.nd (ji_it (je_ix (je_var (pv 1)) (je_int))) (blkOk_by (N := ["_law_pool_here", "_law_net_here", "_law_row"]) (sc := defScope (top 40)) (by decide +kernel)) rfl (fun _ _ _ _ _ => jg_name (pg_name sc_law_made.nd rfl (by first | exact Or.inl rfl | exact Or.inr rfl))) (fun _ _ _ _ _ => jts_nil) (fun _ _ _ _ _ => je_val (jf_ct c_list (by rfl) (T.free "list" 0 rfl) bb_list (ja_cons (je_var (pv 2)) (ja_nil)))))) (ja_cons (je_val (jf_ct c_list (by rfl) (T.free "list" 0 rfl) bb_list (ja_cons (je_ix (je_var (pv 1)) (je_int)) (ja_nil)))) (ja_cons (je_val (jf_ct c_list (by rfl) (T.free "list" 0 rfl) bb_list (ja_cons (je_ix (je_var (pv 1)) (je_int)) (ja_nil)))) (ja_nil)))))))
theorem sc_law_start : FnScope ["_law_net_here", "_law_row"] ["_law_net_here"] (defScope (top 44)) := ⟨rfl, rfl, rfl, by decide +kernel, rfl, by decide +kernel, by decide +kernel⟩
theorem ok_law_start {P : Program} {w : World} {K : PySem.W.Frag} {mg : Str → Option Value} {base : Heap} (T : Tx K mg) : Cal P w K mg base "_law_start" 1 ["_law_net_here"] F_law_start := by
  obtain ⟨fd, Fd⟩ := T.c.d.def_ 18 (d := d_law_start) rfl
  refine ⟨_, fd, fn_ok (k := 0) (N := ["_law_net_here", "_law_row"]) (m := B_law_start) Fd sc_law_start (fun cdv A outer s H E hr => ?_), T.glo "_law_start" 41 rfl, Fd.kp, FunD.bindsN Fd fun _ _ _ _ _ _ us hl => match us, hl with | [_], _ => rfl⟩
  exact jss_one (js_ret (je_tup (ja_cons (je_ct c_tuple (by rfl) (T.free "tuple" 10 rfl) bb_tuple (ja_cons (je_val (jf_comp (own := [("_law_row", 1)]) rfl sc_law_start.nd (ji_it (je_ix (je_var (pv 0)) (je_int))) (blkOk_by (N := ["_law_net_here", "_law_row"]) (sc := defScope (top 44)) (by decide +kernel)) rfl (fun _ _ _ _ _ => jg_name (pg_name sc_law_start.nd rfl (by first | exact Or.inl rfl | exact Or.inr rfl))) (fun _ _ _ _ _ => jts_nil) (fun _ _ _ _ _ => je_int))) (ja_nil))) (ja_cons (je_ct c_tuple (by rfl) (T.free "tuple" 10 rfl) bb_tuple (ja_cons (je_val (jf_comp (own := [("_law_row", 1)]) rfl sc_law_start.nd (ji_it (je_ix (je_var (pv 0)) (je_int))) (blkOk_by (N := ["_law_net_here", "_law_row"]) (sc := defScope (top 44)) (by decide +kernel)) rfl (fun _ _ _ _ _ => jg_name (pg_name sc_law_start.nd rfl (by first | exact Or.inl rfl | exact Or.inr rfl))) (fun _ _ _ _ _ => jts_nil) (fun _ _ _ _ _ => je_int))) (ja_nil))) (ja_cons (je_ct c_tuple (by rfl) (T.free "tuple" 10 rfl) bb_tuple (ja_cons (je_val (jf_comp (own := [("_law_row", 1)]) rfl sc_law_start.nd (ji_it (je_ix (je_var (pv 0)) (je_int))) (blkOk_by (N := ["_law_net_here", "_law_row"]) (sc := defScope (top 44)) (by decide +kernel)) rfl (fun _ _ _ _ _ => jg_name (pg_name sc_law_start.nd rfl (by first | exact Or.inl rfl | exact Or.inr rfl))) (fun _ _ _ _ _ => jts_nil) (fun _ _ _ _ _ => je_tup (ja_nil)))) (ja_nil))) (ja_nil))))))
theorem sc_law_firsts : FnScope ["_law_net_here", "_law_world_here", "_law_c"] ["_law_net_here", "_law_world_here", "_law_c"] (defScope (top 41)) := ⟨rfl, rfl, rfl, by decide +kernel, rfl, by decide +kernel, by decide +kernel⟩
theorem ok_law_firsts {P : Program} {w : World} {K : PySem.W.Frag} {mg : Str → Option Value} {base : Heap} (T : Tx K mg) : Cal P w K mg base "_law_firsts" 1 ["_law_net_here", "_law_world_here", "_law_c"] F_law_firsts := by
  obtain ⟨fd, Fd⟩ := T.c.d.def_ 19 (d := d_law_firsts) rfl
  refine ⟨_, fd, fn_ok (k := 0) (N := ["_law_net_here", "_law_world_here", "_law_c"]) (m := B_law_firsts) Fd sc_law_firsts (fun cdv A outer s H E hr => ?_), T.glo "_law_firsts" 42 rfl, Fd.kp, FunD.bindsN Fd fun _ _ _ _ _ _ us hl => match us, hl with | [_, _, _], _ => rfl⟩
  exact jss_cons (js_if (jt_cmp (o_eq hr.units) (je_slc (je_ix (je_ix (je_ix (je_var (pv 0)) (je_int)) (je_var (pv 2))) (je_int)) (jp_no) (jp_at (je_int))) (je_str) (nomark _)) (jss_one (js_ret (je_slc (je_ix (je_ix (je_var (pv 1)) (je_int)) (je_var (pv 2))) (jp_no) (jp_at (je_int))))) (jss_nil))
      (jss_one (js_ret (je_ix (je_ix (je_var (pv 1)) (je_int)) (je_var (pv 2)))))
theorem sc_law_possible : FnScope ["_law_net_here", "_law_world_here", "_law_deeds", "_law_r", "_law_c", "_law_p", "_law_s", "_law_act", "_law_then", "_law_k", "_law_token"] ["_law_net_here", "_law_world_here"] (defScope (top 42)) := ⟨rfl, rfl, rfl, by decide +kernel, rfl, by decide +kernel, by decide +kernel⟩
theorem ok_law_possible {P : Program} {w : World} {K : PySem.W.Frag} {mg : Str → Option Value} {base : Heap} (T : Tx K mg) : Cal P w K mg base "_law_possible" 2 ["_law_net_here", "_law_world_here"] F_law_possible := by
  obtain ⟨fd, Fd⟩ := T.c.d.def_ 20 (d := d_law_possible) rfl
  refine ⟨_, fd, fn_ok (k := 1) (N := ["_law_net_here", "_law_world_here", "_law_deeds", "_law_r", "_law_c", "_law_p", "_law_s", "_law_act", "_law_then", "_law_k", "_law_token"]) (m := B_law_possible) Fd sc_law_possible (fun cdv A outer s H E hr => ?_), T.glo "_law_possible" 43 rfl, Fd.kp, FunD.bindsN Fd fun _ _ _ _ _ _ us hl => match us, hl with | [_, _], _ => rfl⟩
  exact jss_cons (js_set (fun he => ps_set (i := 2) sc_law_possible.nd rfl (Or.inl rfl) he) (je_new (jf_lst (ja_nil))))
      (jss_cons (js_for (vs := [3]) PassesOwn.never rfl (ji_rng1 (by rfl) (T.free "range" 6 rfl) (ja_cons (je_cb c_len (by rfl) (T.free "len" 4 rfl) bb_len (ja_cons (je_ix (je_var (pv 0)) (je_int)) (ja_nil))) (ja_nil))) (jg_name (pg_name sc_law_possible.nd rfl (by first | exact Or.inl rfl | exact Or.inr rfl))) (jss_cons (js_asg (vs := [5, 6, 7, 8]) (je_ix (je_ix (je_var (pv 0)) (je_int)) (je_var (pv 3))) (jg_tup rfl (jgs_cons (jg_name (pg_name sc_law_possible.nd rfl (by first | exact Or.inl rfl | exact Or.inr rfl))) (jgs_cons (jg_name (pg_name sc_law_possible.nd rfl (by first | exact Or.inl rfl | exact Or.inr rfl))) (jgs_cons (jg_name (pg_name sc_law_possible.nd rfl (by first | exact Or.inl rfl | exact Or.inr rfl))) (jgs_cons (jg_name (pg_name sc_law_possible.nd rfl (by first | exact Or.inl rfl | exact Or.inr rfl))) (jgs_nil)))))))
      (jss_cons (js_if (jt_w (jw_and (jt_cmp (o_eq hr.units) (je_ix (je_ix (je_var (pv 1)) (je_int)) (je_var (pv 5))) (je_var (pv 6)) (nomark _)) (jw_and1 (jt_cmp (o_ne hr.units) (je_ix (je_var (pv 7)) (je_int)) (je_str) (nomark _))))) (jss_one (js_expr (je_m PySem.F.plainAttrs_list PySem.F.slot_list_append PySem.F.type_list_append m_app (je_var (pv 2)) (ja_cons (je_tup (ja_cons (je_str) (ja_cons (je_var (pv 3)) (ja_nil)))) (ja_nil))))) (jss_nil))
      (jss_one (js_if (jt_w (jw_and (jt_cmp (o_eq hr.units) (je_ix (je_ix (je_var (pv 1)) (je_int)) (je_var (pv 5))) (je_var (pv 6)) (nomark _)) (jw_and1 (jt_cmp (o_eq hr.units) (je_ix (je_var (pv 7)) (je_int)) (je_str) (nomark _))))) (jss_one (js_set (fun he => ps_set (i := 2) sc_law_possible.nd rfl (Or.inl rfl) he) (je_new (jf_cat (je_var (pv 2)) (je_val (jf_comp (own := [("_law_k", 9), ("_law_token", 10)]) rfl sc_law_possible.nd (ji_it (je_own (ps := ["_law_net_here", "_law_world_here", "_law_c"]) (ok_law_firsts T) hr (by decide) (by rfl) (ja_cons (je_var (pv 0)) (ja_cons (je_var (pv 1)) (ja_cons (je_ix (je_var (pv 7)) (je_int)) (ja_nil)))))) (blkOk_by (N := ["_law_net_here", "_law_world_here", "_law_deeds", "_law_r", "_law_c", "_law_p", "_law_s", "_law_act", "_law_then", "_law_k", "_law_token"]) (sc := defScope (top 42)) (by decide +kernel)) rfl (fun _ _ _ _ _ => jg_tup rfl (jgs_cons (jg_name (pg_name sc_law_possible.nd rfl (by first | exact Or.inl rfl | exact Or.inr rfl))) (jgs_cons (jg_name (pg_name sc_law_possible.nd rfl (by first | exact Or.inl rfl | exact Or.inr rfl))) (jgs_nil)))) (fun _ _ _ _ _ => jts_one (jt_cmp (o_eq hr.units) (je_var (pv 10)) (je_ix (je_var (pv 7)) (je_int)) (nomark _))) (fun _ _ _ _ _ => je_tup (ja_cons (je_str) (ja_cons (je_var (pv 3)) (ja_cons (je_var (pv 9)) (ja_nil))))))))))) (jss_nil))))))
      (jss_cons (js_for (vs := [4]) PassesOwn.never rfl (ji_rng1 (by rfl) (T.free "range" 6 rfl) (ja_cons (je_cb c_len (by rfl) (T.free "len" 4 rfl) bb_len (ja_cons (je_ix (je_var (pv 0)) (je_int)) (ja_nil))) (ja_nil))) (jg_name (pg_name sc_law_possible.nd rfl (by first | exact Or.inl rfl | exact Or.inr rfl))) (jss_one (js_if (jt_cmp (o_eq hr.units) (je_slc (je_ix (je_ix (je_ix (je_var (pv 0)) (je_int)) (je_var (pv 4))) (je_int)) (jp_at (je_neg (je_int))) (jp_no)) (je_str) (nomark _)) (jss_one (js_set (fun he => ps_set (i := 2) sc_law_possible.nd rfl (Or.inl rfl) he) (je_new (jf_cat (je_var (pv 2)) (je_val (jf_comp (own := [("_law_k", 9), ("_law_token", 10)]) rfl sc_law_possible.nd (ji_it (je_own (ps := ["_law_net_here", "_law_world_here", "_law_c"]) (ok_law_firsts T) hr (by decide) (by rfl) (ja_cons (je_var (pv 0)) (ja_cons (je_var (pv 1)) (ja_cons (je_var (pv 4)) (ja_nil)))))) (blkOk_by (N := ["_law_net_here", "_law_world_here", "_law_deeds", "_law_r", "_law_c", "_law_p", "_law_s", "_law_act", "_law_then", "_law_k", "_law_token"]) (sc := defScope (top 42)) (by decide +kernel)) rfl (fun _ _ _ _ _ => jg_tup rfl (jgs_cons (jg_name (pg_name sc_law_possible.nd rfl (by first | exact Or.inl rfl | exact Or.inr rfl))) (jgs_cons (jg_name (pg_name sc_law_possible.nd rfl (by first | exact Or.inl rfl | exact Or.inr rfl))) (jgs_nil)))) (fun _ _ _ _ _ => jts_nil) (fun _ _ _ _ _ => je_tup (ja_cons (je_str) (ja_cons (je_var (pv 4)) (ja_cons (je_var (pv 9)) (ja_nil))))))))))) (jss_nil))))
      (jss_one (js_ret (je_var (pv 2))))))
theorem sc_law_done : FnScope ["_law_net_here", "_law_world_here", "_law_deed", "_law_states", "_law_sent", "_law_present", "_law_c", "_law_p", "_law_s", "_law_act", "_law_then", "_law_pair"] ["_law_net_here", "_law_world_here", "_law_deed"] (defScope (top 43)) := ⟨rfl, rfl, rfl, by decide +kernel, rfl, by decide +kernel, by decide +kernel⟩
theorem ok_law_done {P : Program} {w : World} {K : PySem.W.Frag} {mg : Str → Option Value} {base : Heap} (T : Tx K mg) : Cal P w K mg base "_law_done" 1 ["_law_net_here", "_law_world_here", "_law_deed"] F_law_done := by
  obtain ⟨fd, Fd⟩ := T.c.d.def_ 21 (d := d_law_done) rfl
  refine ⟨_, fd, fn_ok (k := 0) (N := ["_law_net_here", "_law_world_here", "_law_deed", "_law_states", "_law_sent", "_law_present", "_law_c", "_law_p", "_law_s", "_law_act", "_law_then", "_law_pair"]) (m := B_law_done) Fd sc_law_done (fun cdv A outer s H E hr => ?_), T.glo "_law_done" 44 rfl, Fd.kp, FunD.bindsN Fd fun _ _ _ _ _ _ us hl => match us, hl with | [_, _, _], _ => rfl⟩
  exact jss_cons (js_set (fun he => ps_set (i := 3) sc_law_done.nd rfl (Or.inl rfl) he) (je_new (jf_ct c_list (by rfl) (T.free "list" 0 rfl) bb_list (ja_cons (je_ix (je_var (pv 1)) (je_int)) (ja_nil)))))
      (jss_cons (js_set (fun he => ps_set (i := 4) sc_law_done.nd rfl (Or.inl rfl) he) (je_new (jf_ct c_list (by rfl) (T.free "list" 0 rfl) bb_list (ja_cons (je_ix (je_var (pv 1)) (je_int)) (ja_nil)))))
      (jss_cons (js_set (fun he => ps_set (i := 5) sc_law_done.nd rfl (Or.inl rfl) he) (je_new (jf_ct c_list (by rfl) (T.free "list" 0 rfl) bb_list (ja_cons (je_ix (je_var (pv 1)) (je_int)) (ja_nil)))))
      (jss_cons (js_set (fun he => ps_set (i := 6) sc_law_done.nd rfl (Or.inl rfl) he) (je_ix (je_var (pv 2)) (je_int)))
      (jss_cons (js_if (jt_cmp (o_ne hr.units) (je_ix (je_var (pv 2)) (je_int)) (je_str) (nomark _)) (jss_cons (js_asg (vs := [7, 8, 9, 10]) (je_ix (je_ix (je_var (pv 0)) (je_int)) (je_ix (je_var (pv 2)) (je_int))) (jg_tup rfl (jgs_cons (jg_name (pg_name sc_law_done.nd rfl (by first | exact Or.inl rfl | exact Or.inr rfl))) (jgs_cons (jg_name (pg_name sc_law_done.nd rfl (by first | exact Or.inl rfl | exact Or.inr rfl))) (jgs_cons (jg_name (pg_name sc_law_done.nd rfl (by first | exact Or.inl rfl | exact Or.inr rfl))) (jgs_cons (jg_name (pg_name sc_law_done.nd rfl (by first | exact Or.inl rfl | exact Or.inr rfl))) (jgs_nil)))))))
      (jss_cons (js_sub (je_var (pv 10)) (je_var (pv 3)) (je_var (pv 7)))
      (jss_cons (js_if (jt_cmp (o_ne hr.units) (je_ix (je_var (pv 9)) (je_int)) (je_str) (nomark _)) (jss_one (js_set (fun he => ps_set (i := 6) sc_law_done.nd rfl (Or.inl rfl) he) (je_ix (je_var (pv 9)) (je_int)))) (jss_nil))
      (jss_one (js_if (jt_cmp (o_eq hr.units) (je_ix (je_var (pv 9)) (je_int)) (je_str) (nomark _)) (jss_cons (js_sub (je_bin o_add (je_ix (je_var (pv 5)) (je_var (pv 6))) (je_tup (ja_cons (je_tup (ja_cons (je_ix (je_var (pv 4)) (je_var (pv 6))) (ja_cons (je_ix (je_var (pv 9)) (je_int)) (ja_nil)))) (ja_nil)))) (je_var (pv 5)) (je_var (pv 6)))
      (jss_one (js_sub (je_bin o_add (je_ix (je_var (pv 4)) (je_var (pv 6))) (je_int)) (je_var (pv 4)) (je_var (pv 6))))) (jss_nil)))))) (jss_nil))
      (jss_cons (js_if (jt_cmp (o_ne hr.units) (je_ix (je_var (pv 2)) (je_int)) (je_str) (nomark _)) (jss_one (js_sub (je_ct c_tuple (by rfl) (T.free "tuple" 10 rfl) bb_tuple (ja_cons (je_val (jf_comp (own := [("_law_pair", 11)]) rfl sc_law_done.nd (ji_it (je_ix (je_var (pv 5)) (je_var (pv 6)))) (blkOk_by (N := ["_law_net_here", "_law_world_here", "_law_deed", "_law_states", "_law_sent", "_law_present", "_law_c", "_law_p", "_law_s", "_law_act", "_law_then", "_law_pair"]) (sc := defScope (top 43)) (by decide +kernel)) rfl (fun _ _ _ _ _ => jg_name (pg_name sc_law_done.nd rfl (by first | exact Or.inl rfl | exact Or.inr rfl))) (fun _ _ _ _ _ => jts_one (jt_cmp (o_ne hr.units) (je_ix (je_var (pv 11)) (je_int)) (je_ix (je_var (pv 2)) (je_int)) (nomark _))) (fun _ _ _ _ _ => je_var (pv 11)))) (ja_nil))) (je_var (pv 5)) (je_var (pv 6)))) (jss_nil))
      (jss_one (js_ret (je_tup (ja_cons (je_ct c_tuple (by rfl) (T.free "tuple" 10 rfl) bb_tuple (ja_cons (je_var (pv 3)) (ja_nil))) (ja_cons (je_ct c_tuple (by rfl) (T.free "tuple" 10 rfl) bb_tuple (ja_cons (je_var (pv 4)) (ja_nil))) (ja_cons (je_ct c_tuple (by rfl) (T.free "tuple" 10 rfl) bb_tuple (ja_cons (je_var (pv 5)) (ja_nil))) (ja_nil))))))))))))
theorem sc_law_run : FnScope ["_law_pool_here", "_law_net_here", "_law_many", "_law_world_here", "_law_deeds", "_law_worlds", "_law_k", "_law_can", "_law_acts", "_law_deed"] ["_law_pool_here", "_law_net_here", "_law_many"] (defScope (top 45)) := ⟨rfl, rfl, rfl, by decide +kernel, rfl, by decide +kernel, by decide +kernel⟩
theorem ok_law_run {P : Program} {w : World} {K : PySem.W.Frag} {mg : Str → Option Value} {base : Heap} (T : Tx K mg) : Cal P w K mg base "_law_run" 4 ["_law_pool_here", "_law_net_here", "_law_many"] F_law_run := by
  obtain ⟨fd, Fd⟩ := T.c.d.def_ 22 (d := d_law_run) rfl
  refine ⟨_, fd, fn_ok (k := 3) (N := ["_law_pool_here", "_law_net_here", "_law_many", "_law_world_here", "_law_deeds", "_law_worlds", "_law_k", "_law_can", "_law_acts", "_law_deed"]) (m := B_law_run) Fd sc_law_run (fun cdv A outer s H E hr => ?_), T.glo "_law_run" 45 rfl, Fd.kp, FunD.bindsN Fd fun _ _ _ _ _ _ us hl => match us, hl with | [_, _, _], _ => rfl⟩
  exact jss_cons (js_set (fun he => ps_set (i := 3) sc_law_run.nd rfl (Or.inl rfl) he) (je_own (ps := ["_law_net_here"]) (ok_law_start T) hr (by decide) (by rfl) (ja_cons (je_var (pv 1)) (ja_nil))))
      (jss_cons (js_set (fun he => ps_set (i := 4) sc_law_run.nd rfl (Or.inl rfl) he) (je_new (jf_lst (ja_nil))))
      (jss_cons (js_set (fun he => ps_set (i := 5) sc_law_run.nd rfl (Or.inl rfl) he) (je_new (jf_lst (ja_cons (je_var (pv 3)) (ja_nil)))))
      (jss_cons (js_for (vs := [6]) PassesOwn.never rfl (ji_rng1 (by rfl) (T.free "range" 6 rfl) (ja_cons (je_var (pv 2)) (ja_nil))) (jg_name (pg_name sc_law_run.nd rfl (by first | exact Or.inl rfl | exact Or.inr rfl))) (jss_cons (js_set (fun he => ps_set (i := 7) sc_law_run.nd rfl (Or.inl rfl) he) (je_own (ps := ["_law_net_here", "_law_world_here"]) (ok_law_possible T) hr (by decide) (by rfl) (ja_cons (je_var (pv 1)) (ja_cons (je_var (pv 3)) (ja_nil)))))
      (jss_cons (js_asgF (js_setLc (i := 8) (own := [("_law_deed", 9)]) rfl sc_law_run.nd rfl rfl (sw_true rfl rfl rfl (by decide +kernel)) (ji_it (je_var (pv 7))) (blkOk_by (N := ["_law_pool_here", "_law_net_here", "_law_many", "_law_world_here", "_law_deeds", "_law_worlds", "_law_k", "_law_can", "_law_acts", "_law_deed"]) (sc := defScope (top 45)) (by decide +kernel)) rfl (fun _ _ _ _ _ => jg_name (pg_name sc_law_run.nd rfl (by first | exact Or.inl rfl | exact Or.inr rfl))) (fun _ _ _ _ _ => jts_one (jt_cmp (o_ne hr.units) (je_ix (je_var (pv 9)) (je_int)) (je_str) (nomark _))) (fun _ _ _ _ _ => je_var (pv 9))))
      (jss_cons (js_if (jt_w (jw_and (jt_cmp o_gt (je_cb c_len (by rfl) (T.free "len" 4 rfl) bb_len (ja_cons (je_var (pv 8)) (ja_nil))) (je_int) (nomark _)) (jw_and1 (jt_cmp o_gt (je_own (ps := ["_law_pool_here", "_law_many"]) (ok_law_draw T) hr (by decide) (by rfl) (ja_cons (je_var (pv 0)) (ja_cons (je_int) (ja_nil)))) (je_int) (nomark _))))) (jss_one (js_set (fun he => ps_set (i := 7) sc_law_run.nd rfl (Or.inl rfl) he) (je_var (pv 8)))) (jss_nil))
      (jss_one (js_if (jt_cmp o_gt (je_cb c_len (by rfl) (T.free "len" 4 rfl) bb_len (ja_cons (je_var (pv 7)) (ja_nil))) (je_int) (nomark _)) (jss_cons (js_set (fun he => ps_set (i := 9) sc_law_run.nd rfl (Or.inl rfl) he) (je_own (ps := ["_law_pool_here", "_law_row"]) (ok_law_picked T) hr (by decide) (by rfl) (ja_cons (je_var (pv 0)) (ja_cons (je_var (pv 7)) (ja_nil)))))
      (jss_cons (js_set (fun he => ps_set (i := 3) sc_law_run.nd rfl (Or.inl rfl) he) (je_own (ps := ["_law_net_here", "_law_world_here", "_law_deed"]) (ok_law_done T) hr (by decide) (by rfl) (ja_cons (je_var (pv 1)) (ja_cons (je_var (pv 3)) (ja_cons (je_var (pv 9)) (ja_nil))))))
      (jss_cons (js_expr (je_m PySem.F.plainAttrs_list PySem.F.slot_list_append PySem.F.type_list_append m_app (je_var (pv 4)) (ja_cons (je_var (pv 9)) (ja_nil))))
      (jss_one (js_expr (je_m PySem.F.plainAttrs_list PySem.F.slot_list_append PySem.F.type_list_append m_app (je_var (pv 5)) (ja_cons (je_var (pv 3)) (ja_nil)))))))) (jss_nil)))))))
      (jss_one (js_ret (je_tup (ja_cons (je_var (pv 4)) (ja_cons (je_var (pv 5)) (ja_nil)))))))))
theorem sc_law_told : FnScope ["_law_net_here", "_law_deeds", "_law_told_here", "_law_deed", "_law_p", "_law_row"] ["_law_net_here", "_law_deeds"] (defScope (top 46)) := ⟨rfl, rfl, rfl, by decide +kernel, rfl, by decide +kernel, by decide +kernel⟩
theorem ok_law_told {P : Program} {w : World} {K : PySem.W.Frag} {mg : Str → Option Value} {base : Heap} (T : Tx K mg) : Cal P w K mg base "_law_told" 1 ["_law_net_here", "_law_deeds"] F_law_told := by
  obtain ⟨fd, Fd⟩ := T.c.d.def_ 23 (d := d_law_told) rfl
  refine ⟨_, fd, fn_ok (k := 0) (N := ["_law_net_here", "_law_deeds", "_law_told_here", "_law_deed", "_law_p", "_law_row"]) (m := B_law_told) Fd sc_law_told (fun cdv A outer s H E hr => ?_), T.glo "_law_told" 46 rfl, Fd.kp, FunD.bindsN Fd fun _ _ _ _ _ _ us hl => match us, hl with | [_, _], _ => rfl⟩
  exact jss_cons (js_asgFN (js_setLc (i := 2) (own := [("_law_row", 5)]) rfl sc_law_told.nd rfl rfl (sw_true rfl rfl rfl (by decide +kernel)) (ji_it (je_ix (je_var (pv 0)) (je_int))) (blkOk_by (N := ["_law_net_here", "_law_deeds", "_law_told_here", "_law_deed", "_law_p", "_law_row"]) (sc := defScope (top 46)) (by decide +kernel)) rfl (fun _ _ _ _ _ => jg_name (pg_name sc_law_told.nd rfl (by first | exact Or.inl rfl | exact Or.inr rfl))) (fun _ _ _ _ _ => jts_nil) (fun _ _ _ _ _ => je_tup (ja_nil))))
      (jss_cons (js_for (vs := [3]) PassesOwn.never rfl (ji_it (je_var (pv 1))) (jg_name (pg_name sc_law_told.nd rfl (by first | exact Or.inl rfl | exact Or.inr rfl))) (jss_cons (js_set (fun he => ps_set (i := 4) sc_law_told.nd rfl (Or.inl rfl) he) (je_if (jt_cmp (o_eq hr.units) (je_ix (je_var (pv 3)) (je_int)) (je_str) (nomark _)) (je_ix (je_ix (je_ix (je_var (pv 0)) (je_int)) (je_ix (je_var (pv 3)) (je_int))) (je_int)) (je_ix (je_ix (je_ix (je_var (pv 0)) (je_int)) (je_ix (je_var (pv 3)) (je_int))) (je_int))))
      (jss_one (js_sub (je_bin o_add (je_ix (je_var (pv 2)) (je_var (pv 4))) (je_tup (ja_cons (je_var (pv 3)) (ja_nil)))) (je_var (pv 2)) (je_var (pv 4))))))
      (jss_one (js_ret (je_ct c_tuple (by rfl) (T.free "tuple" 10 rfl) bb_tuple (ja_cons (je_var (pv 2)) (ja_nil))))))
end K40

end

section
set_option Elab.async false
set_option linter.all false
set_option maxRecDepth 100000
set_option maxHeartbeats 4000000
namespace K40
open PySem PySem.Spec PyProof.Rows L2 DV
theorem sc_law_world : FnScope ["_law_net_here", "_law_told_here", "_law_cut", "_law_states", "_law_sent", "_law_gone", "_law_p", "_law_present", "_law_c", "_law_deed", "_law_row", "_law_act", "_law_k"] ["_law_net_here", "_law_told_here", "_law_cut"] (defScope (top 47)) := ⟨rfl, rfl, rfl, by decide +kernel, rfl, by decide +kernel, by decide +kernel⟩
theorem ok_law_world {P : Program} {w : World} {K : PySem.W.Frag} {mg : Str → Option Value} {base : Heap} (T : Tx K mg) : Cal P w K mg base "_law_world" 1 ["_law_net_here", "_law_told_here", "_law_cut"] F_law_world := by
  obtain ⟨fd, Fd⟩ := T.c.d.def_ 24 (d := d_law_world) rfl
  refine ⟨_, fd, fn_ok (k := 0) (N := ["_law_net_here", "_law_told_here", "_law_cut", "_law_states", "_law_sent", "_law_gone", "_law_p", "_law_present", "_law_c", "_law_deed", "_law_row", "_law_act", "_law_k"]) (m := B_law_world) Fd sc_law_world (fun cdv A outer s H E hr => ?_), T.glo "_law_world" 47 rfl, Fd.kp, FunD.bindsN Fd fun _ _ _ _ _ _ us hl => match us, hl with | [_, _, _], _ => rfl⟩
  exact jss_cons (js_asgFN (js_setLc (i := 3) (own := [("_law_row", 10)]) rfl sc_law_world.nd rfl rfl (sw_true rfl rfl rfl (by decide +kernel)) (ji_it (je_ix (je_var (pv 0)) (je_int))) (blkOk_by (N := ["_law_net_here", "_law_told_here", "_law_cut", "_law_states", "_law_sent", "_law_gone", "_law_p", "_law_present", "_law_c", "_law_deed", "_law_row", "_law_act", "_law_k"]) (sc := defScope (top 47)) (by decide +kernel)) rfl (fun _ _ _ _ _ => jg_name (pg_name sc_law_world.nd rfl (by first | exact Or.inl rfl | exact Or.inr rfl))) (fun _ _ _ _ _ => jts_nil) (fun _ _ _ _ _ => je_int)))
      (jss_cons (js_set (fun he => ps_set (i := 4) sc_law_world.nd rfl (Or.inr rfl) he) (je_new (jf_comp (own := [("_law_row", 10)]) rfl sc_law_world.nd (ji_it (je_ix (je_var (pv 0)) (je_int))) (blkOk_by (N := ["_law_net_here", "_law_told_here", "_law_cut", "_law_states", "_law_sent", "_law_gone", "_law_p", "_law_present", "_law_c", "_law_deed", "_law_row", "_law_act", "_law_k"]) (sc := defScope (top 47)) (by decide +kernel)) rfl (fun _ _ _ _ _ => jg_name (pg_name sc_law_world.nd rfl (by first | exact Or.inl rfl | exact Or.inr rfl))) (fun _ _ _ _ _ => jts_nil) (fun _ _ _ _ _ => je_tup (ja_nil)))))
      (jss_cons (js_set (fun he => ps_set (i := 5) sc_law_world.nd rfl (Or.inr rfl) he) (je_new (jf_comp (own := [("_law_row", 10)]) rfl sc_law_world.nd (ji_it (je_ix (je_var (pv 0)) (je_int))) (blkOk_by (N := ["_law_net_here", "_law_told_here", "_law_cut", "_law_states", "_law_sent", "_law_gone", "_law_p", "_law_present", "_law_c", "_law_deed", "_law_row", "_law_act", "_law_k"]) (sc := defScope (top 47)) (by decide +kernel)) rfl (fun _ _ _ _ _ => jg_name (pg_name sc_law_world.nd rfl (by first | exact Or.inl rfl | exact Or.inr rfl))) (fun _ _ _ _ _ => jts_nil) (fun _ _ _ _ _ => je_tup (ja_nil)))))
      (jss_cons (js_for (vs := [6]) PassesOwn.never rfl (ji_rng1 (by rfl) (T.free "range" 6 rfl) (ja_cons (je_cb c_len (by rfl) (T.free "len" 4 rfl) bb_len (ja_cons (je_var (pv 1)) (ja_nil))) (ja_nil))) (jg_name (pg_name sc_law_world.nd rfl (by first | exact Or.inl rfl | exact Or.inr rfl))) (jss_one (js_for (vs := [9]) PassesOwn.never rfl (ji_it (je_slc (je_ix (je_var (pv 1)) (je_var (pv 6))) (jp_no) (jp_at (je_ix (je_var (pv 2)) (je_var (pv 6)))))) (jg_name (pg_name sc_law_world.nd rfl (by first | exact Or.inl rfl | exact Or.inr rfl))) (jss_one (js_if (jt_cmp (o_eq hr.units) (je_ix (je_var (pv 9)) (je_int)) (je_str) (nomark _)) (jss_one (js_sub (je_bin o_add (je_ix (je_var (pv 5)) (je_ix (je_var (pv 9)) (je_int))) (je_tup (ja_cons (je_ix (je_var (pv 9)) (je_int)) (ja_nil)))) (je_var (pv 5)) (je_ix (je_var (pv 9)) (je_int)))) (jss_cons (js_set (fun he => ps_set (i := 11) sc_law_world.nd rfl (Or.inl rfl) he) (je_ix (je_ix (je_ix (je_var (pv 0)) (je_int)) (je_ix (je_var (pv 9)) (je_int))) (je_int)))
      (jss_cons (js_sub (je_ix (je_ix (je_ix (je_var (pv 0)) (je_int)) (je_ix (je_var (pv 9)) (je_int))) (je_int)) (je_var (pv 3)) (je_var (pv 6)))
      (jss_cons (js_if (jt_cmp (o_eq hr.units) (je_ix (je_var (pv 11)) (je_int)) (je_str) (nomark _)) (jss_one (js_sub (je_bin o_add (je_ix (je_var (pv 4)) (je_ix (je_var (pv 11)) (je_int))) (je_tup (ja_cons (je_ix (je_var (pv 11)) (je_int)) (ja_nil)))) (je_var (pv 4)) (je_ix (je_var (pv 11)) (je_int)))) (jss_nil))
      (jss_one (js_if (jt_cmp (o_eq hr.units) (je_ix (je_var (pv 11)) (je_int)) (je_str) (nomark _)) (jss_one (js_sub (je_bin o_add (je_ix (je_var (pv 5)) (je_ix (je_var (pv 11)) (je_int))) (je_tup (ja_cons (je_ix (je_var (pv 9)) (je_int)) (ja_nil)))) (je_var (pv 5)) (je_ix (je_var (pv 11)) (je_int)))) (jss_nil)))))))))))
      (jss_cons (js_set (fun he => ps_set (i := 7) sc_law_world.nd rfl (Or.inl rfl) he) (je_new (jf_lst (ja_nil))))
      (jss_cons (js_for (vs := [8]) PassesOwn.never rfl (ji_rng1 (by rfl) (T.free "range" 6 rfl) (ja_cons (je_cb c_len (by rfl) (T.free "len" 4 rfl) bb_len (ja_cons (je_ix (je_var (pv 0)) (je_int)) (ja_nil))) (ja_nil))) (jg_name (pg_name sc_law_world.nd rfl (by first | exact Or.inl rfl | exact Or.inr rfl))) (jss_cons (js_if (jt_cmp o_gt (je_cb c_len (by rfl) (T.free "len" 4 rfl) bb_len (ja_cons (je_val (jf_comp (own := [("_law_k", 12)]) rfl sc_law_world.nd (ji_it (je_ix (je_var (pv 5)) (je_var (pv 8)))) (blkOk_by (N := ["_law_net_here", "_law_told_here", "_law_cut", "_law_states", "_law_sent", "_law_gone", "_law_p", "_law_present", "_law_c", "_law_deed", "_law_row", "_law_act", "_law_k"]) (sc := defScope (top 47)) (by decide +kernel)) rfl (fun _ _ _ _ _ => jg_name (pg_name sc_law_world.nd rfl (by first | exact Or.inl rfl | exact Or.inr rfl))) (fun _ _ _ _ _ => jts_one (jt_cmp o_ge (je_var (pv 12)) (je_cb c_len (by rfl) (T.free "len" 4 rfl) bb_len (ja_cons (je_ix (je_var (pv 4)) (je_var (pv 8))) (ja_nil))) (nomark _))) (fun _ _ _ _ _ => je_var (pv 12)))) (ja_nil))) (je_int) (nomark _)) (jss_one (js_ret (je_non))) (jss_nil))
      (jss_one (js_expr (je_m PySem.F.plainAttrs_list PySem.F.slot_list_append PySem.F.type_list_append m_app (je_var (pv 7)) (ja_cons (je_ct c_tuple (by rfl) (T.free "tuple" 10 rfl) bb_tuple (ja_cons (je_val (jf_comp (own := [("_law_k", 12)]) rfl sc_law_world.nd (ji_rng1 (by rfl) (T.free "range" 6 rfl) (ja_cons (je_cb c_len (by rfl) (T.free "len" 4 rfl) bb_len (ja_cons (je_ix (je_var (pv 4)) (je_var (pv 8))) (ja_nil))) (ja_nil))) (blkOk_by (N := ["_law_net_here", "_law_told_here", "_law_cut", "_law_states", "_law_sent", "_law_gone", "_law_p", "_law_present", "_law_c", "_law_deed", "_law_row", "_law_act", "_law_k"]) (sc := defScope (top 47)) (by decide +kernel)) rfl (fun _ _ _ _ _ => jg_name (pg_name sc_law_world.nd rfl (by first | exact Or.inl rfl | exact Or.inr rfl))) (fun _ _ _ _ _ => jts_one (jt_cmp (o_notin (Room.units65 hr)) (je_var (pv 12)) (je_ix (je_var (pv 5)) (je_var (pv 8))) (by with_unfolding_all rfl))) (fun _ _ _ _ _ => je_tup (ja_cons (je_var (pv 12)) (ja_cons (je_ix (je_ix (je_var (pv 4)) (je_var (pv 8))) (je_var (pv 12))) (ja_nil)))))) (ja_nil))) (ja_nil)))))))
      (jss_one (js_ret (je_tup (ja_cons (je_ct c_tuple (by rfl) (T.free "tuple" 10 rfl) bb_tuple (ja_cons (je_var (pv 3)) (ja_nil))) (ja_cons (je_ct c_tuple (by rfl) (T.free "tuple" 10 rfl) bb_tuple (ja_cons (je_val (jf_compR (own := [("_law_row", 10)]) rfl sc_law_world.nd (ji_ref (je_var (pv 4))) (blkOk_by (N := ["_law_net_here", "_law_told_here", "_law_cut", "_law_states", "_law_sent", "_law_gone", "_law_p", "_law_present", "_law_c", "_law_deed", "_law_row", "_law_act", "_law_k"]) (sc := defScope (top 47)) (by decide +kernel)) rfl (fun _ _ _ _ _ => jg_name (pg_name sc_law_world.nd rfl (by first | exact Or.inl rfl | exact Or.inr rfl))) (fun _ _ _ _ _ => jts_nil) (fun _ _ _ _ _ => je_cb c_len (by rfl) (T.free "len" 4 rfl) bb_len (ja_cons (je_var (pv 10)) (ja_nil))))) (ja_nil))) (ja_cons (je_ct c_tuple (by rfl) (T.free "tuple" 10 rfl) bb_tuple (ja_cons (je_var (pv 7)) (ja_nil))) (ja_nil))))))))))))
theorem sc_law_cuts : FnScope ["_law_net_here", "_law_told_here", "_law_vectors", "_law_row", "_law_found", "_law_rows", "_law_total", "_law_longer", "_law_vector", "_law_pair", "_law_k"] ["_law_net_here", "_law_told_here"] (defScope (top 48)) := ⟨rfl, rfl, rfl, by decide +kernel, rfl, by decide +kernel, by decide +kernel⟩
theorem ok_law_cuts {P : Program} {w : World} {K : PySem.W.Frag} {mg : Str → Option Value} {base : Heap} (T : Tx K mg) : Cal P w K mg base "_law_cuts" 2 ["_law_net_here", "_law_told_here"] F_law_cuts := by
  obtain ⟨fd, Fd⟩ := T.c.d.def_ 25 (d := d_law_cuts) rfl
  refine ⟨_, fd, fn_ok (k := 1) (N := ["_law_net_here", "_law_told_here", "_law_vectors", "_law_row", "_law_found", "_law_rows", "_law_total", "_law_longer", "_law_vector", "_law_pair", "_law_k"]) (m := B_law_cuts) Fd sc_law_cuts (fun cdv A outer s H E hr => ?_), T.glo "_law_cuts" 49 rfl, Fd.kp, FunD.bindsN Fd fun _ _ _ _ _ _ us hl => match us, hl with | [_, _], _ => rfl⟩
  exact jss_cons (js_set (fun he => ps_set (i := 2) sc_law_cuts.nd rfl (Or.inl rfl) he) (je_val (jf_lst (ja_cons (je_tup (ja_nil)) (ja_nil)))))
      (jss_cons (js_for (vs := [3]) PassesOwn.never rfl (ji_it (je_var (pv 1))) (jg_name (pg_name sc_law_cuts.nd rfl (by first | exact Or.inl rfl | exact Or.inr rfl))) (jss_cons (js_set (fun he => ps_set (i := 7) sc_law_cuts.nd rfl (Or.inl rfl) he) (je_val (jf_lst (ja_nil))))
      (jss_cons (js_for (vs := [8]) PassesOwn.never rfl (ji_it (je_var (pv 2))) (jg_name (pg_name sc_law_cuts.nd rfl (by first | exact Or.inl rfl | exact Or.inr rfl))) (jss_one (js_set (fun he => ps_set (i := 7) sc_law_cuts.nd rfl (Or.inl rfl) he) (je_bin o_add (je_var (pv 7)) (je_val (jf_comp (own := [("_law_k", 10)]) rfl sc_law_cuts.nd (ji_rng1 (by rfl) (T.free "range" 6 rfl) (ja_cons (je_bin o_add (je_cb c_len (by rfl) (T.free "len" 4 rfl) bb_len (ja_cons (je_var (pv 3)) (ja_nil))) (je_int)) (ja_nil))) (blkOk_by (N := ["_law_net_here", "_law_told_here", "_law_vectors", "_law_row", "_law_found", "_law_rows", "_law_total", "_law_longer", "_law_vector", "_law_pair", "_law_k"]) (sc := defScope (top 48)) (by decide +kernel)) rfl (fun _ _ _ _ _ => jg_name (pg_name sc_law_cuts.nd rfl (by first | exact Or.inl rfl | exact Or.inr rfl))) (fun _ _ _ _ _ => jts_nil) (fun _ _ _ _ _ => je_bin o_add (je_var (pv 8)) (je_tup (ja_cons (je_var (pv 10)) (ja_nil))))))))))
      (jss_one (js_set (fun he => ps_set (i := 2) sc_law_cuts.nd rfl (Or.inl rfl) he) (je_var (pv 7)))))))
      (jss_cons (js_asgF (js_setLc (i := 4) (own := [("_law_vector", 8)]) rfl sc_law_cuts.nd rfl rfl (sw_true rfl rfl rfl (by decide +kernel)) (ji_it (je_var (pv 2))) (blkOk_by (N := ["_law_net_here", "_law_told_here", "_law_vectors", "_law_row", "_law_found", "_law_rows", "_law_total", "_law_longer", "_law_vector", "_law_pair", "_law_k"]) (sc := defScope (top 48)) (by decide +kernel)) rfl (fun _ _ _ _ _ => jg_name (pg_name sc_law_cuts.nd rfl (by first | exact Or.inl rfl | exact Or.inr rfl))) (fun _ _ _ _ _ => jts_nil) (fun _ _ _ _ _ => je_tup (ja_cons (je_var (pv 8)) (ja_cons (je_own (ps := ["_law_net_here", "_law_told_here", "_law_cut"]) (ok_law_world T) hr (by decide) (by rfl) (ja_cons (je_var (pv 0)) (ja_cons (je_var (pv 1)) (ja_cons (je_var (pv 8)) (ja_nil))))) (ja_nil))))))
      (jss_cons (js_set (fun he => ps_set (i := 5) sc_law_cuts.nd rfl (Or.inl rfl) he) (je_val (jf_lst (ja_nil))))
      (jss_cons (js_for (vs := [6]) PassesOwn.never rfl (ji_rng1 (by rfl) (T.free "range" 6 rfl) (ja_cons (je_bin o_add (je_cb (c_sum rfl) (by rfl) (T.free "sum" 48 rfl) bb_sum (ja_cons (je_val (jf_comp (own := [("_law_row", 3)]) rfl sc_law_cuts.nd (ji_it (je_var (pv 1))) (blkOk_by (N := ["_law_net_here", "_law_told_here", "_law_vectors", "_law_row", "_law_found", "_law_rows", "_law_total", "_law_longer", "_law_vector", "_law_pair", "_law_k"]) (sc := defScope (top 48)) (by decide +kernel)) rfl (fun _ _ _ _ _ => jg_name (pg_name sc_law_cuts.nd rfl (by first | exact Or.inl rfl | exact Or.inr rfl))) (fun _ _ _ _ _ => jts_nil) (fun _ _ _ _ _ => je_cb c_len (by rfl) (T.free "len" 4 rfl) bb_len (ja_cons (je_var (pv 3)) (ja_nil))))) (ja_nil))) (je_int)) (ja_nil))) (jg_name (pg_name sc_law_cuts.nd rfl (by first | exact Or.inl rfl | exact Or.inr rfl))) (jss_one (js_set (fun he => ps_set (i := 5) sc_law_cuts.nd rfl (Or.inl rfl) he) (je_bin o_add (je_var (pv 5)) (je_val (jf_comp (own := [("_law_pair", 9)]) rfl sc_law_cuts.nd (ji_it (je_var (pv 4))) (blkOk_by (N := ["_law_net_here", "_law_told_here", "_law_vectors", "_law_row", "_law_found", "_law_rows", "_law_total", "_law_longer", "_law_vector", "_law_pair", "_law_k"]) (sc := defScope (top 48)) (by decide +kernel)) rfl (fun _ _ _ _ _ => jg_name (pg_name sc_law_cuts.nd rfl (by first | exact Or.inl rfl | exact Or.inr rfl))) (fun _ _ _ _ _ => jts_one (jt_w (jw_and (jt_cmp o_isnot (je_ix (je_var (pv 9)) (je_int)) (je_non) (nomark _)) (jw_and1 (jt_cmp (o_eq hr.units) (je_cb (c_sum rfl) (by rfl) (T.free "sum" 48 rfl) bb_sum (ja_cons (je_ix (je_var (pv 9)) (je_int)) (ja_nil))) (je_var (pv 6)) (nomark _)))))) (fun _ _ _ _ _ => je_var (pv 9))))))))
      (jss_one (js_ret (je_var (pv 5))))))))
theorem sc_law_hidden : FnScope ["_law_pool_here", "_law_kind", "_law_many", "_law_rules", "_law_k"] ["_law_pool_here"] (defScope (top 54)) := ⟨rfl, rfl, rfl, by decide +kernel, rfl, by decide +kernel, by decide +kernel⟩
theorem ok_law_hidden {P : Program} {w : World} {K : PySem.W.Frag} {mg : Str → Option Value} {base : Heap} (T : Tx K mg) : Cal P w K mg base "_law_hidden" 4 ["_law_pool_here"] F_law_hidden := by
  obtain ⟨fd, Fd⟩ := T.c.d.def_ 26 (d := d_law_hidden) rfl
  refine ⟨_, fd, fn_ok (k := 3) (N := ["_law_pool_here", "_law_kind", "_law_many", "_law_rules", "_law_k"]) (m := B_law_hidden) Fd sc_law_hidden (fun cdv A outer s H E hr => ?_), T.glo "_law_hidden" 50 rfl, Fd.kp, FunD.bindsN Fd fun _ _ _ _ _ _ us hl => match us, hl with | [_], _ => rfl⟩
  exact jss_cons (js_set (fun he => ps_set (i := 1) sc_law_hidden.nd rfl (Or.inl rfl) he) (je_ix (je_val (jf_lst (ja_cons (je_str) (ja_cons (je_str) (ja_cons (je_str) (ja_cons (je_str) (ja_nil))))))) (je_own (ps := ["_law_pool_here", "_law_many"]) (ok_law_draw T) hr (by decide) (by rfl) (ja_cons (je_var (pv 0)) (ja_cons (je_int) (ja_nil))))))
      (jss_cons (js_set (fun he => ps_set (i := 2) sc_law_hidden.nd rfl (Or.inl rfl) he) (je_bin o_add (je_int) (je_own (ps := ["_law_pool_here", "_law_many"]) (ok_law_draw T) hr (by decide) (by rfl) (ja_cons (je_var (pv 0)) (ja_cons (je_int) (ja_nil))))))
      (jss_cons (js_asgF (js_setLc (i := 3) (own := [("_law_k", 4)]) rfl sc_law_hidden.nd rfl rfl (sw_true rfl rfl rfl (by decide +kernel)) (ji_rng1 (by rfl) (T.free "range" 6 rfl) (ja_cons (je_var (pv 2)) (ja_nil))) (blkOk_by (N := ["_law_pool_here", "_law_kind", "_law_many", "_law_rules", "_law_k"]) (sc := defScope (top 54)) (by decide +kernel)) rfl (fun _ _ _ _ _ => jg_name (pg_name sc_law_hidden.nd rfl (by first | exact Or.inl rfl | exact Or.inr rfl))) (fun _ _ _ _ _ => jts_nil) (fun _ _ _ _ _ => je_tup (ja_cons (je_int) (ja_cons (je_var (pv 4)) (ja_cons (je_tup (ja_cons (je_str) (ja_cons (je_int) (ja_cons (je_own (ps := ["_law_pool_here", "_law_row"]) (ok_law_picked T) hr (by decide) (by rfl) (ja_cons (je_var (pv 0)) (ja_cons (je_val (jf_lst (ja_cons (je_int) (ja_cons (je_int) (ja_nil))))) (ja_nil)))) (ja_nil))))) (ja_cons (je_bin o_add (je_var (pv 4)) (je_int)) (ja_nil))))))))
      (jss_cons (js_set (fun he => ps_set (i := 3) sc_law_hidden.nd rfl (Or.inl rfl) he) (je_bin o_add (je_var (pv 3)) (je_val (jf_lst (ja_cons (je_tup (ja_cons (je_int) (ja_cons (je_var (pv 2)) (ja_cons (je_tup (ja_cons (je_str) (ja_cons (je_int) (ja_cons (je_int) (ja_nil))))) (ja_cons (je_bin o_add (je_var (pv 2)) (je_int)) (ja_nil)))))) (ja_cons (je_tup (ja_cons (je_int) (ja_cons (je_int) (ja_cons (je_tup (ja_cons (je_str) (ja_cons (je_int) (ja_cons (je_int) (ja_nil))))) (ja_cons (je_int) (ja_nil)))))) (ja_nil)))))))
      (jss_one (js_ret (je_tup (ja_cons (je_tup (ja_cons (je_tup (ja_cons (je_str) (ja_cons (je_bin o_add (je_var (pv 2)) (je_int)) (ja_nil)))) (ja_cons (je_tup (ja_cons (je_str) (ja_cons (je_int) (ja_nil)))) (ja_nil)))) (ja_cons (je_tup (ja_cons (je_tup (ja_cons (je_str) (ja_cons (je_int) (ja_cons (je_int) (ja_cons (je_var (pv 1)) (ja_nil)))))) (ja_nil))) (ja_cons (je_ct c_tuple (by rfl) (T.free "tuple" 10 rfl) bb_tuple (ja_cons (je_var (pv 3)) (ja_nil))) (ja_nil))))))))))
theorem sc_can_take : FnScope ["net", "world", "channel", "token", "row", "pair"] ["net", "world", "channel", "token"] (defScope (top 28)) := ⟨rfl, rfl, rfl, by decide +kernel, rfl, by decide +kernel, by decide +kernel⟩
theorem ok_can_take {P : Program} {w : World} {K : PySem.W.Frag} {mg : Str → Option Value} {base : Heap} (T : Tx K mg) : Cal P w K mg base "can_take" 1 ["net", "world", "channel", "token"] F_can_take := by
  obtain ⟨fd, Fd⟩ := T.c.d.def_ 27 (d := d_can_take) rfl
  refine ⟨_, fd, fn_ok (k := 0) (N := ["net", "world", "channel", "token", "row", "pair"]) (m := B_can_take) Fd sc_can_take (fun cdv A outer s H E hr => ?_), T.glo "can_take" 52 rfl, Fd.kp, FunD.bindsN Fd fun _ _ _ _ _ _ us hl => match us, hl with | [_, _, _, _], _ => rfl⟩
  exact jss_cons (js_set (fun he => ps_set (i := 4) sc_can_take.nd rfl (Or.inl rfl) he) (je_ix (je_ix (je_var (pv 1)) (je_int)) (je_var (pv 2))))
      (jss_cons (js_if (jt_cmp (o_eq hr.units) (je_ix (je_ix (je_fld (C := "Net") (je_var (pv 0)) (T.cls "Net" 34 rfl) (T.noat "Net" "channels" 36 rfl)) (je_var (pv 2))) (je_int)) (je_str) (nomark _)) (jss_one (js_set (fun he => ps_set (i := 4) sc_can_take.nd rfl (Or.inl rfl) he) (je_slc (je_var (pv 4)) (jp_no) (jp_at (je_int))))) (jss_nil))
      (jss_one (js_ret (je_cb (c_any rfl) (by rfl) (T.free "any" 51 rfl) bb_any (ja_cons (je_val (jf_comp (own := [("pair", 5)]) rfl sc_can_take.nd (ji_it (je_var (pv 4))) (blkOk_by (N := ["net", "world", "channel", "token", "row", "pair"]) (sc := defScope (top 28)) (by decide +kernel)) rfl (fun _ _ _ _ _ => jg_name (pg_name sc_can_take.nd rfl (by first | exact Or.inl rfl | exact Or.inr rfl))) (fun _ _ _ _ _ => jts_nil) (fun _ _ _ _ _ => je_cmp (o_eq hr.units) (je_ix (je_var (pv 5)) (je_int)) (je_var (pv 3)) (nomark _)))) (ja_nil))))))
theorem sc_still : FnScope ["net", "world", "process", "state", "act", "_"] ["net", "world"] (defScope (top 29)) := ⟨rfl, rfl, rfl, by decide +kernel, rfl, by decide +kernel, by decide +kernel⟩
theorem ok_still {P : Program} {w : World} {K : PySem.W.Frag} {mg : Str → Option Value} {base : Heap} (T : Tx K mg) : Cal P w K mg base "still" 2 ["net", "world"] F_still := by
  obtain ⟨fd, Fd⟩ := T.c.d.def_ 28 (d := d_still) rfl
  refine ⟨_, fd, fn_ok (k := 1) (N := ["net", "world", "process", "state", "act", "_"]) (m := B_still) Fd sc_still (fun cdv A outer s H E hr => ?_), T.glo "still" 53 rfl, Fd.kp, FunD.bindsN Fd fun _ _ _ _ _ _ us hl => match us, hl with | [_, _], _ => rfl⟩
  exact jss_cons (js_for (vs := [2, 3, 4, 5]) PassesOwn.never rfl (ji_it (je_fld (C := "Net") (je_var (pv 0)) (T.cls "Net" 34 rfl) (T.noat "Net" "rules" 37 rfl))) (jg_tup rfl (jgs_cons (jg_name (pg_name sc_still.nd rfl (by first | exact Or.inl rfl | exact Or.inr rfl))) (jgs_cons (jg_name (pg_name sc_still.nd rfl (by first | exact Or.inl rfl | exact Or.inr rfl))) (jgs_cons (jg_name (pg_name sc_still.nd rfl (by first | exact Or.inl rfl | exact Or.inr rfl))) (jgs_cons (jg_name (pg_name sc_still.nd rfl (by first | exact Or.inl rfl | exact Or.inr rfl))) (jgs_nil)))))) (jss_one (js_if (jt_w (jw_and (jt_cmp (o_eq hr.units) (je_ix (je_ix (je_var (pv 1)) (je_int)) (je_var (pv 2))) (je_var (pv 3)) (nomark _)) (jw_and1 (jt_w (jw_or (jt_cmp (o_ne hr.units) (je_ix (je_var (pv 4)) (je_int)) (je_str) (nomark _)) (jw_or1 (jt_val (je_own (ps := ["net", "world", "channel", "token"]) (ok_can_take T) hr (by decide) (by rfl) (ja_cons (je_var (pv 0)) (ja_cons (je_var (pv 1)) (ja_cons (je_ix (je_var (pv 4)) (je_int)) (ja_cons (je_ix (je_var (pv 4)) (je_int)) (ja_nil))))))))))))) (jss_one (js_ret (je_bl))) (jss_nil))))
      (jss_one (js_ret (je_bl)))
theorem okK_still {P : Program} {w : World} {K : PySem.W.Frag} {mg : Str → Option Value} {base : Heap} (T : Tx K mg) : CalK P w K mg base "still" 2 ["net", "world"] F_still := by
  obtain ⟨fd, Fd⟩ := T.c.d.def_ 28 (d := d_still) rfl
  refine ⟨_, fd, fn_ok (k := 1) (N := ["net", "world", "process", "state", "act", "_"]) (m := B_still) Fd sc_still (fun cdv A outer s H E hr => ?_), T.glo "still" 53 rfl, Fd.kp, fun ws hl s => bindsK Fd (fun _ _ _ _ _ _ ws hl => match ws, hl with | [_, _], _ => rfl) ws hl s⟩
  exact jss_cons (js_for (vs := [2, 3, 4, 5]) PassesOwn.never rfl (ji_it (je_fld (C := "Net") (je_var (pv 0)) (T.cls "Net" 34 rfl) (T.noat "Net" "rules" 37 rfl))) (jg_tup rfl (jgs_cons (jg_name (pg_name sc_still.nd rfl (by first | exact Or.inl rfl | exact Or.inr rfl))) (jgs_cons (jg_name (pg_name sc_still.nd rfl (by first | exact Or.inl rfl | exact Or.inr rfl))) (jgs_cons (jg_name (pg_name sc_still.nd rfl (by first | exact Or.inl rfl | exact Or.inr rfl))) (jgs_cons (jg_name (pg_name sc_still.nd rfl (by first | exact Or.inl rfl | exact Or.inr rfl))) (jgs_nil)))))) (jss_one (js_if (jt_w (jw_and (jt_cmp (o_eq hr.units) (je_ix (je_ix (je_var (pv 1)) (je_int)) (je_var (pv 2))) (je_var (pv 3)) (nomark _)) (jw_and1 (jt_w (jw_or (jt_cmp (o_ne hr.units) (je_ix (je_var (pv 4)) (je_int)) (je_str) (nomark _)) (jw_or1 (jt_val (je_own (ps := ["net", "world", "channel", "token"]) (ok_can_take T) hr (by decide) (by rfl) (ja_cons (je_var (pv 0)) (ja_cons (je_var (pv 1)) (ja_cons (je_ix (je_var (pv 4)) (je_int)) (ja_cons (je_ix (je_var (pv 4)) (je_int)) (ja_nil))))))))))))) (jss_one (js_ret (je_bl))) (jss_nil))))
      (jss_one (js_ret (je_bl)))
theorem sc_law_still : FnScope ["_law_net_here", "_law_world_here", "_law_p", "_law_s", "_law_act", "_law_then", "_law_pairs", "_law_pair"] ["_law_net_here", "_law_world_here"] (defScope (top 50)) := ⟨rfl, rfl, rfl, by decide +kernel, rfl, by decide +kernel, by decide +kernel⟩
theorem ok_law_still {P : Program} {w : World} {K : PySem.W.Frag} {mg : Str → Option Value} {base : Heap} (T : Tx K mg) : Cal P w K mg base "_law_still" 1 ["_law_net_here", "_law_world_here"] F_law_still := by
  obtain ⟨fd, Fd⟩ := T.c.d.def_ 29 (d := d_law_still) rfl
  refine ⟨_, fd, fn_ok (k := 0) (N := ["_law_net_here", "_law_world_here", "_law_p", "_law_s", "_law_act", "_law_then", "_law_pairs", "_law_pair"]) (m := B_law_still) Fd sc_law_still (fun cdv A outer s H E hr => ?_), T.glo "_law_still" 54 rfl, Fd.kp, FunD.bindsN Fd fun _ _ _ _ _ _ us hl => match us, hl with | [_, _], _ => rfl⟩
  exact jss_cons (js_for (vs := [2, 3, 4, 5]) PassesOwn.never rfl (ji_it (je_ix (je_var (pv 0)) (je_int))) (jg_tup rfl (jgs_cons (jg_name (pg_name sc_law_still.nd rfl (by first | exact Or.inl rfl | exact Or.inr rfl))) (jgs_cons (jg_name (pg_name sc_law_still.nd rfl (by first | exact Or.inl rfl | exact Or.inr rfl))) (jgs_cons (jg_name (pg_name sc_law_still.nd rfl (by first | exact Or.inl rfl | exact Or.inr rfl))) (jgs_cons (jg_name (pg_name sc_law_still.nd rfl (by first | exact Or.inl rfl | exact Or.inr rfl))) (jgs_nil)))))) (jss_one (js_if (jt_cmp (o_eq hr.units) (je_ix (je_ix (je_var (pv 1)) (je_int)) (je_var (pv 2))) (je_var (pv 3)) (nomark _)) (jss_cons (js_if (jt_cmp (o_ne hr.units) (je_ix (je_var (pv 4)) (je_int)) (je_str) (nomark _)) (jss_one (js_ret (je_bl))) (jss_nil))
      (jss_cons (js_set (fun he => ps_set (i := 6) sc_law_still.nd rfl (Or.inl rfl) he) (je_ix (je_ix (je_var (pv 1)) (je_int)) (je_ix (je_var (pv 4)) (je_int))))
      (jss_cons (js_if (jt_cmp (o_eq hr.units) (je_ix (je_ix (je_ix (je_var (pv 0)) (je_int)) (je_ix (je_var (pv 4)) (je_int))) (je_int)) (je_str) (nomark _)) (jss_one (js_set (fun he => ps_set (i := 6) sc_law_still.nd rfl (Or.inl rfl) he) (je_slc (je_var (pv 6)) (jp_no) (jp_at (je_int))))) (jss_nil))
      (jss_one (js_if (jt_cmp o_gt (je_cb c_len (by rfl) (T.free "len" 4 rfl) bb_len (ja_cons (je_val (jf_comp (own := [("_law_pair", 7)]) rfl sc_law_still.nd (ji_it (je_var (pv 6))) (blkOk_by (N := ["_law_net_here", "_law_world_here", "_law_p", "_law_s", "_law_act", "_law_then", "_law_pairs", "_law_pair"]) (sc := defScope (top 50)) (by decide +kernel)) rfl (fun _ _ _ _ _ => jg_name (pg_name sc_law_still.nd rfl (by first | exact Or.inl rfl | exact Or.inr rfl))) (fun _ _ _ _ _ => jts_one (jt_cmp (o_eq hr.units) (je_ix (je_var (pv 7)) (je_int)) (je_ix (je_var (pv 4)) (je_int)) (nomark _))) (fun _ _ _ _ _ => je_var (pv 7)))) (ja_nil))) (je_int) (nomark _)) (jss_one (js_ret (je_bl))) (jss_nil)))))) (jss_nil))))
      (jss_one (js_ret (je_bl)))
theorem sc_law_by_losses : FnScope ["_law_net_here", "_law_world_here", "_law_worlds", "_law_at", "_law_deed", "_law_after"] ["_law_net_here", "_law_world_here"] (defScope (top 51)) := ⟨rfl, rfl, rfl, by decide +kernel, rfl, by decide +kernel, by decide +kernel⟩
theorem ok_law_by_losses {P : Program} {w : World} {K : PySem.W.Frag} {mg : Str → Option Value} {base : Heap} (T : Tx K mg) : Cal P w K mg base "_law_by_losses" 3 ["_law_net_here", "_law_world_here"] F_law_by_losses := by
  obtain ⟨fd, Fd⟩ := T.c.d.def_ 30 (d := d_law_by_losses) rfl
  refine ⟨_, fd, fn_ok (k := 2) (N := ["_law_net_here", "_law_world_here", "_law_worlds", "_law_at", "_law_deed", "_law_after"]) (m := B_law_by_losses) Fd sc_law_by_losses (fun cdv A outer s H E hr => ?_), T.glo "_law_by_losses" 55 rfl, Fd.kp, FunD.bindsN Fd fun _ _ _ _ _ _ us hl => match us, hl with | [_, _], _ => rfl⟩
  exact jss_cons (js_set (fun he => ps_set (i := 2) sc_law_by_losses.nd rfl (Or.inl rfl) he) (je_new (jf_lst (ja_cons (je_var (pv 1)) (ja_nil)))))
      (jss_cons (js_set (fun he => ps_set (i := 3) sc_law_by_losses.nd rfl (Or.inl rfl) he) (je_int))
      (jss_cons (js_wh 100 PassesOwn.never (jt_cmp o_lt (je_var (pv 3)) (je_cb c_len (by rfl) (T.free "len" 4 rfl) bb_len (ja_cons (je_var (pv 2)) (ja_nil))) (nomark _)) (jss_cons (js_for (vs := [4]) PassesOwn.never rfl (ji_it (je_own (ps := ["_law_net_here", "_law_world_here"]) (ok_law_possible T) hr (by decide) (by rfl) (ja_cons (je_var (pv 0)) (ja_cons (je_ix (je_var (pv 2)) (je_var (pv 3))) (ja_nil))))) (jg_name (pg_name sc_law_by_losses.nd rfl (by first | exact Or.inl rfl | exact Or.inr rfl))) (jss_cons (js_if (jt_cmp (o_ne hr.units) (je_ix (je_var (pv 4)) (je_int)) (je_str) (nomark _)) (jss_one (js_ret (je_bl))) (jss_nil))
      (jss_cons (js_set (fun he => ps_set (i := 5) sc_law_by_losses.nd rfl (Or.inl rfl) he) (je_own (ps := ["_law_net_here", "_law_world_here", "_law_deed"]) (ok_law_done T) hr (by decide) (by rfl) (ja_cons (je_var (pv 0)) (ja_cons (je_ix (je_var (pv 2)) (je_var (pv 3))) (ja_cons (je_var (pv 4)) (ja_nil))))))
      (jss_one (js_if (jt_cmp (o_notin (Room.units65 hr)) (je_var (pv 5)) (je_var (pv 2)) (by with_unfolding_all rfl)) (jss_one (js_expr (je_m PySem.F.plainAttrs_list PySem.F.slot_list_append PySem.F.type_list_append m_app (je_var (pv 2)) (ja_cons (je_var (pv 5)) (ja_nil))))) (jss_nil))))))
      (jss_cons (js_set (fun he => ps_set (i := 3) sc_law_by_losses.nd rfl (Or.inl rfl) he) (je_bin o_add (je_var (pv 3)) (je_int)))
      (jss_one (js_if (jt_cmp o_gt (je_cb c_len (by rfl) (T.free "len" 4 rfl) bb_len (ja_cons (je_var (pv 2)) (ja_nil))) (je_int) (nomark _)) (jss_one (js_ret (je_non))) (jss_nil))))))
      (jss_one (js_ret (je_bl)))))
theorem sc_law_listed : FnScope ["_law_pool_here", "_law_value", "_law_parts", "_law_part"] ["_law_pool_here", "_law_value"] (defScope (top 49)) := ⟨rfl, rfl, rfl, by decide +kernel, rfl, by decide +kernel, by decide +kernel⟩
theorem ok_law_listed {P : Program} {w : World} {K : PySem.W.Frag} {mg : Str → Option Value} {base : Heap} (T : Tx K mg) : ∀ n : Nat, Cal P w K mg base "_law_listed" (2 + n) ["_law_pool_here", "_law_value"] (F_law_listed n) := by
  obtain ⟨fd, Fd⟩ := T.c.d.def_ 31 (d := d_law_listed) rfl
  intro n
  induction n with
  | zero => exact ⟨_, fd, fn_ok_none, T.glo "_law_listed" 56 rfl, Fd.kp, FunD.bindsN Fd fun _ _ _ _ _ _ us hl => match us, hl with | [_, _], _ => rfl⟩
  | succ n ih =>
    refine ⟨_, fd, fn_ok (k := 2 + n) (N := ["_law_pool_here", "_law_value", "_law_parts", "_law_part"]) (m := B_law_listed (F_law_listed n)) Fd sc_law_listed (fun cdv A outer s H E hr => ?_), T.glo "_law_listed" 56 rfl, Fd.kp, FunD.bindsN Fd fun _ _ _ _ _ _ us hl => match us, hl with | [_, _], _ => rfl⟩
    exact jss_cons (js_if (jt_not (jt_val (je_isi (je_var (pv 1)) (by rfl) (T.free "isinstance" 12 rfl) (by rfl) (T.free "tuple" 10 rfl) bb_tuple))) (jss_one (js_ret (je_var (pv 1)))) (jss_nil))
      (jss_cons (js_asgF (js_setLc (i := 2) (own := [("_law_part", 3)]) rfl sc_law_listed.nd rfl rfl (sw_true rfl rfl rfl (by decide +kernel)) (ji_it (je_var (pv 1))) (blkOk_by (N := ["_law_pool_here", "_law_value", "_law_parts", "_law_part"]) (sc := defScope (top 49)) (by decide +kernel)) rfl (fun _ _ _ _ _ => jg_name (pg_name sc_law_listed.nd rfl (by first | exact Or.inl rfl | exact Or.inr rfl))) (fun _ _ _ _ _ => jts_nil) (fun _ _ _ _ _ => je_own (ps := ["_law_pool_here", "_law_value"]) ih hr (Nat.le_refl _) (by rfl) (ja_cons (je_var (pv 0)) (ja_cons (je_var (pv 3)) (ja_nil))))))
      (jss_cons (js_if (jt_cmp (o_eq hr.units) (je_own (ps := ["_law_pool_here", "_law_many"]) (ok_law_draw T) hr (by omega) (by rfl) (ja_cons (je_var (pv 0)) (ja_cons (je_int) (ja_nil)))) (je_int) (nomark _)) (jss_one (js_ret (je_var (pv 2)))) (jss_nil))
      (jss_one (js_ret (je_ct c_tuple (by rfl) (T.free "tuple" 10 rfl) bb_tuple (ja_cons (je_var (pv 2)) (ja_nil)))))))
theorem sc_law_same : FnScope ["_law_actual", "_law_due", "_law_k"] ["_law_actual", "_law_due"] (defScope (top 36)) := ⟨rfl, rfl, rfl, by decide +kernel, rfl, by decide +kernel, by decide +kernel⟩
theorem ok_law_same {P : Program} {w : World} {K : PySem.W.Frag} {mg : Str → Option Value} {base : Heap} (T : Tx K mg) : ∀ n : Nat, Cal P w K mg base "_law_same" (1 + n) ["_law_actual", "_law_due"] (F_law_same n) := by
  obtain ⟨fd, Fd⟩ := T.c.d.def_ 32 (d := d_law_same) rfl
  intro n
  induction n with
  | zero => exact ⟨_, fd, fn_ok_none, T.glo "_law_same" 57 rfl, Fd.kp, FunD.bindsN Fd fun _ _ _ _ _ _ us hl => match us, hl with | [_, _], _ => rfl⟩
  | succ n ih =>
    refine ⟨_, fd, fn_ok (k := 1 + n) (N := ["_law_actual", "_law_due", "_law_k"]) (m := B_law_same (F_law_same n)) Fd sc_law_same (fun cdv A outer s H E hr => ?_), T.glo "_law_same" 57 rfl, Fd.kp, FunD.bindsN Fd fun _ _ _ _ _ _ us hl => match us, hl with | [_, _], _ => rfl⟩
    exact jss_cons (js_if (jt_cmp o_is (je_var (pv 1)) (je_non) (nomark _)) (jss_one (js_ret (je_cmp o_is (je_var (pv 0)) (je_non) (nomark _)))) (jss_nil))
      (jss_cons (js_if (jt_val (je_isi (je_var (pv 1)) (by rfl) (T.free "isinstance" 12 rfl) (by rfl) (T.free "tuple" 10 rfl) bb_tuple)) (jss_cons (js_if (jt_w (jw_or (jt_not (jt_val (je_isi (je_var (pv 0)) (by rfl) (T.free "isinstance" 12 rfl) (by rfl) (T.free "tuple" 10 rfl) bb_tuple))) (jw_or1 (jt_cmp (o_ne hr.units) (je_cb c_len (by rfl) (T.free "len" 4 rfl) bb_len (ja_cons (je_var (pv 0)) (ja_nil))) (je_cb c_len (by rfl) (T.free "len" 4 rfl) bb_len (ja_cons (je_var (pv 1)) (ja_nil))) (nomark _))))) (jss_one (js_ret (je_bl))) (jss_nil))
      (jss_cons (js_for (vs := [2]) PassesOwn.never rfl (ji_rng1 (by rfl) (T.free "range" 6 rfl) (ja_cons (je_cb c_len (by rfl) (T.free "len" 4 rfl) bb_len (ja_cons (je_var (pv 1)) (ja_nil))) (ja_nil))) (jg_name (pg_name sc_law_same.nd rfl (by first | exact Or.inl rfl | exact Or.inr rfl))) (jss_one (js_if (jt_not (jt_val (je_own (ps := ["_law_actual", "_law_due"]) ih hr (Nat.le_refl _) (by rfl) (ja_cons (je_ix (je_var (pv 0)) (je_var (pv 2))) (ja_cons (je_ix (je_var (pv 1)) (je_var (pv 2))) (ja_nil)))))) (jss_one (js_ret (je_bl))) (jss_nil))))
      (jss_one (js_ret (je_bl))))) (jss_nil))
      (jss_cons (js_if (jt_val (je_isi (je_var (pv 1)) (by rfl) (T.free "isinstance" 12 rfl) (by rfl) (T.free "bool" 20 rfl) bb_bool)) (jss_one (js_ret (je_and (je_isi (je_var (pv 0)) (by rfl) (T.free "isinstance" 12 rfl) (by rfl) (T.free "bool" 20 rfl) bb_bool) (je_one (je_cmp (o_eq hr.units) (je_var (pv 0)) (je_var (pv 1)) (nomark _)))))) (jss_nil))
      (jss_cons (js_if (jt_val (je_isi (je_var (pv 1)) (by rfl) (T.free "isinstance" 12 rfl) (by rfl) (T.free "int" 2 rfl) bb_int)) (jss_one (js_ret (je_and (je_isi (je_var (pv 0)) (by rfl) (T.free "isinstance" 12 rfl) (by rfl) (T.free "int" 2 rfl) bb_int) (je_and (je_not (je_isi (je_var (pv 0)) (by rfl) (T.free "isinstance" 12 rfl) (by rfl) (T.free "bool" 20 rfl) bb_bool)) (je_one (je_cmp (o_eq hr.units) (je_var (pv 0)) (je_var (pv 1)) (nomark _))))))) (jss_nil))
      (jss_cons (js_if (jt_val (je_isi (je_var (pv 1)) (by rfl) (T.free "isinstance" 12 rfl) (by rfl) (T.free "list" 0 rfl) bb_list)) (jss_one (js_ret (je_and (je_isi (je_var (pv 0)) (by rfl) (T.free "isinstance" 12 rfl) (by rfl) (T.free "list" 0 rfl) bb_list) (je_one (je_own (ps := ["_law_actual", "_law_due"]) ih hr (Nat.le_refl _) (by rfl) (ja_cons (je_ct c_tuple (by rfl) (T.free "tuple" 10 rfl) bb_tuple (ja_cons (je_var (pv 0)) (ja_nil))) (ja_cons (je_ct c_tuple (by rfl) (T.free "tuple" 10 rfl) bb_tuple (ja_cons (je_var (pv 1)) (ja_nil))) (ja_nil)))))))) (jss_nil))
      (jss_one (js_ret (je_and (je_isi (je_var (pv 0)) (by rfl) (T.free "isinstance" 12 rfl) (by rfl) (T.free "str" 16 rfl) bb_str) (je_one (je_cmp (o_eq hr.units) (je_var (pv 0)) (je_var (pv 1)) (nomark _))))))))))
theorem sc_ended : FnScope ["net", "world", "row"] ["net", "world"] (defScope (top 30)) := ⟨rfl, rfl, rfl, by decide +kernel, rfl, by decide +kernel, by decide +kernel⟩
theorem ok_ended {P : Program} {w : World} {K : PySem.W.Frag} {mg : Str → Option Value} {base : Heap} (T : Tx K mg) : Cal P w K mg base "ended" 3 ["net", "world"] F_ended := by
  obtain ⟨fd, Fd⟩ := T.c.d.def_ 33 (d := d_ended) rfl
  refine ⟨_, fd, fn_ok (k := 2) (N := ["net", "world", "row"]) (m := B_ended) Fd sc_ended (fun cdv A outer s H E hr => ?_), T.glo "ended" 58 rfl, Fd.kp, FunD.bindsN Fd fun _ _ _ _ _ _ us hl => match us, hl with | [_, _], _ => rfl⟩
  exact jss_one (js_ret (je_and (je_own (ps := ["net", "world"]) (ok_still T) hr (by decide) (by rfl) (ja_cons (je_var (pv 0)) (ja_cons (je_var (pv 1)) (ja_nil)))) (je_one (je_cb (c_all rfl) (by rfl) (T.free "all" 14 rfl) bb_all (ja_cons (je_val (jf_comp (own := [("row", 2)]) rfl sc_ended.nd (ji_it (je_ix (je_var (pv 1)) (je_int))) (blkOk_by (N := ["net", "world", "row"]) (sc := defScope (top 30)) (by decide +kernel)) rfl (fun _ _ _ _ _ => jg_name (pg_name sc_ended.nd rfl (by first | exact Or.inl rfl | exact Or.inr rfl))) (fun _ _ _ _ _ => jts_nil) (fun _ _ _ _ _ => je_cmp (o_eq hr.units) (je_cb c_len (by rfl) (T.free "len" 4 rfl) bb_len (ja_cons (je_var (pv 2)) (ja_nil))) (je_int) (nomark _)))) (ja_nil))))))
theorem sc_law_is_told : FnScope ["_law_pool_here", "_law_made_here", "_law_net_here", "_law_world_here", "_law_due", "_law_walked", "_law_empty", "_law_handed", "_law_pairs"] ["_law_pool_here", "_law_made_here", "_law_net_here", "_law_world_here"] (defScope (top 52)) := ⟨rfl, rfl, rfl, by decide +kernel, rfl, by decide +kernel, by decide +kernel⟩
theorem ok_law_is_told {P : Program} {w : World} {K : PySem.W.Frag} {mg : Str → Option Value} {base : Heap} (T : Tx K mg) : Cal P w K mg base "_law_is_told" 11 ["_law_pool_here", "_law_made_here", "_law_net_here", "_law_world_here"] F_law_is_told := by
  obtain ⟨fd, Fd⟩ := T.c.d.def_ 34 (d := d_law_is_told) rfl
  refine ⟨_, fd, fn_ok (k := 10) (N := ["_law_pool_here", "_law_made_here", "_law_net_here", "_law_world_here", "_law_due", "_law_walked", "_law_empty", "_law_handed", "_law_pairs"]) (m := B_law_is_told) Fd sc_law_is_told (fun cdv A outer s H E hr => ?_), T.glo "_law_is_told" 59 rfl, Fd.kp, FunD.bindsN Fd fun _ _ _ _ _ _ us hl => match us, hl with | [_, _, _, _], _ => rfl⟩
  exact jss_cons (js_set (fun he => ps_set (i := 4) sc_law_is_told.nd rfl (Or.inl rfl) he) (je_own (ps := ["_law_net_here", "_law_world_here"]) (ok_law_still T) hr (by decide) (by rfl) (ja_cons (je_var (pv 2)) (ja_cons (je_var (pv 3)) (ja_nil)))))
      (jss_cons (js_set (fun he => ps_set (i := 5) sc_law_is_told.nd rfl (Or.inl rfl) he) (je_own (ps := ["_law_net_here", "_law_world_here"]) (ok_law_by_losses T) hr (by decide) (by rfl) (ja_cons (je_var (pv 2)) (ja_cons (je_var (pv 3)) (ja_nil)))))
      (jss_cons (js_if (jt_w (jw_and (jt_cmp o_isnot (je_var (pv 5)) (je_non) (nomark _)) (jw_and1 (jt_cmp (o_ne hr.units) (je_var (pv 5)) (je_var (pv 4)) (nomark _))))) (jss_one (js_ret (je_bl))) (jss_nil))
      (jss_cons (js_set (fun he => ps_set (i := 6) sc_law_is_told.nd rfl (Or.inl rfl) he) (je_cmp (o_eq hr.units) (je_cb c_len (by rfl) (T.free "len" 4 rfl) bb_len (ja_cons (je_val (jf_comp (own := [("_law_pairs", 8)]) rfl sc_law_is_told.nd (ji_it (je_ix (je_var (pv 3)) (je_int))) (blkOk_by (N := ["_law_pool_here", "_law_made_here", "_law_net_here", "_law_world_here", "_law_due", "_law_walked", "_law_empty", "_law_handed", "_law_pairs"]) (sc := defScope (top 52)) (by decide +kernel)) rfl (fun _ _ _ _ _ => jg_name (pg_name sc_law_is_told.nd rfl (by first | exact Or.inl rfl | exact Or.inr rfl))) (fun _ _ _ _ _ => jts_one (jt_cmp o_gt (je_cb c_len (by rfl) (T.free "len" 4 rfl) bb_len (ja_cons (je_var (pv 8)) (ja_nil))) (je_int) (nomark _))) (fun _ _ _ _ _ => je_var (pv 8)))) (ja_nil))) (je_int) (nomark _)))
      (jss_cons (js_set (fun he => ps_set (i := 7) sc_law_is_told.nd rfl (Or.inl rfl) he) (je_own (ps := ["_law_pool_here", "_law_value"]) (ok_law_listed T 8) hr (by decide) (by rfl) (ja_cons (je_var (pv 0)) (ja_cons (je_var (pv 3)) (ja_nil)))))
      (jss_one (js_ret (je_and (je_own (ps := ["_law_actual", "_law_due"]) (ok_law_same T 8) hr (by decide) (by rfl) (ja_cons (je_ownK (ps := ["net", "world"]) (okK_still T) hr (by decide) (by rfl) (jk_cons (je_var (pv 1)) (jk_cons (je_var (pv 7)) (jk_nil)))) (ja_cons (je_var (pv 4)) (ja_nil)))) (je_one (je_own (ps := ["_law_actual", "_law_due"]) (ok_law_same T 8) hr (by decide) (by rfl) (ja_cons (je_own (ps := ["net", "world"]) (ok_ended T) hr (by decide) (by rfl) (ja_cons (je_var (pv 1)) (ja_cons (je_var (pv 7)) (ja_nil)))) (ja_cons (je_and (je_var (pv 4)) (je_one (je_var (pv 6)))) (ja_nil))))))))))))
theorem sc_is_lossy : FnScope ["net", "channel"] ["net", "channel"] (defScope (top 23)) := ⟨rfl, rfl, rfl, by decide +kernel, rfl, by decide +kernel, by decide +kernel⟩
theorem ok_is_lossy {P : Program} {w : World} {K : PySem.W.Frag} {mg : Str → Option Value} {base : Heap} (T : Tx K mg) : Cal P w K mg base "is_lossy" 1 ["net", "channel"] F_is_lossy := by
  obtain ⟨fd, Fd⟩ := T.c.d.def_ 35 (d := d_is_lossy) rfl
  refine ⟨_, fd, fn_ok (k := 0) (N := ["net", "channel"]) (m := B_is_lossy) Fd sc_is_lossy (fun cdv A outer s H E hr => ?_), T.glo "is_lossy" 60 rfl, Fd.kp, FunD.bindsN Fd fun _ _ _ _ _ _ us hl => match us, hl with | [_, _], _ => rfl⟩
  exact jss_one (js_ret (je_cmp (o_in (Room.units65 hr)) (je_ix (je_ix (je_fld (C := "Net") (je_var (pv 0)) (T.cls "Net" 34 rfl) (T.noat "Net" "channels" 36 rfl)) (je_var (pv 1))) (je_int)) (je_tup (ja_cons (je_str) (ja_cons (je_str) (ja_nil)))) (by with_unfolding_all rfl)))
end K40

end

section
set_option Elab.async false
set_option linter.all false
set_option maxRecDepth 100000
set_option maxHeartbeats 4000000
namespace K40
open PySem PySem.Spec PyProof.Rows L2 DV
theorem sc_is_ordered : FnScope ["net", "channel"] ["net", "channel"] (defScope (top 24)) := ⟨rfl, rfl, rfl, by decide +kernel, rfl, by decide +kernel, by decide +kernel⟩
theorem ok_is_ordered {P : Program} {w : World} {K : PySem.W.Frag} {mg : Str → Option Value} {base : Heap} (T : Tx K mg) : Cal P w K mg base "is_ordered" 1 ["net", "channel"] F_is_ordered := by
  obtain ⟨fd, Fd⟩ := T.c.d.def_ 36 (d := d_is_ordered) rfl
  refine ⟨_, fd, fn_ok (k := 0) (N := ["net", "channel"]) (m := B_is_ordered) Fd sc_is_ordered (fun cdv A outer s H E hr => ?_), T.glo "is_ordered" 61 rfl, Fd.kp, FunD.bindsN Fd fun _ _ _ _ _ _ us hl => match us, hl with | [_, _], _ => rfl⟩
  exact jss_one (js_ret (je_cmp (o_in (Room.units65 hr)) (je_ix (je_ix (je_fld (C := "Net") (je_var (pv 0)) (T.cls "Net" 34 rfl) (T.noat "Net" "channels" 36 rfl)) (je_var (pv 1))) (je_int)) (je_tup (ja_cons (je_str) (ja_cons (je_str) (ja_nil)))) (by with_unfolding_all rfl)))
theorem sc_open_messages_of : FnScope ["net", "world", "channel", "present", "pair"] ["net", "world", "channel"] (defScope (top 25)) := ⟨rfl, rfl, rfl, by decide +kernel, rfl, by decide +kernel, by decide +kernel⟩
theorem ok_open_messages_of {P : Program} {w : World} {K : PySem.W.Frag} {mg : Str → Option Value} {base : Heap} (T : Tx K mg) : Cal P w K mg base "open_messages_of" 2 ["net", "world", "channel"] F_open_messages_of := by
  obtain ⟨fd, Fd⟩ := T.c.d.def_ 37 (d := d_open_messages_of) rfl
  refine ⟨_, fd, fn_ok (k := 1) (N := ["net", "world", "channel", "present", "pair"]) (m := B_open_messages_of) Fd sc_open_messages_of (fun cdv A outer s H E hr => ?_), T.glo "open_messages_of" 62 rfl, Fd.kp, FunD.bindsN Fd fun _ _ _ _ _ _ us hl => match us, hl with | [_, _, _], _ => rfl⟩
  exact jss_cons (js_set (fun he => ps_set (i := 3) sc_open_messages_of.nd rfl (Or.inl rfl) he) (je_ct c_tuple (by rfl) (T.free "tuple" 10 rfl) bb_tuple (ja_cons (je_val (jf_comp (own := [("pair", 4)]) rfl sc_open_messages_of.nd (ji_it (je_ix (je_ix (je_var (pv 1)) (je_int)) (je_var (pv 2)))) (blkOk_by (N := ["net", "world", "channel", "present", "pair"]) (sc := defScope (top 25)) (by decide +kernel)) rfl (fun _ _ _ _ _ => jg_name (pg_name sc_open_messages_of.nd rfl (by first | exact Or.inl rfl | exact Or.inr rfl))) (fun _ _ _ _ _ => jts_nil) (fun _ _ _ _ _ => je_ct c_tuple (by rfl) (T.free "tuple" 10 rfl) bb_tuple (ja_cons (je_var (pv 4)) (ja_nil))))) (ja_nil))))
      (jss_one (js_ret (je_if (jt_val (je_own (ps := ["net", "channel"]) (ok_is_ordered T) hr (by decide) (by rfl) (ja_cons (je_var (pv 0)) (ja_cons (je_var (pv 2)) (ja_nil))))) (je_slc (je_var (pv 3)) (jp_no) (jp_at (je_int))) (je_var (pv 3)))))
theorem sc_possible : FnScope ["net", "world", "found", "channel", "at", "rule", "row", "k", "_", "token"] ["net", "world"] (defScope (top 26)) := ⟨rfl, rfl, rfl, by decide +kernel, rfl, by decide +kernel, by decide +kernel⟩
theorem ok_possible {P : Program} {w : World} {K : PySem.W.Frag} {mg : Str → Option Value} {base : Heap} (T : Tx K mg) : Cal P w K mg base "possible" 3 ["net", "world"] F_possible := by
  obtain ⟨fd, Fd⟩ := T.c.d.def_ 38 (d := d_possible) rfl
  refine ⟨_, fd, fn_ok (k := 2) (N := ["net", "world", "found", "channel", "at", "rule", "row", "k", "_", "token"]) (m := B_possible) Fd sc_possible (fun cdv A outer s H E hr => ?_), T.glo "possible" 63 rfl, Fd.kp, FunD.bindsN Fd fun _ _ _ _ _ _ us hl => match us, hl with | [_, _], _ => rfl⟩
  exact jss_cons (js_set (fun he => ps_set (i := 2) sc_possible.nd rfl (Or.inl rfl) he) (je_new (jf_lst (ja_nil))))
      (jss_cons (js_for (vs := [4, 5]) PassesOwn.never rfl (ji_en (by rfl) (T.free "enumerate" 31 rfl) (je_fld (C := "Net") (je_var (pv 0)) (T.cls "Net" 34 rfl) (T.noat "Net" "rules" 37 rfl))) (jg_tup rfl (jgs_cons (jg_name (pg_name sc_possible.nd rfl (by first | exact Or.inl rfl | exact Or.inr rfl))) (jgs_cons (jg_name (pg_name sc_possible.nd rfl (by first | exact Or.inl rfl | exact Or.inr rfl))) (jgs_nil)))) (jss_one (js_if (jt_w (jw_and (jt_cmp (o_eq hr.units) (je_ix (je_ix (je_var (pv 1)) (je_int)) (je_ix (je_var (pv 5)) (je_int))) (je_ix (je_var (pv 5)) (je_int)) (nomark _)) (jw_and1 (jt_cmp (o_ne hr.units) (je_ix (je_ix (je_var (pv 5)) (je_int)) (je_int)) (je_str) (nomark _))))) (jss_one (js_expr (je_m PySem.F.plainAttrs_list PySem.F.slot_list_append PySem.F.type_list_append m_app (je_var (pv 2)) (ja_cons (je_tup (ja_cons (je_str) (ja_cons (je_var (pv 4)) (ja_nil)))) (ja_nil))))) (jss_one (js_if (jt_cmp (o_eq hr.units) (je_ix (je_ix (je_var (pv 1)) (je_int)) (je_ix (je_var (pv 5)) (je_int))) (je_ix (je_var (pv 5)) (je_int)) (nomark _)) (jss_cons (js_set (fun he => ps_set (i := 6) sc_possible.nd rfl (Or.inl rfl) he) (je_own (ps := ["net", "world", "channel"]) (ok_open_messages_of T) hr (by decide) (by rfl) (ja_cons (je_var (pv 0)) (ja_cons (je_var (pv 1)) (ja_cons (je_ix (je_ix (je_var (pv 5)) (je_int)) (je_int)) (ja_nil))))))
      (jss_one (js_expr (je_m PySem.F.plainAttrs_list PySem.F.slot_list_extend PySem.F.type_list_extend m_ext (je_var (pv 2)) (ja_cons (je_val (jf_comp (own := [("k", 7), ("token", 9)]) rfl sc_possible.nd (ji_it (je_var (pv 6))) (blkOk_by (N := ["net", "world", "found", "channel", "at", "rule", "row", "k", "_", "token"]) (sc := defScope (top 26)) (by decide +kernel)) rfl (fun _ _ _ _ _ => jg_tup rfl (jgs_cons (jg_name (pg_name sc_possible.nd rfl (by first | exact Or.inl rfl | exact Or.inr rfl))) (jgs_cons (jg_name (pg_name sc_possible.nd rfl (by first | exact Or.inl rfl | exact Or.inr rfl))) (jgs_nil)))) (fun _ _ _ _ _ => jts_one (jt_cmp (o_eq hr.units) (je_var (pv 9)) (je_ix (je_ix (je_var (pv 5)) (je_int)) (je_int)) (nomark _))) (fun _ _ _ _ _ => je_tup (ja_cons (je_str) (ja_cons (je_var (pv 4)) (ja_cons (je_var (pv 7)) (ja_nil))))))) (ja_nil)))))) (jss_nil))))))
      (jss_cons (js_for (vs := [3]) PassesOwn.never rfl (ji_rng1 (by rfl) (T.free "range" 6 rfl) (ja_cons (je_cb c_len (by rfl) (T.free "len" 4 rfl) bb_len (ja_cons (je_fld (C := "Net") (je_var (pv 0)) (T.cls "Net" 34 rfl) (T.noat "Net" "channels" 36 rfl)) (ja_nil))) (ja_nil))) (jg_name (pg_name sc_possible.nd rfl (by first | exact Or.inl rfl | exact Or.inr rfl))) (jss_one (js_if (jt_val (je_own (ps := ["net", "channel"]) (ok_is_lossy T) hr (by decide) (by rfl) (ja_cons (je_var (pv 0)) (ja_cons (je_var (pv 3)) (ja_nil))))) (jss_one (js_expr (je_m PySem.F.plainAttrs_list PySem.F.slot_list_extend PySem.F.type_list_extend m_ext (je_var (pv 2)) (ja_cons (je_val (jf_comp (own := [("k", 7), ("_", 8)]) rfl sc_possible.nd (ji_it (je_own (ps := ["net", "world", "channel"]) (ok_open_messages_of T) hr (by decide) (by rfl) (ja_cons (je_var (pv 0)) (ja_cons (je_var (pv 1)) (ja_cons (je_var (pv 3)) (ja_nil)))))) (blkOk_by (N := ["net", "world", "found", "channel", "at", "rule", "row", "k", "_", "token"]) (sc := defScope (top 26)) (by decide +kernel)) rfl (fun _ _ _ _ _ => jg_tup rfl (jgs_cons (jg_name (pg_name sc_possible.nd rfl (by first | exact Or.inl rfl | exact Or.inr rfl))) (jgs_cons (jg_name (pg_name sc_possible.nd rfl (by first | exact Or.inl rfl | exact Or.inr rfl))) (jgs_nil)))) (fun _ _ _ _ _ => jts_nil) (fun _ _ _ _ _ => je_tup (ja_cons (je_str) (ja_cons (je_var (pv 3)) (ja_cons (je_var (pv 7)) (ja_nil))))))) (ja_nil))))) (jss_nil))))
      (jss_one (js_ret (je_ct c_tuple (by rfl) (T.free "tuple" 10 rfl) bb_tuple (ja_cons (je_var (pv 2)) (ja_nil)))))))
theorem sc_law_lost_on : FnScope ["_law_pool_here", "_law_made_here", "_law_net_here", "_law_world_here", "_law_turn", "_law_can", "_law_deed"] ["_law_pool_here", "_law_made_here", "_law_net_here", "_law_world_here"] (defScope (top 53)) := ⟨rfl, rfl, rfl, by decide +kernel, rfl, by decide +kernel, by decide +kernel⟩
theorem ok_law_lost_on {P : Program} {w : World} {K : PySem.W.Frag} {mg : Str → Option Value} {base : Heap} (T : Tx K mg) : Cal P w K mg base "_law_lost_on" 12 ["_law_pool_here", "_law_made_here", "_law_net_here", "_law_world_here"] F_law_lost_on := by
  obtain ⟨fd, Fd⟩ := T.c.d.def_ 39 (d := d_law_lost_on) rfl
  refine ⟨_, fd, fn_ok (k := 11) (N := ["_law_pool_here", "_law_made_here", "_law_net_here", "_law_world_here", "_law_turn", "_law_can", "_law_deed"]) (m := B_law_lost_on) Fd sc_law_lost_on (fun cdv A outer s H E hr => ?_), T.glo "_law_lost_on" 64 rfl, Fd.kp, FunD.bindsN Fd fun _ _ _ _ _ _ us hl => match us, hl with | [_, _, _, _], _ => rfl⟩
  exact jss_cons (js_for (vs := [4]) PassesOwn.never rfl (ji_rng1 (by rfl) (T.free "range" 6 rfl) (ja_cons (je_int) (ja_nil))) (jg_name (pg_name sc_law_lost_on.nd rfl (by first | exact Or.inl rfl | exact Or.inr rfl))) (jss_cons (js_set (fun he => ps_set (i := 5) sc_law_lost_on.nd rfl (Or.inl rfl) he) (je_own (ps := ["_law_net_here", "_law_world_here"]) (ok_law_possible T) hr (by decide) (by rfl) (ja_cons (je_var (pv 2)) (ja_cons (je_var (pv 3)) (ja_nil)))))
      (jss_cons (js_if (jt_w (jw_or (jt_not (jt_val (je_own (ps := ["_law_actual", "_law_due"]) (ok_law_same T 8) hr (by decide) (by rfl) (ja_cons (je_own (ps := ["net", "world"]) (ok_possible T) hr (by decide) (by rfl) (ja_cons (je_var (pv 1)) (ja_cons (je_var (pv 3)) (ja_nil)))) (ja_cons (je_ct c_tuple (by rfl) (T.free "tuple" 10 rfl) bb_tuple (ja_cons (je_var (pv 5)) (ja_nil))) (ja_nil)))))) (jw_or1 (jt_cmp o_gt (je_cb c_len (by rfl) (T.free "len" 4 rfl) bb_len (ja_cons (je_val (jf_comp (own := [("_law_deed", 6)]) rfl sc_law_lost_on.nd (ji_it (je_var (pv 5))) (blkOk_by (N := ["_law_pool_here", "_law_made_here", "_law_net_here", "_law_world_here", "_law_turn", "_law_can", "_law_deed"]) (sc := defScope (top 53)) (by decide +kernel)) rfl (fun _ _ _ _ _ => jg_name (pg_name sc_law_lost_on.nd rfl (by first | exact Or.inl rfl | exact Or.inr rfl))) (fun _ _ _ _ _ => jts_one (jt_cmp (o_ne hr.units) (je_ix (je_var (pv 6)) (je_int)) (je_str) (nomark _))) (fun _ _ _ _ _ => je_var (pv 6)))) (ja_nil))) (je_int) (nomark _))))) (jss_one (js_ret (je_bl))) (jss_nil))
      (jss_cons (js_if (jt_cmp (o_eq hr.units) (je_cb c_len (by rfl) (T.free "len" 4 rfl) bb_len (ja_cons (je_var (pv 5)) (ja_nil))) (je_int) (nomark _)) (jss_one (js_ret (je_bl))) (jss_nil))
      (jss_cons (js_set (fun he => ps_set (i := 3) sc_law_lost_on.nd rfl (Or.inl rfl) he) (je_own (ps := ["_law_net_here", "_law_world_here", "_law_deed"]) (ok_law_done T) hr (by decide) (by rfl) (ja_cons (je_var (pv 2)) (ja_cons (je_var (pv 3)) (ja_cons (je_own (ps := ["_law_pool_here", "_law_row"]) (ok_law_picked T) hr (by decide) (by rfl) (ja_cons (je_var (pv 0)) (ja_cons (je_var (pv 5)) (ja_nil)))) (ja_nil))))))
      (jss_one (js_if (jt_w (jw_or (jt_not (jt_val (je_own (ps := ["_law_pool_here", "_law_made_here", "_law_net_here", "_law_world_here"]) (ok_law_is_told T) hr (by decide) (by rfl) (ja_cons (je_var (pv 0)) (ja_cons (je_var (pv 1)) (ja_cons (je_var (pv 2)) (ja_cons (je_var (pv 3)) (ja_nil)))))))) (jw_or1 (jt_cmp o_isnot (je_own (ps := ["net", "world"]) (ok_still T) hr (by decide) (by rfl) (ja_cons (je_var (pv 1)) (ja_cons (je_var (pv 3)) (ja_nil)))) (je_bl) (nomark _))))) (jss_one (js_ret (je_bl))) (jss_nil))))))))
      (jss_one (js_ret (je_bl)))
theorem sc_law : FnScope ["_law_script", "_law_pool_here", "_law_net_here", "_law_made_here", "_law_world_here", "_law_told_here", "_law_rows", "_law_first", "_law_deeds", "_law_worlds", "_law_cut", "_law_p", "_law_rule_here", "_law_deed"] ["_law_script"] (defScope (top 55)) := ⟨rfl, rfl, rfl, by decide +kernel, rfl, by decide +kernel, by decide +kernel⟩
theorem ok_law {P : Program} {w : World} {K : PySem.W.Frag} {mg : Str → Option Value} (T : Tx K mg) : ∃ fd : FuncData, (∀ (s : Shared) (u : Value), BindsTo s fd ⟨[u], []⟩ [("_law_script", u)]) ∧ ∀ base : Heap, FnOk P w K mg base CX0 13 (He.ga K "law") fd ["_law_script"] (spF K ["_law_script"].length F_law) := by
  obtain ⟨fd, Fd⟩ := T.c.d.def_ 40 (d := d_law) rfl
  refine ⟨fd, fun s u => FunD.bindsA (ps := ["_law_script"]) Fd (fun _ _ _ _ _ _ us hl => match us, hl with | [_], _ => rfl) s [u] rfl, fun base => fn_ok (k := 12) (N := ["_law_script", "_law_pool_here", "_law_net_here", "_law_made_here", "_law_world_here", "_law_told_here", "_law_rows", "_law_first", "_law_deeds", "_law_worlds", "_law_cut", "_law_p", "_law_rule_here", "_law_deed"]) (m := B_law) Fd sc_law (fun cdv A outer s H E hr => ?_)⟩
  exact jss_cons (js_set (fun he => ps_set (i := 1) sc_law.nd rfl (Or.inr rfl) he) (je_own (ps := ["_law_script"]) (ok_law_pool T) hr (by decide) (by rfl) (ja_cons (je_var (pv 0)) (ja_nil))))
      (jss_cons (js_set (fun he => ps_set (i := 2) sc_law.nd rfl (Or.inl rfl) he) (je_own (ps := ["_law_pool_here", "_law_most"]) (ok_law_net T) hr (by decide) (by rfl) (ja_cons (je_var (pv 1)) (ja_cons (je_int) (ja_nil)))))
      (jss_cons (js_if (jt_cmp (o_eq hr.units) (je_own (ps := ["_law_pool_here", "_law_many"]) (ok_law_draw T) hr (by decide) (by rfl) (ja_cons (je_var (pv 1)) (ja_cons (je_int) (ja_nil)))) (je_int) (nomark _)) (jss_one (js_set (fun he => ps_set (i := 2) sc_law.nd rfl (Or.inl rfl) he) (je_own (ps := ["_law_pool_here"]) (ok_law_hidden T) hr (by decide) (by rfl) (ja_cons (je_var (pv 1)) (ja_nil))))) (jss_one (js_if (jt_cmp o_gt (je_own (ps := ["_law_pool_here", "_law_many"]) (ok_law_draw T) hr (by decide) (by rfl) (ja_cons (je_var (pv 1)) (ja_cons (je_int) (ja_nil)))) (je_int) (nomark _)) (jss_one (js_set (fun he => ps_set (i := 2) sc_law.nd rfl (Or.inl rfl) he) (je_tup (ja_cons (je_ix (je_var (pv 2)) (je_int)) (ja_cons (je_ix (je_var (pv 2)) (je_int)) (ja_cons (je_ct c_tuple (by rfl) (T.free "tuple" 10 rfl) bb_tuple (ja_cons (je_val (jf_comp (own := [("_law_rule_here", 12)]) rfl sc_law.nd (ji_it (je_ix (je_var (pv 2)) (je_int))) (blkOk_by (N := ["_law_script", "_law_pool_here", "_law_net_here", "_law_made_here", "_law_world_here", "_law_told_here", "_law_rows", "_law_first", "_law_deeds", "_law_worlds", "_law_cut", "_law_p", "_law_rule_here", "_law_deed"]) (sc := defScope (top 55)) (by decide +kernel)) rfl (fun _ _ _ _ _ => jg_name (pg_name sc_law.nd rfl (by first | exact Or.inl rfl | exact Or.inr rfl))) (fun _ _ _ _ _ => jts_one (jt_cmp o_gt (je_own (ps := ["_law_pool_here", "_law_many"]) (ok_law_draw T) hr (by decide) (by rfl) (ja_cons (je_var (pv 1)) (ja_cons (je_int) (ja_nil)))) (je_int) (nomark _))) (fun _ _ _ _ _ => je_var (pv 12)))) (ja_nil))) (ja_nil))))))) (jss_nil))))
      (jss_cons (js_set (fun he => ps_set (i := 3) sc_law.nd rfl (Or.inl rfl) he) (je_own (ps := ["_law_pool_here", "_law_net_here"]) (ok_law_made T) hr (by decide) (by rfl) (ja_cons (je_var (pv 1)) (ja_cons (je_var (pv 2)) (ja_nil)))))
      (jss_cons (js_asg (vs := [8, 9]) (je_own (ps := ["_law_pool_here", "_law_net_here", "_law_many"]) (ok_law_run T) hr (by decide) (by rfl) (ja_cons (je_var (pv 1)) (ja_cons (je_var (pv 2)) (ja_cons (je_ix (je_val (jf_lst (ja_cons (je_int) (ja_cons (je_int) (ja_cons (je_int) (ja_nil)))))) (je_own (ps := ["_law_pool_here", "_law_many"]) (ok_law_draw T) hr (by decide) (by rfl) (ja_cons (je_var (pv 1)) (ja_cons (je_int) (ja_nil))))) (ja_nil))))) (jg_tup rfl (jgs_cons (jg_name (pg_name sc_law.nd rfl (by first | exact Or.inl rfl | exact Or.inr rfl))) (jgs_cons (jg_name (pg_name sc_law.nd rfl (by first | exact Or.inl rfl | exact Or.inr rfl))) (jgs_nil)))))
      (jss_cons (js_for (vs := [4]) PassesOwn.never rfl (ji_it (je_bin o_add (je_slc (je_var (pv 9)) (jp_no) (jp_at (je_int))) (je_slc (je_var (pv 9)) (jp_at (je_neg (je_int))) (jp_no)))) (jg_name (pg_name sc_law.nd rfl (by first | exact Or.inl rfl | exact Or.inr rfl))) (jss_cons (js_if (jt_not (jt_val (je_own (ps := ["_law_pool_here", "_law_made_here", "_law_net_here", "_law_world_here"]) (ok_law_is_told T) hr (by decide) (by rfl) (ja_cons (je_var (pv 1)) (ja_cons (je_var (pv 3)) (ja_cons (je_var (pv 2)) (ja_cons (je_var (pv 4)) (ja_nil)))))))) (jss_one (js_ret (je_bl))) (jss_nil))
      (jss_one (js_if (jt_w (jw_and (jt_val (je_own (ps := ["_law_net_here", "_law_world_here"]) (ok_law_still T) hr (by decide) (by rfl) (ja_cons (je_var (pv 2)) (ja_cons (je_var (pv 4)) (ja_nil))))) (jw_and1 (jt_not (jt_val (je_own (ps := ["_law_pool_here", "_law_made_here", "_law_net_here", "_law_world_here"]) (ok_law_lost_on T) hr (by decide) (by rfl) (ja_cons (je_var (pv 1)) (ja_cons (je_var (pv 3)) (ja_cons (je_var (pv 2)) (ja_cons (je_var (pv 4)) (ja_nil))))))))))) (jss_one (js_ret (je_bl))) (jss_nil)))))
      (jss_cons (js_set (fun he => ps_set (i := 5) sc_law.nd rfl (Or.inl rfl) he) (je_own (ps := ["_law_net_here", "_law_deeds"]) (ok_law_told T) hr (by decide) (by rfl) (ja_cons (je_var (pv 2)) (ja_cons (je_slc (je_var (pv 8)) (jp_no) (jp_at (je_int))) (ja_nil)))))
      (jss_cons (js_set (fun he => ps_set (i := 6) sc_law.nd rfl (Or.inl rfl) he) (je_own (ps := ["_law_net_here", "_law_told_here"]) (ok_law_cuts T) hr (by decide) (by rfl) (ja_cons (je_var (pv 2)) (ja_cons (je_var (pv 5)) (ja_nil)))))
      (jss_cons (js_set (fun he => ps_set (i := 7) sc_law.nd rfl (Or.inl rfl) he) (je_own (ps := ["_law_pool_here", "_law_many"]) (ok_law_draw T) hr (by decide) (by rfl) (ja_cons (je_var (pv 1)) (ja_cons (je_cb c_len (by rfl) (T.free "len" 4 rfl) bb_len (ja_cons (je_var (pv 6)) (ja_nil))) (ja_nil)))))
      (jss_cons (js_for (vs := [10, 4]) PassesOwn.never rfl (ji_it (je_bin o_add (je_slc (je_var (pv 6)) (jp_at (je_var (pv 7))) (jp_at (je_bin o_add (je_var (pv 7)) (je_int)))) (je_slc (je_var (pv 6)) (jp_at (je_neg (je_int))) (jp_no)))) (jg_tup rfl (jgs_cons (jg_name (pg_name sc_law.nd rfl (by first | exact Or.inl rfl | exact Or.inr rfl))) (jgs_cons (jg_name (pg_name sc_law.nd rfl (by first | exact Or.inl rfl | exact Or.inr rfl))) (jgs_nil)))) (jss_cons (js_if (jt_not (jt_val (je_own (ps := ["_law_pool_here", "_law_made_here", "_law_net_here", "_law_world_here"]) (ok_law_is_told T) hr (by decide) (by rfl) (ja_cons (je_var (pv 1)) (ja_cons (je_var (pv 3)) (ja_cons (je_var (pv 2)) (ja_cons (je_var (pv 4)) (ja_nil)))))))) (jss_one (js_ret (je_bl))) (jss_nil))
      (jss_one (js_if (jt_val (je_own (ps := ["net", "world"]) (ok_still T) hr (by decide) (by rfl) (ja_cons (je_var (pv 3)) (ja_cons (je_var (pv 4)) (ja_nil))))) (jss_one (js_for (vs := [11]) PassesOwn.never rfl (ji_rng1 (by rfl) (T.free "range" 6 rfl) (ja_cons (je_cb c_len (by rfl) (T.free "len" 4 rfl) bb_len (ja_cons (je_var (pv 5)) (ja_nil))) (ja_nil))) (jg_name (pg_name sc_law.nd rfl (by first | exact Or.inl rfl | exact Or.inr rfl))) (jss_one (js_if (jt_cmp o_gt (je_cb c_len (by rfl) (T.free "len" 4 rfl) bb_len (ja_cons (je_val (jf_comp (own := [("_law_deed", 13)]) rfl sc_law.nd (ji_it (je_slc (je_ix (je_var (pv 5)) (je_var (pv 11))) (jp_at (je_ix (je_var (pv 10)) (je_var (pv 11)))) (jp_no))) (blkOk_by (N := ["_law_script", "_law_pool_here", "_law_net_here", "_law_made_here", "_law_world_here", "_law_told_here", "_law_rows", "_law_first", "_law_deeds", "_law_worlds", "_law_cut", "_law_p", "_law_rule_here", "_law_deed"]) (sc := defScope (top 55)) (by decide +kernel)) rfl (fun _ _ _ _ _ => jg_name (pg_name sc_law.nd rfl (by first | exact Or.inl rfl | exact Or.inr rfl))) (fun _ _ _ _ _ => jts_one (jt_cmp (o_ne hr.units) (je_ix (je_var (pv 13)) (je_int)) (je_str) (nomark _))) (fun _ _ _ _ _ => je_var (pv 13)))) (ja_nil))) (je_int) (nomark _)) (jss_one (js_ret (je_bl))) (jss_nil))))) (jss_nil)))))
      (jss_one (js_ret (je_bl))))))))))))
end K40

end

section
set_option Elab.async false
set_option linter.all false
set_option maxRecDepth 100000
set_option maxHeartbeats 4000000
namespace K40
open PySem PySem.Spec PyProof.Rows L2 DV
abbrev R : PySem.W.OpenRow := PySem.W.OpenLaw.row PySem.Challenge.rw_cutweave_k40_what_stays
abbrev hk : PySem.W.Hook := hookB 6 fa fn ex
def ob (s : PySem.W.SharedT) : AlB := obsBG 6 fa fn ex (HandSHeadRun.getT s)
theorem ob_eq (s : PySem.W.SharedT) : ob s = hk.obs s.abs := obsBG_eq (HandSHeadRun.getT_eq s)
def names0 : List PySem.Str := ["CutError", "BadValue", "KINDS", "LETTERS", "MOST_LETTERS", "MOST_PROCESSES", "MOST_STATES", "MOST_CHANNELS", "MOST_RULES", "TOKENS", "is_whole", "is_below", "is_name", "is_process", "is_channel", "is_act", "is_rule", "_frozen", "_rows", "Net"]
def names1 : List PySem.Str := ["is_lossy", "is_ordered", "open_messages_of", "possible", "can_take", "still", "ended", "_law_mixed", "_law_pool", "_law_draw", "_law_picked", "_law_same", "_law_names", "_law_rule", "_law_net", "_law_made", "_law_firsts", "_law_possible", "_law_done", "_law_start"]
def names2 : List PySem.Str := ["_law_run", "_law_told", "_law_world", "_law_cuts", "_law_listed", "_law_still", "_law_by_losses", "_law_is_told", "_law_lost_on", "_law_hidden"]
def names : List PySem.Str := names0 ++ names1 ++ names2
set_option maxHeartbeats 0 in
theorem run (w : World) : HandSHeadRun.RunEq R (PySem.W.view R.prog [55]) hk ob 6000 names w := by
  intro os
  kernel_rfl
end K40

end

section
set_option Elab.async false
set_option linter.all false
set_option maxRecDepth 100000
/-! Pl1: weakest preconditions of the plain programs (no program text in sight) -/
namespace DV
open PySem PySem.Spec L2

def wpO {α : Type} (o : Option α) (Q : α → Prop) : Prop := ∃ a, o = some a ∧ Q a
theorem wpO_some {α : Type} {a : α} {Q : α → Prop} : wpO (some a) Q ↔ Q a := ⟨fun ⟨_, e, q⟩ => by cases e; exact q, fun q => ⟨a, rfl, q⟩⟩
theorem wpO_none {α : Type} {Q : α → Prop} : wpO (none : Option α) Q ↔ False := ⟨fun ⟨_, e, _⟩ => (by cases e), False.elim⟩
theorem wpO_map {α β : Type} {o : Option α} {f : α → β} {Q : β → Prop} : wpO (o.map f) Q ↔ wpO o (fun a => Q (f a)) := by
  cases o <;> simp [wpO]
theorem wpO_ite {α : Type} {c : Prop} [Decidable c] {a : α} {Q : α → Prop} : wpO (if c then some a else none) Q ↔ c ∧ Q a := by
  by_cases h : c <;> simp [wpO, h]
theorem wpO.imp {α : Type} {o : Option α} {Q Q' : α → Prop} (h : wpO o Q) (i : ∀ a, Q a → Q' a) : wpO o Q' := let ⟨a, e, q⟩ := h; ⟨a, e, i a q⟩
def wpE (m : EM) (e : Env) (M : Sto) (Q : D → Sto → Prop) : Prop := wpO (m e M) fun p => Q p.1 p.2
def wpT (m : TM) (e : Env) (M : Sto) (Q : Bool → Sto → Prop) : Prop := wpO (m e M) fun p => Q p.1 p.2
def wpA (m : AM) (e : Env) (M : Sto) (Q : List D → Sto → Prop) : Prop := wpO (m e M) fun p => Q p.1 p.2
def wpP (m : PM) (e : Env) (M : Sto) (Q : Option Int → Sto → Prop) : Prop := wpO (m e M) fun p => Q p.1 p.2
def wpS (m : SM) (e : Env) (M : Sto) (Q : Fl → Sto → Prop) : Prop := wpO (m e M) fun p => Q p.1 p.2
def wpF (F : Fn) (ds : List D) (M : Sto) (Q : D → Sto → Prop) : Prop := wpO (F ds M) fun p => Q p.1 p.2
theorem wpE.imp {m : EM} {e : Env} {M : Sto} {Q Q' : D → Sto → Prop} (h : wpE m e M Q) (i : ∀ d M, Q d M → Q' d M) : wpE m e M Q' := wpO.imp h fun _ => i _ _
theorem wpT.imp {m : TM} {e : Env} {M : Sto} {Q Q' : Bool → Sto → Prop} (h : wpT m e M Q) (i : ∀ d M, Q d M → Q' d M) : wpT m e M Q' := wpO.imp h fun _ => i _ _
theorem wpA.imp {m : AM} {e : Env} {M : Sto} {Q Q' : List D → Sto → Prop} (h : wpA m e M Q) (i : ∀ d M, Q d M → Q' d M) : wpA m e M Q' := wpO.imp h fun _ => i _ _
theorem wpS.imp {m : SM} {e : Env} {M : Sto} {Q Q' : Fl → Sto → Prop} (h : wpS m e M Q) (i : ∀ d M, Q d M → Q' d M) : wpS m e M Q' := wpO.imp h fun _ => i _ _
theorem wpF.imp {F : Fn} {ds : List D} {M : Sto} {Q Q' : D → Sto → Prop} (h : wpF F ds M Q) (i : ∀ d M, Q d M → Q' d M) : wpF F ds M Q' := wpO.imp h fun _ => i _ _
theorem wpF_eq {F : Fn} {ds : List D} {M M' : Sto} {d : D} {Q : D → Sto → Prop} (h : F ds M = some (d, M')) : wpF F ds M Q ↔ Q d M' := by
  unfold wpF; rw [h]; exact wpO_some
theorem wpF_of {F : Fn} {ds : List D} {M M' : Sto} {d : D} (h : wpF F ds M fun x N => x = d ∧ N = M') : F ds M = some (d, M') := by
  obtain ⟨⟨x, N⟩, e, h1, h2⟩ := h
  rw [e]; cases h1; cases h2; rfl
theorem wpE_eq {m : EM} {e : Env} {M M' : Sto} {d : D} {Q : D → Sto → Prop} (h : m e M = some (d, M')) : wpE m e M Q ↔ Q d M' := by
  unfold wpE; rw [h]; exact wpO_some
theorem wpE_of {m : EM} {e : Env} {M M' : Sto} {d : D} (h : wpE m e M fun x N => x = d ∧ N = M') : m e M = some (d, M') := by
  obtain ⟨⟨x, N⟩, e, h1, h2⟩ := h
  rw [e]; cases h1; cases h2; rfl

def toB : D → Option Bool
  | .bl b => some b
  | _ => none
theorem toB_bl {b : Bool} : toB (.bl b) = some b := rfl
def toI : D → Option Int
  | .int b => some b
  | _ => none
theorem toI_int {b : Int} : toI (.int b) = some b := rfl
section
variable {e : Env} {M : Sto} {Q : D → Sto → Prop} {QT : Bool → Sto → Prop} {QA : List D → Sto → Prop} {QP : Option Int → Sto → Prop} {K : Fl → Sto → Prop} {a b c : EM} {s t : TM} {r : AM} {f f' : D → D → Sto → Option D} {i n : Nat} {d : D}
theorem wpE_var : wpE (eVar i) e M Q ↔ wpO (e[i]?) fun o => wpO o fun d => Q d M := by
  unfold wpE eVar
  cases e[i]? with
  | none => simp [wpO]
  | some o => cases o <;> simp [wpO]
theorem wpE_C : wpE (eC d) e M Q ↔ Q d M := wpO_some
theorem wpE_bin : wpE (eBin f a b) e M Q ↔ wpE a e M fun x M1 => wpE b e M1 fun y M2 => wpO (f x y M2) fun d => Q d M2 := by
  unfold wpE eBin
  cases h : a e M with
  | none => simp [wpO]
  | some p =>
    obtain ⟨x, M1⟩ := p
    cases h2 : b e M1 with
    | none => simp [wpO, h2]
    | some p =>
      obtain ⟨y, M2⟩ := p
      simp only [wpO_some, h2, wpO_map]
theorem wpT_tV : wpT (tV a) e M QT ↔ wpE a e M fun d M1 => wpO (toB d) fun b => QT b M1 := by
  unfold wpE wpT tV
  cases h : a e M with
  | none => simp [wpO]
  | some p =>
    obtain ⟨x, M1⟩ := p
    cases x <;> simp only [wpO_some, toB, wpO_none]
theorem wpE_and : wpE (eAnd a b) e M Q ↔ wpE a e M fun d M1 => wpO (toB d) fun v => if v = true then wpE b e M1 Q else Q (.bl false) M1 := by
  unfold wpE eAnd
  cases h : a e M with
  | none => simp [wpO]
  | some p =>
    obtain ⟨x, M1⟩ := p
    cases x <;> (try cases ‹Bool›) <;> simp [wpO, toB]
theorem wpE_or : wpE (eOr a b) e M Q ↔ wpE a e M fun d M1 => wpO (toB d) fun v => if v = true then Q (.bl true) M1 else wpE b e M1 Q := by
  unfold wpE eOr
  cases h : a e M with
  | none => simp [wpO]
  | some p =>
    obtain ⟨x, M1⟩ := p
    cases x <;> (try cases ‹Bool›) <;> simp [wpO, toB]
theorem wpE_not : wpE (eNot a) e M Q ↔ wpE a e M fun d M1 => wpO (toB d) fun v => Q (.bl (!v)) M1 := by
  unfold wpE eNot
  cases h : a e M with
  | none => simp [wpO]
  | some p =>
    obtain ⟨x, M1⟩ := p
    cases x <;> simp only [wpO_some, toB, wpO_none]
theorem wpT_and : wpT (mAnd s t) e M QT ↔ wpT s e M fun v M1 => if v = true then wpT t e M1 QT else QT false M1 := by
  unfold wpT mAnd
  cases h : s e M with
  | none => simp [wpO]
  | some p => obtain ⟨x, M1⟩ := p; cases x <;> simp [wpO]
theorem wpT_or : wpT (mOr s t) e M QT ↔ wpT s e M fun v M1 => if v = true then QT true M1 else wpT t e M1 QT := by
  unfold wpT mOr
  cases h : s e M with
  | none => simp [wpO]
  | some p => obtain ⟨x, M1⟩ := p; cases x <;> simp [wpO]
theorem wpT_not : wpT (mNot s) e M QT ↔ wpT s e M fun v M1 => QT (!v) M1 := by
  unfold wpT mNot
  cases h : s e M with
  | none => simp [wpO]
  | some p => obtain ⟨x, M1⟩ := p; cases x <;> simp [wpO]
theorem wpT_yes : wpT mYes e M QT ↔ QT true M := wpO_some
theorem wpE_if : wpE (eIf t a b) e M Q ↔ wpT t e M fun v M1 => if v = true then wpE a e M1 Q else wpE b e M1 Q := by
  unfold wpT wpE eIf
  cases h : t e M with
  | none => simp [wpO]
  | some p => obtain ⟨x, M1⟩ := p; cases x <;> simp [wpO]
theorem wpE_chain : wpE (eChain f f' a b c) e M Q ↔ wpE a e M fun x M1 => wpE b e M1 fun y M2 => wpO (f x y M2) fun d => wpO (toB d) fun v => if v = true then wpE c e M2 fun z M3 => wpO (f' y z M3) fun d => Q d M3 else Q (.bl false) M2 := by
  unfold wpE eChain
  cases h : a e M with
  | none => simp [wpO]
  | some p =>
    obtain ⟨x, M1⟩ := p
    cases h2 : b e M1 with
    | none => simp [wpO, h2]
    | some p =>
      obtain ⟨y, M2⟩ := p
      cases h3 : f x y M2 with
      | none => simp [wpO, h2, h3]
      | some d =>
        cases d <;> simp only [wpO_some, h2, h3, toB, wpO_none]
        rename_i v
        cases v
        · simp only [wpO_some, Bool.false_eq_true, if_false]
        · cases h4 : c e M2 with
          | none => simp [wpO, h4]
          | some p => obtain ⟨z, M3⟩ := p; simp only [wpO_some, h4, wpO_map, if_true]
theorem wpA_nil : wpA aNil e M QA ↔ QA [] M := wpO_some
theorem wpA_cons : wpA (aCons a r) e M QA ↔ wpE a e M fun x M1 => wpA r e M1 fun xs M2 => QA (x :: xs) M2 := by
  unfold wpE wpA aCons
  cases h : a e M with
  | none => simp [wpO]
  | some p =>
    obtain ⟨x, M1⟩ := p
    cases h2 : r e M1 with
    | none => simp [wpO, h2]
    | some p => obtain ⟨y, M2⟩ := p; simp only [wpO_some, h2]
theorem wpE_tup : wpE (eTup r) e M Q ↔ wpA r e M fun xs M1 => xs.length ≤ sizeLine ∧ Q (.tup xs) M1 := by
  unfold wpE wpA eTup
  cases h : r e M with
  | none => simp [wpO]
  | some p => obtain ⟨x, M1⟩ := p; simp only [wpO_some, wpO_ite]
theorem wpA_lst : wpA (fLst r) e M QA ↔ wpA r e M fun xs M1 => xs.length ≤ sizeLine ∧ QA xs M1 := by
  unfold wpA fLst
  cases h : r e M with
  | none => simp [wpO]
  | some p => obtain ⟨x, M1⟩ := p; simp only [wpO_some, wpO_ite]
theorem wpE_val : wpE (eVal r) e M Q ↔ wpA r e M fun xs M1 => Q (.lst xs) M1 := by
  unfold wpE wpA eVal
  cases h : r e M with
  | none => simp [wpO]
  | some p => obtain ⟨x, M1⟩ := p; simp only [wpO_some]
theorem wpE_new : wpE (eNew r) e M Q ↔ wpA r e M fun xs M1 => Q (.ref M1.length) (M1 ++ [.lst xs]) := by
  unfold wpE wpA eNew
  cases h : r e M with
  | none => simp [wpO]
  | some p => obtain ⟨x, M1⟩ := p; simp only [wpO_some]
theorem wpE_neg : wpE (eNeg a) e M Q ↔ wpE a e M fun d M1 => wpO (toI d) fun v => Q (.int (-v)) M1 := by
  unfold wpE eNeg
  cases h : a e M with
  | none => simp [wpO]
  | some p =>
    obtain ⟨x, M1⟩ := p
    cases x <;> simp [wpO, toI]
theorem wpP_no : wpP pNo e M QP ↔ QP none M := wpO_some
theorem wpP_at : wpP (pAt a) e M QP ↔ wpE a e M fun d M1 => wpO (toI d) fun v => QP (some v) M1 := by
  unfold wpE wpP pAt
  cases h : a e M with
  | none => simp [wpO]
  | some p =>
    obtain ⟨x, M1⟩ := p
    cases x <;> simp [wpO, toI]
theorem wpE_slc {lo hi : PM} : wpE (eSlc a lo hi) e M Q ↔ wpE a e M fun x M1 => wpP lo e M1 fun l M2 => wpP hi e M2 fun h M3 => wpO (dSlc x l h M3) fun d => Q d M3 := by
  unfold wpE wpP eSlc
  cases h : a e M with
  | none => simp [wpO]
  | some p =>
    obtain ⟨x, M1⟩ := p
    cases h2 : lo e M1 with
    | none => simp [wpO, h2]
    | some p =>
      obtain ⟨l, M2⟩ := p
      cases h3 : hi e M2 with
      | none => simp [wpO, h2, h3]
      | some p => obtain ⟨k, M3⟩ := p; simp only [wpO_some, h2, h3, wpO_map]
theorem wpE_B {g : List D → Sto → Option D} : wpE (eB g r) e M Q ↔ wpA r e M fun ds M1 => wpO (g ds M1) fun d => Q d M1 := by
  unfold wpE wpA eB
  cases h : r e M with
  | none => simp [wpO]
  | some p => obtain ⟨x, M1⟩ := p; simp only [wpO_some, wpO_map]
theorem wpA_B {g : List D → Sto → Option (List D)} : wpA (fB g r) e M QA ↔ wpA r e M fun ds M1 => wpO (g ds M1) fun d => QA d M1 := by
  unfold wpA fB
  cases h : r e M with
  | none => simp [wpO]
  | some p => obtain ⟨x, M1⟩ := p; simp only [wpO_some, wpO_map]
theorem wpA_cat : wpA (fCat a b) e M QA ↔ wpE a e M fun x M1 => wpE b e M1 fun y M2 => wpO (asL x M2) fun l => wpO (asL y M2) fun k => l.length + k.length ≤ sizeLine ∧ QA (l ++ k) M2 := by
  unfold wpA wpE fCat
  cases h : a e M with
  | none => simp [wpO]
  | some p =>
    obtain ⟨x, M1⟩ := p
    cases h2 : b e M1 with
    | none => simp [wpO, h2]
    | some p =>
      obtain ⟨y, M2⟩ := p
      cases h3 : asL x M2 with
      | none => simp [wpO, h2, h3]
      | some l =>
        cases h4 : asL y M2 with
        | none => simp [wpO, h2, h3, h4]
        | some k => simp only [wpO_some, h2, h3, h4, wpO_ite]
theorem wpE_isi {T : String} : wpE (eIsi T a) e M Q ↔ wpE a e M fun d M1 => wpO (tyN d M1) fun t => wpO (kitB t T) fun v => Q (.bl v) M1 := by
  unfold wpE eIsi
  cases h : a e M with
  | none => simp [wpO]
  | some p =>
    obtain ⟨x, M1⟩ := p
    cases h2 : tyN x M1 with
    | none => simp [wpO, h2]
    | some t => simp only [wpO_some, h2, wpO_map]
theorem wpE_isi2 {T U : String} : wpE (eIsi2 T U a) e M Q ↔ wpE a e M fun d M1 => wpO (tyN d M1) fun t => wpO (kitB t T) fun v => wpO (kitB t U) fun v' => Q (.bl (v || v')) M1 := by
  unfold wpE eIsi2
  cases h : a e M with
  | none => simp [wpO]
  | some p =>
    obtain ⟨x, M1⟩ := p
    cases h2 : tyN x M1 with
    | none => simp [wpO, h2]
    | some t =>
      cases h3 : kitB t T with
      | none => simp [wpO, h2, h3]
      | some v =>
        cases h4 : kitB t U with
        | none => simp [wpO, h2, h3, h4]
        | some v' => simp only [wpO_some, h2, h3, h4]
theorem wpE_M {T : String} {g : D → List D → Sto → Option (D × Sto)} : wpE (eM T g a r) e M Q ↔ wpE a e M fun x M1 => isTy T x M1 = true ∧ wpA r e M1 fun ds M2 => wpO (g x ds M2) fun p => Q p.1 p.2 := by
  unfold wpE wpA eM
  cases h : a e M with
  | none => simp [wpO]
  | some p =>
    obtain ⟨x, M1⟩ := p
    simp only [wpO_some]
    by_cases h2 : isTy T x M1 = true
    · rw [if_pos h2]
      cases h3 : r e M1 with
      | none => simp [wpO, h3]
      | some p => obtain ⟨ds, M2⟩ := p; simp only [wpO_some, h2, true_and]
    · rw [if_neg h2]; simp [wpO, h2]
theorem wpE_fld {C g : Str} : wpE (eFld C g a) e M Q ↔ wpE a e M fun x M1 => wpO (getF C g x M1) fun d => Q d M1 := by
  unfold wpE eFld
  cases h : a e M with
  | none => simp [wpO]
  | some p => obtain ⟨x, M1⟩ := p; simp only [wpO_some, wpO_map]
theorem wpE_call {F : Fn} : wpE (eCall F n r) e M Q ↔ wpA r e M fun ds M1 => ds.length = n ∧ wpF F ds M1 Q := by
  unfold wpE wpA wpF eCall
  cases h : r e M with
  | none => simp [wpO]
  | some p =>
    obtain ⟨x, M1⟩ := p
    by_cases h2 : x.length = n <;> simp [wpO, h2]
theorem wpE_mk {C : Str} {F : Fn} : wpE (eMk C F n r) e M Q ↔ wpA r e M fun ds M1 => ds.length + 1 = n ∧ wpF F (.ref M1.length :: ds) (M1 ++ [.ins C [] []]) fun d M2 => d = .non ∧ wpO (retF M1 (.ref M1.length) M2) fun p => Q p.1 p.2 := by
  unfold wpE wpA wpF eMk
  cases h : r e M with
  | none => simp [wpO]
  | some p =>
    obtain ⟨x, M1⟩ := p
    simp only [wpO_some]
    by_cases h2 : x.length + 1 = n
    · rw [if_pos h2]
      cases h3 : F (.ref M1.length :: x) (M1 ++ [.ins C [] []]) with
      | none => simp [wpO, h3]
      | some p =>
        obtain ⟨d, M2⟩ := p
        simp only [wpO_some, h2, true_and]
        cases d <;> simp [wpO]
    · rw [if_neg h2]; simp [wpO, h2]
/-! statements -/
theorem wpS_next : wpS sNext e M K ↔ K (.nx e) M := wpO_some
def thenS (b : SM) (K : Fl → Sto → Prop) : Fl → Sto → Prop
  | .nx e, M => wpS b e M K
  | fl, M => K fl M
theorem thenS_nx {b : SM} : thenS b K (.nx e) M ↔ wpS b e M K := Iff.rfl
theorem thenS_rt {b : SM} : thenS b K (.rt d) M ↔ K (.rt d) M := Iff.rfl
theorem wpS_seq {x y : SM} : wpS (sSeq x y) e M K ↔ wpS x e M (thenS y K) := by
  unfold wpS sSeq
  cases h : x e M with
  | none => simp [wpO]
  | some p =>
    obtain ⟨fl, M1⟩ := p
    cases fl <;> simp only [wpO_some, thenS] <;> rfl
theorem wpS_asg {g : GM} : wpS (sAsg a g) e M K ↔ wpE a e M fun d M1 => wpO (g d e) fun e1 => K (.nx e1) M1 := by
  unfold wpS wpE sAsg
  cases h : a e M with
  | none => simp [wpO]
  | some p =>
    obtain ⟨d, M1⟩ := p
    cases h2 : g d e with
    | none => simp [wpO, h2]
    | some e1 => simp only [wpO_some, h2]
theorem wpS_drop : wpS (sDrop a) e M K ↔ wpE a e M fun _ M1 => K (.nx e) M1 := by
  unfold wpS wpE sDrop
  cases h : a e M with
  | none => simp [wpO]
  | some p => obtain ⟨d, M1⟩ := p; simp only [wpO_some]
theorem wpS_ret : wpS (sRet a) e M K ↔ wpE a e M fun d M1 => K (.rt d) M1 := by
  unfold wpS wpE sRet
  cases h : a e M with
  | none => simp [wpO]
  | some p => obtain ⟨d, M1⟩ := p; simp only [wpO_some]
theorem wpS_retN : wpS sRetN e M K ↔ K (.rt .non) M := wpO_some
theorem wpS_if {x y : SM} : wpS (sIf t x y) e M K ↔ wpT t e M fun v M1 => if v = true then wpS x e M1 K else wpS y e M1 K := by
  unfold wpT wpS sIf
  cases h : t e M with
  | none => simp [wpO]
  | some p => obtain ⟨x, M1⟩ := p; cases x <;> simp [wpO]
theorem wpS_sub {mv mo mi : EM} : wpS (sSub mv mo mi) e M K ↔ wpE mv e M fun v M1 => wpE mo e M1 fun o M2 => wpE mi e M2 fun i M3 => wpO (putI o i v M3) fun M4 => K (.nx e) M4 := by
  unfold wpE wpS sSub
  cases h : mv e M with
  | none => simp [wpO]
  | some p =>
    obtain ⟨x, M1⟩ := p
    cases h2 : mo e M1 with
    | none => simp [wpO, h2]
    | some p =>
      obtain ⟨l, M2⟩ := p
      cases h3 : mi e M2 with
      | none => simp [wpO, h2, h3]
      | some p => obtain ⟨k, M3⟩ := p; simp only [wpO_some, h2, h3, wpO_map]
theorem wpS_fld {C g : Str} {mv mo : EM} : wpS (DV.sFld C g mv mo) e M K ↔ wpE mv e M fun v M1 => wpE mo e M1 fun o M2 => wpO (putA C g o v M2) fun M3 => K (.nx e) M3 := by
  unfold wpE wpS DV.sFld
  cases h : mv e M with
  | none => simp [wpO]
  | some p =>
    obtain ⟨x, M1⟩ := p
    cases h2 : mo e M1 with
    | none => simp [wpO, h2]
    | some p => obtain ⟨l, M2⟩ := p; simp only [wpO_some, h2, wpO_map]
/-! walks -/
theorem wpS_for {it : AM} {g : GM} {b : SM} : wpS (sFor it g b) e M K ↔ wpA it e M fun ds M1 => wpS (forL g b ds) e M1 K := by
  unfold wpS wpA sFor
  cases h : it e M with
  | none => simp [wpO]
  | some p => obtain ⟨d, M1⟩ := p; simp only [wpO_some]
theorem wpA_comp {it : AM} {g : GM} {t : TM} {m : EM} {vs : List Nat} : wpA (fComp it g t m vs) e M QA ↔ wpA it e M fun ds M1 => wpA (compL g t m ds) (wipeE e vs) M1 fun ys M2 => ys.length ≤ sizeLine ∧ QA ys M2 := by
  unfold wpA fComp
  cases h : it e M with
  | none => simp [wpO]
  | some p =>
    obtain ⟨d, M1⟩ := p
    simp only [wpO_some]
    cases h2 : compL g t m d (wipeE e vs) M1 with
    | none => simp [wpO]
    | some p => obtain ⟨d, M2⟩ := p; simp only [wpO_some, wpO_ite]
theorem wpA_it : wpA (iIt a) e M QA ↔ wpE a e M fun d M1 => wpO (itD d) fun l => QA l M1 := by
  unfold wpE wpA iIt
  cases h : a e M with
  | none => simp [wpO]
  | some p => obtain ⟨x, M1⟩ := p; simp only [wpO_some, wpO_map]
def en1 (d : D) : Option (List D) := match asT d with
  | some l => some l
  | none => asLk d []
theorem wpA_en : wpA (iEn a) e M QA ↔ wpE a e M fun d M1 => wpO (en1 d) fun l => QA (enumD l) M1 := by
  unfold wpE wpA iEn en1
  cases h : a e M with
  | none => simp [wpO]
  | some p =>
    obtain ⟨x, M1⟩ := p
    simp only [wpO_some]
    cases asT x with
    | none => cases asLk x [] <;> simp [wpO]
    | some l => simp [wpO]
theorem wpA_rng1 {m : EM} : wpA (iRng1 (aCons m aNil)) e M QA ↔ wpE m e M fun d M1 => wpO (toI d) fun j => (-(2 ^ 62) ≤ j ∧ j < 2 ^ 62) ∧ QA (rngD 0 j) M1 := by
  unfold wpE wpA iRng1 aCons aNil
  cases h : m e M with
  | none => simp [wpO]
  | some p =>
    obtain ⟨x, M1⟩ := p
    cases x <;> simp only [wpO_some, toI, wpO_none, wpO_ite]
theorem wpA_compR {it : IR} {g : GM} {t : TM} {m : EM} {vs : List Nat} : wpA (fCompR it g t m vs) e M QA ↔ wpO (it e M) fun p => wpA (compR p.1.1 p.1.2 g t m p.1.2) (wipeE e vs) p.2 fun ys M2 => ys.length ≤ sizeLine ∧ QA ys M2 := by
  unfold wpA fCompR
  cases h : it e M with
  | none => simp [wpO]
  | some p =>
    obtain ⟨d, M1⟩ := p
    simp only [wpO_some]
    cases h2 : compR d.1 d.2 g t m d.2 (wipeE e vs) M1 with
    | none => simp [wpO]
    | some p => obtain ⟨d, M2⟩ := p; simp only [wpO_some, wpO_ite]
end
/-! functions -/
def outF (fz : Bool) (M : Sto) (Q : D → Sto → Prop) : Fl → Sto → Prop
  | .rt d, M' => if fz then wpO (retF M d M') (fun p => Q p.1 p.2) else Q d M'
  | .nx _, M' => if fz then wpO (retF M .non M') (fun p => Q p.1 p.2) else Q .non M'
  | _, _ => False
theorem wpF_fn {n : Nat} {fz : Bool} {m : SM} {ds : List D} {M : Sto} {Q : D → Sto → Prop} : wpF (fnD n fz m) ds M Q ↔ wpS m (ds.map some ++ List.replicate (n - ds.length) none) M (outF fz M Q) := by
  unfold wpF wpS fnD
  cases h : m (ds.map some ++ List.replicate (n - ds.length) none) M with
  | none => simp [wpO]
  | some p =>
    obtain ⟨fl, M1⟩ := p
    simp only [wpO_some]
    cases fl <;> cases fz <;> simp [wpO, outF]
/-! results without references -/
mutual
theorem freeze_plain (n : Nat) (M : Sto) : ∀ d : D, below 0 d = true → freeze n M d = some d
  | .non, _ => rfl
  | .bl _, _ => rfl
  | .int _, _ => rfl
  | .str _, _ => rfl
  | .ref r, h => by simp [below] at h
  | .tup l, h => by
    simp only [below] at h
    simp only [freeze, freezes_plain n M l h]
  | .lst l, h => by
    simp only [below] at h
    simp only [freeze, freezes_plain n M l h]
  | .kl l, h => by
    simp only [below] at h
    simp only [freeze, if_pos (belows_plain n l h)]
  | .kt l, h => by
    simp only [below] at h
    simp only [freeze, if_pos (belows_plain n l h)]
  | .obj C ns ds, h => by
    simp only [below] at h
    simp only [freeze, if_pos (belows_plain n ds h)]
theorem freezes_plain (n : Nat) (M : Sto) : ∀ l : List D, belows 0 l = true → freezes n M l = some l
  | [], _ => rfl
  | d :: ds, h => by
    simp only [belows, Bool.and_eq_true] at h
    simp only [freezes, freeze_plain n M d h.1, freezes_plain n M ds h.2]
theorem below_plain (n : Nat) : ∀ d : D, below 0 d = true → below n d = true
  | .non, _ => rfl
  | .bl _, _ => rfl
  | .int _, _ => rfl
  | .str _, _ => rfl
  | .ref r, h => by simp [below] at h
  | .tup l, h => by simp only [below] at h ⊢; exact belows_plain n l h
  | .lst l, h => by simp only [below] at h ⊢; exact belows_plain n l h
  | .kl l, h => by simp only [below] at h ⊢; exact belows_plain n l h
  | .kt l, h => by simp only [below] at h ⊢; exact belows_plain n l h
  | .obj C ns ds, h => by simp only [below] at h ⊢; exact belows_plain n ds h
theorem belows_plain (n : Nat) : ∀ l : List D, belows 0 l = true → belows n l = true
  | [], _ => rfl
  | d :: ds, h => by
    simp only [belows, Bool.and_eq_true] at h ⊢
    exact ⟨below_plain n d h.1, belows_plain n ds h.2⟩
end
theorem belows_iff {n : Nat} {l : List D} : belows n l = true ↔ ∀ d ∈ l, below n d = true := by
  induction l with
  | nil => simp [belows]
  | cons d ds ih => simp [belows, ih]
theorem belows_map {α : Type} {n : Nat} {l : List α} {f : α → D} (h : ∀ a ∈ l, below n (f a) = true) : belows n (l.map f) = true := belows_iff.mpr fun d hd => by
  obtain ⟨a, ha, rfl⟩ := List.mem_map.mp hd
  exact h a ha
theorem retF_same {M : Sto} {d : D} {l : Sto} (h : below 0 d = true) : retF M d (M ++ l) = some (d, M) := by
  unfold retF
  rw [if_pos, freeze_plain _ _ _ h]
  · simp
  · intro r o hr ho
    rw [List.getElem?_append_left hr] at ho
    exact .inl ho
theorem retF_same0 {M : Sto} {d : D} (h : below 0 d = true) : retF M d M = some (d, M) := by
  have := retF_same (M := M) (l := []) h
  simpa using this
/-- what a reference says is what the list says -/
theorem retF_list {M : Sto} {l : Sto} {k : Nat} {ds : List D} (h : l[k]? = some (.lst ds)) (hp : belows 0 ds = true) : retF M (.ref (M.length + k)) (M ++ l) = some (.lst ds, M) := by
  unfold retF
  rw [if_pos]
  · unfold freeze
    rw [if_neg (by omega), List.getElem?_append_right (by omega), Nat.add_sub_cancel_left, h]
    simp only [if_pos (belows_plain _ _ hp)]
    simp
  · intro r o hr ho
    rw [List.getElem?_append_left hr] at ho
    exact .inl ho
/-! the pool: it stands at 0 -/
structure Pool where
  cells : List Int
  at_ : Nat
  rest : Int
  acc : Int
  left : Int
def Pool.ob (p : Pool) : Ob := .lst [.lst (p.cells.map .int), .int p.at_, .int p.rest, .int p.acc, .int p.left, .non]
def Pm (M M' : Sto) : Prop := ∃ (p p' : Pool) (T : Sto), M = p.ob :: T ∧ M' = p'.ob :: T
theorem Pm.len {M M' : Sto} (h : Pm M M') : M'.length = M.length := by obtain ⟨p, p', T, rfl, rfl⟩ := h; rfl
theorem Pm.trans {M M1 M2 : Sto} (h : Pm M M1) (h' : Pm M1 M2) : Pm M M2 := by
  obtain ⟨p, p', T, rfl, rfl⟩ := h
  obtain ⟨q, q', T', e, rfl⟩ := h'
  obtain ⟨e1, rfl⟩ := List.cons.inj e
  exact ⟨p, q', T, rfl, rfl⟩
theorem Pm.refl_of {M M1 : Sto} (h : Pm M M1) : Pm M1 M1 := by obtain ⟨p, p', T, rfl, rfl⟩ := h; exact ⟨_, _, _, rfl, rfl⟩
theorem Pm.append {M M1 : Sto} (h : Pm M M1) (l : Sto) : Pm (M ++ l) (M1 ++ l) := by obtain ⟨p, p', T, rfl, rfl⟩ := h; exact ⟨p, p', T ++ l, rfl, rfl⟩
theorem Pm.split {M M' l : Sto} (h0 : Pm M M) (h : Pm (M ++ l) M') : ∃ M1, M' = M1 ++ l ∧ Pm M M1 := by
  obtain ⟨p, p', T, rfl, _⟩ := h0
  obtain ⟨q, q', T', e, rfl⟩ := h
  obtain ⟨e1, rfl⟩ := List.cons.inj e
  exact ⟨q'.ob :: T, rfl, p, q', T, rfl, rfl⟩
theorem belowOb_pool (n : Nat) (p : Pool) : belowOb n p.ob = true := by
  have h : belows n (p.cells.map D.int) = true := belows_map fun _ _ => rfl
  simp [belowOb, Pool.ob, belows, below, h]
theorem Pm.kept {M M1 : Sto} (h : Pm M M1) (l : Sto) : Kept M (M1 ++ l) := by
  obtain ⟨p, p', T, rfl, rfl⟩ := h
  intro r o hr ho
  cases r with
  | zero => cases ho; exact .inr (belowOb_pool _ _)
  | succ r =>
    rw [List.cons_append, List.getElem?_cons_succ, List.getElem?_append_left (by simpa using hr)] at ho
    exact .inl (by rw [List.getElem?_cons_succ]; exact ho)
theorem retF_pm {M M1 : Sto} {d : D} {l : Sto} (h : Pm M M1) (hd : below 0 d = true) : retF M d (M1 ++ l) = some (d, M1) := by
  unfold retF
  rw [if_pos (h.kept l), freeze_plain _ _ _ hd, ← h.len]
  simp
theorem retF_pm0 {M M1 : Sto} {d : D} (h : Pm M M1) (hd : below 0 d = true) : retF M d M1 = some (d, M1) := by
  have := retF_pm (l := []) h hd
  simpa using this
theorem retF_pmL {M M1 : Sto} {l : Sto} {k : Nat} {ds : List D} (h : Pm M M1) (hk : l[k]? = some (.lst ds)) (hp : belows 0 ds = true) : retF M (.ref (M.length + k)) (M1 ++ l) = some (.lst ds, M1) := by
  unfold retF
  rw [if_pos (h.kept l)]
  unfold freeze
  rw [if_neg (by omega), ← h.len, List.getElem?_append_right (by omega), Nat.add_sub_cancel_left, hk]
  simp only [if_pos (belows_plain _ _ hp)]
  simp
end DV

end

section
set_option Elab.async false
set_option linter.all false
set_option maxRecDepth 100000
/-! Pl2: what the plain operators say, walks by an invariant -/
namespace DV
open PySem PySem.Spec L2

def asR (r : Nat) (M : Sto) : Option (List D) := match M[r]? with
  | some (.lst l) => some l
  | _ => none
theorem asR_zero {l : List D} {T : Sto} : asR 0 (.lst l :: T) = some l := rfl
theorem asR_succ {r : Nat} {o : Ob} {T : Sto} : asR (r + 1) (o :: T) = asR r T := by unfold asR; rw [List.getElem?_cons_succ]
theorem asR_app {M l : Sto} {k : Nat} : asR (M.length + k) (M ++ l) = asR k l := by
  unfold asR
  rw [List.getElem?_append_right (by omega), Nat.add_sub_cancel_left]
theorem asR_app0 {M l : Sto} : asR M.length (M ++ l) = asR 0 l := asR_app (k := 0)
theorem set_app {M l : Sto} {k : Nat} {o : Ob} : (M ++ l).set (M.length + k) o = M ++ l.set k o := by
  rw [List.set_append_right _ _ (by omega), Nat.add_sub_cancel_left]
theorem set_app0 {M l : Sto} {o : Ob} : (M ++ l).set M.length o = M ++ l.set 0 o := set_app (k := 0)
theorem asR_some {r : Nat} {M : Sto} {l : List D} (h : asR r M = some l) : M[r]? = some (.lst l) := by
  unfold asR at h
  split at h
  · cases h; assumption
  · cases h

section
variable {M : Sto} {Q : D → Prop} {i j : Int} {x y : Str} {l k : List D} {d : D} {r n : Nat}
theorem o_add_int : dAdd (.int i) (.int j) M = some (.int (i + j)) := rfl
theorem o_add_tup : wpO (dAdd (.tup l) (.tup k) M) Q ↔ l.length + k.length ≤ sizeLine ∧ Q (.tup (l ++ k)) := wpO_ite
theorem o_add_str : wpO (dAdd (.str x) (.str y) M) Q ↔ x.length + y.length ≤ sizeLine ∧ Q (.str (x ++ y)) := wpO_ite
theorem o_add_lst : wpO (dAdd (.lst l) (.lst k) M) Q ↔ l.length + k.length ≤ sizeLine ∧ Q (.lst (l ++ k)) := wpO_ite
theorem o_sub_int : dSub (.int i) (.int j) M = some (.int (i - j)) := rfl
theorem o_mul_int : wpO (dMul (.int i) (.int j) M) Q ↔ ((-(2 ^ 64) < i ∧ i < 2 ^ 64) ∨ (-(2 ^ 64) < j ∧ j < 2 ^ 64)) ∧ Q (.int (i * j)) := wpO_ite
theorem o_div_int : wpO (dDiv (.int i) (.int j) M) Q ↔ (0 < j ∧ j < 1073741824) ∧ Q (.int (i / j)) := wpO_ite
theorem o_mod_int : wpO (dMod (.int i) (.int j) M) Q ↔ 0 < j ∧ Q (.int (i % j)) := wpO_ite
theorem o_pow_int : wpO (dPow (.int i) (.int j) M) Q ↔ (0 ≤ j ∧ j ≤ 1000 ∧ i.natAbs < 1000) ∧ Q (.int (i ^ j.toNat)) := wpO_ite
theorem o_lt_int : dLt (.int i) (.int j) M = some (.bl (decide (i < j))) := rfl
theorem o_le_int : dLe (.int i) (.int j) M = some (.bl (decide (i ≤ j))) := rfl
theorem o_gt_int : dGt (.int i) (.int j) M = some (.bl (decide (j < i))) := rfl
theorem o_ge_int : dGe (.int i) (.int j) M = some (.bl (decide (j ≤ i))) := rfl
theorem eqD_int : eqD (.int i) (.int j) M = some (decide (i = j)) := by
  have h : scal (.int i) (.int j) = true := rfl
  simp only [eqD, scD, h, if_true]
  congr 1
  rw [decide_eq_decide]
  exact ⟨fun h => by cases h; rfl, fun h => by rw [h]⟩
theorem eqD_str : eqD (.str x) (.str y) M = some (decide (x = y)) := by
  have h : scal (.str x) (.str y) = true := rfl
  simp only [eqD, scD, h, if_true]
  congr 1
  rw [decide_eq_decide]
  exact ⟨fun h => by cases h; rfl, fun h => by rw [h]⟩
theorem eqD_bl {a b : Bool} : eqD (.bl a) (.bl b) M = some (decide (a = b)) := by
  have h : scal (.bl a) (.bl b) = true := rfl
  simp only [eqD, scD, h, if_true]
  congr 1
  rw [decide_eq_decide]
  exact ⟨fun h => by cases h; rfl, fun h => by rw [h]⟩
theorem o_eq_int : dEq (.int i) (.int j) M = some (.bl (decide (i = j))) := by unfold dEq; rw [eqD_int]; rfl
theorem o_eq_str : dEq (.str x) (.str y) M = some (.bl (decide (x = y))) := by unfold dEq; rw [eqD_str]; rfl
theorem o_eq_bl {a b : Bool} : dEq (.bl a) (.bl b) M = some (.bl (decide (a = b))) := by unfold dEq; rw [eqD_bl]; rfl
theorem o_ne_int : dNe (.int i) (.int j) M = some (.bl (!decide (i = j))) := by unfold dNe; rw [eqD_int]; rfl
theorem o_ne_str : dNe (.str x) (.str y) M = some (.bl (!decide (x = y))) := by unfold dNe; rw [eqD_str]; rfl
theorem o_ne_bl {a b : Bool} : dNe (.bl a) (.bl b) M = some (.bl (!decide (a = b))) := by unfold dNe; rw [eqD_bl]; rfl
theorem o_is_non : dIs d .non M = some (.bl (isNon d)) := by cases d <;> rfl
theorem o_isnot_non : dIsNot d .non M = some (.bl (!isNon d)) := by cases d <;> rfl
theorem o_isnot_bl {a b : Bool} : dIsNot (.bl a) (.bl b) M = some (.bl (!decide (a = b))) := rfl
theorem o_ix_tup : dIdx (.tup l) (.int i) M = atI l i := rfl
theorem o_ix_kt : dIdx (.kt l) (.int i) M = atI l i := rfl
theorem o_ix_lst : dIdx (.lst l) (.int i) M = atI l i := rfl
theorem o_ix_kl : dIdx (.kl l) (.int i) M = atI l i := rfl
theorem o_ix_ref : dIdx (.ref r) (.int i) M = (asR r M).bind fun l => atI l i := by
  unfold dIdx asLk asL asR
  simp only [asT]
  cases M[r]? with
  | none => rfl
  | some o => cases o <;> rfl
theorem atI_n {α : Type} {l : List α} {n : Nat} : atI l (n : Int) = l[n]? := by
  unfold atI ixN
  rw [if_pos (by omega)]
  by_cases h : n < l.length
  · rw [if_pos (by omega)]; simp
  · rw [if_neg (by omega)]; rw [List.getElem?_eq_none (by omega)]; rfl
theorem atI_0 {α : Type} {l : List α} : atI l 0 = l[0]? := atI_n (n := 0)
theorem atI_1 {α : Type} {l : List α} : atI l 1 = l[1]? := atI_n (n := 1)
theorem atI_2 {α : Type} {l : List α} : atI l 2 = l[2]? := atI_n (n := 2)
theorem atI_3 {α : Type} {l : List α} : atI l 3 = l[3]? := atI_n (n := 3)
theorem atI_4 {α : Type} {l : List α} : atI l 4 = l[4]? := atI_n (n := 4)
theorem ixN_nat {n m : Nat} (h : n < m) : ixN m (n : Int) = some n := by
  unfold ixN
  rw [if_pos (by omega), if_pos (by omega)]; simp
theorem o_slc_tup {a b : Option Int} : dSlc (.tup l) a b M = some (.tup (cut l a b)) := rfl
theorem o_slc_lst {a b : Option Int} : dSlc (.lst l) a b M = some (.lst (cut l a b)) := rfl
theorem o_len_tup : cLen [.tup l] M = some (.int l.length) := rfl
theorem o_len_lst : cLen [.lst l] M = some (.int l.length) := rfl
theorem o_len_kl : cLen [.kl l] M = some (.int l.length) := rfl
theorem o_len_ref : cLen [.ref r] M = (asR r M).map fun l => .int l.length := by
  unfold cLen asLk asL asR
  simp only [asT]
  cases M[r]? with
  | none => rfl
  | some o => cases o <;> rfl
theorem o_len_str : wpO (cLen [.str x] M) Q ↔ x.length ≤ sizeLine ∧ Q (.int x.length) := wpO_ite
theorem o_int_int : cInt [.int i] M = some (.int i) := rfl
theorem o_int_bl {b : Bool} : cInt [.bl b] M = some (.int (if b then 1 else 0)) := rfl
theorem o_tuple_tup : cTuple [.tup l] M = some (.tup l) := rfl
theorem o_tuple_lst : cTuple [.lst l] M = some (.tup l) := rfl
theorem o_tuple_ref : cTuple [.ref r] M = (asR r M).map D.tup := by
  have e : cTuple [.ref r] M = (match asLk (.ref r) M with
    | some l => some (.tup l)
    | none => none) := rfl
  rw [e]
  unfold asLk asL asR
  cases h : M[r]? with
  | none => simp only [h]; rfl
  | some o => cases o <;> simp only [h] <;> rfl
theorem o_list_tup : cList [.tup l] M = some l := rfl
theorem o_list_lst : cList [.lst l] M = some l := rfl
theorem o_list_kl : cList [.kl l] M = some l := rfl
theorem o_put : putI (.ref r) (.int i) d M = (asR r M).bind fun l => (ixN l.length i).map fun j => M.set r (.lst (l.set j d)) := by
  have e : putI (.ref r) (.int i) d M = (match M[r]? with
    | some (.lst l) => (match ixN l.length i with
      | some j => some (M.set r (.lst (l.set j d)))
      | none => none)
    | _ => none) := rfl
  rw [e]
  unfold asR
  cases M[r]? with
  | none => rfl
  | some o => cases o with
    | lst l => simp only [Option.bind_some]; cases ixN l.length i <;> rfl
    | ins _ _ _ => rfl
theorem p_app {Q : D × Sto → Prop} : wpO (mApp (.ref r) [d] M) Q ↔ wpO (asR r M) fun l => l.length < sizeLine ∧ Q (.non, M.set r (.lst (l ++ [d]))) := by
  have e : mApp (.ref r) [d] M = (match M[r]? with
    | some (.lst l) => if l.length < sizeLine then some (.non, M.set r (.lst (l ++ [d]))) else none
    | _ => none) := rfl
  rw [e]
  unfold asR
  cases M[r]? with
  | none => simp [wpO]
  | some o => cases o with
    | lst l => simp only [wpO_some, wpO_ite]
    | ins _ _ _ => simp [wpO]
theorem p_ext {Q : D × Sto → Prop} : wpO (mExt (.ref r) [.lst k] M) Q ↔ wpO (asR r M) fun l => l.length + k.length ≤ sizeLine ∧ Q (.non, M.set r (.lst (l ++ k))) := by
  have e : mExt (.ref r) [.lst k] M = (match M[r]? with
    | some (.lst l) => if l.length + k.length ≤ sizeLine then some (.non, M.set r (.lst (l ++ k))) else none
    | _ => none) := by
    show (match M[r]?, some k with
      | some (.lst l), some l2 => if l.length + l2.length ≤ sizeLine then some (D.non, M.set r (.lst (l ++ l2))) else none
      | _, _ => none) = _
    cases M[r]? with
    | none => rfl
    | some o => cases o <;> rfl
  rw [e]
  unfold asR
  cases M[r]? with
  | none => simp [wpO]
  | some o => cases o with
    | lst l => simp only [wpO_some, wpO_ite]
    | ins _ _ _ => simp [wpO]
theorem isTy_ref {Q : Prop} : (isTy "list" (.ref r) M = true ∧ Q) ↔ ((asR r M).isSome = true ∧ Q) := by
  have e : isTy "list" (.ref r) M = (asR r M).isSome := by
    have e : isTy "list" (.ref r) M = (match M[r]? with
      | some (.lst l) => some l
      | _ => none).isSome := rfl
    rw [e]
    rfl
  rw [e]
theorem wpO_bind {α β : Type} {o : Option α} {f : α → Option β} {Q : β → Prop} : wpO (o.bind f) Q ↔ wpO o fun a => wpO (f a) Q := by
  cases o <;> simp [wpO]
theorem asL_lst : asL (.lst l) M = some l := rfl
theorem asL_ref : asL (.ref r) M = asR r M := rfl
theorem itD_tup : itD (.tup l) = some l := rfl
theorem itD_kt : itD (.kt l) = some l := rfl
theorem itD_lst : itD (.lst l) = some l := rfl
theorem gN_eq {e : Env} : gN n d e = some (e.set n (some d)) := rfl
theorem gT_eq {e : Env} {g : GsM} (h : l.length = n) : gT n g (.tup l) e = g l e := by
  show (if l.length = n then g l e else none) = _
  rw [if_pos h]
theorem gCs_eq {e : Env} {g : GM} {s : GsM} : gCs g s (d :: l) e = (g d e).bind fun e1 => s l e1 := by
  show (match g d e with
    | some e1 => s l e1
    | none => none) = _
  cases g d e <;> rfl
theorem gNl_eq {e : Env} : gNl [] e = some e := rfl
theorem rngD_nat : rngD 0 (n : Int) = (List.range n).map fun (i : Nat) => .int (i : Int) := by
  unfold rngD
  rw [show ((n : Int) - 0).toNat = n by omega]
  congr 1
  funext i
  simp
end
/-! walks -/
def loopK (K : Fl → Sto → Prop) (I : Env → Sto → Prop) : Fl → Sto → Prop
  | .nx e, M => I e M
  | .ct e, M => I e M
  | .bk e, M => K (.nx e) M
  | .rt v, M => K (.rt v) M
theorem loopK_nx {K : Fl → Sto → Prop} {I : Env → Sto → Prop} {e : Env} {M : Sto} : loopK K I (.nx e) M ↔ I e M := Iff.rfl
theorem loopK_rt {K : Fl → Sto → Prop} {I : Env → Sto → Prop} {d : D} {M : Sto} : loopK K I (.rt d) M ↔ K (.rt d) M := Iff.rfl
theorem wpS_forL {α : Type} {enc : α → D} {g : GM} {b : SM} {K : Fl → Sto → Prop} (I : List α → Env → Sto → Prop) : ∀ (xs : List α) (e : Env) (M : Sto), I xs e M →
    (∀ x xs e M, I (x :: xs) e M → ∃ e1, g (enc x) e = some e1 ∧ wpS b e1 M (loopK K (I xs))) → (∀ e M, I [] e M → K (.nx e) M) → wpS (forL g b (xs.map enc)) e M K
  | [], e, M, h, _, hd => wpO_some.mpr (hd e M h)
  | x :: xs, e, M, h, hs, hd => by
    obtain ⟨e1, h1, ⟨fl, M2⟩, h2, h3⟩ := hs x xs e M h
    have ih := fun e M h => wpS_forL I xs e M h hs hd
    unfold wpS
    rw [List.map_cons]
    unfold forL
    rw [h1]
    simp only [h2]
    cases fl with
    | nx e2 => exact ih e2 M2 h3
    | ct e2 => exact ih e2 M2 h3
    | bk e2 => exact wpO_some.mpr h3
    | rt v => exact wpO_some.mpr h3
theorem wpS_rng {g : GM} {b : SM} {K : Fl → Sto → Prop} {n : Nat} {e : Env} {M : Sto} (I : Nat → Env → Sto → Prop) (h0 : I 0 e M)
    (hs : ∀ i e M, i < n → I i e M → ∃ e1, g (.int (i : Int)) e = some e1 ∧ wpS b e1 M (loopK K (I (i + 1)))) (hd : ∀ e M, I n e M → K (.nx e) M) : wpS (forL g b (rngD 0 (n : Int))) e M K := by
  rw [rngD_nat]
  refine wpS_forL (α := Nat) (fun xs e M => ∃ i, xs = (List.range n).drop i ∧ i ≤ n ∧ I i e M) _ e M ⟨0, by simp, Nat.zero_le _, h0⟩ ?_ ?_
  · rintro x xs e M ⟨i, hx, hi, h⟩
    have hlt : i < n := by
      rcases Nat.lt_or_ge i n with z | z
      · exact z
      · rw [List.drop_eq_nil_of_le (by simpa using z)] at hx; cases hx
    rw [List.drop_eq_getElem_cons (by simpa using hlt)] at hx
    obtain ⟨rfl, rfl⟩ := List.cons.inj hx
    have hg : (List.range n)[i]'(by simpa using hlt) = i := by simp
    rw [hg]
    obtain ⟨e1, h1, h2⟩ := hs i e M hlt h
    refine ⟨e1, h1, h2.imp fun fl M2 h3 => ?_⟩
    cases fl with
    | nx e2 => exact ⟨i + 1, rfl, hlt, h3⟩
    | ct e2 => exact ⟨i + 1, rfl, hlt, h3⟩
    | bk e2 => exact h3
    | rt v => exact h3
  · rintro e M ⟨i, hx, hi, h⟩
    have : n ≤ i := by
      have z := congrArg List.length hx
      simp at z
      omega
    have : i = n := by omega
    subst this
    exact hd e M h
theorem wpA_pure {α : Type} {enc : α → D} {g : GM} {t : TM} {m : EM} {e : Env} {M : Sto} {QA : List D → Sto → Prop} (p : α → Bool) (f : α → D) : ∀ (xs : List α),
    (∀ x ∈ xs, ∃ e1, g (enc x) e = some e1 ∧ wpT t e1 M (fun b M' => b = p x ∧ M' = M) ∧ (p x = true → wpE m e1 M fun d M' => d = f x ∧ M' = M)) →
    QA ((xs.filter p).map f) M → wpA (compL g t m (xs.map enc)) e M QA := by
  suffices key : ∀ (xs : List α), (∀ x ∈ xs, ∃ e1, g (enc x) e = some e1 ∧ wpT t e1 M (fun b M' => b = p x ∧ M' = M) ∧ (p x = true → wpE m e1 M fun d M' => d = f x ∧ M' = M)) →
      compL g t m (xs.map enc) e M = some ((xs.filter p).map f, M) by
    intro xs h q
    unfold wpA
    rw [key xs h]
    exact wpO_some.mpr q
  intro xs
  induction xs with
  | nil => intro _; rfl
  | cons x xs ih =>
    intro h
    obtain ⟨e1, h1, ⟨⟨b, M1⟩, h2, hb, hM⟩, h3⟩ := h x (List.mem_cons_self ..)
    have ih := ih fun y hy => h y (List.mem_cons_of_mem _ hy)
    rw [List.map_cons]
    unfold compL
    cases hb
    cases hM
    rw [h1]
    simp only [h2]
    cases hp : p x with
    | false =>
      simp only [ih]
      rw [List.filter_cons_of_neg (by simp [hp])]
    | true =>
      obtain ⟨⟨d, M2⟩, h4, hd, hM⟩ := h3 hp
      cases hd
      cases hM
      simp only [h4, ih]
      rw [List.filter_cons_of_pos hp]
      rfl
theorem filter_yes {α : Type} (xs : List α) : xs.filter (fun _ => true) = xs := by simp
theorem wpA_map {α : Type} {enc : α → D} {g : GM} {m : EM} {e : Env} {M : Sto} {QA : List D → Sto → Prop} (f : α → D) (xs : List α)
    (h : ∀ x ∈ xs, ∃ e1, g (enc x) e = some e1 ∧ (wpE m e1 M fun d M' => d = f x ∧ M' = M)) (q : QA (xs.map f) M) : wpA (compL g mYes m (xs.map enc)) e M QA := by
  refine wpA_pure (fun _ => true) f xs (fun x hx => ?_) (by rw [filter_yes]; exact q)
  obtain ⟨e1, h1, h2⟩ := h x hx
  exact ⟨e1, h1, wpT_yes.mpr ⟨rfl, rfl⟩, fun _ => h2⟩
/-- with what changes under way (the pool) -/
theorem wpA_inv {g : GM} {t : TM} {m : EM} {e : Env} (I : Sto → Prop) (R : D → Prop) : ∀ (ds : List D) (M : Sto) (QA : List D → Sto → Prop), I M →
    (∀ d ∈ ds, ∀ M, I M → ∃ e1, g d e = some e1 ∧ wpT t e1 M fun b M1 => if b = true then wpE m e1 M1 fun y M2 => I M2 ∧ R y else I M1) →
    (∀ ys M', I M' → (∀ y ∈ ys, R y) → ys.length ≤ ds.length → QA ys M') → wpA (compL g t m ds) e M QA
  | [], M, QA, h0, _, q => wpO_some.mpr (q [] M h0 (fun _ h => by cases h) (Nat.le_refl _))
  | d :: ds, M, QA, h0, h, q => by
    obtain ⟨e1, h1, ⟨b, M1⟩, h2, h3⟩ := h d (List.mem_cons_self ..) M h0
    unfold wpA
    unfold compL
    rw [h1]
    simp only [h2]
    have hh := fun d hd => h d (List.mem_cons_of_mem _ hd)
    cases b with
    | false =>
      simp only [Bool.false_eq_true, if_false] at h3
      exact wpA_inv I R ds M1 QA h3 hh fun ys M' a b c => q ys M' a b (Nat.le_succ_of_le c)
    | true =>
      simp only [if_true] at h3
      obtain ⟨⟨y, M2⟩, h4, h5, h6⟩ := h3
      simp only [h4]
      have := wpA_inv I R ds M2 (fun ys M' => QA (y :: ys) M') h5 hh fun ys M' a b c => q (y :: ys) M' a (fun z hz => by
        rcases List.mem_cons.mp hz with rfl | hz
        · exact h6
        · exact b z hz) (Nat.succ_le_succ c)
      obtain ⟨⟨ys, M3⟩, h7, h8⟩ := this
      rw [h7]
      exact wpO_some.mpr h8
theorem kit_same {a : String} : kitB a a = some true := by unfold kitB; rw [if_pos (by simp)]
def ev :=
  And.intro @wpE_var <|
  And.intro @wpE_C <|
  And.intro @wpE_bin <|
  And.intro @wpT_tV <|
  And.intro @wpE_and <|
  And.intro @wpE_or <|
  And.intro @wpE_not <|
  And.intro @wpT_and <|
  And.intro @wpT_or <|
  And.intro @wpT_not <|
  And.intro @wpT_yes <|
  And.intro @wpE_if <|
  And.intro @wpE_chain <|
  And.intro @wpA_nil <|
  And.intro @wpA_cons <|
  And.intro @wpE_tup <|
  And.intro @wpA_lst <|
  And.intro @wpE_val <|
  And.intro @wpE_new <|
  And.intro @wpE_neg <|
  And.intro @wpP_no <|
  And.intro @wpP_at <|
  And.intro @wpE_slc <|
  And.intro @wpE_B <|
  And.intro @wpA_B <|
  And.intro @wpA_cat <|
  And.intro @wpE_isi <|
  And.intro @wpE_isi2 <|
  And.intro @wpE_M <|
  And.intro @wpE_fld <|
  And.intro @wpE_call <|
  And.intro @wpE_mk <|
  And.intro @wpS_next <|
  And.intro @thenS_nx <|
  And.intro @thenS_rt <|
  And.intro @loopK_nx <|
  And.intro @loopK_rt <|
  And.intro @wpS_seq <|
  And.intro @wpS_asg <|
  And.intro @wpS_drop <|
  And.intro @wpS_ret <|
  And.intro @wpS_retN <|
  And.intro @wpS_if <|
  And.intro @wpS_sub <|
  And.intro @wpS_fld <|
  And.intro @wpS_for <|
  And.intro @wpA_comp <|
  And.intro @wpA_it <|
  And.intro @wpA_en <|
  And.intro @wpA_rng1 <|
  And.intro @wpF_fn <|
  And.intro @wpO_some <|
  And.intro @wpO_none <|
  And.intro @wpO_map <|
  And.intro @wpO_bind <|
  And.intro @toB_bl <|
  And.intro @toI_int <|
  And.intro @o_add_int <|
  And.intro @o_add_tup <|
  And.intro @o_add_str <|
  And.intro @o_add_lst <|
  And.intro @o_sub_int <|
  And.intro @o_mul_int <|
  And.intro @o_div_int <|
  And.intro @o_mod_int <|
  And.intro @o_pow_int <|
  And.intro @o_lt_int <|
  And.intro @o_le_int <|
  And.intro @o_gt_int <|
  And.intro @o_ge_int <|
  And.intro @o_eq_int <|
  And.intro @o_eq_str <|
  And.intro @o_eq_bl <|
  And.intro @o_ne_int <|
  And.intro @o_ne_str <|
  And.intro @o_ne_bl <|
  And.intro @o_is_non <|
  And.intro @o_isnot_non <|
  And.intro @o_isnot_bl <|
  And.intro @o_ix_tup <|
  And.intro @o_ix_kt <|
  And.intro @o_ix_lst <|
  And.intro @o_ix_kl <|
  And.intro @o_ix_ref <|
  And.intro @atI_n <|
  And.intro @atI_0 <|
  And.intro @atI_1 <|
  And.intro @atI_2 <|
  And.intro @atI_3 <|
  And.intro @atI_4 <|
  And.intro @o_slc_tup <|
  And.intro @o_slc_lst <|
  And.intro @o_len_tup <|
  And.intro @o_len_lst <|
  And.intro @o_len_kl <|
  And.intro @o_len_ref <|
  And.intro @o_int_int <|
  And.intro @o_int_bl <|
  And.intro @o_tuple_tup <|
  And.intro @o_tuple_lst <|
  And.intro @o_tuple_ref <|
  And.intro @o_list_tup <|
  And.intro @o_list_lst <|
  And.intro @o_list_kl <|
  And.intro @o_put <|
  And.intro @p_app <|
  And.intro @p_ext <|
  And.intro @isTy_ref <|
  And.intro @asL_lst <|
  And.intro @asL_ref <|
  And.intro @itD_tup <|
  And.intro @itD_kt <|
  And.intro @itD_lst <|
  And.intro @gN_eq <|
  And.intro @gCs_eq <|
  And.intro @gNl_eq <|
  And.intro @asR_zero <|
  And.intro @asR_succ <|
  And.intro @asR_app <|
  And.intro @asR_app0 <|
  And.intro @set_app <|
  @set_app0
end DV

end

section
set_option Elab.async false
set_option linter.all false
set_option maxRecDepth 100000
/-! K40P1: the pool and the draws -/
namespace K40
open PySem PySem.Spec L2 DV
theorem ret_int {M : Sto} {k : Int} {Q : D × Sto → Prop} : wpO (retF M (.int k) M) Q ↔ Q (.int k, M) := by rw [retF_same0 rfl]; exact wpO_some
theorem ret_bl {M : Sto} {k : Bool} {Q : D × Sto → Prop} : wpO (retF M (.bl k) M) Q ↔ Q (.bl k, M) := by rw [retF_same0 rfl]; exact wpO_some
theorem ret_str {M : Sto} {k : Str} {Q : D × Sto → Prop} : wpO (retF M (.str k) M) Q ↔ Q (.str k, M) := by rw [retF_same0 rfl]; exact wpO_some
theorem ret_non {M : Sto} {Q : D × Sto → Prop} : wpO (retF M .non M) Q ↔ Q (.non, M) := by rw [retF_same0 rfl]; exact wpO_some
theorem mixed_ok (i j : Int) (M : Sto) : wpF F_law_mixed [.int i, .int j] M fun d M' => (∃ k, d = .int k) ∧ M' = M := by
  unfold F_law_mixed B_law_mixed
  simp only [ev, List.getElem?_cons_zero, List.getElem?_cons_succ, List.set_cons_zero, List.set_cons_succ, List.map_cons, List.map_nil, List.length_cons, List.length_nil, List.replicate_succ, List.replicate_zero, List.cons_append, List.nil_append, Nat.reduceAdd, Nat.reduceSub, Nat.zero_add, Nat.sub_zero, Option.bind_some, true_and, and_true, outF, if_true, if_false, Bool.false_eq_true, Bool.not_true, Bool.not_false, List.append_assoc, List.length_append, Option.isSome_some, wipeE, isNon, ret_int]
  refine ⟨by decide, .inr (by decide), by decide, .inr (by decide), by decide, .inl ?_, .inr (by decide), by decide, .inr (by decide), by decide, .inr (by decide), by decide, by decide, _, rfl⟩
  omega
theorem mixed_rule {i j : Int} {M : Sto} {Q : D → Sto → Prop} (h : ∀ k, Q (.int k) M) : wpF F_law_mixed [.int i, .int j] M Q :=
  (mixed_ok i j M).imp fun d M' ⟨⟨k, e⟩, e'⟩ => by rw [e, e']; exact h k
theorem ix61 : ixN 6 1 = some 1 := rfl
theorem ix62 : ixN 6 2 = some 2 := rfl
theorem ix63 : ixN 6 3 = some 3 := rfl
theorem ix64 : ixN 6 4 = some 4 := rfl
theorem ob_mk (cells : List Int) (a : Nat) (b c d : Int) (T : Sto) : (Ob.lst [.lst (cells.map D.int), .int a, .int b, .int c, .int d, .non] :: T) = Pool.ob ⟨cells, a, b, c, d⟩ :: T := rfl
theorem draw_end (x n : Int) (hn : 0 < n) (p : Pool) (T : Sto) (q : Pool) {d : D} {M' : Sto} (hd : d = .int (x % n)) (hM : M' = q.ob :: T) : Pm (p.ob :: T) M' ∧ ∃ k : Nat, d = .int (k : Int) ∧ (k : Int) < n := by
  refine ⟨⟨p, q, T, rfl, hM⟩, (x % n).toNat, ?_, ?_⟩
  · rw [hd, Int.toNat_of_nonneg (Int.emod_nonneg _ (by omega))]
  · rw [Int.toNat_of_nonneg (Int.emod_nonneg _ (by omega))]
    exact Int.emod_lt_of_pos _ hn
theorem ret_pool {p q : Pool} {T : Sto} {k : Int} {Q : D × Sto → Prop} : wpO (retF (p.ob :: T) (.int k) (q.ob :: T)) Q ↔ Q (.int k, q.ob :: T) := by
  rw [retF_pm0 ⟨p, q, T, rfl, rfl⟩ rfl]; exact wpO_some
theorem cast1 (a : Nat) : ((a : Int) + 1) = ((a + 1 : Nat) : Int) := rfl
theorem draw_ok (n : Int) (hn : 0 < n) (hn2 : n < 1073741824) (M : Sto) (hM : Pm M M) : wpF F_law_draw [.ref 0, .int n] M fun d M' => Pm M M' ∧ ∃ k : Nat, d = .int (k : Int) ∧ (k : Int) < n := by
  obtain ⟨p, _, T, rfl, _⟩ := hM
  obtain ⟨cells, a, rest, acc, left⟩ := p
  unfold F_law_draw B_law_draw
  rw [wpF_fn]
  generalize hQ : (outF true (Pool.ob ⟨cells, a, rest, acc, left⟩ :: T) fun d M' => Pm (Pool.ob ⟨cells, a, rest, acc, left⟩ :: T) M' ∧ ∃ k : Nat, d = .int (k : Int) ∧ (k : Int) < n) = Q
  have done : ∀ (q : Pool) (x : Int), Q (.rt (.int (x % n))) (q.ob :: T) := by
    intro q x
    rw [← hQ]
    show wpO (retF _ _ _) _
    rw [ret_pool]
    exact draw_end x n hn _ T q rfl rfl
  show wpS _ _ (Ob.lst [.lst (cells.map D.int), .int a, .int rest, .int acc, .int left, .non] :: T) Q
  simp only [ev, List.getElem?_cons_zero, List.getElem?_cons_succ, List.set_cons_zero, List.set_cons_succ, List.map_cons, List.map_nil, List.length_cons, List.length_nil, List.replicate_succ, List.replicate_zero, List.cons_append, List.nil_append, Nat.reduceAdd, Nat.reduceSub, Nat.zero_add, Nat.sub_zero, Option.bind_some, true_and, and_true, outF, if_true, if_false, Bool.false_eq_true, Bool.not_true, Bool.not_false, List.append_assoc, List.length_append, Option.isSome_some, wipeE, isNon, ix61, ix62, ix63, ix64, List.length_map, decide_eq_true_eq]
  by_cases h1 : rest < 2
  · simp only [h1, if_true]
    by_cases h2 : (a : Int) < (cells.length : Int)
    · have h3 : a < cells.length := by omega
      simp only [h2, if_true]
      have hc : (cells.map D.int)[a]? = some (.int cells[a]) := by rw [List.getElem?_map, List.getElem?_eq_getElem h3]; rfl
      simp only [ev, List.getElem?_cons_zero, List.getElem?_cons_succ, List.set_cons_zero, List.set_cons_succ, List.map_cons, List.map_nil, List.length_cons, List.length_nil, List.replicate_succ, List.replicate_zero, List.cons_append, List.nil_append, Nat.reduceAdd, Nat.reduceSub, Nat.zero_add, Nat.sub_zero, Option.bind_some, true_and, and_true, outF, if_true, if_false, Bool.false_eq_true, Bool.not_true, Bool.not_false, List.append_assoc, List.length_append, Option.isSome_some, wipeE, isNon, ix61, ix62, ix63, ix64, hc, List.length_map, decide_eq_true_eq]
      refine ⟨by decide, ?_⟩
      split
      · refine ⟨by decide, ⟨hn, hn2⟩, hn, ?_⟩
        exact done ⟨cells, a + 1, _, acc, 60⟩ _
      · refine mixed_rule fun k => ?_
        simp only [ev, List.getElem?_cons_zero, List.getElem?_cons_succ, List.set_cons_zero, List.set_cons_succ, List.map_cons, List.map_nil, List.length_cons, List.length_nil, List.replicate_succ, List.replicate_zero, List.cons_append, List.nil_append, Nat.reduceAdd, Nat.reduceSub, Nat.zero_add, Nat.sub_zero, Option.bind_some, true_and, and_true, outF, if_true, if_false, Bool.false_eq_true, Bool.not_true, Bool.not_false, List.append_assoc, List.length_append, Option.isSome_some, wipeE, isNon, ix61, ix62, ix63, ix64, hc, List.length_map, decide_eq_true_eq]
        exact ⟨hn, done ⟨cells, a + 1, 0, k, left⟩ _⟩
    · simp only [h2, if_false]
      refine mixed_rule fun k => ?_
      simp only [ev, List.getElem?_cons_zero, List.getElem?_cons_succ, List.set_cons_zero, List.set_cons_succ, List.map_cons, List.map_nil, List.length_cons, List.length_nil, List.replicate_succ, List.replicate_zero, List.cons_append, List.nil_append, Nat.reduceAdd, Nat.reduceSub, Nat.zero_add, Nat.sub_zero, Option.bind_some, true_and, and_true, outF, if_true, if_false, Bool.false_eq_true, Bool.not_true, Bool.not_false, List.append_assoc, List.length_append, Option.isSome_some, wipeE, isNon, ix61, ix62, ix63, ix64, List.length_map, decide_eq_true_eq]
      exact ⟨hn, done ⟨cells, a + 1, 0, k, left⟩ _⟩
  · simp only [h1, if_false]
    refine ⟨⟨hn, hn2⟩, .inr ?_, hn, done ⟨cells, a, _, acc, _⟩ _⟩
    split <;> omega
theorem draw_rule {n : Nat} {M l : Sto} {Q : D → Sto → Prop} (hM : Pm M M) (hn : 0 < n) (hn2 : n < 1000000) (h : ∀ (k : Nat) M1, k < n → Pm M M1 → Q (.int (k : Int)) (M1 ++ l)) : wpF F_law_draw [.ref 0, .int (n : Int)] (M ++ l) Q := by
  refine (draw_ok n (by omega) (by omega) (M ++ l) (hM.append l)).imp fun d M' ⟨hp, k, e, hk⟩ => ?_
  obtain ⟨M1, rfl, h1⟩ := Pm.split hM hp
  rw [e]
  exact h k M1 (by omega) h1
theorem draw_rule0 {n : Nat} {M : Sto} {Q : D → Sto → Prop} (hM : Pm M M) (hn : 0 < n) (hn2 : n < 1000000) (h : ∀ (k : Nat) M1, k < n → Pm M M1 → Q (.int (k : Int)) M1) : wpF F_law_draw [.ref 0, .int (n : Int)] M Q := by
  refine (draw_ok n (by omega) (by omega) M hM).imp fun d M' ⟨hp, k, e, hk⟩ => ?_
  rw [e]
  exact h k M' (by omega) hp
end K40

end

section
set_option Elab.async false
set_option linter.all false
set_option maxRecDepth 100000
/-! K40P2: nets, worlds and deeds as plain data; still, can_take -/
namespace K40
open PySem PySem.Spec L2 DV
inductive Kd | ord | loo | ordL | looL
deriving DecidableEq
def Kd.s : Kd → Str
  | .ord => "order"
  | .loo => "loose"
  | .ordL => "order lossy"
  | .looL => "loose lossy"
def Kd.isO : Kd → Bool
  | .ord => true
  | .ordL => true
  | _ => false
def Kd.isL : Kd → Bool
  | .looL => true
  | .ordL => true
  | _ => false
structure Ch where
  nm : Str
  g : Nat
  t : Nat
  k : Kd
inductive Act
  | idle
  | send (c x : Nat)
  | take (c x : Nat)
structure Ru where
  p : Nat
  s : Nat
  a : Act
  th : Nat
structure Net where
  ps : List (Str × Nat)
  cs : List Ch
  rs : List Ru
structure Wo where
  st : List Nat
  sn : List Nat
  pr : List (List (Nat × Nat))
deriving DecidableEq
inductive De
  | act (r : Nat)
  | take (r k : Nat)
  | lose (c k : Nat)
deriving DecidableEq
def dn (n : Nat) : D := .int (n : Int)
def encP (p : Str × Nat) : D := .tup [.str p.1, .int (p.2 : Nat)]
def encC (c : Ch) : D := .tup [.str c.nm, .int (c.g : Nat), .int (c.t : Nat), .str c.k.s]
def encA : Act → D
  | .idle => .tup [.str "do"]
  | .send c x => .tup [.str "send", .int (c : Nat), .int (x : Nat)]
  | .take c x => .tup [.str "take", .int (c : Nat), .int (x : Nat)]
def encR (r : Ru) : D := .tup [.int (r.p : Nat), .int (r.s : Nat), encA r.a, .int (r.th : Nat)]
def encN (n : Net) : D := .tup [.tup (n.ps.map encP), .tup (n.cs.map encC), .tup (n.rs.map encR)]
def oN (n : Net) : D := .obj "Net" ["processes", "channels", "rules"] [.tup (n.ps.map encP), .tup (n.cs.map encC), .tup (n.rs.map encR)]
def encQ (q : Nat × Nat) : D := .tup [.int (q.1 : Nat), .int (q.2 : Nat)]
def encRow (r : List (Nat × Nat)) : D := .tup (r.map encQ)
def encW (w : Wo) : D := .tup [.tup (w.st.map dn), .tup (w.sn.map dn), .tup (w.pr.map encRow)]
def encD : De → D
  | .act r => .tup [.str "act", .int (r : Nat)]
  | .take r k => .tup [.str "take", .int (r : Nat), .int (k : Nat)]
  | .lose c k => .tup [.str "lose", .int (c : Nat), .int (k : Nat)]
/-! what they mean -/
def Net.kd (n : Net) (c : Nat) : Kd := match n.cs[c]? with
  | some ch => ch.k
  | none => .ord
def Wo.row (w : Wo) (c : Nat) : List (Nat × Nat) := w.pr.getD c []
def Wo.sent (w : Wo) (c : Nat) : Nat := w.sn.getD c 0
def Wo.at_ (w : Wo) (p : Nat) : Nat := w.st.getD p 0
def seen (n : Net) (w : Wo) (c : Nat) : List (Nat × Nat) := if n.kd c = .ord then (w.row c).take 1 else w.row c
def enab (n : Net) (w : Wo) (r : Ru) : Bool := decide (w.at_ r.p = r.s) && match r.a with
  | .take c x => (seen n w c).any fun q => decide (q.2 = x)
  | _ => true
def stillB (n : Net) (w : Wo) : Bool := n.rs.all fun r => !enab n w r
structure ActOk (n : Net) (p c x : Nat) (giver : Bool) : Prop where
  ch : ∃ k, n.cs[c]? = some k ∧ (if giver then k.g else k.t) = p
  tk : x < 10
def Act.Ok (n : Net) (p : Nat) : Act → Prop
  | .idle => True
  | .send c x => ActOk n p c x true
  | .take c x => ActOk n p c x false
structure RuOk (n : Net) (r : Ru) : Prop where
  p : r.p < n.ps.length
  a : r.a.Ok n r.p
structure NetOk (n : Net) : Prop where
  rs : ∀ r ∈ n.rs, RuOk n r
  np : n.ps.length ≤ 5
  nc : n.cs.length ≤ 8
  nr : n.rs.length ≤ 40
structure WoOk (n : Net) (w : Wo) : Prop where
  st : w.st.length = n.ps.length
  sn : w.sn.length = n.cs.length
  pr : w.pr.length = n.cs.length
  sz : ∀ r ∈ w.pr, r.length ≤ 1000
  nd : ∀ c, ((w.row c).map (·.1)).Nodup
/-! a world, some of its tuples lists -/
def SeqD (d : D) (l : List D) : Prop := d = .tup l ∨ d = .lst l
def RowD (d : D) (row : List (Nat × Nat)) : Prop := ∃ xs : List (D × (Nat × Nat)), SeqD d (xs.map (·.1)) ∧ row = xs.map (·.2) ∧ ∀ p ∈ xs, SeqD p.1 [.int (p.2.1 : Nat), .int (p.2.2 : Nat)]
structure LW (d : D) (w : Wo) : Prop where
  ex : ∃ (a b c : D) (ys : List (D × List (Nat × Nat))), SeqD d [a, b, c] ∧ SeqD a (w.st.map dn) ∧ SeqD c (ys.map (·.1)) ∧ w.pr = ys.map (·.2) ∧ ∀ p ∈ ys, RowD p.1 p.2
theorem rowD_e (r : List (Nat × Nat)) : RowD (encRow r) r := ⟨r.map fun q => (encQ q, q), .inl (by simp [encRow]), by rw [List.map_map]; exact (List.map_id _).symm, by
  intro p hp
  obtain ⟨q, _, rfl⟩ := List.mem_map.mp hp
  exact .inl rfl⟩
theorem lw_e (w : Wo) : LW (encW w) w := ⟨⟨_, _, _, w.pr.map fun r => (encRow r, r), .inl rfl, .inl rfl, .inl (by simp), by rw [List.map_map]; exact (List.map_id _).symm, by
  intro p hp
  obtain ⟨q, _, rfl⟩ := List.mem_map.mp hp
  exact rowD_e q⟩⟩
theorem seq_ix {d : D} {l : List D} {i : Nat} {M : Sto} (h : SeqD d l) : dIdx d (.int (i : Int)) M = l[i]? := by
  rcases h with rfl | rfl
  · rw [o_ix_tup, atI_n]
  · rw [o_ix_lst, atI_n]
theorem seq_ix0 {d : D} {l : List D} {M : Sto} (h : SeqD d l) : dIdx d (.int 0) M = l[0]? := seq_ix (i := 0) h
theorem seq_ix1 {d : D} {l : List D} {M : Sto} (h : SeqD d l) : dIdx d (.int 1) M = l[1]? := seq_ix (i := 1) h
theorem seq_ix2 {d : D} {l : List D} {M : Sto} (h : SeqD d l) : dIdx d (.int 2) M = l[2]? := seq_ix (i := 2) h
theorem seq_it {d : D} {l : List D} (h : SeqD d l) : itD d = some l := by
  rcases h with rfl | rfl <;> rfl
theorem seq_len {d : D} {l : List D} {M : Sto} (h : SeqD d l) : cLen [d] M = some (.int l.length) := by
  rcases h with rfl | rfl <;> rfl
theorem cut1 {α : Type} (l : List α) : cut l none (some 1) = l.take 1 := by
  unfold cut
  rw [HT.sIx_none, show (1 : Int) = ((1 : Nat) : Int) from rfl, HT.sIx_nat, List.drop_zero, Nat.sub_zero]
  cases l with
  | nil => simp
  | cons a l => rw [show min 1 (a :: l).length = 1 by simp]
theorem seq_slc {d : D} {l : List D} {M : Sto} (h : SeqD d l) : ∃ d', dSlc d none (some 1) M = some d' ∧ SeqD d' (l.take 1) := by
  rcases h with rfl | rfl
  · exact ⟨.tup (l.take 1), by rw [o_slc_tup, cut1], .inl rfl⟩
  · exact ⟨.lst (l.take 1), by rw [o_slc_lst, cut1], .inr rfl⟩
theorem asLk_lst {l : List D} {M : Sto} : asLk (.lst l) M = some l := rfl
theorem asBls_map {α : Type} {l : List α} {f : α → Bool} : asBls (l.map fun a => D.bl (f a)) = some (l.map f) := by
  induction l with
  | nil => rfl
  | cons a l ih => simp only [List.map_cons, asBls, ih, Option.map_some]
theorem o_any_map {α : Type} {l : List α} {f : α → Bool} {M : Sto} : cAny [.lst (l.map fun a => D.bl (f a))] M = some (.bl (l.any f)) := by
  unfold cAny
  simp only [asLk_lst, asBls_map, Option.map_some, List.any_map]
  rfl
theorem o_all_map {α : Type} {l : List α} {f : α → Bool} {M : Sto} : cAll [.lst (l.map fun a => D.bl (f a))] M = some (.bl (l.all f)) := by
  unfold cAll
  simp only [asLk_lst, asBls_map, Option.map_some, List.all_map]
  rfl
theorem chan_at {n : Net} {c : Nat} {k : Ch} (h : n.cs[c]? = some k) : (n.cs.map encC)[c]? = some (encC k) := by rw [List.getElem?_map, h]; rfl
theorem kd_at {n : Net} {c : Nat} {k : Ch} (h : n.cs[c]? = some k) : n.kd c = k.k := by unfold Net.kd; rw [h]
theorem fld_c {n : Net} {M : Sto} : getF "Net" "channels" (oN n) M = some (.tup (n.cs.map encC)) := by
  show (if ("Net" : Str) = "Net" then _ else none) = _
  rw [if_pos rfl]; rfl
theorem fld_r {n : Net} {M : Sto} : getF "Net" "rules" (oN n) M = some (.tup (n.rs.map encR)) := by
  show (if ("Net" : Str) = "Net" then _ else none) = _
  rw [if_pos rfl]; rfl
theorem fld_p {n : Net} {M : Sto} : getF "Net" "processes" (oN n) M = some (.tup (n.ps.map encP)) := by
  show (if ("Net" : Str) = "Net" then _ else none) = _
  rw [if_pos rfl]; rfl
theorem kd_ord (k : Kd) : decide (k.s = ("order" : Str)) = decide (k = .ord) := by cases k <;> decide +kernel
theorem can_take_ok {n : Net} {w : Wo} {d : D} {M : Sto} {c x : Nat} {k : Ch} (hc : n.cs[c]? = some k) (hw : WoOk n w) (hd : LW d w) :
    wpF F_can_take [oN n, d, .int (c : Nat), .int (x : Nat)] M fun v M' => v = .bl ((seen n w c).any fun q => decide (q.2 = x)) ∧ M' = M := by
  obtain ⟨a, b, cc, ys, h1, h2, h3, h4, h5⟩ := hd.ex
  unfold F_can_take B_can_take
  have hlt : c < n.cs.length := by
    rcases Nat.lt_or_ge c n.cs.length with z | z
    · exact z
    · rw [List.getElem?_eq_none z] at hc; cases hc
  have hy : c < ys.length := by
    have z := hw.pr; rw [h4] at z; simp at z; omega
  have hy2 : (ys.map (·.1))[c]? = some (ys[c].1) := by rw [List.getElem?_map, List.getElem?_eq_getElem hy]; rfl
  have hrow : w.row c = ys[c].2 := by unfold Wo.row; rw [h4, List.getD_eq_getElem?_getD, List.getElem?_map, List.getElem?_eq_getElem hy]; rfl
  obtain ⟨xs, g1, g2, g3⟩ := h5 ys[c] (List.getElem_mem hy)
  obtain ⟨d', e1, e2⟩ := seq_slc (M := M) g1
  have hsz := hw.sz
  simp only [ev, List.getElem?_cons_zero, List.getElem?_cons_succ, List.set_cons_zero, List.set_cons_succ, List.map_cons, List.map_nil, List.length_cons, List.length_nil, List.replicate_succ, List.replicate_zero, List.cons_append, List.nil_append, Nat.reduceAdd, Nat.reduceSub, Nat.zero_add, Nat.sub_zero, Option.bind_some, true_and, and_true, outF, if_true, if_false, Bool.false_eq_true, Bool.not_true, Bool.not_false, List.append_assoc, List.length_append, Option.isSome_some, wipeE, isNon, decide_true, decide_false, seq_ix2 h1, seq_ix h3, hy2, fld_c, chan_at hc, encC, kd_ord, decide_eq_true_eq, e1]
  have hx : xs.length ≤ 1000 := by
    have z := hsz ys[c].2 (by rw [h4]; exact List.mem_map_of_mem (List.getElem_mem hy))
    rw [g2] at z; simpa using z
  have fin : ∀ (d0 : D) (zs : List (D × (Nat × Nat))), SeqD d0 (zs.map (·.1)) → (∀ p ∈ zs, p ∈ xs) → zs.length ≤ xs.length → zs.map (·.2) = seen n w c →
      wpO (itD d0) fun l =>
      wpA (compL (gN 5) mYes (eBin dEq (eBin dIdx (eVar 5) (eC (D.int 1))) (eVar 3)) l)
        [some (oN n), some d, some (D.int (c : Nat)), some (D.int (x : Nat)), some d0, none] M fun ys M2 =>
        ys.length ≤ sizeLine ∧
          wpO (cAny [D.lst ys] M2) fun d =>
            wpO (retF M d M2) fun p => p.fst = D.bl ((seen n w c).any fun q => decide (q.snd = x)) ∧ p.snd = M := by
    intro d0 zs hs hz hle hq
    simp only [ev, List.getElem?_cons_zero, List.getElem?_cons_succ, List.set_cons_zero, List.set_cons_succ, List.map_cons, List.map_nil, List.length_cons, List.length_nil, List.replicate_succ, List.replicate_zero, List.cons_append, List.nil_append, Nat.reduceAdd, Nat.reduceSub, Nat.zero_add, Nat.sub_zero, Option.bind_some, true_and, and_true, outF, if_true, if_false, Bool.false_eq_true, Bool.not_true, Bool.not_false, List.append_assoc, List.length_append, Option.isSome_some, wipeE, isNon, decide_true, decide_false, seq_it hs]
    refine wpA_map (fun p => .bl (decide (p.2.2 = x))) zs (fun p hp => ?_) ?_
    · refine ⟨_, rfl, ?_⟩
      have hp2 := g3 p (hz p hp)
      simp only [ev, List.getElem?_cons_zero, List.getElem?_cons_succ, List.set_cons_zero, List.set_cons_succ, List.map_cons, List.map_nil, List.length_cons, List.length_nil, List.replicate_succ, List.replicate_zero, List.cons_append, List.nil_append, Nat.reduceAdd, Nat.reduceSub, Nat.zero_add, Nat.sub_zero, Option.bind_some, true_and, and_true, outF, if_true, if_false, Bool.false_eq_true, Bool.not_true, Bool.not_false, List.append_assoc, List.length_append, Option.isSome_some, wipeE, isNon, decide_true, decide_false, seq_ix1 hp2, Int.natCast_inj]
    · simp only [ev, List.getElem?_cons_zero, List.getElem?_cons_succ, List.set_cons_zero, List.set_cons_succ, List.map_cons, List.map_nil, List.length_cons, List.length_nil, List.replicate_succ, List.replicate_zero, List.cons_append, List.nil_append, Nat.reduceAdd, Nat.reduceSub, Nat.zero_add, Nat.sub_zero, Option.bind_some, true_and, and_true, outF, if_true, if_false, Bool.false_eq_true, Bool.not_true, Bool.not_false, List.append_assoc, List.length_append, Option.isSome_some, wipeE, isNon, decide_true, decide_false, o_any_map, ret_bl]
      refine ⟨by rw [List.length_map]; exact Nat.le_trans hle (Nat.le_trans hx (by decide)), ?_⟩
      rw [← hq, List.any_map]; rfl
  have hk : n.kd c = k.k := kd_at hc
  split
  · rename_i h
    refine fin d' (xs.take 1) (by rw [List.map_take]; exact e2) (fun p hp => List.mem_of_mem_take hp) (by simp; omega) ?_
    unfold seen; rw [hk, if_pos h, hrow, g2, List.map_take]
  · rename_i h
    refine fin ys[c].1 xs g1 (fun p hp => hp) (Nat.le_refl _) ?_
    unfold seen; rw [hk, if_neg h, hrow, g2]
/-- what the rules say -/
theorem ru_at {n : Net} {i : Nat} {r : Ru} (h : n.rs[i]? = some r) : (n.rs.map encR)[i]? = some (encR r) := by rw [List.getElem?_map, h]; rfl
theorem st_at {n : Net} {w : Wo} (hw : WoOk n w) {p : Nat} (h : p < n.ps.length) : (w.st.map dn)[p]? = some (.int (w.at_ p : Nat)) := by
  have : p < w.st.length := by rw [hw.st]; exact h
  rw [List.getElem?_map, List.getElem?_eq_getElem this]
  unfold Wo.at_
  rw [List.getD_eq_getElem?_getD, List.getElem?_eq_getElem this]; rfl
theorem str_ne1 : decide (("do" : Str) = "take") = false := by decide +kernel
theorem str_ne2 : decide (("send" : Str) = "take") = false := by decide +kernel
theorem str_eq1 : decide (("take" : Str) = "take") = true := by decide +kernel
theorem still_ok {n : Net} {w : Wo} {d : D} {M : Sto} (hn : NetOk n) (hw : WoOk n w) (hd : LW d w) :
    wpF F_still [oN n, d] M fun v M' => v = .bl (stillB n w) ∧ M' = M := by
  obtain ⟨a, b, cc, ys, h1, h2, h3, h4, h5⟩ := hd.ex
  unfold F_still B_still
  simp only [ev, List.getElem?_cons_zero, List.getElem?_cons_succ, List.set_cons_zero, List.set_cons_succ, List.map_cons, List.map_nil, List.length_cons, List.length_nil, List.replicate_succ, List.replicate_zero, List.cons_append, List.nil_append, Nat.reduceAdd, Nat.reduceSub, Nat.zero_add, Nat.sub_zero, Option.bind_some, true_and, and_true, outF, if_true, if_false, Bool.false_eq_true, Bool.not_true, Bool.not_false, List.append_assoc, List.length_append, Option.isSome_some, wipeE, isNon, decide_true, decide_false, fld_r]
  refine wpS_forL (enc := encR) (fun xs e M' => M' = M ∧ (∀ x ∈ xs, x ∈ n.rs) ∧ (stillB n w = xs.all fun r => !enab n w r) ∧ ∃ e2 e3 e4 e5, e = [some (oN n), some d, e2, e3, e4, e5]) n.rs _ M ⟨rfl, fun _ h => h, rfl, _, _, _, _, rfl⟩ ?_ ?_
  · rintro r xs e M' ⟨rfl, hm, hs, e2, e3, e4, e5, rfl⟩
    have hr := hn.rs r (hm r (List.mem_cons_self ..))
    refine ⟨[some (oN n), some d, some (.int (r.p : Nat)), some (.int (r.s : Nat)), some (encA r.a), some (.int (r.th : Nat))], rfl, ?_⟩
    have hst := st_at hw hr.p
    have hE : (r :: xs).all (fun r => !enab n w r) = (!enab n w r && xs.all fun r => !enab n w r) := rfl
    rw [hE] at hs
    have hen : enab n w r = (decide (w.at_ r.p = r.s) && match r.a with
      | .take c x => (seen n w c).any fun q => decide (q.2 = x)
      | _ => true) := rfl
    simp only [ev, List.getElem?_cons_zero, List.getElem?_cons_succ, List.set_cons_zero, List.set_cons_succ, List.map_cons, List.map_nil, List.length_cons, List.length_nil, List.replicate_succ, List.replicate_zero, List.cons_append, List.nil_append, Nat.reduceAdd, Nat.reduceSub, Nat.zero_add, Nat.sub_zero, Option.bind_some, true_and, and_true, outF, if_true, if_false, Bool.false_eq_true, Bool.not_true, Bool.not_false, List.append_assoc, List.length_append, Option.isSome_some, wipeE, isNon, decide_true, decide_false, seq_ix0 h1, seq_ix h2, hst, Int.natCast_inj, decide_eq_true_eq]
    by_cases hp : w.at_ r.p = r.s
    · rw [if_pos hp]
      rw [decide_eq_true hp, Bool.true_and] at hen
      cases ha : r.a with
      | idle =>
        rw [ha] at hen
        simp only [ev, List.getElem?_cons_zero, List.getElem?_cons_succ, List.set_cons_zero, List.set_cons_succ, List.map_cons, List.map_nil, List.length_cons, List.length_nil, List.replicate_succ, List.replicate_zero, List.cons_append, List.nil_append, Nat.reduceAdd, Nat.reduceSub, Nat.zero_add, Nat.sub_zero, Option.bind_some, true_and, and_true, outF, if_true, if_false, Bool.false_eq_true, Bool.not_true, Bool.not_false, List.append_assoc, List.length_append, Option.isSome_some, wipeE, isNon, decide_true, decide_false, encA, str_ne1, ret_bl]
        rw [hs, hen]; rfl
      | send c x =>
        rw [ha] at hen
        simp only [ev, List.getElem?_cons_zero, List.getElem?_cons_succ, List.set_cons_zero, List.set_cons_succ, List.map_cons, List.map_nil, List.length_cons, List.length_nil, List.replicate_succ, List.replicate_zero, List.cons_append, List.nil_append, Nat.reduceAdd, Nat.reduceSub, Nat.zero_add, Nat.sub_zero, Option.bind_some, true_and, and_true, outF, if_true, if_false, Bool.false_eq_true, Bool.not_true, Bool.not_false, List.append_assoc, List.length_append, Option.isSome_some, wipeE, isNon, decide_true, decide_false, encA, str_ne2, ret_bl]
        rw [hs, hen]; rfl
      | take c x =>
        have hact := hr.a
        rw [ha] at hen hact
        obtain ⟨k, hk, _⟩ := hact.ch
        simp only [ev, List.getElem?_cons_zero, List.getElem?_cons_succ, List.set_cons_zero, List.set_cons_succ, List.map_cons, List.map_nil, List.length_cons, List.length_nil, List.replicate_succ, List.replicate_zero, List.cons_append, List.nil_append, Nat.reduceAdd, Nat.reduceSub, Nat.zero_add, Nat.sub_zero, Option.bind_some, true_and, and_true, outF, if_true, if_false, Bool.false_eq_true, Bool.not_true, Bool.not_false, List.append_assoc, List.length_append, Option.isSome_some, wipeE, isNon, decide_true, decide_false, encA, str_eq1, ret_bl]
        refine (can_take_ok hk hw hd).imp fun v M1 ⟨hv, hM⟩ => ?_
        subst hv hM
        simp only [] at hen
        rw [← hen]
        simp only [ev, List.getElem?_cons_zero, List.getElem?_cons_succ, List.set_cons_zero, List.set_cons_succ, List.map_cons, List.map_nil, List.length_cons, List.length_nil, List.replicate_succ, List.replicate_zero, List.cons_append, List.nil_append, Nat.reduceAdd, Nat.reduceSub, Nat.zero_add, Nat.sub_zero, Option.bind_some, true_and, and_true, outF, if_true, if_false, Bool.false_eq_true, Bool.not_true, Bool.not_false, List.append_assoc, List.length_append, Option.isSome_some, wipeE, isNon, decide_true, decide_false, ret_bl]
        cases hb : enab n w r with
        | true => rw [if_pos rfl, hs, hb]; rfl
        | false =>
          rw [if_neg (by simp)]
          refine ⟨fun y hy => hm y (List.mem_cons_of_mem _ hy), by rw [hs, hb]; rfl, _, _, _, _, rfl⟩
    · rw [if_neg hp]
      rw [decide_eq_false hp, Bool.false_and] at hen
      refine ⟨fun y hy => hm y (List.mem_cons_of_mem _ hy), by rw [hs, hen]; rfl, _, _, _, _, rfl⟩
  · rintro e M' ⟨rfl, _, hs, e2, e3, e4, e5, rfl⟩
    simp only [ev, List.getElem?_cons_zero, List.getElem?_cons_succ, List.set_cons_zero, List.set_cons_succ, List.map_cons, List.map_nil, List.length_cons, List.length_nil, List.replicate_succ, List.replicate_zero, List.cons_append, List.nil_append, Nat.reduceAdd, Nat.reduceSub, Nat.zero_add, Nat.sub_zero, Option.bind_some, true_and, and_true, outF, if_true, if_false, Bool.false_eq_true, Bool.not_true, Bool.not_false, List.append_assoc, List.length_append, Option.isSome_some, wipeE, isNon, decide_true, decide_false, ret_bl]
    rw [hs]; rfl
end K40

end

section
set_option Elab.async false
set_option linter.all false
set_option maxRecDepth 100000
/-! K40P3: what can be done next -/
namespace K40
open PySem PySem.Spec L2 DV
theorem law_still_ok {n : Net} {w : Wo} {M : Sto} (hn : NetOk n) (hw : WoOk n w) :
    wpF F_law_still [encN n, encW w] M fun v M' => v = .bl (stillB n w) ∧ M' = M := by
  unfold F_law_still B_law_still
  simp only [ev, List.getElem?_cons_zero, List.getElem?_cons_succ, List.set_cons_zero, List.set_cons_succ, List.map_cons, List.map_nil, List.length_cons, List.length_nil, List.replicate_succ, List.replicate_zero, List.cons_append, List.nil_append, Nat.reduceAdd, Nat.reduceSub, Nat.zero_add, Nat.sub_zero, Option.bind_some, true_and, and_true, outF, if_true, if_false, Bool.false_eq_true, Bool.not_true, Bool.not_false, List.append_assoc, List.length_append, Option.isSome_some, wipeE, isNon, decide_true, decide_false, encN]
  refine wpS_forL (enc := encR) (fun xs e M' => M' = M ∧ (∀ x ∈ xs, x ∈ n.rs) ∧ (stillB n w = xs.all fun r => !enab n w r) ∧ ∃ e2 e3 e4 e5 e6 e7, e = [some (encN n), some (encW w), e2, e3, e4, e5, e6, e7]) n.rs _ M ⟨rfl, fun _ h => h, rfl, _, _, _, _, _, _, rfl⟩ ?_ ?_
  · rintro r xs e M' ⟨rfl, hm, hs, e2, e3, e4, e5, e6, e7, rfl⟩
    have hr := hn.rs r (hm r (List.mem_cons_self ..))
    refine ⟨[some (encN n), some (encW w), some (.int (r.p : Nat)), some (.int (r.s : Nat)), some (encA r.a), some (.int (r.th : Nat)), e6, e7], rfl, ?_⟩
    have hst := st_at hw hr.p
    have hE : (r :: xs).all (fun r => !enab n w r) = (!enab n w r && xs.all fun r => !enab n w r) := rfl
    rw [hE] at hs
    have hen : enab n w r = (decide (w.at_ r.p = r.s) && match r.a with
      | .take c x => (seen n w c).any fun q => decide (q.2 = x)
      | _ => true) := rfl
    simp only [ev, List.getElem?_cons_zero, List.getElem?_cons_succ, List.set_cons_zero, List.set_cons_succ, List.map_cons, List.map_nil, List.length_cons, List.length_nil, List.replicate_succ, List.replicate_zero, List.cons_append, List.nil_append, Nat.reduceAdd, Nat.reduceSub, Nat.zero_add, Nat.sub_zero, Option.bind_some, true_and, and_true, outF, if_true, if_false, Bool.false_eq_true, Bool.not_true, Bool.not_false, List.append_assoc, List.length_append, Option.isSome_some, wipeE, isNon, decide_true, decide_false, encW, hst, Int.natCast_inj, decide_eq_true_eq]
    by_cases hp : w.at_ r.p = r.s
    · rw [if_pos hp]
      rw [decide_eq_true hp, Bool.true_and] at hen
      cases ha : r.a with
      | idle =>
        rw [ha] at hen
        simp only [ev, List.getElem?_cons_zero, List.getElem?_cons_succ, List.set_cons_zero, List.set_cons_succ, List.map_cons, List.map_nil, List.length_cons, List.length_nil, List.replicate_succ, List.replicate_zero, List.cons_append, List.nil_append, Nat.reduceAdd, Nat.reduceSub, Nat.zero_add, Nat.sub_zero, Option.bind_some, true_and, and_true, outF, if_true, if_false, Bool.false_eq_true, Bool.not_true, Bool.not_false, List.append_assoc, List.length_append, Option.isSome_some, wipeE, isNon, decide_true, decide_false, encA, str_ne1, ret_bl]
        rw [hs, hen]; rfl
      | send c x =>
        rw [ha] at hen
        simp only [ev, List.getElem?_cons_zero, List.getElem?_cons_succ, List.set_cons_zero, List.set_cons_succ, List.map_cons, List.map_nil, List.length_cons, List.length_nil, List.replicate_succ, List.replicate_zero, List.cons_append, List.nil_append, Nat.reduceAdd, Nat.reduceSub, Nat.zero_add, Nat.sub_zero, Option.bind_some, true_and, and_true, outF, if_true, if_false, Bool.false_eq_true, Bool.not_true, Bool.not_false, List.append_assoc, List.length_append, Option.isSome_some, wipeE, isNon, decide_true, decide_false, encA, str_ne2, ret_bl]
        rw [hs, hen]; rfl
      | take c x =>
        have hact := hr.a
        rw [ha] at hen hact
        obtain ⟨k, hk, _⟩ := hact.ch
        have hlt : c < w.pr.length := by
          rw [hw.pr]
          rcases Nat.lt_or_ge c n.cs.length with z | z
          · exact z
          · rw [List.getElem?_eq_none z] at hk; cases hk
        have hrow : (w.pr.map encRow)[c]? = some (.tup ((w.row c).map encQ)) := by
          rw [List.getElem?_map, List.getElem?_eq_getElem hlt]
          unfold Wo.row
          rw [List.getD_eq_getElem?_getD, List.getElem?_eq_getElem hlt]; rfl
        have hsz : (w.row c).length ≤ 1000 := by
          unfold Wo.row
          rw [List.getD_eq_getElem?_getD, List.getElem?_eq_getElem hlt]
          exact hw.sz _ (List.getElem_mem hlt)
        simp only [] at hen
        simp only [ev, List.getElem?_cons_zero, List.getElem?_cons_succ, List.set_cons_zero, List.set_cons_succ, List.map_cons, List.map_nil, List.length_cons, List.length_nil, List.replicate_succ, List.replicate_zero, List.cons_append, List.nil_append, Nat.reduceAdd, Nat.reduceSub, Nat.zero_add, Nat.sub_zero, Option.bind_some, true_and, and_true, outF, if_true, if_false, Bool.false_eq_true, Bool.not_true, Bool.not_false, List.append_assoc, List.length_append, Option.isSome_some, wipeE, isNon, decide_true, decide_false, encA, str_eq1, ret_bl, hrow, encN, chan_at hk, encC, kd_ord, decide_eq_true_eq, cut1]
        have fin : ∀ (zs : List (Nat × Nat)) (v : Option D), zs.length ≤ 1000 → zs = seen n w c → v = some (.tup (zs.map encQ)) →
            wpA (compL (gN 7) (tV (eBin dEq (eBin dIdx (eVar 7) (eC (D.int 1))) (eBin dIdx (eVar 4) (eC (D.int 2))))) (eVar 7) (zs.map encQ))
              [some (encN n), some (encW w), some (D.int (r.p : Nat)), some (D.int (r.s : Nat)), some (.tup [.str "take", .int (c : Nat), .int (x : Nat)]), some (D.int (r.th : Nat)), v, none] M' fun ys M2 =>
              ys.length ≤ sizeLine ∧ if 0 < (ys.length : Int) then wpO (retF M' (.bl false) M2) fun p => p.1 = .bl (stillB n w) ∧ p.2 = M'
                else M2 = M' ∧ (∀ y ∈ xs, y ∈ n.rs) ∧ (stillB n w = xs.all fun r => !enab n w r) ∧ ∃ f2 f3 f4 f5 f6 f7, [some (encN n), some (encW w), some (D.int (r.p : Nat)), some (D.int (r.s : Nat)), some (.tup [.str "take", .int (c : Nat), .int (x : Nat)]), some (D.int (r.th : Nat)), v, e7] = [some (encN n), some (encW w), f2, f3, f4, f5, f6, f7] := by
          intro zs v hz hq hv
          refine wpA_pure (fun q => decide (q.2 = x)) encQ zs (fun q hq => ⟨_, rfl, ?_, fun _ => ?_⟩) ?_
          · simp only [ev, List.getElem?_cons_zero, List.getElem?_cons_succ, List.set_cons_zero, List.set_cons_succ, List.map_cons, List.map_nil, List.length_cons, List.length_nil, List.replicate_succ, List.replicate_zero, List.cons_append, List.nil_append, Nat.reduceAdd, Nat.reduceSub, Nat.zero_add, Nat.sub_zero, Option.bind_some, true_and, and_true, outF, if_true, if_false, Bool.false_eq_true, Bool.not_true, Bool.not_false, List.append_assoc, List.length_append, Option.isSome_some, wipeE, isNon, decide_true, decide_false, encQ, Int.natCast_inj]
          · simp only [ev, List.getElem?_cons_zero, List.getElem?_cons_succ, List.set_cons_zero, List.set_cons_succ, List.map_cons, List.map_nil, List.length_cons, List.length_nil, List.replicate_succ, List.replicate_zero, List.cons_append, List.nil_append, Nat.reduceAdd, Nat.reduceSub, Nat.zero_add, Nat.sub_zero, Option.bind_some, true_and, and_true, outF, if_true, if_false, Bool.false_eq_true, Bool.not_true, Bool.not_false, List.append_assoc, List.length_append, Option.isSome_some, wipeE, isNon, decide_true, decide_false]
          · rw [List.length_map]
            have hf := List.length_filter_le (fun q : Nat × Nat => decide (q.2 = x)) zs
            refine ⟨Nat.le_trans hf (Nat.le_trans hz (by decide)), ?_⟩
            cases hb : enab n w r with
            | true =>
              rw [hb, ← hq] at hen
              have : 0 < (zs.filter fun q => decide (q.2 = x)).length := by
                rw [List.length_pos_iff_exists_mem]
                obtain ⟨q, hq1, hq2⟩ := List.any_eq_true.mp hen.symm
                exact ⟨q, List.mem_filter.mpr ⟨hq1, hq2⟩⟩
              rw [if_pos (by omega)]
              simp only [ev, List.getElem?_cons_zero, List.getElem?_cons_succ, List.set_cons_zero, List.set_cons_succ, List.map_cons, List.map_nil, List.length_cons, List.length_nil, List.replicate_succ, List.replicate_zero, List.cons_append, List.nil_append, Nat.reduceAdd, Nat.reduceSub, Nat.zero_add, Nat.sub_zero, Option.bind_some, true_and, and_true, outF, if_true, if_false, Bool.false_eq_true, Bool.not_true, Bool.not_false, List.append_assoc, List.length_append, Option.isSome_some, wipeE, isNon, decide_true, decide_false, ret_bl]
              rw [hs, hb]; rfl
            | false =>
              rw [hb, ← hq] at hen
              have : (zs.filter fun q => decide (q.2 = x)).length = 0 := by
                rw [List.length_eq_zero_iff, List.filter_eq_nil_iff]
                intro q hq1 hq2
                have := List.any_eq_false.mp hen.symm q hq1
                exact this hq2
              rw [if_neg (by omega)]
              exact ⟨rfl, fun y hy => hm y (List.mem_cons_of_mem _ hy), by rw [hs, hb]; rfl, _, _, _, _, _, _, rfl⟩
        have hkd : n.kd c = k.k := kd_at hk
        split
        · rename_i h
          simp only [← List.map_take]
          exact fin ((w.row c).take 1) _ (by simp; omega) (by unfold seen; rw [hkd, if_pos h]) rfl
        · rename_i h
          exact fin (w.row c) _ hsz (by unfold seen; rw [hkd, if_neg h]) rfl
    · rw [if_neg hp]
      rw [decide_eq_false hp, Bool.false_and] at hen
      refine ⟨fun y hy => hm y (List.mem_cons_of_mem _ hy), by rw [hs, hen]; rfl, _, _, _, _, _, _, rfl⟩
  · rintro e M' ⟨rfl, _, hs, e2, e3, e4, e5, e6, e7, rfl⟩
    simp only [ev, List.getElem?_cons_zero, List.getElem?_cons_succ, List.set_cons_zero, List.set_cons_succ, List.map_cons, List.map_nil, List.length_cons, List.length_nil, List.replicate_succ, List.replicate_zero, List.cons_append, List.nil_append, Nat.reduceAdd, Nat.reduceSub, Nat.zero_add, Nat.sub_zero, Option.bind_some, true_and, and_true, outF, if_true, if_false, Bool.false_eq_true, Bool.not_true, Bool.not_false, List.append_assoc, List.length_append, Option.isSome_some, wipeE, isNon, decide_true, decide_false, ret_bl]
    rw [hs]; rfl

/-! ended -/
def emptyB (w : Wo) : Bool := w.pr.all fun r => r.isEmpty
theorem ended_ok {n : Net} {w : Wo} {d : D} {M : Sto} (hn : NetOk n) (hw : WoOk n w) (hc : n.cs.length ≤ 1000) (hd : LW d w) :
    wpF F_ended [oN n, d] M fun v M' => v = .bl (stillB n w && emptyB w) ∧ M' = M := by
  obtain ⟨a, b, cc, ys, h1, h2, h3, h4, h5⟩ := hd.ex
  unfold F_ended B_ended
  simp only [ev, List.getElem?_cons_zero, List.getElem?_cons_succ, List.set_cons_zero, List.set_cons_succ, List.map_cons, List.map_nil, List.length_cons, List.length_nil, List.replicate_succ, List.replicate_zero, List.cons_append, List.nil_append, Nat.reduceAdd, Nat.reduceSub, Nat.zero_add, Nat.sub_zero, Option.bind_some, true_and, and_true, outF, if_true, if_false, Bool.false_eq_true, Bool.not_true, Bool.not_false, List.append_assoc, List.length_append, Option.isSome_some, wipeE, isNon, decide_true, decide_false, seq_ix2 h1]
  refine (still_ok hn hw hd).imp fun v M1 ⟨hv, hM⟩ => ?_
  subst hv
  subst hM
  simp only [ev, List.getElem?_cons_zero, List.getElem?_cons_succ, List.set_cons_zero, List.set_cons_succ, List.map_cons, List.map_nil, List.length_cons, List.length_nil, List.replicate_succ, List.replicate_zero, List.cons_append, List.nil_append, Nat.reduceAdd, Nat.reduceSub, Nat.zero_add, Nat.sub_zero, Option.bind_some, true_and, and_true, outF, if_true, if_false, Bool.false_eq_true, Bool.not_true, Bool.not_false, List.append_assoc, List.length_append, Option.isSome_some, wipeE, isNon, decide_true, decide_false, ret_bl, seq_it h3]
  cases hs : stillB n w with
  | false => simp
  | true =>
    simp only [if_true]
    refine wpA_map (fun p => .bl (decide (p.2.length = 0))) ys (fun p hp => ⟨_, rfl, ?_⟩) ?_
    · obtain ⟨xs, g1, g2, g3⟩ := h5 p hp
      simp only [ev, List.getElem?_cons_zero, List.getElem?_cons_succ, List.set_cons_zero, List.set_cons_succ, List.map_cons, List.map_nil, List.length_cons, List.length_nil, List.replicate_succ, List.replicate_zero, List.cons_append, List.nil_append, Nat.reduceAdd, Nat.reduceSub, Nat.zero_add, Nat.sub_zero, Option.bind_some, true_and, and_true, outF, if_true, if_false, Bool.false_eq_true, Bool.not_true, Bool.not_false, List.append_assoc, List.length_append, Option.isSome_some, wipeE, isNon, decide_true, decide_false, seq_len g1]
      rw [g2]
      simp only [List.length_map]
      congr 1
      rw [decide_eq_decide]
      omega
    · simp only [ev, List.getElem?_cons_zero, List.getElem?_cons_succ, List.set_cons_zero, List.set_cons_succ, List.map_cons, List.map_nil, List.length_cons, List.length_nil, List.replicate_succ, List.replicate_zero, List.cons_append, List.nil_append, Nat.reduceAdd, Nat.reduceSub, Nat.zero_add, Nat.sub_zero, Option.bind_some, true_and, and_true, outF, if_true, if_false, Bool.false_eq_true, Bool.not_true, Bool.not_false, List.append_assoc, List.length_append, Option.isSome_some, wipeE, isNon, decide_true, decide_false, o_all_map, ret_bl]
      refine ⟨?_, ?_⟩
      · have := hw.pr
        rw [h4] at this
        rw [List.length_map] at this ⊢
        rw [this]
        exact Nat.le_trans hc (by decide)
      · unfold emptyB
        rw [h4, List.all_map, Bool.true_and]
        congr 2
        funext p
        show decide (p.2.length = 0) = p.2.isEmpty
        cases p.2 <;> rfl
end K40

end

section
set_option Elab.async false
set_option linter.all false
set_option maxRecDepth 100000
/-! K40P4: the deeds that can be done -/
namespace K40
open PySem PySem.Spec L2 DV
def firsts (n : Net) (w : Wo) (c : Nat) : List (Nat × Nat) := if (n.kd c).isO = true then (w.row c).take 1 else w.row c
def ruD (n : Net) (w : Wo) (i : Nat) : List De := match n.rs[i]? with
  | none => []
  | some r => if w.at_ r.p = r.s then (match r.a with
    | .take c x => ((firsts n w c).filter fun q => decide (q.2 = x)).map fun q => .take i q.1
    | _ => [.act i]) else []
def loD (n : Net) (w : Wo) (c : Nat) : List De := if (n.kd c).isL = true then (firsts n w c).map (fun q => .lose c q.1) else []
def possM (n : Net) (w : Wo) : List De := (List.range n.rs.length).flatMap (ruD n w) ++ (List.range n.cs.length).flatMap (loD n w)
theorem ch_lt {n : Net} {c : Nat} {k : Ch} (h : n.cs[c]? = some k) : c < n.cs.length := by
  rcases Nat.lt_or_ge c n.cs.length with z | z
  · exact z
  · rw [List.getElem?_eq_none z] at h; cases h
theorem row_at {n : Net} {w : Wo} {c : Nat} (hw : WoOk n w) (h : c < n.cs.length) : (w.pr.map encRow)[c]? = some (.tup ((w.row c).map encQ)) := by
  have hlt : c < w.pr.length := by rw [hw.pr]; exact h
  rw [List.getElem?_map, List.getElem?_eq_getElem hlt]
  unfold Wo.row
  rw [List.getD_eq_getElem?_getD, List.getElem?_eq_getElem hlt]; rfl
theorem row_sz {n : Net} {w : Wo} (c : Nat) (hw : WoOk n w) : (w.row c).length ≤ 1000 := by
  unfold Wo.row
  rw [List.getD_eq_getElem?_getD]
  cases h : w.pr[c]? with
  | none => simp
  | some r => exact hw.sz r (List.mem_of_getElem? h)
theorem firsts_sz {n : Net} {w : Wo} (c : Nat) (hw : WoOk n w) : (firsts n w c).length ≤ 1000 := by
  have := row_sz c hw
  unfold firsts
  split
  · simp; omega
  · exact this
theorem kd5 (k : Kd) {M : Sto} : dSlc (.str k.s) none (some 5) M = some (.str (cutS k.s none (some 5))) := by cases k <;> rfl
theorem kd5e (k : Kd) : decide (cutS k.s none (some 5) = ("order" : Str)) = k.isO := by cases k <;> decide +kernel
theorem kdm5 (k : Kd) {M : Sto} : dSlc (.str k.s) (some (-5)) none M = some (.str (cutS k.s (some (-5)) none)) := by cases k <;> rfl
theorem kdm5e (k : Kd) : decide (cutS k.s (some (-5)) none = ("lossy" : Str)) = k.isL := by cases k <;> decide +kernel
theorem ret_tup {M : Sto} {l : List D} {Q : D × Sto → Prop} (h : belows 0 l = true) : wpO (retF M (.tup l) M) Q ↔ Q (.tup l, M) := by rw [retF_same0 (by simp only [below]; exact h)]; exact wpO_some
theorem ret_lst {M : Sto} {l : List D} {Q : D × Sto → Prop} (h : belows 0 l = true) : wpO (retF M (.lst l) M) Q ↔ Q (.lst l, M) := by rw [retF_same0 (by simp only [below]; exact h)]; exact wpO_some
theorem below_Q (q : Nat × Nat) : below 0 (encQ q) = true := rfl
theorem below_D (d : De) : below 0 (encD d) = true := by cases d <;> rfl
theorem belows_Q (l : List (Nat × Nat)) : belows 0 (l.map encQ) = true := belows_map fun _ _ => rfl
theorem belows_D (l : List De) : belows 0 (l.map encD) = true := belows_map fun d _ => below_D d
theorem firsts_ok {n : Net} {w : Wo} {M : Sto} {c : Nat} {k : Ch} (hk : n.cs[c]? = some k) (hw : WoOk n w) :
    wpF F_law_firsts [encN n, encW w, .int (c : Nat)] M fun v M' => v = .tup ((firsts n w c).map encQ) ∧ M' = M := by
  unfold F_law_firsts B_law_firsts
  have hkd : n.kd c = k.k := kd_at hk
  simp only [ev, List.getElem?_cons_zero, List.getElem?_cons_succ, List.set_cons_zero, List.set_cons_succ, List.map_cons, List.map_nil, List.length_cons, List.length_nil, List.replicate_succ, List.replicate_zero, List.cons_append, List.nil_append, Nat.reduceAdd, Nat.reduceSub, Nat.zero_add, Nat.sub_zero, Option.bind_some, true_and, and_true, outF, if_true, if_false, Bool.false_eq_true, Bool.not_true, Bool.not_false, List.append_assoc, List.length_append, Option.isSome_some, wipeE, isNon, decide_true, decide_false, encN, encW, chan_at hk, encC, kd5, kd5e, row_at hw (ch_lt hk), cut1, ← List.map_take, ret_tup (belows_Q _)]
  unfold firsts
  rw [hkd]
  cases k.k.isO <;> simp
theorem firsts_rule {n : Net} {w : Wo} {M : Sto} {c : Nat} {k : Ch} {Q : D → Sto → Prop} (hk : n.cs[c]? = some k) (hw : WoOk n w) (h : Q (.tup ((firsts n w c).map encQ)) M) :
    wpF F_law_firsts [encN n, encW w, .int (c : Nat)] M Q := (firsts_ok hk hw).imp fun v M1 ⟨a, b⟩ => by rw [a, b]; exact h
theorem asR_set {l : Sto} {k : Nat} {x y : List D} (h : asR k l = some y) : asR k (l.set k (.lst x)) = some x := by
  have := asR_some h
  unfold asR
  rw [List.getElem?_set_self (by
    rcases Nat.lt_or_ge k l.length with z | z
    · exact z
    · rw [List.getElem?_eq_none z] at this; cases this)]
theorem asR_last {l : Sto} {x : List D} : asR l.length (l ++ [.lst x]) = some x := by
  have := asR_app0 (M := l) (l := [.lst x])
  rw [this]; rfl
theorem ruD_sz {n : Net} {w : Wo} (hw : WoOk n w) (i : Nat) : (ruD n w i).length ≤ 1000 := by
  unfold ruD
  split
  · simp
  · split
    · split
      · rename_i c x _
        have := firsts_sz c hw
        have h2 := List.length_filter_le (fun q : Nat × Nat => decide (q.2 = x)) (firsts n w c)
        rw [List.length_map]; omega
      · simp
    · simp
theorem loD_sz {n : Net} {w : Wo} (hw : WoOk n w) (i : Nat) : (loD n w i).length ≤ 1000 := by
  unfold loD
  split
  · rw [List.length_map]; exact firsts_sz i hw
  · simp
theorem flat_sz {f : Nat → List De} (h : ∀ i, (f i).length ≤ 1000) : ∀ i, ((List.range i).flatMap f).length ≤ i * 1000
  | 0 => by simp
  | i + 1 => by
    rw [List.range_succ, List.flatMap_append, List.length_append]
    have := flat_sz h i
    have := h i
    simp only [List.flatMap_cons, List.flatMap_nil, List.append_nil]
    omega
theorem flat_succ {f : Nat → List De} (i : Nat) : (List.range (i + 1)).flatMap f = (List.range i).flatMap f ++ f i := by
  rw [List.range_succ, List.flatMap_append]; simp
theorem de_take {i : Nat} {q : Nat × Nat} : encD (.take i q.1) = .tup [.str "take", .int (i : Nat), .int (q.1 : Nat)] := rfl
theorem poss_ok {n : Net} {w : Wo} {M : Sto} (hn : NetOk n) (hw : WoOk n w) :
    wpF F_law_possible [encN n, encW w] M fun v M' => v = .lst ((possM n w).map encD) ∧ M' = M := by
  unfold F_law_possible B_law_possible
  simp only [ev, List.getElem?_cons_zero, List.getElem?_cons_succ, List.set_cons_zero, List.set_cons_succ, List.map_cons, List.map_nil, List.length_cons, List.length_nil, List.replicate_succ, List.replicate_zero, List.cons_append, List.nil_append, Nat.reduceAdd, Nat.reduceSub, Nat.zero_add, Nat.sub_zero, Option.bind_some, true_and, and_true, outF, if_true, if_false, Bool.false_eq_true, Bool.not_true, Bool.not_false, List.append_assoc, List.length_append, Option.isSome_some, wipeE, isNon, decide_true, decide_false, encN, List.length_map]
  refine ⟨by decide, ⟨by have := hn.nr; omega, by have := hn.nr; omega⟩, ?_⟩
  refine wpS_rng (fun i e M' => ∃ l k e3 e4 e5 e6 e7 e8 e9 e10, M' = M ++ l ∧ asR k l = some (((List.range i).flatMap (ruD n w)).map encD) ∧ e = [some (encN n), some (encW w), some (.ref (M.length + k)), e3, e4, e5, e6, e7, e8, e9, e10]) ?_ ?_ ?_
  · exact ⟨_, 0, _, _, _, _, _, _, _, _, rfl, rfl, rfl⟩
  · rintro i e M' hi ⟨l, k, e3, e4, e5, e6, e7, e8, e9, e10, rfl, hk, rfl⟩
    have hri : n.rs[i]? = some n.rs[i] := List.getElem?_eq_getElem hi
    have hr := hn.rs n.rs[i] (List.getElem_mem hi)
    generalize n.rs[i] = r at hri hr
    have hst := st_at hw hr.p
    have hD : ruD n w i = if w.at_ r.p = r.s then (match r.a with
        | .take c x => ((firsts n w c).filter fun q => decide (q.2 = x)).map fun q => De.take i q.1
        | _ => [.act i]) else [] := by unfold ruD; rw [hri] <;> rfl
    have hsz := flat_sz (ruD_sz hw) i
    have hi40 : i < 40 := Nat.lt_of_lt_of_le hi hn.nr
    refine ⟨_, rfl, ?_⟩
    simp only [ev, List.getElem?_cons_zero, List.getElem?_cons_succ, List.set_cons_zero, List.set_cons_succ, List.map_cons, List.map_nil, List.length_cons, List.length_nil, List.replicate_succ, List.replicate_zero, List.cons_append, List.nil_append, Nat.reduceAdd, Nat.reduceSub, Nat.zero_add, Nat.sub_zero, Option.bind_some, true_and, and_true, outF, if_true, if_false, Bool.false_eq_true, Bool.not_true, Bool.not_false, List.append_assoc, List.length_append, Option.isSome_some, wipeE, isNon, decide_true, decide_false, ru_at hri, encR, encN, encW, hst, Int.natCast_inj, decide_eq_true_eq, gT_eq, List.length_cons, List.length_nil]
    by_cases hp : w.at_ r.p = r.s
    · rw [if_pos hp] at hD
      simp only [if_pos hp]
      have hS : sizeLine = 16777216 := rfl
      cases ha : r.a with
      | idle =>
        rw [ha] at hD
        simp only [ev, List.getElem?_cons_zero, List.getElem?_cons_succ, List.set_cons_zero, List.set_cons_succ, List.map_cons, List.map_nil, List.length_cons, List.length_nil, List.replicate_succ, List.replicate_zero, List.cons_append, List.nil_append, Nat.reduceAdd, Nat.reduceSub, Nat.zero_add, Nat.sub_zero, Option.bind_some, true_and, and_true, outF, if_true, if_false, Bool.false_eq_true, Bool.not_true, Bool.not_false, List.append_assoc, List.length_append, Option.isSome_some, wipeE, isNon, decide_true, decide_false, encA, str_ne1, hk, List.length_map]
        refine ⟨by decide, by omega, _, k, _, _, _, _, _, _, _, _, rfl, ?_, rfl⟩
        rw [asR_set hk, flat_succ, hD, List.map_append]; rfl
      | send c x =>
        rw [ha] at hD
        simp only [ev, List.getElem?_cons_zero, List.getElem?_cons_succ, List.set_cons_zero, List.set_cons_succ, List.map_cons, List.map_nil, List.length_cons, List.length_nil, List.replicate_succ, List.replicate_zero, List.cons_append, List.nil_append, Nat.reduceAdd, Nat.reduceSub, Nat.zero_add, Nat.sub_zero, Option.bind_some, true_and, and_true, outF, if_true, if_false, Bool.false_eq_true, Bool.not_true, Bool.not_false, List.append_assoc, List.length_append, Option.isSome_some, wipeE, isNon, decide_true, decide_false, encA, str_ne2, hk, List.length_map]
        refine ⟨by decide, by omega, _, k, _, _, _, _, _, _, _, _, rfl, ?_, rfl⟩
        rw [asR_set hk, flat_succ, hD, List.map_append]; rfl
      | take c x =>
        rw [ha] at hD
        have hact := hr.a
        rw [ha] at hact
        obtain ⟨kc, hkc, _⟩ := hact.ch
        simp only [ev, List.getElem?_cons_zero, List.getElem?_cons_succ, List.set_cons_zero, List.set_cons_succ, List.map_cons, List.map_nil, List.length_cons, List.length_nil, List.replicate_succ, List.replicate_zero, List.cons_append, List.nil_append, Nat.reduceAdd, Nat.reduceSub, Nat.zero_add, Nat.sub_zero, Option.bind_some, true_and, and_true, outF, if_true, if_false, Bool.false_eq_true, Bool.not_true, Bool.not_false, List.append_assoc, List.length_append, Option.isSome_some, wipeE, isNon, decide_true, decide_false, encA, str_eq1, hk, List.length_map]
        refine firsts_rule hkc hw ?_
        simp only [ev, List.getElem?_cons_zero, List.getElem?_cons_succ, List.set_cons_zero, List.set_cons_succ, List.map_cons, List.map_nil, List.length_cons, List.length_nil, List.replicate_succ, List.replicate_zero, List.cons_append, List.nil_append, Nat.reduceAdd, Nat.reduceSub, Nat.zero_add, Nat.sub_zero, Option.bind_some, true_and, and_true, outF, if_true, if_false, Bool.false_eq_true, Bool.not_true, Bool.not_false, List.append_assoc, List.length_append, Option.isSome_some, wipeE, isNon, decide_true, decide_false]
        have hf := firsts_sz c hw
        have h2 := List.length_filter_le (fun q : Nat × Nat => decide (q.2 = x)) (firsts n w c)
        refine wpA_pure (fun q => decide (q.2 = x)) (fun q => encD (.take i q.1)) (firsts n w c) (fun q hq => ⟨_, rfl, ?_, fun _ => ?_⟩) ?_
        · simp only [ev, List.getElem?_cons_zero, List.getElem?_cons_succ, List.set_cons_zero, List.set_cons_succ, List.map_cons, List.map_nil, List.length_cons, List.length_nil, List.replicate_succ, List.replicate_zero, List.cons_append, List.nil_append, Nat.reduceAdd, Nat.reduceSub, Nat.zero_add, Nat.sub_zero, Option.bind_some, true_and, and_true, outF, if_true, if_false, Bool.false_eq_true, Bool.not_true, Bool.not_false, List.append_assoc, List.length_append, Option.isSome_some, wipeE, isNon, decide_true, decide_false, Int.natCast_inj]
        · simp only [ev, List.getElem?_cons_zero, List.getElem?_cons_succ, List.set_cons_zero, List.set_cons_succ, List.map_cons, List.map_nil, List.length_cons, List.length_nil, List.replicate_succ, List.replicate_zero, List.cons_append, List.nil_append, Nat.reduceAdd, Nat.reduceSub, Nat.zero_add, Nat.sub_zero, Option.bind_some, true_and, and_true, outF, if_true, if_false, Bool.false_eq_true, Bool.not_true, Bool.not_false, List.append_assoc, List.length_append, Option.isSome_some, wipeE, isNon, decide_true, decide_false, encD]
          decide
        · simp only [ev, List.getElem?_cons_zero, List.getElem?_cons_succ, List.set_cons_zero, List.set_cons_succ, List.map_cons, List.map_nil, List.length_cons, List.length_nil, List.replicate_succ, List.replicate_zero, List.cons_append, List.nil_append, Nat.reduceAdd, Nat.reduceSub, Nat.zero_add, Nat.sub_zero, Option.bind_some, true_and, and_true, outF, if_true, if_false, Bool.false_eq_true, Bool.not_true, Bool.not_false, List.append_assoc, List.length_append, Option.isSome_some, wipeE, isNon, decide_true, decide_false, hk, List.length_map]
          refine ⟨by omega, by omega, _, l.length, _, _, _, _, _, _, _, _, rfl, ?_, rfl⟩
          rw [asR_last, flat_succ, hD, List.map_append, List.map_map]; rfl
    · rw [if_neg hp] at hD
      simp only [if_neg hp]
      refine ⟨l, k, _, _, _, _, _, _, _, _, rfl, ?_, rfl⟩
      rw [flat_succ, hD, List.append_nil]; exact hk
  · rintro e M' ⟨l, k, e3, e4, e5, e6, e7, e8, e9, e10, rfl, hk, rfl⟩
    simp only [ev, List.getElem?_cons_zero, List.getElem?_cons_succ, List.set_cons_zero, List.set_cons_succ, List.map_cons, List.map_nil, List.length_cons, List.length_nil, List.replicate_succ, List.replicate_zero, List.cons_append, List.nil_append, Nat.reduceAdd, Nat.reduceSub, Nat.zero_add, Nat.sub_zero, Option.bind_some, true_and, and_true, outF, if_true, if_false, Bool.false_eq_true, Bool.not_true, Bool.not_false, List.append_assoc, List.length_append, Option.isSome_some, wipeE, isNon, decide_true, decide_false, encN, encW, List.length_map]
    refine ⟨⟨by have := hn.nc; omega, by have := hn.nc; omega⟩, ?_⟩
    refine wpS_rng (fun i e M' => ∃ l k e3 e4 e5 e6 e7 e8 e9 e10, M' = M ++ l ∧ asR k l = some (((List.range n.rs.length).flatMap (ruD n w) ++ (List.range i).flatMap (loD n w)).map encD) ∧ e = [some (encN n), some (encW w), some (.ref (M.length + k)), e3, e4, e5, e6, e7, e8, e9, e10]) ?_ ?_ ?_
    · exact ⟨l, k, _, _, _, _, _, _, _, _, rfl, by simpa using hk, rfl⟩
    · rintro i e M' hi ⟨l, k, e3, e4, e5, e6, e7, e8, e9, e10, rfl, hk, rfl⟩
      have hci : n.cs[i]? = some n.cs[i] := List.getElem?_eq_getElem hi
      generalize n.cs[i] = ch at hci
      have hS : sizeLine = 16777216 := rfl
      have hsz1 := flat_sz (ruD_sz hw) n.rs.length
      have hsz2 := flat_sz (loD_sz hw) i
      have h40 := hn.nr
      have h8 := hn.nc
      have hkd : n.kd i = ch.k := kd_at hci
      have hD : loD n w i = if ch.k.isL = true then (firsts n w i).map (fun q => .lose i q.1) else [] := by unfold loD; rw [hkd]
      refine ⟨_, rfl, ?_⟩
      simp only [ev, List.getElem?_cons_zero, List.getElem?_cons_succ, List.set_cons_zero, List.set_cons_succ, List.map_cons, List.map_nil, List.length_cons, List.length_nil, List.replicate_succ, List.replicate_zero, List.cons_append, List.nil_append, Nat.reduceAdd, Nat.reduceSub, Nat.zero_add, Nat.sub_zero, Option.bind_some, true_and, and_true, outF, if_true, if_false, Bool.false_eq_true, Bool.not_true, Bool.not_false, List.append_assoc, List.length_append, Option.isSome_some, wipeE, isNon, decide_true, decide_false, encN, encW, chan_at hci, encC, kdm5, kdm5e, hk]
      by_cases hL : ch.k.isL = true
      · rw [if_pos hL] at hD
        simp only [if_pos hL]
        refine firsts_rule hci hw ?_
        simp only [ev, List.getElem?_cons_zero, List.getElem?_cons_succ, List.set_cons_zero, List.set_cons_succ, List.map_cons, List.map_nil, List.length_cons, List.length_nil, List.replicate_succ, List.replicate_zero, List.cons_append, List.nil_append, Nat.reduceAdd, Nat.reduceSub, Nat.zero_add, Nat.sub_zero, Option.bind_some, true_and, and_true, outF, if_true, if_false, Bool.false_eq_true, Bool.not_true, Bool.not_false, List.append_assoc, List.length_append, Option.isSome_some, wipeE, isNon, decide_true, decide_false]
        have hf := firsts_sz i hw
        refine wpA_map (fun q => encD (.lose i q.1)) (firsts n w i) (fun q hq => ⟨_, rfl, ?_⟩) ?_
        · simp only [ev, List.getElem?_cons_zero, List.getElem?_cons_succ, List.set_cons_zero, List.set_cons_succ, List.map_cons, List.map_nil, List.length_cons, List.length_nil, List.replicate_succ, List.replicate_zero, List.cons_append, List.nil_append, Nat.reduceAdd, Nat.reduceSub, Nat.zero_add, Nat.sub_zero, Option.bind_some, true_and, and_true, outF, if_true, if_false, Bool.false_eq_true, Bool.not_true, Bool.not_false, List.append_assoc, List.length_append, Option.isSome_some, wipeE, isNon, decide_true, decide_false, encD]
          decide
        · simp only [ev, List.getElem?_cons_zero, List.getElem?_cons_succ, List.set_cons_zero, List.set_cons_succ, List.map_cons, List.map_nil, List.length_cons, List.length_nil, List.replicate_succ, List.replicate_zero, List.cons_append, List.nil_append, Nat.reduceAdd, Nat.reduceSub, Nat.zero_add, Nat.sub_zero, Option.bind_some, true_and, and_true, outF, if_true, if_false, Bool.false_eq_true, Bool.not_true, Bool.not_false, List.append_assoc, List.length_append, Option.isSome_some, wipeE, isNon, decide_true, decide_false, hk, List.length_map, List.length_append]
          refine ⟨by omega, by omega, _, l.length, _, _, _, _, _, _, _, _, rfl, ?_, rfl⟩
          rw [asR_last, flat_succ, hD, ← List.append_assoc, List.map_append (l₂ := List.map _ _), List.map_map]; rfl
      · rw [if_neg hL] at hD
        simp only [if_neg hL]
        refine ⟨l, k, _, _, _, _, _, _, _, _, rfl, ?_, rfl⟩
        rw [flat_succ, hD, List.append_nil]; exact hk
    · rintro e M' ⟨l, k, e3, e4, e5, e6, e7, e8, e9, e10, rfl, hk, rfl⟩
      simp only [ev, List.getElem?_cons_zero, List.getElem?_cons_succ, List.set_cons_zero, List.set_cons_succ, List.map_cons, List.map_nil, List.length_cons, List.length_nil, List.replicate_succ, List.replicate_zero, List.cons_append, List.nil_append, Nat.reduceAdd, Nat.reduceSub, Nat.zero_add, Nat.sub_zero, Option.bind_some, true_and, and_true, outF, if_true, if_false, Bool.false_eq_true, Bool.not_true, Bool.not_false, List.append_assoc, List.length_append, Option.isSome_some, wipeE, isNon, decide_true, decide_false]
      rw [retF_list (asR_some hk) (belows_D _)]
      simp only [ev, List.getElem?_cons_zero, List.getElem?_cons_succ, List.set_cons_zero, List.set_cons_succ, List.map_cons, List.map_nil, List.length_cons, List.length_nil, List.replicate_succ, List.replicate_zero, List.cons_append, List.nil_append, Nat.reduceAdd, Nat.reduceSub, Nat.zero_add, Nat.sub_zero, Option.bind_some, true_and, and_true, outF, if_true, if_false, Bool.false_eq_true, Bool.not_true, Bool.not_false, List.append_assoc, List.length_append, Option.isSome_some, wipeE, isNon, decide_true, decide_false, possM]
end K40

end

section
set_option Elab.async false
set_option linter.all false
set_option maxRecDepth 100000
/-! K40P5: the program's possible -/
namespace K40
open PySem PySem.Spec L2 DV
theorem kd_in1 (k : Kd) {M : Sto} : dIn (.str k.s) (.tup [.str "order lossy", .str "loose lossy"]) M = some (.bl k.isL) := by cases k <;> rfl
theorem kd_in2 (k : Kd) {M : Sto} : dIn (.str k.s) (.tup [.str "order", .str "order lossy"]) M = some (.bl k.isO) := by cases k <;> rfl
theorem lossy_rule {n : Net} {M : Sto} {c : Nat} {k : Ch} {Q : D → Sto → Prop} (hk : n.cs[c]? = some k) (h : Q (.bl k.k.isL) M) : wpF F_is_lossy [oN n, .int (c : Nat)] M Q := by
  unfold F_is_lossy B_is_lossy
  simp only [ev, List.getElem?_cons_zero, List.getElem?_cons_succ, List.set_cons_zero, List.set_cons_succ, List.map_cons, List.map_nil, List.length_cons, List.length_nil, List.replicate_succ, List.replicate_zero, List.cons_append, List.nil_append, Nat.reduceAdd, Nat.reduceSub, Nat.zero_add, Nat.sub_zero, Option.bind_some, true_and, and_true, outF, if_true, if_false, Bool.false_eq_true, Bool.not_true, Bool.not_false, List.append_assoc, List.length_append, Option.isSome_some, wipeE, isNon, decide_true, decide_false, fld_c, chan_at hk, encC, kd_in1, ret_bl]
  exact ⟨by decide, h⟩
theorem ordered_rule {n : Net} {M : Sto} {c : Nat} {k : Ch} {Q : D → Sto → Prop} (hk : n.cs[c]? = some k) (h : Q (.bl k.k.isO) M) : wpF F_is_ordered [oN n, .int (c : Nat)] M Q := by
  unfold F_is_ordered B_is_ordered
  simp only [ev, List.getElem?_cons_zero, List.getElem?_cons_succ, List.set_cons_zero, List.set_cons_succ, List.map_cons, List.map_nil, List.length_cons, List.length_nil, List.replicate_succ, List.replicate_zero, List.cons_append, List.nil_append, Nat.reduceAdd, Nat.reduceSub, Nat.zero_add, Nat.sub_zero, Option.bind_some, true_and, and_true, outF, if_true, if_false, Bool.false_eq_true, Bool.not_true, Bool.not_false, List.append_assoc, List.length_append, Option.isSome_some, wipeE, isNon, decide_true, decide_false, fld_c, chan_at hk, encC, kd_in2, ret_bl]
  exact ⟨by decide, h⟩
theorem open_rule {n : Net} {w : Wo} {M : Sto} {c : Nat} {k : Ch} {Q : D → Sto → Prop} (hk : n.cs[c]? = some k) (hw : WoOk n w) (h : Q (.tup ((firsts n w c).map encQ)) M) :
    wpF F_open_messages_of [oN n, encW w, .int (c : Nat)] M Q := by
  unfold F_open_messages_of B_open_messages_of
  have hkd : n.kd c = k.k := kd_at hk
  have hsz := row_sz c hw
  have hS : sizeLine = 16777216 := rfl
  simp only [ev, List.getElem?_cons_zero, List.getElem?_cons_succ, List.set_cons_zero, List.set_cons_succ, List.map_cons, List.map_nil, List.length_cons, List.length_nil, List.replicate_succ, List.replicate_zero, List.cons_append, List.nil_append, Nat.reduceAdd, Nat.reduceSub, Nat.zero_add, Nat.sub_zero, Option.bind_some, true_and, and_true, outF, if_true, if_false, Bool.false_eq_true, Bool.not_true, Bool.not_false, List.append_assoc, List.length_append, Option.isSome_some, wipeE, isNon, decide_true, decide_false, encW, row_at hw (ch_lt hk)]
  refine wpA_map (fun q => encQ q) (w.row c) (fun q hq => ⟨_, rfl, ?_⟩) ?_
  · simp only [ev, List.getElem?_cons_zero, List.getElem?_cons_succ, List.set_cons_zero, List.set_cons_succ, List.map_cons, List.map_nil, List.length_cons, List.length_nil, List.replicate_succ, List.replicate_zero, List.cons_append, List.nil_append, Nat.reduceAdd, Nat.reduceSub, Nat.zero_add, Nat.sub_zero, Option.bind_some, true_and, and_true, outF, if_true, if_false, Bool.false_eq_true, Bool.not_true, Bool.not_false, List.append_assoc, List.length_append, Option.isSome_some, wipeE, isNon, decide_true, decide_false, encQ]
  · simp only [ev, List.getElem?_cons_zero, List.getElem?_cons_succ, List.set_cons_zero, List.set_cons_succ, List.map_cons, List.map_nil, List.length_cons, List.length_nil, List.replicate_succ, List.replicate_zero, List.cons_append, List.nil_append, Nat.reduceAdd, Nat.reduceSub, Nat.zero_add, Nat.sub_zero, Option.bind_some, true_and, and_true, outF, if_true, if_false, Bool.false_eq_true, Bool.not_true, Bool.not_false, List.append_assoc, List.length_append, Option.isSome_some, wipeE, isNon, decide_true, decide_false, List.length_map]
    refine ⟨by omega, ?_⟩
    refine ordered_rule hk ?_
    simp only [ev, List.getElem?_cons_zero, List.getElem?_cons_succ, List.set_cons_zero, List.set_cons_succ, List.map_cons, List.map_nil, List.length_cons, List.length_nil, List.replicate_succ, List.replicate_zero, List.cons_append, List.nil_append, Nat.reduceAdd, Nat.reduceSub, Nat.zero_add, Nat.sub_zero, Option.bind_some, true_and, and_true, outF, if_true, if_false, Bool.false_eq_true, Bool.not_true, Bool.not_false, List.append_assoc, List.length_append, Option.isSome_some, wipeE, isNon, decide_true, decide_false, cut1, ← List.map_take, ret_tup (belows_Q _)]
    unfold firsts at h
    rw [hkd] at h
    cases hb : k.k.isO with
    | true => rw [hb] at h; simpa using h
    | false => rw [hb] at h; simpa using h
theorem en1_tup {l : List D} : en1 (.tup l) = some l := rfl
theorem enumD_map {α : Type} {enc : α → D} {l : List α} : enumD (l.map enc) = (l.zipIdx).map fun p => .tup [.int (p.2 : Nat), enc p.1] := by
  unfold enumD
  rw [List.zipIdx_map, List.map_map]; rfl
theorem prog_poss_ok {n : Net} {w : Wo} {M : Sto} (hn : NetOk n) (hw : WoOk n w) :
    wpF F_possible [oN n, encW w] M fun v M' => v = .tup ((possM n w).map encD) ∧ M' = M := by
  unfold F_possible B_possible
  simp only [ev, List.getElem?_cons_zero, List.getElem?_cons_succ, List.set_cons_zero, List.set_cons_succ, List.map_cons, List.map_nil, List.length_cons, List.length_nil, List.replicate_succ, List.replicate_zero, List.cons_append, List.nil_append, Nat.reduceAdd, Nat.reduceSub, Nat.zero_add, Nat.sub_zero, Option.bind_some, true_and, and_true, outF, if_true, if_false, Bool.false_eq_true, Bool.not_true, Bool.not_false, List.append_assoc, List.length_append, Option.isSome_some, wipeE, isNon, decide_true, decide_false, fld_r, en1_tup, enumD_map]
  refine ⟨by decide, ?_⟩
  refine wpS_forL (enc := fun p : Ru × Nat => .tup [.int (p.2 : Nat), encR p.1]) (fun xs e M' => ∃ i o e3 e4 e5 e6 e7 e8 e9, xs = n.rs.zipIdx.drop i ∧ i ≤ n.rs.length ∧ M' = M ++ [.lst (((List.range i).flatMap (ruD n w)).map encD)] ∧ o = .ref M.length ∧ e = [some (oN n), some (encW w), some o, e3, e4, e5, e6, e7, e8, e9]) n.rs.zipIdx _ _ ?_ ?_ ?_
  · exact ⟨0, _, _, _, _, _, _, _, _, rfl, Nat.zero_le _, rfl, rfl, rfl⟩
  · rintro ⟨r, j⟩ xs e M' ⟨i, o, e3, e4, e5, e6, e7, e8, e9, hx, hi', rfl, rfl, rfl⟩
    have hi : i < n.rs.length := by
      rcases Nat.lt_or_ge i n.rs.length with z | z
      · exact z
      · rw [List.drop_eq_nil_of_le (by simpa using z)] at hx; cases hx
    rw [List.drop_eq_getElem_cons (by simpa using hi), List.getElem_zipIdx] at hx
    obtain ⟨hx1, rfl⟩ := List.cons.inj hx
    obtain ⟨rfl, hj⟩ := Prod.mk.inj hx1
    rw [Nat.zero_add] at hj
    subst hj
    have hri : n.rs[j]? = some n.rs[j] := List.getElem?_eq_getElem hi
    have hr := hn.rs n.rs[j] (List.getElem_mem hi)
    generalize n.rs[j] = r at hri hr
    have hst := st_at hw hr.p
    have hD : ruD n w j = if w.at_ r.p = r.s then (match r.a with
        | .take c x => ((firsts n w c).filter fun q => decide (q.2 = x)).map fun q => De.take j q.1
        | _ => [.act j]) else [] := by unfold ruD; rw [hri] <;> rfl
    have hsz := flat_sz (ruD_sz hw) j
    have hi40 : j < 40 := Nat.lt_of_lt_of_le hi hn.nr
    have hS : sizeLine = 16777216 := rfl
    refine ⟨[some (oN n), some (encW w), some (.ref M.length), e3, some (.int (j : Nat)), some (encR r), e6, e7, e8, e9], rfl, ?_⟩
    simp only [ev, List.getElem?_cons_zero, List.getElem?_cons_succ, List.set_cons_zero, List.set_cons_succ, List.map_cons, List.map_nil, List.length_cons, List.length_nil, List.replicate_succ, List.replicate_zero, List.cons_append, List.nil_append, Nat.reduceAdd, Nat.reduceSub, Nat.zero_add, Nat.sub_zero, Option.bind_some, true_and, and_true, outF, if_true, if_false, Bool.false_eq_true, Bool.not_true, Bool.not_false, List.append_assoc, List.length_append, Option.isSome_some, wipeE, isNon, decide_true, decide_false, encR, encW, hst, Int.natCast_inj, decide_eq_true_eq]
    by_cases hp : w.at_ r.p = r.s
    · rw [if_pos hp] at hD
      simp only [if_pos hp]
      cases ha : r.a with
      | idle =>
        rw [ha] at hD
        simp only [ev, List.getElem?_cons_zero, List.getElem?_cons_succ, List.set_cons_zero, List.set_cons_succ, List.map_cons, List.map_nil, List.length_cons, List.length_nil, List.replicate_succ, List.replicate_zero, List.cons_append, List.nil_append, Nat.reduceAdd, Nat.reduceSub, Nat.zero_add, Nat.sub_zero, Option.bind_some, true_and, and_true, outF, if_true, if_false, Bool.false_eq_true, Bool.not_true, Bool.not_false, List.append_assoc, List.length_append, Option.isSome_some, wipeE, isNon, decide_true, decide_false, encA, str_ne1, List.length_map]
        refine ⟨by decide, by omega, j + 1, _, _, _, _, _, _, _, _, rfl, hi, ?_, rfl, rfl⟩
        rw [flat_succ, hD, List.map_append]; rfl
      | send c x =>
        rw [ha] at hD
        simp only [ev, List.getElem?_cons_zero, List.getElem?_cons_succ, List.set_cons_zero, List.set_cons_succ, List.map_cons, List.map_nil, List.length_cons, List.length_nil, List.replicate_succ, List.replicate_zero, List.cons_append, List.nil_append, Nat.reduceAdd, Nat.reduceSub, Nat.zero_add, Nat.sub_zero, Option.bind_some, true_and, and_true, outF, if_true, if_false, Bool.false_eq_true, Bool.not_true, Bool.not_false, List.append_assoc, List.length_append, Option.isSome_some, wipeE, isNon, decide_true, decide_false, encA, str_ne2, List.length_map]
        refine ⟨by decide, by omega, j + 1, _, _, _, _, _, _, _, _, rfl, hi, ?_, rfl, rfl⟩
        rw [flat_succ, hD, List.map_append]; rfl
      | take c x =>
        rw [ha] at hD
        have hact := hr.a
        rw [ha] at hact
        obtain ⟨kc, hkc, _⟩ := hact.ch
        simp only [ev, List.getElem?_cons_zero, List.getElem?_cons_succ, List.set_cons_zero, List.set_cons_succ, List.map_cons, List.map_nil, List.length_cons, List.length_nil, List.replicate_succ, List.replicate_zero, List.cons_append, List.nil_append, Nat.reduceAdd, Nat.reduceSub, Nat.zero_add, Nat.sub_zero, Option.bind_some, true_and, and_true, outF, if_true, if_false, Bool.false_eq_true, Bool.not_true, Bool.not_false, List.append_assoc, List.length_append, Option.isSome_some, wipeE, isNon, decide_true, decide_false, encA, str_eq1, List.length_map]
        refine open_rule hkc hw ?_
        simp only [ev, List.getElem?_cons_zero, List.getElem?_cons_succ, List.set_cons_zero, List.set_cons_succ, List.map_cons, List.map_nil, List.length_cons, List.length_nil, List.replicate_succ, List.replicate_zero, List.cons_append, List.nil_append, Nat.reduceAdd, Nat.reduceSub, Nat.zero_add, Nat.sub_zero, Option.bind_some, true_and, and_true, outF, if_true, if_false, Bool.false_eq_true, Bool.not_true, Bool.not_false, List.append_assoc, List.length_append, Option.isSome_some, wipeE, isNon, decide_true, decide_false]
        have hf := firsts_sz c hw
        have h2 := List.length_filter_le (fun q : Nat × Nat => decide (q.2 = x)) (firsts n w c)
        refine wpA_pure (fun q => decide (q.2 = x)) (fun q => encD (.take j q.1)) (firsts n w c) (fun q hq => ⟨_, rfl, ?_, fun _ => ?_⟩) ?_
        · simp only [ev, List.getElem?_cons_zero, List.getElem?_cons_succ, List.set_cons_zero, List.set_cons_succ, List.map_cons, List.map_nil, List.length_cons, List.length_nil, List.replicate_succ, List.replicate_zero, List.cons_append, List.nil_append, Nat.reduceAdd, Nat.reduceSub, Nat.zero_add, Nat.sub_zero, Option.bind_some, true_and, and_true, outF, if_true, if_false, Bool.false_eq_true, Bool.not_true, Bool.not_false, List.append_assoc, List.length_append, Option.isSome_some, wipeE, isNon, decide_true, decide_false, Int.natCast_inj]
        · simp only [ev, List.getElem?_cons_zero, List.getElem?_cons_succ, List.set_cons_zero, List.set_cons_succ, List.map_cons, List.map_nil, List.length_cons, List.length_nil, List.replicate_succ, List.replicate_zero, List.cons_append, List.nil_append, Nat.reduceAdd, Nat.reduceSub, Nat.zero_add, Nat.sub_zero, Option.bind_some, true_and, and_true, outF, if_true, if_false, Bool.false_eq_true, Bool.not_true, Bool.not_false, List.append_assoc, List.length_append, Option.isSome_some, wipeE, isNon, decide_true, decide_false, encD]
          decide
        · simp only [ev, List.getElem?_cons_zero, List.getElem?_cons_succ, List.set_cons_zero, List.set_cons_succ, List.map_cons, List.map_nil, List.length_cons, List.length_nil, List.replicate_succ, List.replicate_zero, List.cons_append, List.nil_append, Nat.reduceAdd, Nat.reduceSub, Nat.zero_add, Nat.sub_zero, Option.bind_some, true_and, and_true, outF, if_true, if_false, Bool.false_eq_true, Bool.not_true, Bool.not_false, List.append_assoc, List.length_append, Option.isSome_some, wipeE, isNon, decide_true, decide_false, List.length_map]
          refine ⟨by omega, by omega, j + 1, _, _, _, _, _, _, _, _, rfl, hi, ?_, rfl, rfl⟩
          rw [flat_succ, hD, List.map_append, List.map_map]; rfl
    · rw [if_neg hp] at hD
      simp only [if_neg hp]
      refine ⟨j + 1, _, _, _, _, _, _, _, _, rfl, hi, ?_, rfl, rfl⟩
      rw [flat_succ, hD, List.append_nil]
  · rintro e M' ⟨i, o, e3, e4, e5, e6, e7, e8, e9, hx, hi', rfl, rfl, rfl⟩
    have hi : i = n.rs.length := by
      have z := congrArg List.length hx
      simp at z; omega
    subst hi
    simp only [ev, List.getElem?_cons_zero, List.getElem?_cons_succ, List.set_cons_zero, List.set_cons_succ, List.map_cons, List.map_nil, List.length_cons, List.length_nil, List.replicate_succ, List.replicate_zero, List.cons_append, List.nil_append, Nat.reduceAdd, Nat.reduceSub, Nat.zero_add, Nat.sub_zero, Option.bind_some, true_and, and_true, outF, if_true, if_false, Bool.false_eq_true, Bool.not_true, Bool.not_false, List.append_assoc, List.length_append, Option.isSome_some, wipeE, isNon, decide_true, decide_false, fld_c, List.length_map]
    refine ⟨⟨by have := hn.nc; omega, by have := hn.nc; omega⟩, ?_⟩
    refine wpS_rng (fun i e M' => ∃ e3 e4 e5 e6 e7 e8 e9, M' = M ++ [.lst (((List.range n.rs.length).flatMap (ruD n w) ++ (List.range i).flatMap (loD n w)).map encD)] ∧ e = [some (oN n), some (encW w), some (.ref M.length), e3, e4, e5, e6, e7, e8, e9]) ?_ ?_ ?_
    · exact ⟨_, _, _, _, _, _, _, by simp, rfl⟩
    · rintro i e M' hi ⟨e3, e4, e5, e6, e7, e8, e9, rfl, rfl⟩
      have hci : n.cs[i]? = some n.cs[i] := List.getElem?_eq_getElem hi
      generalize n.cs[i] = ch at hci
      have hS : sizeLine = 16777216 := rfl
      have hsz1 := flat_sz (ruD_sz hw) n.rs.length
      have hsz2 := flat_sz (loD_sz hw) i
      have h40 := hn.nr
      have h8 := hn.nc
      have hkd : n.kd i = ch.k := kd_at hci
      have hD : loD n w i = if ch.k.isL = true then (firsts n w i).map (fun q => .lose i q.1) else [] := by unfold loD; rw [hkd]
      refine ⟨_, rfl, ?_⟩
      simp only [ev, List.getElem?_cons_zero, List.getElem?_cons_succ, List.set_cons_zero, List.set_cons_succ, List.map_cons, List.map_nil, List.length_cons, List.length_nil, List.replicate_succ, List.replicate_zero, List.cons_append, List.nil_append, Nat.reduceAdd, Nat.reduceSub, Nat.zero_add, Nat.sub_zero, Option.bind_some, true_and, and_true, outF, if_true, if_false, Bool.false_eq_true, Bool.not_true, Bool.not_false, List.append_assoc, List.length_append, Option.isSome_some, wipeE, isNon, decide_true, decide_false]
      refine lossy_rule hci ?_
      simp only [ev, List.getElem?_cons_zero, List.getElem?_cons_succ, List.set_cons_zero, List.set_cons_succ, List.map_cons, List.map_nil, List.length_cons, List.length_nil, List.replicate_succ, List.replicate_zero, List.cons_append, List.nil_append, Nat.reduceAdd, Nat.reduceSub, Nat.zero_add, Nat.sub_zero, Option.bind_some, true_and, and_true, outF, if_true, if_false, Bool.false_eq_true, Bool.not_true, Bool.not_false, List.append_assoc, List.length_append, Option.isSome_some, wipeE, isNon, decide_true, decide_false]
      by_cases hL : ch.k.isL = true
      · rw [if_pos hL] at hD
        simp only [if_pos hL]
        refine open_rule hci hw ?_
        simp only [ev, List.getElem?_cons_zero, List.getElem?_cons_succ, List.set_cons_zero, List.set_cons_succ, List.map_cons, List.map_nil, List.length_cons, List.length_nil, List.replicate_succ, List.replicate_zero, List.cons_append, List.nil_append, Nat.reduceAdd, Nat.reduceSub, Nat.zero_add, Nat.sub_zero, Option.bind_some, true_and, and_true, outF, if_true, if_false, Bool.false_eq_true, Bool.not_true, Bool.not_false, List.append_assoc, List.length_append, Option.isSome_some, wipeE, isNon, decide_true, decide_false]
        have hf := firsts_sz i hw
        refine wpA_map (fun q => encD (.lose i q.1)) (firsts n w i) (fun q hq => ⟨_, rfl, ?_⟩) ?_
        · simp only [ev, List.getElem?_cons_zero, List.getElem?_cons_succ, List.set_cons_zero, List.set_cons_succ, List.map_cons, List.map_nil, List.length_cons, List.length_nil, List.replicate_succ, List.replicate_zero, List.cons_append, List.nil_append, Nat.reduceAdd, Nat.reduceSub, Nat.zero_add, Nat.sub_zero, Option.bind_some, true_and, and_true, outF, if_true, if_false, Bool.false_eq_true, Bool.not_true, Bool.not_false, List.append_assoc, List.length_append, Option.isSome_some, wipeE, isNon, decide_true, decide_false, encD]
          decide
        · simp only [ev, List.getElem?_cons_zero, List.getElem?_cons_succ, List.set_cons_zero, List.set_cons_succ, List.map_cons, List.map_nil, List.length_cons, List.length_nil, List.replicate_succ, List.replicate_zero, List.cons_append, List.nil_append, Nat.reduceAdd, Nat.reduceSub, Nat.zero_add, Nat.sub_zero, Option.bind_some, true_and, and_true, outF, if_true, if_false, Bool.false_eq_true, Bool.not_true, Bool.not_false, List.append_assoc, List.length_append, Option.isSome_some, wipeE, isNon, decide_true, decide_false, List.length_map, List.length_append]
          refine ⟨by omega, by omega, _, _, _, _, _, _, _, ?_, rfl⟩
          rw [flat_succ, hD, ← List.append_assoc, List.map_append (l₂ := List.map _ _), List.map_map]; rfl
      · rw [if_neg hL] at hD
        simp only [if_neg hL]
        refine ⟨_, _, _, _, _, _, _, ?_, rfl⟩
        rw [flat_succ, hD, List.append_nil]
    · rintro e M' ⟨e3, e4, e5, e6, e7, e8, e9, rfl, rfl⟩
      simp only [ev, List.getElem?_cons_zero, List.getElem?_cons_succ, List.set_cons_zero, List.set_cons_succ, List.map_cons, List.map_nil, List.length_cons, List.length_nil, List.replicate_succ, List.replicate_zero, List.cons_append, List.nil_append, Nat.reduceAdd, Nat.reduceSub, Nat.zero_add, Nat.sub_zero, Option.bind_some, true_and, and_true, outF, if_true, if_false, Bool.false_eq_true, Bool.not_true, Bool.not_false, List.append_assoc, List.length_append, Option.isSome_some, wipeE, isNon, decide_true, decide_false]
      rw [retF_same (by simp only [below]; exact belows_D _)]
      simp only [ev, List.getElem?_cons_zero, List.getElem?_cons_succ, List.set_cons_zero, List.set_cons_succ, List.map_cons, List.map_nil, List.length_cons, List.length_nil, List.replicate_succ, List.replicate_zero, List.cons_append, List.nil_append, Nat.reduceAdd, Nat.reduceSub, Nat.zero_add, Nat.sub_zero, Option.bind_some, true_and, and_true, outF, if_true, if_false, Bool.false_eq_true, Bool.not_true, Bool.not_false, List.append_assoc, List.length_append, Option.isSome_some, wipeE, isNon, decide_true, decide_false, possM]
end K40

end

section
set_option Elab.async false
set_option linter.all false
set_option maxRecDepth 100000
/-! K40P6: a deed done -/
namespace K40
open PySem PySem.Spec L2 DV
def cutK (k : Nat) (l : List (Nat × Nat)) : List (Nat × Nat) := l.filter fun q => !decide (q.1 = k)
def doneM (n : Net) (w : Wo) : De → Wo
  | .act i => match n.rs[i]? with
    | none => w
    | some r => match r.a with
      | .send c x => ⟨w.st.set r.p r.th, w.sn.set c (w.sent c + 1), w.pr.set c (w.row c ++ [(w.sent c, x)])⟩
      | _ => ⟨w.st.set r.p r.th, w.sn, w.pr⟩
  | .take i k => match n.rs[i]? with
    | none => w
    | some r => match r.a with
      | .take c x => ⟨w.st.set r.p r.th, w.sn, w.pr.set c (cutK k (w.row c))⟩
      | _ => w
  | .lose c k => ⟨w.st, w.sn, w.pr.set c (cutK k (w.row c))⟩
inductive DeOk (n : Net) : De → Prop
  | idle {i : Nat} {r : Ru} (h : n.rs[i]? = some r) (ha : r.a = .idle) : DeOk n (.act i)
  | send {i : Nat} {r : Ru} {c x : Nat} (h : n.rs[i]? = some r) (ha : r.a = .send c x) : DeOk n (.act i)
  | take {i k : Nat} {r : Ru} {c x : Nat} (h : n.rs[i]? = some r) (ha : r.a = .take c x) : DeOk n (.take i k)
  | lose {c k : Nat} (h : c < n.cs.length) : DeOk n (.lose c k)
theorem mem_of_at {n : Net} {i : Nat} {r : Ru} (h : n.rs[i]? = some r) : r ∈ n.rs := List.mem_of_getElem? h
theorem str_1 : decide (("act" : Str) = "lose") = false := by decide +kernel
theorem str_2 : decide (("take" : Str) = "lose") = false := by decide +kernel
theorem str_3 : decide (("lose" : Str) = "act") = false := by decide +kernel
theorem str_4 : decide (("take" : Str) = "act") = false := by decide +kernel
theorem str_5 : decide (("do" : Str) = "send") = false := by decide +kernel
theorem str_6 : decide (("take" : Str) = "send") = false := by decide +kernel
theorem str_7 : decide (("send" : Str) = "do") = false := by decide +kernel
theorem str_8 : decide (("take" : Str) = "do") = false := by decide +kernel
theorem sn_at {n : Net} {w : Wo} {c : Nat} (hw : WoOk n w) (h : c < n.cs.length) : (w.sn.map dn)[c]? = some (.int (w.sent c : Nat)) := by
  have hlt : c < w.sn.length := by rw [hw.sn]; exact h
  rw [List.getElem?_map, List.getElem?_eq_getElem hlt]
  unfold Wo.sent
  rw [List.getD_eq_getElem?_getD, List.getElem?_eq_getElem hlt]; rfl
theorem below_W (st sn : List Nat) (pr : List (List (Nat × Nat))) : belows 0 [D.tup (st.map dn), D.tup (sn.map dn), D.tup (pr.map encRow)] = true := by
  have h1 : belows 0 (st.map dn) = true := belows_map fun _ _ => rfl
  have h2 : belows 0 (sn.map dn) = true := belows_map fun _ _ => rfl
  have h3 : belows 0 (pr.map encRow) = true := belows_map fun r _ => by
    show below 0 (.tup (r.map encQ)) = true
    simp only [below]; exact belows_Q r
  simp only [belows, below, h1, h2, h3, Bool.and_self]
theorem ret_W {M l : Sto} {st sn : List Nat} {pr : List (List (Nat × Nat))} {Q : D × Sto → Prop} : wpO (retF M (.tup [D.tup (st.map dn), D.tup (sn.map dn), D.tup (pr.map encRow)]) (M ++ l)) Q ↔ Q (.tup [D.tup (st.map dn), D.tup (sn.map dn), D.tup (pr.map encRow)], M) := by
  rw [retF_same (by simp only [below]; exact below_W st sn pr)]; exact wpO_some
theorem dn_set {l : List Nat} {p x : Nat} : (l.map dn).set p (.int (x : Nat)) = (l.set p x).map dn := (List.map_set (f := dn)).symm
theorem dn_set1 {l : List Nat} {p x : Nat} : (l.map dn).set p (.int ((x : Int) + 1)) = (l.set p (x + 1)).map dn := (List.map_set (f := dn)).symm
theorem row_set {l : List (List (Nat × Nat))} {p : Nat} {x : List (Nat × Nat)} : (l.map encRow).set p (.tup (x.map encQ)) = (l.set p x).map encRow := (List.map_set (f := encRow)).symm
theorem row_set1 {l : List (List (Nat × Nat))} {p s t : Nat} {x : List (Nat × Nat)} : (l.map encRow).set p (.tup (x.map encQ ++ [.tup [.int (s : Nat), .int (t : Nat)]])) = (l.set p (x ++ [(s, t)])).map encRow := by
  rw [List.map_set]
  congr 1
  show _ = D.tup _
  rw [List.map_append]; rfl
theorem done_ok {n : Net} {w : Wo} {M : Sto} {d : De} (hn : NetOk n) (hw : WoOk n w) (hd : DeOk n d) :
    wpF F_law_done [encN n, encW w, encD d] M fun v M' => v = encW (doneM n w d) ∧ M' = M := by
  unfold F_law_done B_law_done
  have hS : sizeLine = 16777216 := rfl
  have h3 : 3 ≤ sizeLine := by decide
  cases hd with
  | @idle i r h ha =>
    have hr := hn.rs r (mem_of_at h)
    have hp : ixN w.st.length (r.p : Int) = some r.p := ixN_nat (by rw [hw.st]; exact hr.p)
    simp only [ev, List.getElem?_cons_zero, List.getElem?_cons_succ, List.set_cons_zero, List.set_cons_succ, List.map_cons, List.map_nil, List.length_cons, List.length_nil, List.replicate_succ, List.replicate_zero, List.cons_append, List.nil_append, Nat.reduceAdd, Nat.reduceSub, Nat.zero_add, Nat.sub_zero, Option.bind_some, true_and, and_true, outF, if_true, if_false, Bool.false_eq_true, Bool.not_true, Bool.not_false, List.append_assoc, List.length_append, Option.isSome_some, wipeE, isNon, decide_true, decide_false, encW, encN, encD, ru_at h, encR, ha, encA, str_1, str_5, List.length_map, gT_eq, hp, decide_true, decide_false, Nat.add_assoc, h3, dn_set, ret_W]
    simp only [doneM, h, ha]
  | @send i r c x h ha =>
    have hr := hn.rs r (mem_of_at h)
    have hp : ixN w.st.length (r.p : Int) = some r.p := ixN_nat (by rw [hw.st]; exact hr.p)
    have hact := hr.a
    rw [ha] at hact
    obtain ⟨k, hk, _⟩ := hact.ch
    have hlt := ch_lt hk
    have hc1 : ixN w.pr.length (c : Int) = some c := ixN_nat (by rw [hw.pr]; exact hlt)
    have hc2 : ixN w.sn.length (c : Int) = some c := ixN_nat (by rw [hw.sn]; exact hlt)
    have hz := row_sz c hw
    simp only [ev, List.getElem?_cons_zero, List.getElem?_cons_succ, List.set_cons_zero, List.set_cons_succ, List.map_cons, List.map_nil, List.length_cons, List.length_nil, List.replicate_succ, List.replicate_zero, List.cons_append, List.nil_append, Nat.reduceAdd, Nat.reduceSub, Nat.zero_add, Nat.sub_zero, Option.bind_some, true_and, and_true, outF, if_true, if_false, Bool.false_eq_true, Bool.not_true, Bool.not_false, List.append_assoc, List.length_append, Option.isSome_some, wipeE, isNon, decide_true, decide_false, encW, encN, encD, ru_at h, encR, ha, encA, str_1, str_7, List.length_map, gT_eq, hp, decide_true, decide_false, Nat.add_assoc, h3, dn_set, dn_set1, row_at hw hlt, sn_at hw hlt, hc1, hc2, row_set, row_set1, ret_W]
    refine ⟨by decide, by decide, by omega, ?_⟩
    simp only [doneM, h, ha]
  | @take i k r c x h ha =>
    have hr := hn.rs r (mem_of_at h)
    have hp : ixN w.st.length (r.p : Int) = some r.p := ixN_nat (by rw [hw.st]; exact hr.p)
    have hact := hr.a
    rw [ha] at hact
    obtain ⟨kc, hk, _⟩ := hact.ch
    have hlt := ch_lt hk
    have hc1 : ixN w.pr.length (c : Int) = some c := ixN_nat (by rw [hw.pr]; exact hlt)
    have hz := row_sz c hw
    simp only [ev, List.getElem?_cons_zero, List.getElem?_cons_succ, List.set_cons_zero, List.set_cons_succ, List.map_cons, List.map_nil, List.length_cons, List.length_nil, List.replicate_succ, List.replicate_zero, List.cons_append, List.nil_append, Nat.reduceAdd, Nat.reduceSub, Nat.zero_add, Nat.sub_zero, Option.bind_some, true_and, and_true, outF, if_true, if_false, Bool.false_eq_true, Bool.not_true, Bool.not_false, List.append_assoc, List.length_append, Option.isSome_some, wipeE, isNon, decide_true, decide_false, encW, encN, encD, ru_at h, encR, ha, encA, str_2, str_4, str_6, str_8, List.length_map, gT_eq, hp, decide_true, decide_false, Nat.add_assoc, h3, dn_set, dn_set1, row_at hw hlt, hc1, row_set, row_set1, ret_W]
    refine wpA_pure (fun q => !decide (q.1 = k)) encQ (w.row c) (fun q hq => ⟨_, rfl, ?_, fun _ => ?_⟩) ?_
    · simp only [ev, List.getElem?_cons_zero, List.getElem?_cons_succ, List.set_cons_zero, List.set_cons_succ, List.map_cons, List.map_nil, List.length_cons, List.length_nil, List.replicate_succ, List.replicate_zero, List.cons_append, List.nil_append, Nat.reduceAdd, Nat.reduceSub, Nat.zero_add, Nat.sub_zero, Option.bind_some, true_and, and_true, outF, if_true, if_false, Bool.false_eq_true, Bool.not_true, Bool.not_false, List.append_assoc, List.length_append, Option.isSome_some, wipeE, isNon, decide_true, decide_false, encQ, Int.natCast_inj]
    · simp only [ev, List.getElem?_cons_zero, List.getElem?_cons_succ, List.set_cons_zero, List.set_cons_succ, List.map_cons, List.map_nil, List.length_cons, List.length_nil, List.replicate_succ, List.replicate_zero, List.cons_append, List.nil_append, Nat.reduceAdd, Nat.reduceSub, Nat.zero_add, Nat.sub_zero, Option.bind_some, true_and, and_true, outF, if_true, if_false, Bool.false_eq_true, Bool.not_true, Bool.not_false, List.append_assoc, List.length_append, Option.isSome_some, wipeE, isNon, decide_true, decide_false]
    · simp only [ev, List.getElem?_cons_zero, List.getElem?_cons_succ, List.set_cons_zero, List.set_cons_succ, List.map_cons, List.map_nil, List.length_cons, List.length_nil, List.replicate_succ, List.replicate_zero, List.cons_append, List.nil_append, Nat.reduceAdd, Nat.reduceSub, Nat.zero_add, Nat.sub_zero, Option.bind_some, true_and, and_true, outF, if_true, if_false, Bool.false_eq_true, Bool.not_true, Bool.not_false, List.append_assoc, List.length_append, Option.isSome_some, wipeE, isNon, decide_true, decide_false, Nat.add_assoc, List.length_map, hc1, row_set, h3, ret_W]
      have h2 := List.length_filter_le (fun q : Nat × Nat => !decide (q.1 = k)) (w.row c)
      refine ⟨by omega, ?_⟩
      simp only [doneM, h, ha, cutK]
  | @lose c k h =>
    have hc1 : ixN w.pr.length (c : Int) = some c := ixN_nat (by rw [hw.pr]; exact h)
    have hz := row_sz c hw
    simp only [ev, List.getElem?_cons_zero, List.getElem?_cons_succ, List.set_cons_zero, List.set_cons_succ, List.map_cons, List.map_nil, List.length_cons, List.length_nil, List.replicate_succ, List.replicate_zero, List.cons_append, List.nil_append, Nat.reduceAdd, Nat.reduceSub, Nat.zero_add, Nat.sub_zero, Option.bind_some, true_and, and_true, outF, if_true, if_false, Bool.false_eq_true, Bool.not_true, Bool.not_false, List.append_assoc, List.length_append, Option.isSome_some, wipeE, isNon, decide_true, decide_false, encW, encN, encD, str_3, List.length_map, gT_eq, decide_true, decide_false, Nat.add_assoc, h3, dn_set, dn_set1, row_at hw h, hc1, row_set, row_set1, ret_W]
    refine wpA_pure (fun q => !decide (q.1 = k)) encQ (w.row c) (fun q hq => ⟨_, rfl, ?_, fun _ => ?_⟩) ?_
    · simp only [ev, List.getElem?_cons_zero, List.getElem?_cons_succ, List.set_cons_zero, List.set_cons_succ, List.map_cons, List.map_nil, List.length_cons, List.length_nil, List.replicate_succ, List.replicate_zero, List.cons_append, List.nil_append, Nat.reduceAdd, Nat.reduceSub, Nat.zero_add, Nat.sub_zero, Option.bind_some, true_and, and_true, outF, if_true, if_false, Bool.false_eq_true, Bool.not_true, Bool.not_false, List.append_assoc, List.length_append, Option.isSome_some, wipeE, isNon, decide_true, decide_false, encQ, Int.natCast_inj]
    · simp only [ev, List.getElem?_cons_zero, List.getElem?_cons_succ, List.set_cons_zero, List.set_cons_succ, List.map_cons, List.map_nil, List.length_cons, List.length_nil, List.replicate_succ, List.replicate_zero, List.cons_append, List.nil_append, Nat.reduceAdd, Nat.reduceSub, Nat.zero_add, Nat.sub_zero, Option.bind_some, true_and, and_true, outF, if_true, if_false, Bool.false_eq_true, Bool.not_true, Bool.not_false, List.append_assoc, List.length_append, Option.isSome_some, wipeE, isNon, decide_true, decide_false]
    · simp only [ev, List.getElem?_cons_zero, List.getElem?_cons_succ, List.set_cons_zero, List.set_cons_succ, List.map_cons, List.map_nil, List.length_cons, List.length_nil, List.replicate_succ, List.replicate_zero, List.cons_append, List.nil_append, Nat.reduceAdd, Nat.reduceSub, Nat.zero_add, Nat.sub_zero, Option.bind_some, true_and, and_true, outF, if_true, if_false, Bool.false_eq_true, Bool.not_true, Bool.not_false, List.append_assoc, List.length_append, Option.isSome_some, wipeE, isNon, decide_true, decide_false, Nat.add_assoc, List.length_map, hc1, row_set, h3, ret_W]
      have h2 := List.length_filter_le (fun q : Nat × Nat => !decide (q.1 = k)) (w.row c)
      refine ⟨by omega, ?_⟩
      simp only [doneM, cutK]
end K40

end

section
set_option Elab.async false
set_option linter.all false
set_option maxRecDepth 100000
/-! K40P7: worlds compared; losses -/
namespace K40
open PySem PySem.Spec L2 DV
theorem toPy_map {α : Type} {f : α → D} {g : α → PyData} (h : ∀ a, toPy0 (f a) = some (g a)) : ∀ l : List α, toPy0s (l.map f) = some (l.map g)
  | [] => rfl
  | a :: l => by simp only [List.map_cons, toPy0s, h a, toPy_map h l]
theorem eqv_map {α : Type} [DecidableEq α] {g : α → PyData} (h : ∀ a b, PyData.eqv (g a) (g b) = decide (a = b)) : ∀ l k : List α, PyData.eqvAll (l.map g) (k.map g) = decide (l = k)
  | [], [] => by simp [PyData.eqvAll]
  | [], _ :: _ => by simp [PyData.eqvAll]
  | _ :: _, [] => by simp [PyData.eqvAll]
  | a :: l, b :: k => by
    simp only [List.map_cons, PyData.eqvAll, h a b, eqv_map h l k]
    by_cases h1 : a = b <;> by_cases h2 : l = k <;> simp [h1, h2]
theorem lay_map {α : Type} {g : α → PyData} (h : ∀ a, PyData.canLay0 (g a) = true) : ∀ l : List α, PyData.canLayAll0 (l.map g) = true
  | [] => by simp only [List.map_nil, PyData.canLayAll0]
  | a :: l => by simp only [List.map_cons, PyData.canLayAll0, h a, lay_map h l, Bool.and_self]
theorem depth_map {α : Type} {g : α → PyData} {m : Nat} (h : ∀ a, PyData.depth (g a) ≤ m) : ∀ l : List α, PyData.depthAll (l.map g) ≤ m
  | [] => by simp [PyData.depthAll]
  | a :: l => by
    have := h a
    have := depth_map h l
    simp only [List.map_cons, PyData.depthAll]; omega
def pn (n : Nat) : PyData := .int (n : Int)
def pyQ (q : Nat × Nat) : PyData := .tuple [.int (q.1 : Nat), .int (q.2 : Nat)]
def pyRow (r : List (Nat × Nat)) : PyData := .tuple (r.map pyQ)
def pyW (w : Wo) : PyData := .tuple [.tuple (w.st.map pn), .tuple (w.sn.map pn), .tuple (w.pr.map pyRow)]
theorem toPy_Q (q : Nat × Nat) : toPy0 (encQ q) = some (pyQ q) := rfl
theorem toPy_Row (r : List (Nat × Nat)) : toPy0 (encRow r) = some (pyRow r) := by
  unfold encRow pyRow
  simp only [toPy0, toPy_map toPy_Q]
theorem toPy_W (w : Wo) : toPy0 (encW w) = some (pyW w) := by
  unfold encW pyW
  have h : ∀ a, toPy0 (dn a) = some (pn a) := fun _ => rfl
  simp only [toPy0, toPy0s, toPy_map h, toPy_map toPy_Row]
theorem eqv_n (a b : Nat) : PyData.eqv (pn a) (pn b) = decide (a = b) := by
  unfold pn
  simp only [PyData.eqv]
  by_cases h : a = b
  · simp [h]
  · simp [h]; omega
theorem eqv_Q (a b : Nat × Nat) : PyData.eqv (pyQ a) (pyQ b) = decide (a = b) := by
  unfold pyQ
  have h1 := eqv_n a.1 b.1
  have h2 := eqv_n a.2 b.2
  unfold pn at h1 h2
  simp only [PyData.eqv, PyData.eqvAll] at h1 h2 ⊢
  rw [h1, h2]
  obtain ⟨a1, a2⟩ := a
  obtain ⟨b1, b2⟩ := b
  by_cases h1 : a1 = b1 <;> by_cases h2 : a2 = b2 <;> simp [h1, h2]
theorem eqv_Row (a b : List (Nat × Nat)) : PyData.eqv (pyRow a) (pyRow b) = decide (a = b) := by
  unfold pyRow
  simp only [PyData.eqv]
  exact eqv_map eqv_Q a b
theorem eqv_W (a b : Wo) : PyData.eqv (pyW a) (pyW b) = decide (a = b) := by
  unfold pyW
  simp only [PyData.eqv, PyData.eqvAll, eqv_map eqv_n, eqv_map eqv_Row]
  obtain ⟨a1, a2, a3⟩ := a
  obtain ⟨b1, b2, b3⟩ := b
  by_cases h1 : a1 = b1 <;> by_cases h2 : a2 = b2 <;> by_cases h3 : a3 = b3 <;> simp [h1, h2, h3]
theorem lay_Q (q : Nat × Nat) : PyData.canLay0 (pyQ q) = true := by simp [pyQ, PyData.canLay0, PyData.canLayAll0]
theorem lay_Row (r : List (Nat × Nat)) : PyData.canLay0 (pyRow r) = true := by
  unfold pyRow; simp only [PyData.canLay0]; exact lay_map lay_Q r
theorem lay_W (w : Wo) : PyData.canLay0 (pyW w) = true := by
  have h : ∀ a, PyData.canLay0 (pn a) = true := fun a => by simp [pn, PyData.canLay0]
  unfold pyW
  simp only [PyData.canLay0, PyData.canLayAll0, lay_map h, lay_map lay_Row, Bool.and_self]
theorem dep_Row (r : List (Nat × Nat)) : PyData.depth (pyRow r) ≤ 2 := by
  have := depth_map (g := pyQ) (m := 1) (fun q => by simp [pyQ, PyData.depth, PyData.depthAll]) r
  unfold pyRow; simp only [PyData.depth]; omega
theorem dep_W (w : Wo) : PyData.depth (pyW w) ≤ 4 := by
  have h1 := depth_map (g := pn) (m := 0) (fun q => by simp [pn, PyData.depth]) w.st
  have h2 := depth_map (g := pn) (m := 0) (fun q => by simp [pn, PyData.depth]) w.sn
  have h3 := depth_map (g := pyRow) (m := 2) dep_Row w.pr
  unfold pyW
  simp only [PyData.depth, PyData.depthAll]; omega
theorem in_worlds {M : Sto} {r : Nat} {ws : List Wo} {w : Wo} (h : asR r M = some (ws.map encW)) : dNotIn (encW w) (.ref r) M = some (.bl (!decide (w ∈ ws))) := by
  have e1 : asT (.ref r) = none := rfl
  have e2 : asLk (.ref r) M = some (ws.map encW) := by
    have : asLk (.ref r) M = asR r M := rfl
    rw [this, h]
  have e3 : inD (encW w) (.ref r) M = some (decide (w ∈ ws)) := by
    have h1 : SeqAt.shaped (pyW w) = true := by
      unfold SeqAt.shaped
      rw [lay_W, decide_eq_true (by have := dep_W w; omega)]; rfl
    have h2 : SeqAt.shaped (.list (ws.map pyW)) = true := by
      have hd := depth_map (g := pyW) (m := 4) dep_W ws
      unfold SeqAt.shaped
      rw [decide_eq_true (by simp only [PyData.depth]; omega)]
      simp only [PyData.canLay0, lay_map lay_W, Bool.and_self]
    have e : inD (encW w) (.ref r) M = (match asLk (.ref r) M with
      | some l => (match toPy0 (encW w), toPy0s l with
          | some p, some qs => if SeqAt.shaped p && SeqAt.shaped (.list qs) then some (qs.any fun z => PyData.eqv z p) else none
          | _, _ => none)
      | none => none) := by
      unfold inD
      rfl
    rw [e, e2]
    simp only [toPy_W, toPy_map toPy_W, h1, h2, Bool.and_self, if_true, List.any_map]
    congr 1
    have : ((fun z => PyData.eqv z (pyW w)) ∘ pyW) = fun z => decide (z = w) := by
      funext z; exact eqv_W z w
    rw [this]
    by_cases hm : w ∈ ws
    · rw [decide_eq_true hm, List.any_eq_true]
      exact ⟨w, hm, by simp⟩
    · rw [decide_eq_false hm, List.any_eq_false]
      intro z hz
      simp only [decide_eq_true_eq]
      intro e; exact hm (e ▸ hz)
  unfold dNotIn
  rw [e3]; rfl
end K40

end

section
set_option Elab.async false
set_option linter.all false
set_option maxRecDepth 100000
/-! K40P8: a world still or not, by its losses -/
namespace K40
open PySem PySem.Spec L2 DV
theorem wpS_while {t : TM} {b : SM} {K : Fl → Sto → Prop} (I : Nat → DV.Env → Sto → Prop) : ∀ (n : Nat) (e : DV.Env) (M : Sto), I n e M → (∀ e M, ¬ I 0 e M) →
    (∀ m e M, I (m + 1) e M → wpT t e M fun v M1 => if v = true then wpS b e M1 (loopK K (I m)) else K (.nx e) M1) → wpS (whL t b n) e M K
  | 0, e, M, h, h0, _ => absurd h (h0 e M)
  | n + 1, e, M, h, h0, hs => by
    obtain ⟨⟨v, M1⟩, h1, h2⟩ := hs n e M h
    unfold wpS whL
    simp only [h1]
    cases v with
    | false =>
      simp only [Bool.false_eq_true, if_false] at h2
      exact wpO_some.mpr h2
    | true =>
      simp only [if_true] at h2
      obtain ⟨⟨fl, M2⟩, h3, h4⟩ := h2
      simp only [h3]
      cases fl with
      | nx e2 => exact wpS_while I n e2 M2 h4 h0 hs
      | ct e2 => exact wpS_while I n e2 M2 h4 h0 hs
      | bk e2 => exact wpO_some.mpr h4
      | rt v => exact wpO_some.mpr h4
/-! losses alone -/
structure Less (n : Net) (w w' : Wo) : Prop where
  st : w'.st = w.st
  sn : w'.sn = w.sn
  len : w'.pr.length = w.pr.length
  sub : ∀ c, (w'.row c).Sublist (w.row c)
  keep : ∀ c, (n.kd c).isL = false → w'.row c = w.row c
theorem Less.refl (n : Net) (w : Wo) : Less n w w := ⟨rfl, rfl, rfl, fun _ => List.Sublist.refl _, fun _ _ => rfl⟩
theorem Less.trans {n : Net} {a b c : Wo} (h : Less n a b) (k : Less n b c) : Less n a c :=
  ⟨k.st.trans h.st, k.sn.trans h.sn, k.len.trans h.len, fun x => (k.sub x).trans (h.sub x), fun x hx => (k.keep x hx).trans (h.keep x hx)⟩
theorem row_of_set {st sn : List Nat} {pr : List (List (Nat × Nat))} {c d : Nat} {x : List (Nat × Nat)} : Wo.row ⟨st, sn, pr.set c x⟩ d = if c = d ∧ c < pr.length then x else pr.getD d [] := by
  unfold Wo.row
  simp only [List.getD_eq_getElem?_getD, List.getElem?_set]
  by_cases h : c = d
  · subst h
    by_cases h2 : c < pr.length
    · simp [h2]
    · simp [h2]
  · simp [h]
theorem less_lose {n : Net} {w : Wo} {c k : Nat} (h : (n.kd c).isL = true) : Less n w (doneM n w (.lose c k)) := by
  refine ⟨rfl, rfl, by simp [doneM], fun d => ?_, fun d hd => ?_⟩
  · show (Wo.row ⟨w.st, w.sn, w.pr.set c (cutK k (w.row c))⟩ d).Sublist (w.row d)
    rw [row_of_set]
    split
    · rename_i z
      rw [z.1]; exact List.filter_sublist
    · exact List.Sublist.refl _
  · show Wo.row ⟨w.st, w.sn, w.pr.set c (cutK k (w.row c))⟩ d = w.row d
    rw [row_of_set, if_neg]
    · rfl
    · rintro ⟨rfl, _⟩
      rw [h] at hd; cases hd
theorem Less.ok {n : Net} {w w' : Wo} (hw : WoOk n w) (l : Less n w w') : WoOk n w' := by
  refine ⟨by rw [l.st]; exact hw.st, by rw [l.sn]; exact hw.sn, by rw [l.len]; exact hw.pr, fun r hr => ?_, fun c => ?_⟩
  · obtain ⟨c, hc⟩ := List.getElem?_of_mem hr
    have e : w'.row c = r := by unfold Wo.row; rw [List.getD_eq_getElem?_getD, hc]; rfl
    have h1 := (l.sub c).length_le
    have h2 := row_sz c hw
    rw [e] at h1; omega
  · exact ((l.sub c).map _).nodup (hw.nd c)
theorem kd_get {n : Net} {c : Nat} {k : Ch} (h : n.cs[c]? = some k) : n.kd c = k.k := kd_at h
theorem mem_poss {n : Net} {w : Wo} {d : De} : d ∈ possM n w ↔ (∃ i, i < n.rs.length ∧ d ∈ ruD n w i) ∨ ∃ c, c < n.cs.length ∧ d ∈ loD n w c := by
  unfold possM
  simp only [List.mem_append, List.mem_flatMap, List.mem_range]
theorem poss_ok_de {n : Net} {w : Wo} {d : De} (h : d ∈ possM n w) : DeOk n d := by
  rcases mem_poss.mp h with ⟨i, hi, hd⟩ | ⟨c, hc, hd⟩
  · unfold ruD at hd
    cases hr : n.rs[i]? with
    | none => rw [hr] at hd; cases hd
    | some r =>
      rw [hr] at hd
      simp only at hd
      split at hd
      · cases ha : r.a with
        | idle => rw [ha] at hd; simp only [List.mem_singleton] at hd; subst hd; exact .idle hr ha
        | send c x => rw [ha] at hd; simp only [List.mem_singleton] at hd; subst hd; exact .send hr ha
        | take c x =>
          rw [ha] at hd
          simp only [List.mem_map] at hd
          obtain ⟨q, _, rfl⟩ := hd
          exact .take hr ha
      · cases hd
  · unfold loD at hd
    split at hd
    · simp only [List.mem_map] at hd
      obtain ⟨q, _, rfl⟩ := hd
      exact .lose hc
    · cases hd
def De.isLose : De → Bool
  | .lose _ _ => true
  | _ => false
theorem lose_kd {n : Net} {w : Wo} {c k : Nat} (h : De.lose c k ∈ possM n w) : (n.kd c).isL = true := by
  rcases mem_poss.mp h with ⟨i, hi, hd⟩ | ⟨c', hc, hd⟩
  · unfold ruD at hd
    cases hr : n.rs[i]? with
    | none => rw [hr] at hd; cases hd
    | some r =>
      rw [hr] at hd
      simp only at hd
      split at hd
      · cases ha : r.a <;> rw [ha] at hd <;> simp at hd
      · cases hd
  · unfold loD at hd
    split at hd
    · rename_i hl
      simp only [List.mem_map] at hd
      obtain ⟨q, _, e⟩ := hd
      cases e
      exact hl
    · cases hd
theorem seen_sub {n : Net} {w : Wo} {c : Nat} : (seen n w c).Sublist (w.row c) := by
  unfold seen; split
  · exact List.take_sublist 1 _
  · exact List.Sublist.refl _
/-- what a row lets be taken, is seen -/
theorem firsts_seen {n : Net} {w w' : Wo} {c : Nat} {q : Nat × Nat} (l : Less n w w') (h : q ∈ firsts n w' c) : q ∈ seen n w c := by
  unfold firsts at h
  unfold seen
  have hk := l.keep c
  have hs := (l.sub c).subset
  cases e : n.kd c with
  | ord =>
    rw [e] at h hk
    rw [if_pos rfl]
    simp only [Kd.isO, if_true] at h
    rw [hk rfl] at h
    exact h
  | loo => rw [e] at h; simp only [Kd.isO, Bool.false_eq_true, if_false] at h; rw [if_neg (by simp)]; exact hs h
  | ordL => rw [e] at h; simp only [Kd.isO, if_true] at h; rw [if_neg (by simp)]; exact hs (List.mem_of_mem_take h)
  | looL => rw [e] at h; simp only [Kd.isO, Bool.false_eq_true, if_false] at h; rw [if_neg (by simp)]; exact hs h
/-- a deed but a loss, behind losses: not still -/
theorem not_still {n : Net} {w w' : Wo} {d : De} (l : Less n w w') (h : d ∈ possM n w') (hd : d.isLose = false) : stillB n w = false := by
  rcases mem_poss.mp h with ⟨i, hi, hm⟩ | ⟨c, hc, hm⟩
  · unfold ruD at hm
    cases hr : n.rs[i]? with
    | none => rw [hr] at hm; cases hm
    | some r =>
      rw [hr] at hm
      simp only at hm
      have key : enab n w r = true := by
        unfold enab
        split at hm
        · rename_i hp
          have hp2 : w.at_ r.p = r.s := by unfold Wo.at_ at hp ⊢; rw [← l.st]; exact hp
          rw [decide_eq_true hp2, Bool.true_and]
          cases ha : r.a with
          | idle => rfl
          | send c x => rfl
          | take c x =>
            rw [ha] at hm
            simp only [List.mem_map, List.mem_filter, decide_eq_true_eq] at hm
            obtain ⟨q, ⟨hq1, hq2⟩, _⟩ := hm
            exact List.any_eq_true.mpr ⟨q, firsts_seen l hq1, by simpa using hq2⟩
        · cases hm
      unfold stillB
      rw [List.all_eq_false]
      exact ⟨r, mem_of_at hr, by rw [key]; simp⟩
  · unfold loD at hm
    split at hm
    · simp only [List.mem_map] at hm
      obtain ⟨q, _, rfl⟩ := hm
      cases hd
    · cases hm
/-- worlds that losses alone lead through, all of them: still -/
theorem is_still {n : Net} {w : Wo} {ws : List Wo} (hn : NetOk n) (hw : WoOk n w) (h0 : w ∈ ws) (hl : ∀ w' ∈ ws, Less n w w') (hc : ∀ w' ∈ ws, ∀ d ∈ possM n w', d.isLose = true ∧ doneM n w' d ∈ ws) : stillB n w = true := by
  unfold stillB
  rw [List.all_eq_true]
  intro r hr
  obtain ⟨i, hi⟩ := List.getElem?_of_mem hr
  have hil : i < n.rs.length := by
    rcases Nat.lt_or_ge i n.rs.length with z | z
    · exact z
    · rw [List.getElem?_eq_none z] at hi; cases hi
  cases he : enab n w r with
  | false => rfl
  | true =>
    exfalso
    unfold enab at he
    rw [Bool.and_eq_true, decide_eq_true_eq] at he
    obtain ⟨hp, hx⟩ := he
    cases ha : r.a with
    | idle =>
      have : De.act i ∈ possM n w := mem_poss.mpr (.inl ⟨i, hil, by unfold ruD; rw [hi]; simp only [hp, if_true, ha]; simp⟩)
      have := (hc w h0 _ this).1
      cases this
    | send c x =>
      have : De.act i ∈ possM n w := mem_poss.mpr (.inl ⟨i, hil, by unfold ruD; rw [hi]; simp only [hp, if_true, ha]; simp⟩)
      have := (hc w h0 _ this).1
      cases this
    | take c x =>
      rw [ha] at hx
      obtain ⟨q, hq1, hq2⟩ := List.any_eq_true.mp hx
      have hq2 : q.2 = x := by simpa using hq2
      have hact := (hn.rs r hr).a
      rw [ha] at hact
      obtain ⟨kc, hkc, _⟩ := hact.ch
      have hcl := ch_lt hkc
      -- a take that can be
      have tk : ∀ w' ∈ ws, q ∈ firsts n w' c → False := by
        intro w' hw' hq
        have hp' : w'.at_ r.p = r.s := by unfold Wo.at_ at hp ⊢; rw [(hl w' hw').st]; exact hp
        have : De.take i q.1 ∈ possM n w' := mem_poss.mpr (.inl ⟨i, hil, by
          unfold ruD; rw [hi]; simp only [hp', if_true, ha]
          exact List.mem_map.mpr ⟨q, List.mem_filter.mpr ⟨hq, by simpa using hq2⟩, rfl⟩⟩)
        have := (hc w' hw' _ this).1
        cases this
      by_cases hL : n.kd c = .ordL
      · have key : ∀ m, ∀ w' ∈ ws, (w'.row c).length ≤ m → q ∈ w'.row c → False := by
          intro m
          induction m with
          | zero =>
            intro w' _ hm hq
            rw [List.length_eq_zero_iff.mp (Nat.le_zero.mp hm)] at hq; cases hq
          | succ m ih =>
            intro w' hw' hm hq
            have okw := (hl w' hw').ok hw
            cases hrow : w'.row c with
            | nil => rw [hrow] at hq; cases hq
            | cons q0 rest =>
              have hf : firsts n w' c = [q0] := by unfold firsts; rw [hL, hrow]; rfl
              rw [hrow] at hq
              rcases List.mem_cons.mp hq with rfl | hq
              · exact tk w' hw' (by rw [hf]; exact List.mem_singleton.mpr rfl)
              · have hlose : De.lose c q0.1 ∈ possM n w' := mem_poss.mpr (.inr ⟨c, hcl, by unfold loD; rw [hL, hf]; simp [Kd.isL]⟩)
                have hin := (hc w' hw' _ hlose).2
                have hlt : c < w'.pr.length := by rw [okw.pr]; exact hcl
                have hrow2 : (doneM n w' (.lose c q0.1)).row c = cutK q0.1 (q0 :: rest) := by
                  show Wo.row ⟨w'.st, w'.sn, w'.pr.set c (cutK q0.1 (w'.row c))⟩ c = _
                  rw [row_of_set, if_pos ⟨rfl, hlt⟩, hrow]
                have hnd := okw.nd c
                rw [hrow, List.map_cons, List.nodup_cons] at hnd
                have hcut : cutK q0.1 (q0 :: rest) = cutK q0.1 rest := by unfold cutK; rw [List.filter_cons_of_neg (by simp)]
                refine ih _ hin ?_ ?_
                · rw [hrow2, hcut]
                  have := List.length_filter_le (fun q : Nat × Nat => !decide (q.1 = q0.1)) rest
                  rw [hrow, List.length_cons] at hm
                  show (rest.filter _).length ≤ m
                  omega
                · rw [hrow2, hcut]
                  refine List.mem_filter.mpr ⟨hq, ?_⟩
                  simp only [Bool.not_eq_true', decide_eq_false_iff_not]
                  intro e
                  exact hnd.1 (e ▸ List.mem_map_of_mem hq)
        exact key _ w h0 (Nat.le_refl _) (seen_sub.subset hq1)
      · refine tk w h0 ?_
        unfold seen at hq1
        unfold firsts
        cases e : n.kd c with
        | ord => rw [e, if_pos rfl] at hq1; exact hq1
        | loo => rw [e, if_neg (by simp)] at hq1; exact hq1
        | ordL => exact absurd e hL
        | looL => rw [e, if_neg (by simp)] at hq1; exact hq1
end K40

end

section
set_option Elab.async false
set_option linter.all false
set_option maxRecDepth 100000
/-! K40P9: by_losses -/
namespace K40
open PySem PySem.Spec L2 DV
theorem poss_sz {n : Net} {w : Wo} (hn : NetOk n) (hw : WoOk n w) : (possM n w).length ≤ 48000 := by
  unfold possM
  rw [List.length_append]
  have := flat_sz (ruD_sz hw) n.rs.length
  have := flat_sz (loD_sz hw) n.cs.length
  have := hn.nr
  have := hn.nc
  omega
theorem poss_rule {n : Net} {w : Wo} {M : Sto} {Q : D → Sto → Prop} (hn : NetOk n) (hw : WoOk n w) (h : Q (.lst ((possM n w).map encD)) M) : wpF F_law_possible [encN n, encW w] M Q :=
  (poss_ok hn hw).imp fun v M1 ⟨a, b⟩ => by rw [a, b]; exact h
theorem done_rule {n : Net} {w : Wo} {M : Sto} {d : De} {Q : D → Sto → Prop} (hn : NetOk n) (hw : WoOk n w) (hd : DeOk n d) (h : Q (encW (doneM n w d)) M) : wpF F_law_done [encN n, encW w, encD d] M Q :=
  (done_ok hn hw hd).imp fun v M1 ⟨a, b⟩ => by rw [a, b]; exact h
theorem by_losses_ok {n : Net} {w : Wo} {M : Sto} (hn : NetOk n) (hw : WoOk n w) :
    wpF F_law_by_losses [encN n, encW w] M fun v M' => (v = .non ∨ v = .bl (stillB n w)) ∧ M' = M := by
  unfold F_law_by_losses B_law_by_losses
  have hS : sizeLine = 16777216 := rfl
  simp only [ev, List.getElem?_cons_zero, List.getElem?_cons_succ, List.set_cons_zero, List.set_cons_succ, List.map_cons, List.map_nil, List.length_cons, List.length_nil, List.replicate_succ, List.replicate_zero, List.cons_append, List.nil_append, Nat.reduceAdd, Nat.reduceSub, Nat.zero_add, Nat.sub_zero, Option.bind_some, true_and, and_true, outF, if_true, if_false, Bool.false_eq_true, Bool.not_true, Bool.not_false, List.append_assoc, List.length_append, Option.isSome_some, wipeE, isNon, decide_true, decide_false]
  refine ⟨by decide, ?_⟩
  refine wpS_while (fun m e M' => ∃ (ws : List Wo) (at_ : Nat) (e4 e5 : Option D), m + at_ = 100 ∧ at_ ≤ ws.length ∧ ws.length ≤ 20 ∧ w ∈ ws ∧ (∀ w' ∈ ws, Less n w w') ∧
    (∀ j, j < at_ → ∀ w', ws[j]? = some w' → ∀ d ∈ possM n w', d.isLose = true ∧ doneM n w' d ∈ ws) ∧ M' = M ++ [.lst (ws.map encW)] ∧ e = [some (encN n), some (encW w), some (.ref M.length), some (.int (at_ : Nat)), e4, e5]) 100 _ _ ?_ ?_ ?_
  · exact ⟨[w], 0, _, _, rfl, by simp, by simp, by simp, by simpa using Less.refl n w, by intro j h; omega, rfl, rfl⟩
  · rintro e M' ⟨ws, at_, e4, e5, h1, h2, h3, _⟩
    omega
  · rintro m e M' ⟨ws, at_, e4, e5, h1, h2, h3, h4, h5, h6, rfl, rfl⟩
    simp only [ev, List.getElem?_cons_zero, List.getElem?_cons_succ, List.set_cons_zero, List.set_cons_succ, List.map_cons, List.map_nil, List.length_cons, List.length_nil, List.replicate_succ, List.replicate_zero, List.cons_append, List.nil_append, Nat.reduceAdd, Nat.reduceSub, Nat.zero_add, Nat.sub_zero, Option.bind_some, true_and, and_true, outF, if_true, if_false, Bool.false_eq_true, Bool.not_true, Bool.not_false, List.append_assoc, List.length_append, Option.isSome_some, wipeE, isNon, decide_true, decide_false, List.length_map, Int.ofNat_lt, decide_eq_true_eq]
    by_cases hlt : at_ < ws.length
    · rw [if_pos hlt]
      have hat : ws[at_]? = some ws[at_] := List.getElem?_eq_getElem hlt
      have hl1 := h5 ws[at_] (List.getElem_mem hlt)
      generalize ws[at_] = w1 at hat hl1
      have hat2 : (ws.map encW)[at_]? = some (encW w1) := by rw [List.getElem?_map, hat]; rfl
      have ok1 := hl1.ok hw
      simp only [ev, List.getElem?_cons_zero, List.getElem?_cons_succ, List.set_cons_zero, List.set_cons_succ, List.map_cons, List.map_nil, List.length_cons, List.length_nil, List.replicate_succ, List.replicate_zero, List.cons_append, List.nil_append, Nat.reduceAdd, Nat.reduceSub, Nat.zero_add, Nat.sub_zero, Option.bind_some, true_and, and_true, outF, if_true, if_false, Bool.false_eq_true, Bool.not_true, Bool.not_false, List.append_assoc, List.length_append, Option.isSome_some, wipeE, isNon, decide_true, decide_false, hat2]
      refine poss_rule hn ok1 ?_
      simp only [ev, List.getElem?_cons_zero, List.getElem?_cons_succ, List.set_cons_zero, List.set_cons_succ, List.map_cons, List.map_nil, List.length_cons, List.length_nil, List.replicate_succ, List.replicate_zero, List.cons_append, List.nil_append, Nat.reduceAdd, Nat.reduceSub, Nat.zero_add, Nat.sub_zero, Option.bind_some, true_and, and_true, outF, if_true, if_false, Bool.false_eq_true, Bool.not_true, Bool.not_false, List.append_assoc, List.length_append, Option.isSome_some, wipeE, isNon, decide_true, decide_false]
      have hps := poss_sz hn ok1
      refine wpS_forL (enc := encD) (fun xs e M' => ∃ (ws' : List Wo) (e4 e5 : Option D), ws <+: ws' ∧ (∀ w' ∈ ws', Less n w w') ∧ (∀ d ∈ possM n w1, d ∈ xs ∨ (d.isLose = true ∧ doneM n w1 d ∈ ws')) ∧ (∀ d ∈ xs, d ∈ possM n w1) ∧
        ws'.length + xs.length ≤ 20 + (possM n w1).length ∧ M' = M ++ [.lst (ws'.map encW)] ∧ e = [some (encN n), some (encW w), some (.ref M.length), some (.int (at_ : Nat)), e4, e5]) _ _ _ ?_ ?_ ?_
      · exact ⟨ws, _, _, List.prefix_refl _, h5, fun d hd => .inl hd, fun d hd => hd, by omega, rfl, rfl⟩
      · rintro d xs e M' ⟨ws', e4, e5, g1, g2, g3, g4, g5, rfl, rfl⟩
        have hd := g4 d (List.mem_cons_self ..)
        have hdk := poss_ok_de hd
        have hat3 : (ws'.map encW)[at_]? = some (encW w1) := by
          obtain ⟨t, rfl⟩ := g1
          rw [List.map_append, List.getElem?_append_left (by rw [List.length_map]; exact hlt)]
          exact hat2
        refine ⟨_, rfl, ?_⟩
        cases hL : d.isLose with
        | false =>
          have hns := not_still hl1 hd hL
          have hk : ∀ M : Sto, ∃ x, dIdx (encD d) (.int 0) M = some (.str x) ∧ decide (x = ("lose" : Str)) = false := by
            intro M
            cases d with
            | act r => exact ⟨_, rfl, str_1⟩
            | take r k => exact ⟨_, rfl, str_2⟩
            | lose c k => cases hL
          obtain ⟨x, hx, hx2⟩ := hk (M ++ [.lst (ws'.map encW)])
          simp only [ev, List.getElem?_cons_zero, List.getElem?_cons_succ, List.set_cons_zero, List.set_cons_succ, List.map_cons, List.map_nil, List.length_cons, List.length_nil, List.replicate_succ, List.replicate_zero, List.cons_append, List.nil_append, Nat.reduceAdd, Nat.reduceSub, Nat.zero_add, Nat.sub_zero, Option.bind_some, true_and, and_true, outF, if_true, if_false, Bool.false_eq_true, Bool.not_true, Bool.not_false, List.append_assoc, List.length_append, Option.isSome_some, wipeE, isNon, decide_true, decide_false, hx, hx2]
          rw [retF_same rfl]
          simp only [ev, List.getElem?_cons_zero, List.getElem?_cons_succ, List.set_cons_zero, List.set_cons_succ, List.map_cons, List.map_nil, List.length_cons, List.length_nil, List.replicate_succ, List.replicate_zero, List.cons_append, List.nil_append, Nat.reduceAdd, Nat.reduceSub, Nat.zero_add, Nat.sub_zero, Option.bind_some, true_and, and_true, outF, if_true, if_false, Bool.false_eq_true, Bool.not_true, Bool.not_false, List.append_assoc, List.length_append, Option.isSome_some, wipeE, isNon, decide_true, decide_false]
          exact .inr (by rw [hns])
        | true =>
          have hk : ∀ M : Sto, dIdx (encD d) (.int 0) M = some (.str "lose") := by
            intro M
            cases d with
            | act r => cases hL
            | take r k => cases hL
            | lose c k => rfl
          simp only [ev, List.getElem?_cons_zero, List.getElem?_cons_succ, List.set_cons_zero, List.set_cons_succ, List.map_cons, List.map_nil, List.length_cons, List.length_nil, List.replicate_succ, List.replicate_zero, List.cons_append, List.nil_append, Nat.reduceAdd, Nat.reduceSub, Nat.zero_add, Nat.sub_zero, Option.bind_some, true_and, and_true, outF, if_true, if_false, Bool.false_eq_true, Bool.not_true, Bool.not_false, List.append_assoc, List.length_append, Option.isSome_some, wipeE, isNon, decide_true, decide_false, hk, hat3]
          refine done_rule hn ok1 hdk ?_
          simp only [ev, List.getElem?_cons_zero, List.getElem?_cons_succ, List.set_cons_zero, List.set_cons_succ, List.map_cons, List.map_nil, List.length_cons, List.length_nil, List.replicate_succ, List.replicate_zero, List.cons_append, List.nil_append, Nat.reduceAdd, Nat.reduceSub, Nat.zero_add, Nat.sub_zero, Option.bind_some, true_and, and_true, outF, if_true, if_false, Bool.false_eq_true, Bool.not_true, Bool.not_false, List.append_assoc, List.length_append, Option.isSome_some, wipeE, isNon, decide_true, decide_false]
          have hin : dNotIn (encW (doneM n w1 d)) (.ref M.length) (M ++ [.lst (ws'.map encW)]) = some (.bl (!decide (doneM n w1 d ∈ ws'))) := in_worlds (by rw [asR_app0]; rfl)
          simp only [ev, List.getElem?_cons_zero, List.getElem?_cons_succ, List.set_cons_zero, List.set_cons_succ, List.map_cons, List.map_nil, List.length_cons, List.length_nil, List.replicate_succ, List.replicate_zero, List.cons_append, List.nil_append, Nat.reduceAdd, Nat.reduceSub, Nat.zero_add, Nat.sub_zero, Option.bind_some, true_and, and_true, outF, if_true, if_false, Bool.false_eq_true, Bool.not_true, Bool.not_false, List.append_assoc, List.length_append, Option.isSome_some, wipeE, isNon, decide_true, decide_false, hin]
          have hlk : Less n w (doneM n w1 d) := by
            cases d with
            | act r => cases hL
            | take r k => cases hL
            | lose c k => exact hl1.trans (less_lose (lose_kd hd))
          by_cases hm : doneM n w1 d ∈ ws'
          · rw [decide_eq_true hm]
            simp only [ev, List.getElem?_cons_zero, List.getElem?_cons_succ, List.set_cons_zero, List.set_cons_succ, List.map_cons, List.map_nil, List.length_cons, List.length_nil, List.replicate_succ, List.replicate_zero, List.cons_append, List.nil_append, Nat.reduceAdd, Nat.reduceSub, Nat.zero_add, Nat.sub_zero, Option.bind_some, true_and, and_true, outF, if_true, if_false, Bool.false_eq_true, Bool.not_true, Bool.not_false, List.append_assoc, List.length_append, Option.isSome_some, wipeE, isNon, decide_true, decide_false]
            refine ⟨ws', _, _, g1, g2, fun d' hd' => ?_, fun d' hd' => g4 d' (List.mem_cons_of_mem _ hd'), by rw [List.length_cons] at g5; omega, rfl, rfl⟩
            rcases g3 d' hd' with z | z
            · rcases List.mem_cons.mp z with rfl | z
              · exact .inr ⟨hL, hm⟩
              · exact .inl z
            · exact .inr z
          · rw [decide_eq_false hm]
            simp only [ev, List.getElem?_cons_zero, List.getElem?_cons_succ, List.set_cons_zero, List.set_cons_succ, List.map_cons, List.map_nil, List.length_cons, List.length_nil, List.replicate_succ, List.replicate_zero, List.cons_append, List.nil_append, Nat.reduceAdd, Nat.reduceSub, Nat.zero_add, Nat.sub_zero, Option.bind_some, true_and, and_true, outF, if_true, if_false, Bool.false_eq_true, Bool.not_true, Bool.not_false, List.append_assoc, List.length_append, Option.isSome_some, wipeE, isNon, decide_true, decide_false, List.length_map]
            rw [List.length_cons] at g5
            refine ⟨by omega, ws' ++ [doneM n w1 d], _, _, g1.trans (List.prefix_append _ _), fun w' hw' => ?_, fun d' hd' => ?_, fun d' hd' => g4 d' (List.mem_cons_of_mem _ hd'), by simp; omega, by simp, rfl⟩
            · rcases List.mem_append.mp hw' with z | z
              · exact g2 w' z
              · rw [List.mem_singleton.mp z]; exact hlk
            · rcases g3 d' hd' with z | z
              · rcases List.mem_cons.mp z with rfl | z
                · exact .inr ⟨hL, by simp⟩
                · exact .inl z
              · exact .inr ⟨z.1, List.mem_append_left _ z.2⟩
      · rintro e M' ⟨ws', e4, e5, g1, g2, g3, g4, g5, rfl, rfl⟩
        simp only [ev, List.getElem?_cons_zero, List.getElem?_cons_succ, List.set_cons_zero, List.set_cons_succ, List.map_cons, List.map_nil, List.length_cons, List.length_nil, List.replicate_succ, List.replicate_zero, List.cons_append, List.nil_append, Nat.reduceAdd, Nat.reduceSub, Nat.zero_add, Nat.sub_zero, Option.bind_some, true_and, and_true, outF, if_true, if_false, Bool.false_eq_true, Bool.not_true, Bool.not_false, List.append_assoc, List.length_append, Option.isSome_some, wipeE, isNon, decide_true, decide_false, List.length_map, Int.ofNat_lt, decide_eq_true_eq]
        by_cases h20 : (20 : Int) < (ws'.length : Int)
        · rw [if_pos h20]
          rw [retF_same rfl]
          simp only [ev, List.getElem?_cons_zero, List.getElem?_cons_succ, List.set_cons_zero, List.set_cons_succ, List.map_cons, List.map_nil, List.length_cons, List.length_nil, List.replicate_succ, List.replicate_zero, List.cons_append, List.nil_append, Nat.reduceAdd, Nat.reduceSub, Nat.zero_add, Nat.sub_zero, Option.bind_some, true_and, and_true, outF, if_true, if_false, Bool.false_eq_true, Bool.not_true, Bool.not_false, List.append_assoc, List.length_append, Option.isSome_some, wipeE, isNon, decide_true, decide_false]
          exact .inl trivial
        · rw [if_neg h20]
          refine ⟨ws', at_ + 1, _, _, by omega, Nat.le_trans hlt g1.length_le, by omega, g1.subset h4, g2, ?_, rfl, rfl⟩
          intro j hj w' hw' d hd
          rcases Nat.lt_or_ge j at_ with z | z
          · have hj2 : ws[j]? = some w' := by
              obtain ⟨t, rfl⟩ := g1
              rw [List.getElem?_append_left (by omega)] at hw'
              exact hw'
            have := h6 j z w' hj2 d hd
            exact ⟨this.1, g1.subset this.2⟩
          · have : j = at_ := by omega
            subst this
            have e : w' = w1 := by
              obtain ⟨t, rfl⟩ := g1
              rw [List.getElem?_append_left (by omega), hat] at hw'
              exact (Option.some.inj hw').symm
            subst e
            rcases g3 d hd with z | z
            · cases z
            · exact z
    · rw [if_neg hlt]
      rw [retF_same rfl]
      simp only [ev, List.getElem?_cons_zero, List.getElem?_cons_succ, List.set_cons_zero, List.set_cons_succ, List.map_cons, List.map_nil, List.length_cons, List.length_nil, List.replicate_succ, List.replicate_zero, List.cons_append, List.nil_append, Nat.reduceAdd, Nat.reduceSub, Nat.zero_add, Nat.sub_zero, Option.bind_some, true_and, and_true, outF, if_true, if_false, Bool.false_eq_true, Bool.not_true, Bool.not_false, List.append_assoc, List.length_append, Option.isSome_some, wipeE, isNon, decide_true, decide_false]
      refine .inr ?_
      rw [is_still hn hw h4 h5]
      intro w' hw' d hd
      obtain ⟨j, hj⟩ := List.getElem?_of_mem hw'
      have hjl : j < ws.length := by
        rcases Nat.lt_or_ge j ws.length with z | z
        · exact z
        · rw [List.getElem?_eq_none z] at hj; cases hj
      exact h6 j (by omega) w' hj d hd
end K40

end

section
set_option Elab.async false
set_option linter.all false
set_option maxRecDepth 100000
/-! K40P10: same, listed, is_told, lost_on -/
namespace K40
open PySem PySem.Spec L2 DV
theorem kit_tt : kitB "tuple" "tuple" = some true := by decide +kernel
theorem kit_bt : kitB "bool" "tuple" = some false := by decide +kernel
theorem kit_it : kitB "int" "tuple" = some false := by decide +kernel
theorem kit_st : kitB "str" "tuple" = some false := by decide +kernel
theorem kit_lt : kitB "list" "tuple" = some false := by decide +kernel
theorem kit_bb : kitB "bool" "bool" = some true := by decide +kernel
theorem kit_ib : kitB "int" "bool" = some false := by decide +kernel
theorem kit_sb : kitB "str" "bool" = some false := by decide +kernel
theorem kit_ii : kitB "int" "int" = some true := by decide +kernel
theorem kit_si : kitB "str" "int" = some false := by decide +kernel
theorem kit_sl : kitB "str" "list" = some false := by decide +kernel
theorem kit_ss : kitB "str" "str" = some true := by decide +kernel
theorem ty_bl {b : Bool} {M : Sto} : tyN (.bl b) M = some "bool" := rfl
theorem ty_int {b : Int} {M : Sto} : tyN (.int b) M = some "int" := rfl
theorem ty_str {b : Str} {M : Sto} : tyN (.str b) M = some "str" := rfl
theorem ty_tup {b : List D} {M : Sto} : tyN (.tup b) M = some "tuple" := rfl
theorem ty_lst {b : List D} {M : Sto} : tyN (.lst b) M = some "list" := rfl
inductive SD : Nat → D → Prop
  | bl {k : Nat} (b : Bool) : SD k (.bl b)
  | int {k : Nat} (b : Int) : SD k (.int b)
  | str {k : Nat} (b : Str) : SD k (.str b)
  | tup {k : Nat} {l : List D} (hl : l.length ≤ 1000000) (h : ∀ d ∈ l, SD k d) : SD (k + 1) (.tup l)
theorem same_ok : ∀ (k : Nat) (d : D), SD k d → ∀ M : Sto, wpF (F_law_same (k + 1)) [d, d] M fun v M' => v = .bl true ∧ M' = M := by
  intro k
  induction k with
  | zero =>
    intro d hd M
    unfold F_law_same B_law_same
    cases hd with
    | bl b => simp only [ev, List.getElem?_cons_zero, List.getElem?_cons_succ, List.set_cons_zero, List.set_cons_succ, List.map_cons, List.map_nil, List.length_cons, List.length_nil, List.replicate_succ, List.replicate_zero, List.cons_append, List.nil_append, Nat.reduceAdd, Nat.reduceSub, Nat.zero_add, Nat.sub_zero, Option.bind_some, true_and, and_true, outF, if_true, if_false, Bool.false_eq_true, Bool.not_true, Bool.not_false, List.append_assoc, List.length_append, Option.isSome_some, wipeE, isNon, decide_true, decide_false, ty_bl, kit_bt, kit_bb, ret_bl, decide_true]
    | int b => simp only [ev, List.getElem?_cons_zero, List.getElem?_cons_succ, List.set_cons_zero, List.set_cons_succ, List.map_cons, List.map_nil, List.length_cons, List.length_nil, List.replicate_succ, List.replicate_zero, List.cons_append, List.nil_append, Nat.reduceAdd, Nat.reduceSub, Nat.zero_add, Nat.sub_zero, Option.bind_some, true_and, and_true, outF, if_true, if_false, Bool.false_eq_true, Bool.not_true, Bool.not_false, List.append_assoc, List.length_append, Option.isSome_some, wipeE, isNon, decide_true, decide_false, ty_int, kit_it, kit_ib, kit_ii, ret_bl, decide_true]
    | str b => simp only [ev, List.getElem?_cons_zero, List.getElem?_cons_succ, List.set_cons_zero, List.set_cons_succ, List.map_cons, List.map_nil, List.length_cons, List.length_nil, List.replicate_succ, List.replicate_zero, List.cons_append, List.nil_append, Nat.reduceAdd, Nat.reduceSub, Nat.zero_add, Nat.sub_zero, Option.bind_some, true_and, and_true, outF, if_true, if_false, Bool.false_eq_true, Bool.not_true, Bool.not_false, List.append_assoc, List.length_append, Option.isSome_some, wipeE, isNon, decide_true, decide_false, ty_str, kit_st, kit_sb, kit_si, kit_sl, kit_ss, ret_bl, decide_true]
  | succ k ih =>
    intro d hd M
    unfold F_law_same B_law_same
    cases hd with
    | bl b => simp only [ev, List.getElem?_cons_zero, List.getElem?_cons_succ, List.set_cons_zero, List.set_cons_succ, List.map_cons, List.map_nil, List.length_cons, List.length_nil, List.replicate_succ, List.replicate_zero, List.cons_append, List.nil_append, Nat.reduceAdd, Nat.reduceSub, Nat.zero_add, Nat.sub_zero, Option.bind_some, true_and, and_true, outF, if_true, if_false, Bool.false_eq_true, Bool.not_true, Bool.not_false, List.append_assoc, List.length_append, Option.isSome_some, wipeE, isNon, decide_true, decide_false, ty_bl, kit_bt, kit_bb, ret_bl, decide_true]
    | int b => simp only [ev, List.getElem?_cons_zero, List.getElem?_cons_succ, List.set_cons_zero, List.set_cons_succ, List.map_cons, List.map_nil, List.length_cons, List.length_nil, List.replicate_succ, List.replicate_zero, List.cons_append, List.nil_append, Nat.reduceAdd, Nat.reduceSub, Nat.zero_add, Nat.sub_zero, Option.bind_some, true_and, and_true, outF, if_true, if_false, Bool.false_eq_true, Bool.not_true, Bool.not_false, List.append_assoc, List.length_append, Option.isSome_some, wipeE, isNon, decide_true, decide_false, ty_int, kit_it, kit_ib, kit_ii, ret_bl, decide_true]
    | str b => simp only [ev, List.getElem?_cons_zero, List.getElem?_cons_succ, List.set_cons_zero, List.set_cons_succ, List.map_cons, List.map_nil, List.length_cons, List.length_nil, List.replicate_succ, List.replicate_zero, List.cons_append, List.nil_append, Nat.reduceAdd, Nat.reduceSub, Nat.zero_add, Nat.sub_zero, Option.bind_some, true_and, and_true, outF, if_true, if_false, Bool.false_eq_true, Bool.not_true, Bool.not_false, List.append_assoc, List.length_append, Option.isSome_some, wipeE, isNon, decide_true, decide_false, ty_str, kit_st, kit_sb, kit_si, kit_sl, kit_ss, ret_bl, decide_true]
    | @tup _ l hl h =>
      simp only [ev, List.getElem?_cons_zero, List.getElem?_cons_succ, List.set_cons_zero, List.set_cons_succ, List.map_cons, List.map_nil, List.length_cons, List.length_nil, List.replicate_succ, List.replicate_zero, List.cons_append, List.nil_append, Nat.reduceAdd, Nat.reduceSub, Nat.zero_add, Nat.sub_zero, Option.bind_some, true_and, and_true, outF, if_true, if_false, Bool.false_eq_true, Bool.not_true, Bool.not_false, List.append_assoc, List.length_append, Option.isSome_some, wipeE, isNon, decide_true, decide_false, ty_tup, kit_tt, ret_bl, decide_true]
      refine ⟨⟨by omega, by omega⟩, ?_⟩
      refine wpS_rng (fun i e M' => M' = M ∧ ∃ j, e = [some (.tup l), some (.tup l), j]) ⟨rfl, _, rfl⟩ ?_ ?_
      · rintro i e M' hi ⟨rfl, j, rfl⟩
        refine ⟨_, rfl, ?_⟩
        have hli : l[i]? = some l[i] := List.getElem?_eq_getElem hi
        simp only [ev, List.getElem?_cons_zero, List.getElem?_cons_succ, List.set_cons_zero, List.set_cons_succ, List.map_cons, List.map_nil, List.length_cons, List.length_nil, List.replicate_succ, List.replicate_zero, List.cons_append, List.nil_append, Nat.reduceAdd, Nat.reduceSub, Nat.zero_add, Nat.sub_zero, Option.bind_some, true_and, and_true, outF, if_true, if_false, Bool.false_eq_true, Bool.not_true, Bool.not_false, List.append_assoc, List.length_append, Option.isSome_some, wipeE, isNon, decide_true, decide_false, hli]
        refine (ih l[i] (h _ (List.getElem_mem hi)) M').imp fun v M1 ⟨hv, hM⟩ => ?_
        subst hv
        subst hM
        simp only [ev, List.getElem?_cons_zero, List.getElem?_cons_succ, List.set_cons_zero, List.set_cons_succ, List.map_cons, List.map_nil, List.length_cons, List.length_nil, List.replicate_succ, List.replicate_zero, List.cons_append, List.nil_append, Nat.reduceAdd, Nat.reduceSub, Nat.zero_add, Nat.sub_zero, Option.bind_some, true_and, and_true, outF, if_true, if_false, Bool.false_eq_true, Bool.not_true, Bool.not_false, List.append_assoc, List.length_append, Option.isSome_some, wipeE, isNon, decide_true, decide_false]
        exact ⟨_, rfl⟩
      · rintro e M' ⟨rfl, j, rfl⟩
        simp only [ev, List.getElem?_cons_zero, List.getElem?_cons_succ, List.set_cons_zero, List.set_cons_succ, List.map_cons, List.map_nil, List.length_cons, List.length_nil, List.replicate_succ, List.replicate_zero, List.cons_append, List.nil_append, Nat.reduceAdd, Nat.reduceSub, Nat.zero_add, Nat.sub_zero, Option.bind_some, true_and, and_true, outF, if_true, if_false, Bool.false_eq_true, Bool.not_true, Bool.not_false, List.append_assoc, List.length_append, Option.isSome_some, wipeE, isNon, decide_true, decide_false, ret_bl]
theorem sd_mono {k : Nat} {d : D} (h : SD k d) : ∀ {j : Nat}, k ≤ j → SD j d := by
  induction h with
  | bl b => intro j _; exact .bl b
  | int b => intro j _; exact .int b
  | str b => intro j _; exact .str b
  | @tup k l hl h ih =>
    intro j hj
    cases j with
    | zero => omega
    | succ j => exact .tup hl fun d hd => ih d hd (by omega)
theorem sd_De (d : De) : SD 1 (encD d) := by
  cases d with
  | act r => exact .tup (by simp) (by intro d hd; simp only [List.mem_cons, List.not_mem_nil, or_false] at hd; rcases hd with rfl | rfl; exact .str _; exact .int _)
  | take r k => exact .tup (by simp) (by intro d hd; simp only [List.mem_cons, List.not_mem_nil, or_false] at hd; rcases hd with rfl | rfl | rfl; exact .str _; exact .int _; exact .int _)
  | lose r k => exact .tup (by simp) (by intro d hd; simp only [List.mem_cons, List.not_mem_nil, or_false] at hd; rcases hd with rfl | rfl | rfl; exact .str _; exact .int _; exact .int _)
theorem same_rule {d : D} {M : Sto} {Q : D → Sto → Prop} (hd : SD 7 d) (h : Q (.bl true) M) : wpF (F_law_same 8) [d, d] M Q := (same_ok 7 d hd M).imp fun v M1 ⟨a, b⟩ => by rw [a, b]; exact h
/-! with the pool -/
theorem wpA_rel {α : Type} {enc : α → D} {g : GM} {m : EM} {e : DV.Env} (M0 : Sto) (R : α → D → Prop) : ∀ (xs : List α) (M : Sto) (QA : List D → Sto → Prop), Pm M0 M →
    (∀ x ∈ xs, ∀ M, Pm M0 M → ∃ e1, g (enc x) e = some e1 ∧ wpE m e1 M fun y M2 => Pm M0 M2 ∧ R x y) →
    (∀ (ys : List (D × α)) M', Pm M0 M' → xs = ys.map (·.2) → (∀ p ∈ ys, R p.2 p.1) → QA (ys.map (·.1)) M') → wpA (compL g mYes m (xs.map enc)) e M QA
  | [], M, QA, h0, _, q => wpO_some.mpr (q [] M h0 rfl (fun _ h => by cases h))
  | x :: xs, M, QA, h0, h, q => by
    obtain ⟨e1, h1, ⟨y, M2⟩, h2, h3, h4⟩ := h x (List.mem_cons_self ..) M h0
    rw [List.map_cons]
    unfold wpA compL
    rw [h1]
    have hy : mYes e1 M = some (true, M) := rfl
    simp only [hy, h2]
    have := wpA_rel M0 R xs M2 (fun ys M' => QA (y :: ys) M') h3 (fun x hx => h x (List.mem_cons_of_mem _ hx)) fun ys M' a b c => q ((y, x) :: ys) M' a (by rw [List.map_cons, ← b]) fun p hp => by
      rcases List.mem_cons.mp hp with rfl | hp
      · exact h4
      · exact c p hp
    obtain ⟨⟨zs, M3⟩, h7, h8⟩ := this
    rw [h7]
    exact wpO_some.mpr h8
theorem ret_pm {M M1 : Sto} {d : D} {Q : D × Sto → Prop} (h : Pm M M1) (hd : below 0 d = true) : wpO (retF M d M1) Q ↔ Q (d, M1) := by rw [retF_pm0 h hd]; exact wpO_some
theorem listed_int (k : Nat) (i : Int) (M : Sto) : wpF (F_law_listed (k + 1)) [.ref 0, .int i] M fun v M' => M' = M ∧ v = .int i := by
  unfold F_law_listed B_law_listed
  simp only [ev, List.getElem?_cons_zero, List.getElem?_cons_succ, List.set_cons_zero, List.set_cons_succ, List.map_cons, List.map_nil, List.length_cons, List.length_nil, List.replicate_succ, List.replicate_zero, List.cons_append, List.nil_append, Nat.reduceAdd, Nat.reduceSub, Nat.zero_add, Nat.sub_zero, Option.bind_some, true_and, and_true, outF, if_true, if_false, Bool.false_eq_true, Bool.not_true, Bool.not_false, List.append_assoc, List.length_append, Option.isSome_some, wipeE, isNon, decide_true, decide_false, ty_int, kit_it, ret_int]
theorem listed_tup {α : Type} {enc : α → D} {R : α → D → Prop} {k : Nat} {xs : List α} (hx : xs.length ≤ 1000) (hR : ∀ x ∈ xs, ∀ v, R x v → below 0 v = true)
    (h : ∀ x ∈ xs, ∀ M, Pm M M → wpF (F_law_listed (k + 1)) [.ref 0, enc x] M fun v M' => Pm M M' ∧ R x v) (M : Sto) (hM : Pm M M) :
    wpF (F_law_listed (k + 2)) [.ref 0, .tup (xs.map enc)] M fun v M' => Pm M M' ∧ below 0 v = true ∧ ∃ ys : List (D × α), SeqD v (ys.map (·.1)) ∧ xs = ys.map (·.2) ∧ ∀ p ∈ ys, R p.2 p.1 := by
  show wpF (fnD 4 true (B_law_listed (F_law_listed (k + 1)))) _ _ _
  unfold B_law_listed
  simp only [ev, List.getElem?_cons_zero, List.getElem?_cons_succ, List.set_cons_zero, List.set_cons_succ, List.map_cons, List.map_nil, List.length_cons, List.length_nil, List.replicate_succ, List.replicate_zero, List.cons_append, List.nil_append, Nat.reduceAdd, Nat.reduceSub, Nat.zero_add, Nat.sub_zero, Option.bind_some, true_and, and_true, outF, if_true, if_false, Bool.false_eq_true, Bool.not_true, Bool.not_false, List.append_assoc, List.length_append, Option.isSome_some, wipeE, isNon, decide_true, decide_false, ty_tup, kit_tt]
  refine wpA_rel M R xs M _ hM (fun x hx M1 h1 => ⟨_, rfl, ?_⟩) ?_
  · simp only [ev, List.getElem?_cons_zero, List.getElem?_cons_succ, List.set_cons_zero, List.set_cons_succ, List.map_cons, List.map_nil, List.length_cons, List.length_nil, List.replicate_succ, List.replicate_zero, List.cons_append, List.nil_append, Nat.reduceAdd, Nat.reduceSub, Nat.zero_add, Nat.sub_zero, Option.bind_some, true_and, and_true, outF, if_true, if_false, Bool.false_eq_true, Bool.not_true, Bool.not_false, List.append_assoc, List.length_append, Option.isSome_some, wipeE, isNon, decide_true, decide_false]
    refine (h x hx M1 h1.refl_of).imp fun v M2 ⟨a, b⟩ => ⟨h1.trans a, b⟩
  · intro ys M1 h1 hxs hr
    have hlen : (ys.map (·.1)).length ≤ sizeLine := by
      rw [List.length_map]
      have : xs.length = ys.length := by rw [hxs, List.length_map]
      have hS : sizeLine = 16777216 := rfl
      omega
    have hb : belows 0 (ys.map (·.1)) = true := belows_map fun p hp => hR p.2 (by rw [hxs]; exact List.mem_map_of_mem hp) _ (hr p hp)
    refine ⟨hlen, ?_⟩
    refine draw_rule0 (n := 3) h1.refl_of (by omega) (by omega) fun j M2 hj h2 => ?_
    have h12 := h1.trans h2
    simp only [ev, List.getElem?_cons_zero, List.getElem?_cons_succ, List.set_cons_zero, List.set_cons_succ, List.map_cons, List.map_nil, List.length_cons, List.length_nil, List.replicate_succ, List.replicate_zero, List.cons_append, List.nil_append, Nat.reduceAdd, Nat.reduceSub, Nat.zero_add, Nat.sub_zero, Option.bind_some, true_and, and_true, outF, if_true, if_false, Bool.false_eq_true, Bool.not_true, Bool.not_false, List.append_assoc, List.length_append, Option.isSome_some, wipeE, isNon, decide_true, decide_false, decide_eq_true_eq]
    split
    · rw [ret_pm h12 (by simp only [below]; exact hb)]
      exact ⟨h12, by simp only [below]; exact hb, ys, .inr rfl, hxs, hr⟩
    · rw [ret_pm h12 (by simp only [below]; exact hb)]
      exact ⟨h12, by simp only [below]; exact hb, ys, .inl rfl, hxs, hr⟩

theorem listed_pair (k : Nat) (q : Nat × Nat) (M : Sto) (hM : Pm M M) : wpF (F_law_listed (k + 2)) [.ref 0, encQ q] M fun v M' => Pm M M' ∧ (below 0 v = true ∧ SeqD v [.int (q.1 : Nat), .int (q.2 : Nat)]) := by
  refine (listed_tup (enc := fun i : Nat => D.int (i : Int)) (R := fun i v => v = .int (i : Int)) (k := k) (xs := [q.1, q.2]) (by simp) (fun x _ v e => by rw [e]; rfl) (fun x _ M h => (listed_int k _ M).imp fun v M' ⟨a, b⟩ => ⟨by rw [a]; exact h, b⟩) M hM).imp ?_
  rintro v M' ⟨h1, h2, ys, h3, h4, h5⟩
  refine ⟨h1, h2, ?_⟩
  have e : ys.map (·.1) = (ys.map (·.2)).map fun i : Nat => D.int (i : Int) := by
    rw [List.map_map]
    exact List.map_congr_left fun p hp => h5 p hp
  rw [e, ← h4] at h3
  exact h3
theorem listed_nums (k : Nat) (l : List Nat) (hl : l.length ≤ 1000) (M : Sto) (hM : Pm M M) : wpF (F_law_listed (k + 2)) [.ref 0, .tup (l.map dn)] M fun v M' => Pm M M' ∧ (below 0 v = true ∧ SeqD v (l.map dn)) := by
  refine (listed_tup (enc := dn) (R := fun i v => v = dn i) (k := k) (xs := l) hl (fun x _ v e => by rw [e]; rfl) (fun x _ M h => (listed_int k _ M).imp fun v M' ⟨a, b⟩ => ⟨by rw [a]; exact h, b⟩) M hM).imp ?_
  rintro v M' ⟨h1, h2, ys, h3, h4, h5⟩
  refine ⟨h1, h2, ?_⟩
  have e : ys.map (·.1) = (ys.map (·.2)).map dn := by
    rw [List.map_map]
    exact List.map_congr_left fun p hp => h5 p hp
  rw [e, ← h4] at h3
  exact h3
theorem listed_row (k : Nat) (r : List (Nat × Nat)) (hl : r.length ≤ 1000) (M : Sto) (hM : Pm M M) : wpF (F_law_listed (k + 3)) [.ref 0, encRow r] M fun v M' => Pm M M' ∧ (below 0 v = true ∧ RowD v r) := by
  refine (listed_tup (enc := encQ) (R := fun q v => below 0 v = true ∧ SeqD v [.int (q.1 : Nat), .int (q.2 : Nat)]) (k := k + 1) (xs := r) hl (fun x _ v e => e.1) (fun x _ M h => listed_pair k x M h) M hM).imp ?_
  rintro v M' ⟨h1, h2, ys, h3, h4, h5⟩
  exact ⟨h1, h2, ys, h3, h4, fun p hp => (h5 p hp).2⟩
theorem listed_rows (k : Nat) (r : List (List (Nat × Nat))) (hl : r.length ≤ 1000) (hr : ∀ x ∈ r, x.length ≤ 1000) (M : Sto) (hM : Pm M M) : wpF (F_law_listed (k + 4)) [.ref 0, .tup (r.map encRow)] M fun v M' => Pm M M' ∧ (below 0 v = true ∧ ∃ ys : List (D × List (Nat × Nat)), SeqD v (ys.map (·.1)) ∧ r = ys.map (·.2) ∧ ∀ p ∈ ys, RowD p.1 p.2) := by
  refine (listed_tup (enc := encRow) (R := fun q v => below 0 v = true ∧ RowD v q) (k := k + 2) (xs := r) hl (fun x _ v e => e.1) (fun x hx M h => listed_row k x (hr x hx) M h) M hM).imp ?_
  rintro v M' ⟨h1, h2, ys, h3, h4, h5⟩
  exact ⟨h1, h2, ys, h3, h4, fun p hp => (h5 p hp).2⟩
theorem listed_ok {n : Net} {w : Wo} (hn : NetOk n) (hw : WoOk n w) (M : Sto) (hM : Pm M M) : wpF (F_law_listed 8) [.ref 0, encW w] M fun v M' => Pm M M' ∧ LW v w := by
  have hp := hn.np
  have hc := hn.nc
  have l1 : w.st.length ≤ 1000 := by rw [hw.st]; omega
  have l2 : w.sn.length ≤ 1000 := by rw [hw.sn]; omega
  have l3 : w.pr.length ≤ 1000 := by rw [hw.pr]; omega
  let A : Nat → D := fun i => if i = 0 then .tup (w.st.map dn) else if i = 1 then .tup (w.sn.map dn) else .tup (w.pr.map encRow)
  refine (listed_tup (enc := A) (R := fun i v => below 0 v = true ∧ (i = 0 → SeqD v (w.st.map dn)) ∧ (i = 2 → ∃ ys : List (D × List (Nat × Nat)), SeqD v (ys.map (·.1)) ∧ w.pr = ys.map (·.2) ∧ ∀ p ∈ ys, RowD p.1 p.2)) (k := 6) (xs := [0, 1, 2]) (by simp) (fun x _ v e => e.1) (fun x hx M h => ?_) M hM).imp ?_
  · simp only [List.mem_cons, List.not_mem_nil, or_false] at hx
    rcases hx with rfl | rfl | rfl
    · exact (listed_nums 5 w.st l1 M h).imp fun v M' ⟨a, b, c⟩ => ⟨a, b, fun _ => c, fun z => by omega⟩
    · exact (listed_nums 5 w.sn l2 M h).imp fun v M' ⟨a, b, c⟩ => ⟨a, b, fun z => by omega, fun z => by omega⟩
    · exact (listed_rows 3 w.pr l3 hw.sz M h).imp fun v M' ⟨a, b, c⟩ => ⟨a, b, fun z => by omega, fun _ => c⟩
  · rintro v M' ⟨h1, h2, ys, h3, h4, h5⟩
    refine ⟨h1, ?_⟩
    obtain ⟨a, b, c, rfl⟩ : ∃ a b c, ys = [a, b, c] := by
      have hl : ys.length = 3 := by
        have := congrArg List.length h4
        rw [List.length_map] at this
        exact this.symm
      match ys, hl with
      | [a, b, c], _ => exact ⟨a, b, c, rfl⟩
    simp only [List.map_cons, List.map_nil, List.cons.injEq, and_true] at h4
    obtain ⟨e1, e2, e3⟩ := h4
    obtain ⟨zs, g1, g2, g3⟩ := (h5 c (by simp)).2.2 e3.symm
    exact ⟨⟨a.1, b.1, c.1, zs, h3, (h5 a (by simp)).2.1 e1.symm, g1, g2, g3⟩⟩
theorem empty_iff {w : Wo} : decide (((w.pr.filter fun r => decide ((0 : Int) < (r.length : Int))).length : Int) = 0) = emptyB w := by
  unfold emptyB
  induction w.pr with
  | nil => rfl
  | cons r l ih =>
    cases r with
    | nil => rw [List.filter_cons_of_neg (by simp), List.all_cons, ih]; rfl
    | cons a r =>
      rw [List.filter_cons_of_pos (by simp), List.all_cons]
      simp only [List.length_cons, List.isEmpty_cons, Bool.false_and, decide_eq_false_iff_not]
      omega
theorem is_told_ok {n : Net} {w : Wo} (hn : NetOk n) (hw : WoOk n w) (M : Sto) (hM : Pm M M) : wpF F_law_is_told [.ref 0, oN n, encN n, encW w] M fun v M' => Pm M M' ∧ v = .bl true := by
  unfold F_law_is_told B_law_is_told
  have hS : sizeLine = 16777216 := rfl
  simp only [ev, List.getElem?_cons_zero, List.getElem?_cons_succ, List.set_cons_zero, List.set_cons_succ, List.map_cons, List.map_nil, List.length_cons, List.length_nil, List.replicate_succ, List.replicate_zero, List.cons_append, List.nil_append, Nat.reduceAdd, Nat.reduceSub, Nat.zero_add, Nat.sub_zero, Option.bind_some, true_and, and_true, outF, if_true, if_false, Bool.false_eq_true, Bool.not_true, Bool.not_false, List.append_assoc, List.length_append, Option.isSome_some, wipeE, isNon, decide_true, decide_false]
  refine (law_still_ok hn hw).imp fun v M1 ⟨hv, hM1⟩ => ?_
  subst hv
  subst hM1
  simp only [ev, List.getElem?_cons_zero, List.getElem?_cons_succ, List.set_cons_zero, List.set_cons_succ, List.map_cons, List.map_nil, List.length_cons, List.length_nil, List.replicate_succ, List.replicate_zero, List.cons_append, List.nil_append, Nat.reduceAdd, Nat.reduceSub, Nat.zero_add, Nat.sub_zero, Option.bind_some, true_and, and_true, outF, if_true, if_false, Bool.false_eq_true, Bool.not_true, Bool.not_false, List.append_assoc, List.length_append, Option.isSome_some, wipeE, isNon, decide_true, decide_false]
  refine (by_losses_ok hn hw).imp fun v M1 ⟨hv, hM1⟩ => ?_
  subst hM1
  have hw2 : ∀ M : Sto, dIdx (encW w) (.int 2) M = some (.tup (w.pr.map encRow)) := fun _ => rfl
  have hpr : w.pr.length ≤ 8 := by rw [hw.pr]; exact hn.nc
  have key : ∀ (v : D) (s : D), s = .bl (stillB n w) → wpA (compL (gN 8) (tV (eBin dGt (eB cLen (aCons (eVar 8) aNil)) (eC (D.int 0)))) (eVar 8) (w.pr.map encRow))
        [some (D.ref 0), some (oN n), some (encN n), some (encW w), some s, some v, none, none, none] M1 fun ys M2 =>
          ys.length ≤ sizeLine ∧
            wpF (F_law_listed 8) [D.ref 0, encW w] M2 fun d M1_1 =>
              wpF F_still [oN n, d] M1_1 fun x M1_2 =>
                wpF (F_law_same 8) [x, D.bl (stillB n w)] M1_2 fun d_1 M1_3 =>
                  wpO (toB d_1) fun v =>
                    if v = true then
                      wpF F_ended [oN n, d] M1_3 fun x M1_4 =>
                        if stillB n w = true then
                          wpF (F_law_same 8) [x, D.bl (decide ((ys.length : Int) = 0))] M1_4 fun d M1_5 =>
                            wpO (retF M1 d M1_5) fun p => Pm M1 p.snd ∧ p.fst = D.bl true
                        else
                          wpF (F_law_same 8) [x, D.bl false] M1_4 fun d M1_5 =>
                            wpO (retF M1 d M1_5) fun p => Pm M1 p.snd ∧ p.fst = D.bl true
                    else wpO (retF M1 (D.bl false) M1_3) fun p => Pm M1 p.snd ∧ p.fst = D.bl true := by
    intro v s hs
    subst hs
    refine wpA_pure (fun r => decide ((0 : Int) < (r.length : Int))) encRow w.pr (fun r hr => ⟨_, rfl, ?_, fun _ => ?_⟩) ?_
    · have he : encRow r = .tup (r.map encQ) := rfl
      simp only [ev, List.getElem?_cons_zero, List.getElem?_cons_succ, List.set_cons_zero, List.set_cons_succ, List.map_cons, List.map_nil, List.length_cons, List.length_nil, List.replicate_succ, List.replicate_zero, List.cons_append, List.nil_append, Nat.reduceAdd, Nat.reduceSub, Nat.zero_add, Nat.sub_zero, Option.bind_some, true_and, and_true, outF, if_true, if_false, Bool.false_eq_true, Bool.not_true, Bool.not_false, List.append_assoc, List.length_append, Option.isSome_some, wipeE, isNon, decide_true, decide_false, he, List.length_map]
    · simp only [ev, List.getElem?_cons_zero, List.getElem?_cons_succ, List.set_cons_zero, List.set_cons_succ, List.map_cons, List.map_nil, List.length_cons, List.length_nil, List.replicate_succ, List.replicate_zero, List.cons_append, List.nil_append, Nat.reduceAdd, Nat.reduceSub, Nat.zero_add, Nat.sub_zero, Option.bind_some, true_and, and_true, outF, if_true, if_false, Bool.false_eq_true, Bool.not_true, Bool.not_false, List.append_assoc, List.length_append, Option.isSome_some, wipeE, isNon, decide_true, decide_false]
    · have hf := List.length_filter_le (fun r : List (Nat × Nat) => decide ((0 : Int) < (r.length : Int))) w.pr
      rw [List.length_map]
      refine ⟨by omega, ?_⟩
      rw [empty_iff]
      refine (listed_ok hn hw M1 hM).imp fun d M2 ⟨h2, hd⟩ => ?_
      refine (still_ok hn hw hd).imp fun v M3 ⟨hv, hM3⟩ => ?_
      subst hv
      subst hM3
      refine same_rule (.bl _) ?_
      simp only [ev, List.getElem?_cons_zero, List.getElem?_cons_succ, List.set_cons_zero, List.set_cons_succ, List.map_cons, List.map_nil, List.length_cons, List.length_nil, List.replicate_succ, List.replicate_zero, List.cons_append, List.nil_append, Nat.reduceAdd, Nat.reduceSub, Nat.zero_add, Nat.sub_zero, Option.bind_some, true_and, and_true, outF, if_true, if_false, Bool.false_eq_true, Bool.not_true, Bool.not_false, List.append_assoc, List.length_append, Option.isSome_some, wipeE, isNon, decide_true, decide_false]
      refine (ended_ok hn hw (by have := hn.nc; omega) hd).imp fun v M4 ⟨hv, hM4⟩ => ?_
      subst hv
      subst hM4
      cases hst : stillB n w with
      | true =>
        simp only [if_true, Bool.true_and]
        refine same_rule (.bl _) ?_
        rw [ret_pm h2 rfl]
        exact ⟨h2, rfl⟩
      | false =>
        simp only [Bool.false_eq_true, if_false, Bool.false_and]
        refine same_rule (.bl _) ?_
        rw [ret_pm h2 rfl]
        exact ⟨h2, rfl⟩
  rcases hv with rfl | rfl
  · simp only [ev, List.getElem?_cons_zero, List.getElem?_cons_succ, List.set_cons_zero, List.set_cons_succ, List.map_cons, List.map_nil, List.length_cons, List.length_nil, List.replicate_succ, List.replicate_zero, List.cons_append, List.nil_append, Nat.reduceAdd, Nat.reduceSub, Nat.zero_add, Nat.sub_zero, Option.bind_some, true_and, and_true, outF, if_true, if_false, Bool.false_eq_true, Bool.not_true, Bool.not_false, List.append_assoc, List.length_append, Option.isSome_some, wipeE, isNon, decide_true, decide_false, hw2]
    exact key _ _ rfl
  · simp only [ev, List.getElem?_cons_zero, List.getElem?_cons_succ, List.set_cons_zero, List.set_cons_succ, List.map_cons, List.map_nil, List.length_cons, List.length_nil, List.replicate_succ, List.replicate_zero, List.cons_append, List.nil_append, Nat.reduceAdd, Nat.reduceSub, Nat.zero_add, Nat.sub_zero, Option.bind_some, true_and, and_true, outF, if_true, if_false, Bool.false_eq_true, Bool.not_true, Bool.not_false, List.append_assoc, List.length_append, Option.isSome_some, wipeE, isNon, decide_true, decide_false, hw2, decide_true]
    exact key _ _ rfl
theorem is_told_rule {n : Net} {w : Wo} {M : Sto} {Q : D → Sto → Prop} (hn : NetOk n) (hw : WoOk n w) (hM : Pm M M) (h : ∀ M1, Pm M M1 → Q (.bl true) M1) : wpF F_law_is_told [.ref 0, oN n, encN n, encW w] M Q :=
  (is_told_ok hn hw M hM).imp fun v M1 ⟨a, b⟩ => by rw [b]; exact h M1 a
theorem picked_rule {α : Type} {enc : α → D} {l : List α} {M : Sto} {Q : D → Sto → Prop} (hM : Pm M M) (h0 : 0 < l.length) (h1 : l.length < 1000000) (hb : ∀ x ∈ l, below 0 (enc x) = true) (h : ∀ x ∈ l, ∀ M1, Pm M M1 → Q (enc x) M1) : wpF F_law_picked [.ref 0, .lst (l.map enc)] M Q := by
  unfold F_law_picked B_law_picked
  simp only [ev, List.getElem?_cons_zero, List.getElem?_cons_succ, List.set_cons_zero, List.set_cons_succ, List.map_cons, List.map_nil, List.length_cons, List.length_nil, List.replicate_succ, List.replicate_zero, List.cons_append, List.nil_append, Nat.reduceAdd, Nat.reduceSub, Nat.zero_add, Nat.sub_zero, Option.bind_some, true_and, and_true, outF, if_true, if_false, Bool.false_eq_true, Bool.not_true, Bool.not_false, List.append_assoc, List.length_append, Option.isSome_some, wipeE, isNon, decide_true, decide_false, List.length_map]
  refine draw_rule0 hM h0 h1 fun k M1 hk hp => ?_
  have e : (l.map enc)[k]? = some (enc l[k]) := by rw [List.getElem?_map, List.getElem?_eq_getElem hk]; rfl
  simp only [ev, List.getElem?_cons_zero, List.getElem?_cons_succ, List.set_cons_zero, List.set_cons_succ, List.map_cons, List.map_nil, List.length_cons, List.length_nil, List.replicate_succ, List.replicate_zero, List.cons_append, List.nil_append, Nat.reduceAdd, Nat.reduceSub, Nat.zero_add, Nat.sub_zero, Option.bind_some, true_and, and_true, outF, if_true, if_false, Bool.false_eq_true, Bool.not_true, Bool.not_false, List.append_assoc, List.length_append, Option.isSome_some, wipeE, isNon, decide_true, decide_false, e]
  rw [ret_pm hp (hb _ (List.getElem_mem hk))]
  exact h _ (List.getElem_mem hk) M1 hp
theorem seen_less {n : Net} {w w' : Wo} {c : Nat} (l : Less n w w') : ∀ q ∈ seen n w' c, q ∈ seen n w c := by
  intro q hq
  unfold seen at hq ⊢
  split
  · rename_i h
    rw [if_pos h, l.keep c (by rw [h]; rfl)] at hq
    exact hq
  · rename_i h
    rw [if_neg h] at hq
    exact (l.sub c).subset hq
theorem still_less {n : Net} {w w' : Wo} (l : Less n w w') (h : stillB n w = true) : stillB n w' = true := by
  unfold stillB at h ⊢
  rw [List.all_eq_true] at h ⊢
  intro r hr
  have hx := h r hr
  cases he : enab n w' r with
  | false => rfl
  | true =>
    exfalso
    have : enab n w r = true := by
      unfold enab at he ⊢
      rw [Bool.and_eq_true, decide_eq_true_eq] at he ⊢
      refine ⟨by have := he.1; unfold Wo.at_ at this ⊢; rw [← l.st]; exact this, ?_⟩
      cases ha : r.a with
      | idle => rfl
      | send c x => rfl
      | take c x =>
        have hz := he.2
        rw [ha] at hz
        obtain ⟨q, hq1, hq2⟩ := List.any_eq_true.mp hz
        exact List.any_eq_true.mpr ⟨q, seen_less l q hq1, hq2⟩
    rw [this] at hx; cases hx
theorem lost_on_ok {n : Net} {w : Wo} (hn : NetOk n) (hw : WoOk n w) (hs : stillB n w = true) (M : Sto) (hM : Pm M M) : wpF F_law_lost_on [.ref 0, oN n, encN n, encW w] M fun v M' => Pm M M' ∧ v = .bl true := by
  unfold F_law_lost_on B_law_lost_on
  have hS : sizeLine = 16777216 := rfl
  simp only [ev, List.getElem?_cons_zero, List.getElem?_cons_succ, List.set_cons_zero, List.set_cons_succ, List.map_cons, List.map_nil, List.length_cons, List.length_nil, List.replicate_succ, List.replicate_zero, List.cons_append, List.nil_append, Nat.reduceAdd, Nat.reduceSub, Nat.zero_add, Nat.sub_zero, Option.bind_some, true_and, and_true, outF, if_true, if_false, Bool.false_eq_true, Bool.not_true, Bool.not_false, List.append_assoc, List.length_append, Option.isSome_some, wipeE, isNon, decide_true, decide_false]
  refine ⟨by decide, ?_⟩
  refine wpS_rng (n := 8) (fun i e M' => Pm M M' ∧ ∃ w' e4 e5 e6, Less n w w' ∧ e = [some (.ref 0), some (oN n), some (encN n), some (encW w'), e4, e5, e6]) ⟨hM, w, _, _, _, Less.refl n w, rfl⟩ ?_ ?_
  · rintro i e M1 hi ⟨h1, w', e4, e5, e6, hl, rfl⟩
    have ok1 := hl.ok hw
    have hst := still_less hl hs
    have hps := poss_sz hn ok1
    refine ⟨_, rfl, ?_⟩
    simp only [ev, List.getElem?_cons_zero, List.getElem?_cons_succ, List.set_cons_zero, List.set_cons_succ, List.map_cons, List.map_nil, List.length_cons, List.length_nil, List.replicate_succ, List.replicate_zero, List.cons_append, List.nil_append, Nat.reduceAdd, Nat.reduceSub, Nat.zero_add, Nat.sub_zero, Option.bind_some, true_and, and_true, outF, if_true, if_false, Bool.false_eq_true, Bool.not_true, Bool.not_false, List.append_assoc, List.length_append, Option.isSome_some, wipeE, isNon, decide_true, decide_false]
    refine poss_rule hn ok1 ?_
    simp only [ev, List.getElem?_cons_zero, List.getElem?_cons_succ, List.set_cons_zero, List.set_cons_succ, List.map_cons, List.map_nil, List.length_cons, List.length_nil, List.replicate_succ, List.replicate_zero, List.cons_append, List.nil_append, Nat.reduceAdd, Nat.reduceSub, Nat.zero_add, Nat.sub_zero, Option.bind_some, true_and, and_true, outF, if_true, if_false, Bool.false_eq_true, Bool.not_true, Bool.not_false, List.append_assoc, List.length_append, Option.isSome_some, wipeE, isNon, decide_true, decide_false]
    refine (prog_poss_ok hn ok1).imp fun v M2 ⟨hv, hM2⟩ => ?_
    subst hv
    subst hM2
    refine same_rule (.tup (by rw [List.length_map]; omega) fun d hd => ?_) ?_
    · obtain ⟨x, _, rfl⟩ := List.mem_map.mp hd
      exact sd_mono (sd_De x) (by omega)
    have hall : ∀ d ∈ possM n w', d.isLose = true := by
      intro d hd
      cases hx : d.isLose with
      | true => rfl
      | false =>
        have := not_still (Less.refl n w') hd hx
        rw [hst] at this; cases this
    simp only [ev, List.getElem?_cons_zero, List.getElem?_cons_succ, List.set_cons_zero, List.set_cons_succ, List.map_cons, List.map_nil, List.length_cons, List.length_nil, List.replicate_succ, List.replicate_zero, List.cons_append, List.nil_append, Nat.reduceAdd, Nat.reduceSub, Nat.zero_add, Nat.sub_zero, Option.bind_some, true_and, and_true, outF, if_true, if_false, Bool.false_eq_true, Bool.not_true, Bool.not_false, List.append_assoc, List.length_append, Option.isSome_some, wipeE, isNon, decide_true, decide_false]
    refine wpA_pure (fun d => !d.isLose) encD (possM n w') (fun d hd => ⟨_, rfl, ?_, fun _ => ?_⟩) ?_
    · cases d with
      | act r => simp only [ev, List.getElem?_cons_zero, List.getElem?_cons_succ, List.set_cons_zero, List.set_cons_succ, List.map_cons, List.map_nil, List.length_cons, List.length_nil, List.replicate_succ, List.replicate_zero, List.cons_append, List.nil_append, Nat.reduceAdd, Nat.reduceSub, Nat.zero_add, Nat.sub_zero, Option.bind_some, true_and, and_true, outF, if_true, if_false, Bool.false_eq_true, Bool.not_true, Bool.not_false, List.append_assoc, List.length_append, Option.isSome_some, wipeE, isNon, decide_true, decide_false, encD, str_1, De.isLose]
      | take r k => simp only [ev, List.getElem?_cons_zero, List.getElem?_cons_succ, List.set_cons_zero, List.set_cons_succ, List.map_cons, List.map_nil, List.length_cons, List.length_nil, List.replicate_succ, List.replicate_zero, List.cons_append, List.nil_append, Nat.reduceAdd, Nat.reduceSub, Nat.zero_add, Nat.sub_zero, Option.bind_some, true_and, and_true, outF, if_true, if_false, Bool.false_eq_true, Bool.not_true, Bool.not_false, List.append_assoc, List.length_append, Option.isSome_some, wipeE, isNon, decide_true, decide_false, encD, str_2, De.isLose]
      | lose c k => simp only [ev, List.getElem?_cons_zero, List.getElem?_cons_succ, List.set_cons_zero, List.set_cons_succ, List.map_cons, List.map_nil, List.length_cons, List.length_nil, List.replicate_succ, List.replicate_zero, List.cons_append, List.nil_append, Nat.reduceAdd, Nat.reduceSub, Nat.zero_add, Nat.sub_zero, Option.bind_some, true_and, and_true, outF, if_true, if_false, Bool.false_eq_true, Bool.not_true, Bool.not_false, List.append_assoc, List.length_append, Option.isSome_some, wipeE, isNon, decide_true, decide_false, encD, De.isLose]
    · simp only [ev, List.getElem?_cons_zero, List.getElem?_cons_succ, List.set_cons_zero, List.set_cons_succ, List.map_cons, List.map_nil, List.length_cons, List.length_nil, List.replicate_succ, List.replicate_zero, List.cons_append, List.nil_append, Nat.reduceAdd, Nat.reduceSub, Nat.zero_add, Nat.sub_zero, Option.bind_some, true_and, and_true, outF, if_true, if_false, Bool.false_eq_true, Bool.not_true, Bool.not_false, List.append_assoc, List.length_append, Option.isSome_some, wipeE, isNon, decide_true, decide_false]
    · have hf : (possM n w').filter (fun d => !d.isLose) = [] := by
        rw [List.filter_eq_nil_iff]
        intro d hd
        rw [hall d hd]; simp
      rw [hf]
      simp only [ev, List.getElem?_cons_zero, List.getElem?_cons_succ, List.set_cons_zero, List.set_cons_succ, List.map_cons, List.map_nil, List.length_cons, List.length_nil, List.replicate_succ, List.replicate_zero, List.cons_append, List.nil_append, Nat.reduceAdd, Nat.reduceSub, Nat.zero_add, Nat.sub_zero, Option.bind_some, true_and, and_true, outF, if_true, if_false, Bool.false_eq_true, Bool.not_true, Bool.not_false, List.append_assoc, List.length_append, Option.isSome_some, wipeE, isNon, decide_true, decide_false, List.length_map, decide_eq_true_eq]
      refine ⟨Nat.zero_le _, ?_⟩
      rw [if_neg (by simp)]
      split
      · rw [ret_pm h1 rfl]
        exact ⟨h1, rfl⟩
      · rename_i hne
        refine picked_rule h1.refl_of (by omega) (by omega) (fun d _ => below_D d) fun d hd M2 h2 => ?_
        have h12 := h1.trans h2
        refine done_rule hn ok1 (poss_ok_de hd) ?_
        have hl2 : Less n w (doneM n w' d) := by
          have hL := hall d hd
          cases d with
          | act r => cases hL
          | take r k => cases hL
          | lose c k => exact hl.trans (less_lose (lose_kd hd))
        have ok2 := hl2.ok hw
        refine is_told_rule hn ok2 h2.refl_of fun M3 h3 => ?_
        have h13 := h12.trans h3
        simp only [ev, List.getElem?_cons_zero, List.getElem?_cons_succ, List.set_cons_zero, List.set_cons_succ, List.map_cons, List.map_nil, List.length_cons, List.length_nil, List.replicate_succ, List.replicate_zero, List.cons_append, List.nil_append, Nat.reduceAdd, Nat.reduceSub, Nat.zero_add, Nat.sub_zero, Option.bind_some, true_and, and_true, outF, if_true, if_false, Bool.false_eq_true, Bool.not_true, Bool.not_false, List.append_assoc, List.length_append, Option.isSome_some, wipeE, isNon, decide_true, decide_false]
        refine (still_ok hn ok2 (lw_e _)).imp fun v M4 ⟨hv, hM4⟩ => ?_
        subst hv
        subst hM4
        rw [still_less hl2 hs]
        simp only [ev, List.getElem?_cons_zero, List.getElem?_cons_succ, List.set_cons_zero, List.set_cons_succ, List.map_cons, List.map_nil, List.length_cons, List.length_nil, List.replicate_succ, List.replicate_zero, List.cons_append, List.nil_append, Nat.reduceAdd, Nat.reduceSub, Nat.zero_add, Nat.sub_zero, Option.bind_some, true_and, and_true, outF, if_true, if_false, Bool.false_eq_true, Bool.not_true, Bool.not_false, List.append_assoc, List.length_append, Option.isSome_some, wipeE, isNon, decide_true, decide_false, decide_true]
        exact ⟨h13, _, _, _, _, hl2, rfl⟩
  · rintro e M1 ⟨h1, w', e4, e5, e6, hl, rfl⟩
    simp only [ev, List.getElem?_cons_zero, List.getElem?_cons_succ, List.set_cons_zero, List.set_cons_succ, List.map_cons, List.map_nil, List.length_cons, List.length_nil, List.replicate_succ, List.replicate_zero, List.cons_append, List.nil_append, Nat.reduceAdd, Nat.reduceSub, Nat.zero_add, Nat.sub_zero, Option.bind_some, true_and, and_true, outF, if_true, if_false, Bool.false_eq_true, Bool.not_true, Bool.not_false, List.append_assoc, List.length_append, Option.isSome_some, wipeE, isNon, decide_true, decide_false]
    rw [ret_pm h1 rfl]
    exact ⟨h1, rfl⟩
end K40

end

section
set_option Elab.async false
set_option linter.all false
set_option maxRecDepth 100000
/-! K40P11: names drawn -/
namespace K40
open PySem PySem.Spec L2 DV
theorem asR_eq {M M1 l : Sto} {k : Nat} (h : M1.length = M.length) : asR (M.length + k) (M1 ++ l) = asR k l := by rw [← h]; exact asR_app
theorem asR_eq0 {M M1 l : Sto} (h : M1.length = M.length) : asR M.length (M1 ++ l) = asR 0 l := by rw [← h]; exact asR_app0
theorem set_eq {M M1 l : Sto} {k : Nat} {o : Ob} (h : M1.length = M.length) : (M1 ++ l).set (M.length + k) o = M1 ++ l.set k o := by rw [← h]; exact set_app
theorem set_eq0 {M M1 l : Sto} {o : Ob} (h : M1.length = M.length) : (M1 ++ l).set M.length o = M1 ++ l.set 0 o := by rw [← h]; exact set_app0
theorem p_pop {M : Sto} {r : Nat} {i : Int} {Q : D × Sto → Prop} : wpO (mPopAt (.ref r) [.int i] M) Q ↔ wpO (asR r M) fun l => (-(2 ^ 63) ≤ i ∧ i < 2 ^ 63) ∧ wpO (ixN l.length i) fun k => wpO (l[k]?) fun d => Q (d, M.set r (.lst (l.eraseIdx k))) := by
  have e : mPopAt (.ref r) [.int i] M = (match M[r]? with
    | some (.lst l) => if -(2 ^ 63) ≤ i ∧ i < 2 ^ 63 then (match ixN l.length i with
      | some k => (match l[k]? with
        | some d => some (d, M.set r (.lst (l.eraseIdx k)))
        | none => none)
      | none => none) else none
    | _ => none) := rfl
  rw [e]
  unfold asR
  cases M[r]? with
  | none => simp [wpO]
  | some o => cases o with
    | ins _ _ _ => simp [wpO]
    | lst l =>
      simp only [wpO_some]
      by_cases hi : -(2 ^ 63) ≤ i ∧ i < 2 ^ 63
      · rw [if_pos hi]
        cases ixN l.length i with
        | none => simp [wpO]
        | some k =>
          cases h : l[k]? with
          | none => simp [wpO, h]
          | some d => simp only [wpO_some, h, hi, true_and, and_self]
      · rw [if_neg hi]
        simp only [wpO_none, hi, false_and]
def letters : Str := "abcdefghijklmnopqrstuvwxyz"
structure NmOk (x : Str) : Prop where
  h1 : 1 ≤ x.length
  h6 : x.length ≤ 6
  hl : ∀ c ∈ x.cps.toList, c ∈ letters.cps.toList
def nmB (x : Str) : Bool := decide (1 ≤ x.length) && decide (x.length ≤ 6) && x.cps.toList.all fun c => decide (c ∈ letters.cps.toList)
theorem nm_of {x : Str} (h : nmB x = true) : NmOk x := by
  unfold nmB at h
  simp only [Bool.and_eq_true, decide_eq_true_eq, List.all_eq_true] at h
  exact ⟨h.1.1, h.1.2, h.2⟩
theorem letters_len : letters.cps.toList.length = 26 := by decide +kernel
theorem ix_letters {k : Nat} {M : Sto} (h : k < 26) : dIdx (.str letters) (.int (k : Int)) M = some (.str ⟨#[letters.cps.toList[k]'(by rw [letters_len]; exact h)]⟩) := by
  have hz : letters.length ≤ sizeLine := by decide +kernel
  have e : dIdx (.str letters) (.int (k : Int)) M = if letters.length ≤ sizeLine then (atI letters.cps.toList (k : Int)).map fun c => D.str ⟨#[c]⟩ else none := rfl
  rw [if_pos hz] at e
  rw [e, atI_n, List.getElem?_eq_getElem (by rw [letters_len]; exact h)]
  rfl
theorem scDs_str : ∀ l : List Str, scDs (l.map D.str) = some (l.map V.str)
  | [] => rfl
  | x :: l => by simp only [List.map_cons, scDs, scD, scDs_str l]
theorem inV_str {x : Str} {l : List Str} : inV (.str x) (l.map V.str) = decide (x ∈ l) := by
  unfold inV
  rw [List.any_map]
  by_cases h : x ∈ l
  · rw [decide_eq_true h, List.any_eq_true]
    exact ⟨x, h, by simp [eqV]⟩
  · rw [decide_eq_false h, List.any_eq_false]
    intro y hy
    simp only [Function.comp, eqV, beq_iff_eq]
    intro e; exact h (e ▸ hy)
theorem in_names {x : Str} {M : Sto} {r : Nat} {l : List Str} (h : asR r M = some (l.map D.str)) : inD (.str x) (.ref r) M = some (decide (x ∈ l)) := by
  have e : inD (.str x) (.ref r) M = (match asR r M with
      | some l => (match scD (.str x), scDs l with
        | some a, some bs => some (inV a bs)
        | _, _ => match toPy (.str x) M, toPy0s l with
          | some p, some qs => if SeqAt.shaped p && SeqAt.shaped (.list qs) then some (qs.any fun z => PyData.eqv z p) else none
          | _, _ => none)
      | none => none) := rfl
  rw [e, h]
  simp only [scD, scDs_str, inV_str]
theorem o_in_names {x : Str} {M : Sto} {r : Nat} {l : List Str} (h : asR r M = some (l.map D.str)) : dIn (.str x) (.ref r) M = some (.bl (decide (x ∈ l))) := by
  unfold dIn; rw [in_names h]; rfl
theorem o_notin_names {x : Str} {M : Sto} {r : Nat} {l : List Str} (h : asR r M = some (l.map D.str)) : dNotIn (.str x) (.ref r) M = some (.bl (!decide (x ∈ l))) := by
  unfold dNotIn; rw [in_names h]; rfl
theorem le_of_sub {α : Type} [DecidableEq α] : ∀ (cs ns : List α), cs.Nodup → (∀ c ∈ cs, c ∈ ns) → cs.length ≤ ns.length
  | [], _, _, _ => Nat.zero_le _
  | c :: cs, ns, hn, hs => by
    rw [List.nodup_cons] at hn
    have hc := hs c (List.mem_cons_self ..)
    have ih := le_of_sub cs (ns.erase c) hn.2 fun d hd => (List.mem_erase_of_ne (fun (e : d = c) => hn.1 (by rw [← e]; exact hd))).mpr (hs d (List.mem_cons_of_mem _ hd))
    rw [List.length_erase_of_mem hc] at ih
    have : 0 < ns.length := List.length_pos_of_mem hc
    rw [List.length_cons]; omega
def spare : List Str := ["ua", "ub", "uc", "ud", "ue"]
theorem spare_ok : ∀ x ∈ spare, NmOk x := by
  intro x hx
  refine nm_of ?_
  have : spare.all nmB = true := by decide +kernel
  exact List.all_eq_true.mp this x hx
theorem spare_left {ns : List Str} (h : ns.length < 5) : ∃ x t, spare.filter (fun o => !decide (o ∈ ns)) = x :: t := by
  cases e : spare.filter (fun o => !decide (o ∈ ns)) with
  | cons x t => exact ⟨x, t, rfl⟩
  | nil =>
    exfalso
    rw [List.filter_eq_nil_iff] at e
    have := le_of_sub spare ns (by decide +kernel) fun c hc => by
      have := e c hc
      simpa using this
    have h5 : spare.length = 5 := rfl
    omega
theorem join_cps : ∀ ys : List Str, (Str.join "" ys).cps.toList = (ys.map fun y => y.cps.toList).flatten
  | [] => rfl
  | [x] => by show x.cps.toList = _; simp
  | x :: y :: r => by
    have ih := join_cps (y :: r)
    have e : (Str.join "" (x :: y :: r)).cps = (x.cps ++ (Str.ofString "").cps) ++ (Str.join "" (y :: r)).cps := rfl
    have e0 : (Str.ofString "").cps = #[] := by decide +kernel
    rw [e, e0, Array.append_empty, Array.toList_append, ih]
    simp
def wordsL : List Str := ["p", "q", "not", "and", "state", "or", "count", "z"]
theorem words_ok : ∀ x ∈ wordsL, NmOk x := by
  intro x hx
  refine nm_of ?_
  have : wordsL.all nmB = true := by decide +kernel
  exact List.all_eq_true.mp this x hx

theorem m_join {a : Str} {l : List Str} {M : Sto} {Q : D × Sto → Prop} : wpO (mJoin (.str a) [.lst (l.map D.str)] M) Q ↔ (l.map (·.length)).sum + l.length * a.length ≤ 16777216 ∧ Q (.str (Str.join a l), M) := by
  have hs : asStrs (l.map D.str) = some l := by
    induction l with
    | nil => rfl
    | cons x l ih => simp only [List.map_cons, asStrs, ih, Option.map_some]
  have e : mJoin (.str a) [.lst (l.map D.str)] M = (match asStrs (l.map D.str) with
      | some ys => if (ys.map (·.length)).sum + ys.length * a.length ≤ 16777216 then some (.str (Txt.join a ys), M) else none
      | none => none) := rfl
  rw [e, hs]
  simp only [wpO_ite]
  rw [TL.join_eq]
theorem isTy_str {a : Str} {M : Sto} : isTy "str" (.str a) M = true := rfl
def one (c : Nat) : Str := ⟨#[c]⟩
theorem nm_join {k : Nat} (hk : k < 26) (ys : List Str) (hl : ys.length ≤ 5) (h : ∀ y ∈ ys, ∃ c ∈ letters.cps.toList, y = one c) : NmOk (one (letters.cps.toList[k]'(by rw [letters_len]; exact hk)) ++ Str.join "" ys) := by
  have e : (one (letters.cps.toList[k]'(by rw [letters_len]; exact hk)) ++ Str.join "" ys).cps.toList = letters.cps.toList[k]'(by rw [letters_len]; exact hk) :: (ys.map fun y => y.cps.toList).flatten := by
    have e0 : (one (letters.cps.toList[k]'(by rw [letters_len]; exact hk)) ++ Str.join "" ys).cps = #[letters.cps.toList[k]'(by rw [letters_len]; exact hk)] ++ (Str.join "" ys).cps := rfl
    rw [e0, Array.toList_append, join_cps]; rfl
  have hlen : ∀ zs : List Str, (∀ y ∈ zs, ∃ c ∈ letters.cps.toList, y = one c) → ((zs.map fun y => y.cps.toList).flatten).length = zs.length ∧ ∀ c ∈ (zs.map fun y => y.cps.toList).flatten, c ∈ letters.cps.toList := by
    intro zs
    induction zs with
    | nil => intro _; simp
    | cons z zs ih =>
      intro h
      obtain ⟨c, hc, rfl⟩ := h z (List.mem_cons_self ..)
      obtain ⟨i1, i2⟩ := ih fun y hy => h y (List.mem_cons_of_mem _ hy)
      rw [List.map_cons, List.flatten_cons]
      refine ⟨by rw [List.length_append, i1]; simp [one]; omega, fun d hd => ?_⟩
      rcases List.mem_append.mp hd with hd | hd
      · simp [one] at hd; rw [hd]; exact hc
      · exact i2 d hd
  obtain ⟨l1, l2⟩ := hlen ys h
  have hL : (one (letters.cps.toList[k]'(by rw [letters_len]; exact hk)) ++ Str.join "" ys).length = ys.length + 1 := by
    show Array.size _ = _
    rw [← Array.length_toList, e, List.length_cons, l1]
  refine ⟨by omega, by omega, fun c hc => ?_⟩
  rw [e] at hc
  rcases List.mem_cons.mp hc with rfl | hc
  · exact List.getElem_mem _
  · exact l2 c hc
theorem erase_map : ∀ (l : List Str) (k : Nat), (l.map D.str).eraseIdx k = (l.eraseIdx k).map D.str
  | [], _ => rfl
  | _ :: _, 0 => rfl
  | x :: l, k + 1 => by simp only [List.map_cons, List.eraseIdx_cons_succ, erase_map l k]
def NamesI (M : Sto) (m : Nat) (i : Nat) (e : DV.Env) (M' : Sto) : Prop := ∃ (M1 : Sto) (ws ns : List Str) (e5 e6 e7 e8 : Option D), Pm M M1 ∧ M' = M1 ++ [.lst (ws.map D.str), .lst (ns.map D.str)] ∧ ws.length + i = 8 ∧ (∀ x ∈ ws, NmOk x) ∧ ns.length = i ∧ ns.Nodup ∧ (∀ x ∈ ns, NmOk x) ∧
    e = [some (.ref 0), some (.int (m : Int)), some (.str letters), some (.ref M.length), some (.ref (M.length + 1)), e5, e6, e7, e8]
theorem names_ok (m : Nat) (hm : m ≤ 4) (M : Sto) (hM : Pm M M) : wpF F_law_names [.ref 0, .int (m : Int)] M fun v M' => Pm M M' ∧ ∃ ns : List Str, v = .lst (ns.map .str) ∧ ns.length = m ∧ ns.Nodup ∧ ∀ x ∈ ns, NmOk x := by
  unfold F_law_names B_law_names
  have hS : sizeLine = 16777216 := rfl
  simp only [ev, List.getElem?_cons_zero, List.getElem?_cons_succ, List.set_cons_zero, List.set_cons_succ, List.map_cons, List.map_nil, List.length_cons, List.length_nil, List.replicate_succ, List.replicate_zero, List.cons_append, List.nil_append, Nat.reduceAdd, Nat.reduceSub, Nat.zero_add, Nat.sub_zero, Option.bind_some, true_and, and_true, outF, if_true, if_false, Bool.false_eq_true, Bool.not_true, Bool.not_false, List.append_assoc, List.length_append, Option.isSome_some, wipeE, isNon, decide_true, decide_false, Nat.add_assoc]
  refine ⟨by decide, by decide, ⟨by omega, by omega⟩, ?_⟩
  refine wpS_rng (NamesI M m) ?_ ?_ ?_
  · refine ⟨M, wordsL, [], _, _, _, _, hM, rfl, rfl, words_ok, rfl, List.nodup_nil, ?_, rfl⟩
    intro x hx; cases hx
  · rintro i e M' hi ⟨M1, ws, ns, e5, e6, e7, e8, h1, rfl, hws, hwk, hns, hnd, hnk, rfl⟩
    have hl := h1.len
    refine ⟨_, rfl, ?_⟩
    simp only [ev, List.getElem?_cons_zero, List.getElem?_cons_succ, List.set_cons_zero, List.set_cons_succ, List.map_cons, List.map_nil, List.length_cons, List.length_nil, List.replicate_succ, List.replicate_zero, List.cons_append, List.nil_append, Nat.reduceAdd, Nat.reduceSub, Nat.zero_add, Nat.sub_zero, Option.bind_some, true_and, and_true, outF, if_true, if_false, Bool.false_eq_true, Bool.not_true, Bool.not_false, List.append_assoc, List.length_append, Option.isSome_some, wipeE, isNon, decide_true, decide_false, asR_eq0 hl, asR_eq hl, List.length_map]
    refine draw_rule h1.refl_of (by omega) (by omega) fun k M2 hk h2 => ?_
    have h12 := h1.trans h2
    have hl2 := h12.len
    have hk2 : k < ws.length := by omega
    have hix : ixN ws.length (k : Int) = some k := ixN_nat hk2
    have hwk2 : (ws.map D.str)[k]? = some (.str ws[k]) := by rw [List.getElem?_map, List.getElem?_eq_getElem hk2]; rfl
    have hwn := hwk _ (List.getElem_mem hk2)
    generalize ws[k] = x0 at hwk2 hwn
    simp only [ev, List.getElem?_cons_zero, List.getElem?_cons_succ, List.set_cons_zero, List.set_cons_succ, List.map_cons, List.map_nil, List.length_cons, List.length_nil, List.replicate_succ, List.replicate_zero, List.cons_append, List.nil_append, Nat.reduceAdd, Nat.reduceSub, Nat.zero_add, Nat.sub_zero, Option.bind_some, true_and, and_true, outF, if_true, if_false, Bool.false_eq_true, Bool.not_true, Bool.not_false, List.append_assoc, List.length_append, Option.isSome_some, wipeE, isNon, decide_true, decide_false, p_pop, asR_eq0 hl2, asR_eq hl2, set_eq0 hl2, List.length_map, hix, hwk2]
    refine ⟨⟨by omega, by omega⟩, ?_⟩
    refine draw_rule (n := 4) h2.refl_of (by omega) (by omega) fun k2 M3 hk3 h3 => ?_
    have h13 := h12.trans h3
    have her : (ws.map D.str).eraseIdx k = (ws.eraseIdx k).map D.str := erase_map ws k
    rw [her]
    have hws' : (ws.eraseIdx k).length + (i + 1) = 8 := by rw [List.length_eraseIdx_of_lt hk2]; omega
    have hwk' : ∀ x ∈ ws.eraseIdx k, NmOk x := fun x hx => hwk x (List.mem_of_mem_eraseIdx hx)
    have fin : ∀ (x : Str) (M4 : Sto), NmOk x → Pm M M4 → wpO (dIn (D.str x) (D.ref (M.length + 1)) (M4 ++ [Ob.lst ((ws.eraseIdx k).map D.str), Ob.lst (ns.map D.str)])) fun d =>
      wpO (toB d) fun b =>
        if b = true then
          5 ≤ sizeLine ∧
            wpA
              (compL (gN 7) (tV (eBin dNotIn (eVar 7) (eVar 4))) (eVar 7)
                [D.str (Str.ofString "ua"), D.str (Str.ofString "ub"), D.str (Str.ofString "uc"),
                  D.str (Str.ofString "ud"), D.str (Str.ofString "ue")])
              [some (D.ref 0), some (D.int (m : Int)), some (D.str letters), some (D.ref (List.length M)),
                some (D.ref (List.length M + 1)), some (D.int (i : Int)), some (D.str x), none, e8]
              (M4 ++ [Ob.lst ((ws.eraseIdx k).map D.str), Ob.lst (List.map D.str ns)]) fun ys M2 =>
              ys.length ≤ sizeLine ∧
                wpO ys[0]? fun d => (asR (List.length M + 1) M2).isSome = true ∧
                  wpO (asR (List.length M + 1) M2) fun l => l.length < sizeLine ∧
                    NamesI M m (i + 1) [some (.ref 0), some (.int (m : Int)), some (.str letters), some (.ref M.length), some (.ref (M.length + 1)), some (.int (i : Int)), some d, e7, e8] (M2.set (M.length + 1) (Ob.lst (l ++ [d])))
        else (asR (List.length M + 1) (M4 ++ [Ob.lst ((ws.eraseIdx k).map D.str), Ob.lst (ns.map D.str)])).isSome = true ∧
                  wpO (asR (List.length M + 1) (M4 ++ [Ob.lst ((ws.eraseIdx k).map D.str), Ob.lst (ns.map D.str)])) fun l => l.length < sizeLine ∧
                    NamesI M m (i + 1) [some (.ref 0), some (.int (m : Int)), some (.str letters), some (.ref M.length), some (.ref (M.length + 1)), some (.int (i : Int)), some (.str x), e7, e8] ((M4 ++ [Ob.lst ((ws.eraseIdx k).map D.str), Ob.lst (ns.map D.str)]).set (M.length + 1) (Ob.lst (l ++ [D.str x]))) := by
      intro x M4 hx h4
      have hl4 := h4.len
      have hr : asR (M.length + 1) (M4 ++ [.lst ((ws.eraseIdx k).map D.str), .lst (ns.map D.str)]) = some (ns.map D.str) := by rw [asR_eq hl4]; rfl
      have hI : ∀ y, NmOk y → y ∉ ns → NamesI M m (i + 1) [some (.ref 0), some (.int (m : Int)), some (.str letters), some (.ref M.length), some (.ref (M.length + 1)), some (.int (i : Int)), some (.str y), e7, e8] (M4 ++ [.lst ((ws.eraseIdx k).map D.str), .lst (ns.map D.str ++ [.str y])]) := by
        intro y hy hn
        refine ⟨M4, ws.eraseIdx k, ns ++ [y], _, _, _, _, h4, by simp, hws', hwk', by simp [hns], ?_, ?_, rfl⟩
        · rw [List.nodup_append]
          refine ⟨hnd, by simp, ?_⟩
          intro a ha b hb
          rw [List.mem_singleton.mp hb]
          intro e; exact hn (e ▸ ha)
        · intro z hz
          rcases List.mem_append.mp hz with hz | hz
          · exact hnk z hz
          · rw [List.mem_singleton.mp hz]; exact hy
      rw [o_in_names hr]
      simp only [ev, List.getElem?_cons_zero, List.getElem?_cons_succ, List.set_cons_zero, List.set_cons_succ, List.map_cons, List.map_nil, List.length_cons, List.length_nil, List.replicate_succ, List.replicate_zero, List.cons_append, List.nil_append, Nat.reduceAdd, Nat.reduceSub, Nat.zero_add, Nat.sub_zero, Option.bind_some, true_and, and_true, outF, if_true, if_false, Bool.false_eq_true, Bool.not_true, Bool.not_false, List.append_assoc, List.length_append, Option.isSome_some, wipeE, isNon, decide_true, decide_false]
      by_cases hin : x ∈ ns
      · rw [decide_eq_true hin, if_pos rfl]
        refine ⟨by decide, ?_⟩
        refine wpA_pure (enc := D.str) (fun o => !decide (o ∈ ns)) D.str spare (fun o ho => ⟨_, rfl, ?_, fun _ => ?_⟩) ?_
        · simp only [ev, List.getElem?_cons_zero, List.getElem?_cons_succ, List.set_cons_zero, List.set_cons_succ, List.map_cons, List.map_nil, List.length_cons, List.length_nil, List.replicate_succ, List.replicate_zero, List.cons_append, List.nil_append, Nat.reduceAdd, Nat.reduceSub, Nat.zero_add, Nat.sub_zero, Option.bind_some, true_and, and_true, outF, if_true, if_false, Bool.false_eq_true, Bool.not_true, Bool.not_false, List.append_assoc, List.length_append, Option.isSome_some, wipeE, isNon, decide_true, decide_false, o_notin_names hr]
        · simp only [ev, List.getElem?_cons_zero, List.getElem?_cons_succ, List.set_cons_zero, List.set_cons_succ, List.map_cons, List.map_nil, List.length_cons, List.length_nil, List.replicate_succ, List.replicate_zero, List.cons_append, List.nil_append, Nat.reduceAdd, Nat.reduceSub, Nat.zero_add, Nat.sub_zero, Option.bind_some, true_and, and_true, outF, if_true, if_false, Bool.false_eq_true, Bool.not_true, Bool.not_false, List.append_assoc, List.length_append, Option.isSome_some, wipeE, isNon, decide_true, decide_false]
        · obtain ⟨y, t, e⟩ := spare_left (ns := ns) (by omega)
          have hmem : y ∈ spare.filter (fun o => !decide (o ∈ ns)) := by rw [e]; exact List.mem_cons_self ..
          obtain ⟨hy1, hy2⟩ := List.mem_filter.mp hmem
          have hlen := List.length_filter_le (fun o => !decide (o ∈ ns)) spare
          have h5 : spare.length = 5 := rfl
          rw [List.length_map]
          refine ⟨by omega, ?_⟩
          rw [e, hr]
          simp only [ev, List.getElem?_cons_zero, List.getElem?_cons_succ, List.set_cons_zero, List.set_cons_succ, List.map_cons, List.map_nil, List.length_cons, List.length_nil, List.replicate_succ, List.replicate_zero, List.cons_append, List.nil_append, Nat.reduceAdd, Nat.reduceSub, Nat.zero_add, Nat.sub_zero, Option.bind_some, true_and, and_true, outF, if_true, if_false, Bool.false_eq_true, Bool.not_true, Bool.not_false, List.append_assoc, List.length_append, Option.isSome_some, wipeE, isNon, decide_true, decide_false, set_eq hl4, List.length_map]
          exact ⟨by omega, hI y (spare_ok y hy1) (by simpa using hy2)⟩
      · rw [decide_eq_false hin, if_neg (by simp), hr]
        simp only [ev, List.getElem?_cons_zero, List.getElem?_cons_succ, List.set_cons_zero, List.set_cons_succ, List.map_cons, List.map_nil, List.length_cons, List.length_nil, List.replicate_succ, List.replicate_zero, List.cons_append, List.nil_append, Nat.reduceAdd, Nat.reduceSub, Nat.zero_add, Nat.sub_zero, Option.bind_some, true_and, and_true, outF, if_true, if_false, Bool.false_eq_true, Bool.not_true, Bool.not_false, List.append_assoc, List.length_append, Option.isSome_some, wipeE, isNon, decide_true, decide_false, set_eq hl4, List.length_map]
        exact ⟨by omega, hI x hx hin⟩
    simp only [ev, List.getElem?_cons_zero, List.getElem?_cons_succ, List.set_cons_zero, List.set_cons_succ, List.map_cons, List.map_nil, List.length_cons, List.length_nil, List.replicate_succ, List.replicate_zero, List.cons_append, List.nil_append, Nat.reduceAdd, Nat.reduceSub, Nat.zero_add, Nat.sub_zero, Option.bind_some, true_and, and_true, outF, if_true, if_false, Bool.false_eq_true, Bool.not_true, Bool.not_false, List.append_assoc, List.length_append, Option.isSome_some, wipeE, isNon, decide_true, decide_false, decide_eq_true_eq]
    split
    · have hi26 : i < 26 := by omega
      simp only [ev, List.getElem?_cons_zero, List.getElem?_cons_succ, List.set_cons_zero, List.set_cons_succ, List.map_cons, List.map_nil, List.length_cons, List.length_nil, List.replicate_succ, List.replicate_zero, List.cons_append, List.nil_append, Nat.reduceAdd, Nat.reduceSub, Nat.zero_add, Nat.sub_zero, Option.bind_some, true_and, and_true, outF, if_true, if_false, Bool.false_eq_true, Bool.not_true, Bool.not_false, List.append_assoc, List.length_append, Option.isSome_some, wipeE, isNon, decide_true, decide_false, ix_letters hi26]
      rw [isTy_str]
      simp only [ev, List.getElem?_cons_zero, List.getElem?_cons_succ, List.set_cons_zero, List.set_cons_succ, List.map_cons, List.map_nil, List.length_cons, List.length_nil, List.replicate_succ, List.replicate_zero, List.cons_append, List.nil_append, Nat.reduceAdd, Nat.reduceSub, Nat.zero_add, Nat.sub_zero, Option.bind_some, true_and, and_true, outF, if_true, if_false, Bool.false_eq_true, Bool.not_true, Bool.not_false, List.append_assoc, List.length_append, Option.isSome_some, wipeE, isNon, decide_true, decide_false]
      refine draw_rule (n := 6) h3.refl_of (by omega) (by omega) fun j M4 hj h4 => ?_
      have h14 := h13.trans h4
      simp only [ev, List.getElem?_cons_zero, List.getElem?_cons_succ, List.set_cons_zero, List.set_cons_succ, List.map_cons, List.map_nil, List.length_cons, List.length_nil, List.replicate_succ, List.replicate_zero, List.cons_append, List.nil_append, Nat.reduceAdd, Nat.reduceSub, Nat.zero_add, Nat.sub_zero, Option.bind_some, true_and, and_true, outF, if_true, if_false, Bool.false_eq_true, Bool.not_true, Bool.not_false, List.append_assoc, List.length_append, Option.isSome_some, wipeE, isNon, decide_true, decide_false, rngD_nat]
      refine ⟨⟨by omega, by omega⟩, ?_⟩
      refine wpA_rel (enc := fun i : Nat => D.int (i : Int)) (M4 ++ [Ob.lst (List.map D.str (ws.eraseIdx k)), Ob.lst (List.map D.str ns)]) (fun _ y => ∃ c ∈ letters.cps.toList, y = .str (one c)) _ _ _ (h4.refl_of.append _) (fun x hx M5 h5 => ⟨_, rfl, ?_⟩) ?_
      · simp only [ev, List.getElem?_cons_zero, List.getElem?_cons_succ, List.set_cons_zero, List.set_cons_succ, List.map_cons, List.map_nil, List.length_cons, List.length_nil, List.replicate_succ, List.replicate_zero, List.cons_append, List.nil_append, Nat.reduceAdd, Nat.reduceSub, Nat.zero_add, Nat.sub_zero, Option.bind_some, true_and, and_true, outF, if_true, if_false, Bool.false_eq_true, Bool.not_true, Bool.not_false, List.append_assoc, List.length_append, Option.isSome_some, wipeE, isNon, decide_true, decide_false]
        refine draw_rule0 (n := 26) h5.refl_of (by omega) (by omega) fun c M6 hc h6 => ?_
        simp only [ev, List.getElem?_cons_zero, List.getElem?_cons_succ, List.set_cons_zero, List.set_cons_succ, List.map_cons, List.map_nil, List.length_cons, List.length_nil, List.replicate_succ, List.replicate_zero, List.cons_append, List.nil_append, Nat.reduceAdd, Nat.reduceSub, Nat.zero_add, Nat.sub_zero, Option.bind_some, true_and, and_true, outF, if_true, if_false, Bool.false_eq_true, Bool.not_true, Bool.not_false, List.append_assoc, List.length_append, Option.isSome_some, wipeE, isNon, decide_true, decide_false, ix_letters hc]
        exact ⟨h5.trans h6, _, List.getElem_mem _, rfl⟩
      · intro ys M5 h5 hlen hys
        obtain ⟨M6, rfl, h6⟩ := Pm.split h4.refl_of h5
        have hj2 : ys.length = j := by
          have := congrArg List.length hlen
          simpa using this.symm
        obtain ⟨zs, hz1, hz2⟩ : ∃ zs : List Str, ys.map (·.1) = zs.map D.str ∧ ∀ z ∈ zs, ∃ c ∈ letters.cps.toList, z = one c := by
          clear hlen h5 h6 hj2
          induction ys with
          | nil => exact ⟨[], rfl, by intro z hz; cases hz⟩
          | cons y ys ih =>
            obtain ⟨zs, a, b⟩ := ih fun p hp => hys p (List.mem_cons_of_mem _ hp)
            obtain ⟨c, hc, e⟩ := hys y (List.mem_cons_self ..)
            refine ⟨one c :: zs, by rw [List.map_cons, List.map_cons, a, e], ?_⟩
            intro z hz
            rcases List.mem_cons.mp hz with rfl | hz
            · exact ⟨c, hc, rfl⟩
            · exact b z hz
        have hzl : zs.length = j := by
          have := congrArg List.length hz1
          rw [List.length_map, List.length_map] at this
          omega
        have hnm := nm_join hi26 zs (by omega) hz2
        have hzs : (zs.map fun z => z.length) = zs.map fun _ => 1 := List.map_congr_left fun z hz => by
          obtain ⟨c, _, rfl⟩ := hz2 z hz
          rfl
        have hsum : (zs.map fun z => z.length).sum = j := by
          rw [hzs, ← hzl]
          clear hzs hnm hzl hz1 hz2
          induction zs with
          | nil => rfl
          | cons z zs ih => simp only [List.map_cons, List.sum_cons, ih, List.length_cons]; omega
        have hjl : (Str.join "" zs).length = j := by
          show Array.size _ = _
          rw [← Array.length_toList, join_cps, List.length_flatten, List.map_map]
          exact hsum
        rw [hz1]
        refine ⟨by rw [List.length_map]; omega, ?_⟩
        have h0 : (Str.ofString "").length = 0 := by decide +kernel
        simp only [ev, List.getElem?_cons_zero, List.getElem?_cons_succ, List.set_cons_zero, List.set_cons_succ, List.map_cons, List.map_nil, List.length_cons, List.length_nil, List.replicate_succ, List.replicate_zero, List.cons_append, List.nil_append, Nat.reduceAdd, Nat.reduceSub, Nat.zero_add, Nat.sub_zero, Option.bind_some, true_and, and_true, outF, if_true, if_false, Bool.false_eq_true, Bool.not_true, Bool.not_false, List.append_assoc, List.length_append, Option.isSome_some, wipeE, isNon, decide_true, decide_false, m_join]
        refine ⟨by rw [hsum, h0]; omega, ?_⟩
        refine ⟨by rw [hjl]; show 1 + j ≤ sizeLine; omega, ?_⟩
        exact fin _ M6 hnm (h14.trans h6)
    · exact fin x0 M3 hwn h13
  · rintro e M' ⟨M1, ws, ns, e5, e6, e7, e8, h1, rfl, hws, hwk, hns, hnd, hnk, rfl⟩
    simp only [ev, List.getElem?_cons_zero, List.getElem?_cons_succ, List.set_cons_zero, List.set_cons_succ, List.map_cons, List.map_nil, List.length_cons, List.length_nil, List.replicate_succ, List.replicate_zero, List.cons_append, List.nil_append, Nat.reduceAdd, Nat.reduceSub, Nat.zero_add, Nat.sub_zero, Option.bind_some, true_and, and_true, outF, if_true, if_false, Bool.false_eq_true, Bool.not_true, Bool.not_false, List.append_assoc, List.length_append, Option.isSome_some, wipeE, isNon, decide_true, decide_false]
    rw [retF_pmL h1 rfl (belows_map fun _ _ => rfl)]
    simp only [ev, List.getElem?_cons_zero, List.getElem?_cons_succ, List.set_cons_zero, List.set_cons_succ, List.map_cons, List.map_nil, List.length_cons, List.length_nil, List.replicate_succ, List.replicate_zero, List.cons_append, List.nil_append, Nat.reduceAdd, Nat.reduceSub, Nat.zero_add, Nat.sub_zero, Option.bind_some, true_and, and_true, outF, if_true, if_false, Bool.false_eq_true, Bool.not_true, Bool.not_false, List.append_assoc, List.length_append, Option.isSome_some, wipeE, isNon, decide_true, decide_false]
    exact ⟨h1, ns, rfl, hns, hnd, hnk⟩
end K40

end

section
set_option Elab.async false
set_option linter.all false
set_option maxRecDepth 100000
/-! K40P12: rules and nets drawn -/
namespace K40
open PySem PySem.Spec L2 DV
def ActV (cs : List Ch) (p : Nat) : Act → Prop
  | .idle => True
  | .send c x => ∃ k, cs[c]? = some k ∧ k.g = p ∧ x < 10
  | .take c x => ∃ k, cs[c]? = some k ∧ k.t = p ∧ x < 10
structure RuV (ps : List (Str × Nat)) (cs : List Ch) (r : Ru) : Prop where
  p : ∃ q, ps[r.p]? = some q ∧ r.s < q.2 ∧ r.th < q.2
  a : ActV cs r.p r.a
theorem picked_ruleL {α : Type} {enc : α → D} {xs : List α} {M l : Sto} {Q : D → Sto → Prop} (hM : Pm M M) (h0 : 0 < xs.length) (h1 : xs.length < 1000000) (hb : ∀ x ∈ xs, below 0 (enc x) = true) (h : ∀ x ∈ xs, ∀ M1, Pm M M1 → Q (enc x) (M1 ++ l)) : wpF F_law_picked [.ref 0, .lst (xs.map enc)] (M ++ l) Q := by
  refine picked_rule (hM.append l) h0 h1 hb fun x hx M1 hp => ?_
  obtain ⟨M2, rfl, h2⟩ := Pm.split hM hp
  exact h x hx M2 h2
def ie (n : Nat) : D := .int (n : Int)
theorem rng_ie (n : Nat) : rngD 0 (n : Int) = (List.range n).map ie := rngD_nat
theorem tok_ok (k : Nat) (hk : k < 4) : ∃ t : Nat, t < 10 ∧ ([D.int 0, D.int 0, D.int 1, D.int 9] : List D)[k]? = some (.int (t : Nat)) := by
  match k, hk with
  | 0, _ => exact ⟨0, by omega, rfl⟩
  | 1, _ => exact ⟨0, by omega, rfl⟩
  | 2, _ => exact ⟨1, by omega, rfl⟩
  | 3, _ => exact ⟨9, by omega, rfl⟩
theorem ps_at {ps : List (Str × Nat)} {p : Nat} {q : Str × Nat} (h : ps[p]? = some q) : (ps.map encP)[p]? = some (encP q) := by rw [List.getElem?_map, h]; rfl
theorem below_R (r : Ru) : below 0 (encR r) = true := by
  cases r with
  | mk p s a th => cases a <;> rfl
theorem rule_ok {ps : List (Str × Nat)} {cs : List Ch} {p s k : Nat} {q : Str × Nat} {M l : Sto} (hq : ps[p]? = some q) (hq1 : 1 ≤ q.2) (hq8 : q.2 ≤ 8) (hs : s < q.2) (hc : cs.length ≤ 8) (hM : Pm M M) (hk : asR k l = some (cs.map encC)) :
    wpF F_law_rule [.ref 0, .tup (ps.map encP), .ref (M.length + k), .int (p : Int), .int (s : Int)] (M ++ l) fun v M' => ∃ M1, Pm M M1 ∧ M' = M1 ++ l ∧ ∃ r, v = encR r ∧ RuV ps cs r := by
  unfold F_law_rule B_law_rule
  have hS : sizeLine = 16777216 := rfl
  have h3 : 3 ≤ sizeLine := by decide
  have h4 : 4 ≤ sizeLine := by decide
  have h1' : 1 ≤ sizeLine := by decide
  simp only [ev, List.getElem?_cons_zero, List.getElem?_cons_succ, List.set_cons_zero, List.set_cons_succ, List.map_cons, List.map_nil, List.length_cons, List.length_nil, List.replicate_succ, List.replicate_zero, List.cons_append, List.nil_append, Nat.reduceAdd, Nat.reduceSub, Nat.zero_add, Nat.sub_zero, Option.bind_some, true_and, and_true, outF, if_true, if_false, Bool.false_eq_true, Bool.not_true, Bool.not_false, List.append_assoc, List.length_append, Option.isSome_some, wipeE, isNon, decide_true, decide_false, ps_at hq, encP]
  refine draw_rule hM (by omega) (by omega) fun th M1 hth h1 => ?_
  have hl1 := h1.len
  simp only [ev, List.getElem?_cons_zero, List.getElem?_cons_succ, List.set_cons_zero, List.set_cons_succ, List.map_cons, List.map_nil, List.length_cons, List.length_nil, List.replicate_succ, List.replicate_zero, List.cons_append, List.nil_append, Nat.reduceAdd, Nat.reduceSub, Nat.zero_add, Nat.sub_zero, Option.bind_some, true_and, and_true, outF, if_true, if_false, Bool.false_eq_true, Bool.not_true, Bool.not_false, List.append_assoc, List.length_append, Option.isSome_some, wipeE, isNon, decide_true, decide_false, asR_eq hl1, hk, List.length_map, rng_ie]
  refine ⟨⟨by omega, by omega⟩, ?_⟩
  refine wpA_pure (fun c => match cs[c]? with | some k => decide (k.g = p) | none => false) ie (List.range cs.length) (fun c hcr => ⟨_, rfl, ?_, fun _ => ?_⟩) ?_
  · have hlt : c < cs.length := List.mem_range.mp hcr
    have hcc : (cs.map encC)[c]? = some (encC cs[c]) := by rw [List.getElem?_map, List.getElem?_eq_getElem hlt]; rfl
    have hc2 : cs[c]? = some cs[c] := List.getElem?_eq_getElem hlt
    simp only [ev, List.getElem?_cons_zero, List.getElem?_cons_succ, List.set_cons_zero, List.set_cons_succ, List.map_cons, List.map_nil, List.length_cons, List.length_nil, List.replicate_succ, List.replicate_zero, List.cons_append, List.nil_append, Nat.reduceAdd, Nat.reduceSub, Nat.zero_add, Nat.sub_zero, Option.bind_some, true_and, and_true, outF, if_true, if_false, Bool.false_eq_true, Bool.not_true, Bool.not_false, List.append_assoc, List.length_append, Option.isSome_some, wipeE, isNon, decide_true, decide_false, ie, asR_eq hl1, hk, hcc, encC, Int.natCast_inj, hc2]
  · simp only [ev, List.getElem?_cons_zero, List.getElem?_cons_succ, List.set_cons_zero, List.set_cons_succ, List.map_cons, List.map_nil, List.length_cons, List.length_nil, List.replicate_succ, List.replicate_zero, List.cons_append, List.nil_append, Nat.reduceAdd, Nat.reduceSub, Nat.zero_add, Nat.sub_zero, Option.bind_some, true_and, and_true, outF, if_true, if_false, Bool.false_eq_true, Bool.not_true, Bool.not_false, List.append_assoc, List.length_append, Option.isSome_some, wipeE, isNon, decide_true, decide_false]
  · have hf1 := List.length_filter_le (fun c => match cs[c]? with | some k => decide (k.g = p) | none => false) (List.range cs.length)
    rw [List.length_range] at hf1
    have hg1 : ∀ c ∈ (List.range cs.length).filter (fun c => match cs[c]? with | some k => decide (k.g = p) | none => false), ∃ k, cs[c]? = some k ∧ k.g = p := by
      intro c hc
      have hc := (List.mem_filter.mp hc).2
      cases e : cs[c]? with
      | none => rw [e] at hc; cases hc
      | some k => rw [e] at hc; exact ⟨k, rfl, by simpa using hc⟩
    generalize (List.range cs.length).filter (fun c => match cs[c]? with | some k => decide (k.g = p) | none => false) = given at hf1 hg1
    simp only [ev, List.getElem?_cons_zero, List.getElem?_cons_succ, List.set_cons_zero, List.set_cons_succ, List.map_cons, List.map_nil, List.length_cons, List.length_nil, List.replicate_succ, List.replicate_zero, List.cons_append, List.nil_append, Nat.reduceAdd, Nat.reduceSub, Nat.zero_add, Nat.sub_zero, Option.bind_some, true_and, and_true, outF, if_true, if_false, Bool.false_eq_true, Bool.not_true, Bool.not_false, List.append_assoc, List.length_append, Option.isSome_some, wipeE, isNon, decide_true, decide_false, asR_eq hl1, hk, List.length_map, rng_ie]
    refine ⟨by omega, ⟨by omega, by omega⟩, ?_⟩
    refine wpA_pure (fun c => match cs[c]? with | some k => decide (k.t = p) | none => false) ie (List.range cs.length) (fun c hcr => ⟨_, rfl, ?_, fun _ => ?_⟩) ?_
    · have hlt : c < cs.length := List.mem_range.mp hcr
      have hcc : (cs.map encC)[c]? = some (encC cs[c]) := by rw [List.getElem?_map, List.getElem?_eq_getElem hlt]; rfl
      have hc2 : cs[c]? = some cs[c] := List.getElem?_eq_getElem hlt
      simp only [ev, List.getElem?_cons_zero, List.getElem?_cons_succ, List.set_cons_zero, List.set_cons_succ, List.map_cons, List.map_nil, List.length_cons, List.length_nil, List.replicate_succ, List.replicate_zero, List.cons_append, List.nil_append, Nat.reduceAdd, Nat.reduceSub, Nat.zero_add, Nat.sub_zero, Option.bind_some, true_and, and_true, outF, if_true, if_false, Bool.false_eq_true, Bool.not_true, Bool.not_false, List.append_assoc, List.length_append, Option.isSome_some, wipeE, isNon, decide_true, decide_false, ie, asR_eq hl1, hk, hcc, encC, Int.natCast_inj, hc2]
    · simp only [ev, List.getElem?_cons_zero, List.getElem?_cons_succ, List.set_cons_zero, List.set_cons_succ, List.map_cons, List.map_nil, List.length_cons, List.length_nil, List.replicate_succ, List.replicate_zero, List.cons_append, List.nil_append, Nat.reduceAdd, Nat.reduceSub, Nat.zero_add, Nat.sub_zero, Option.bind_some, true_and, and_true, outF, if_true, if_false, Bool.false_eq_true, Bool.not_true, Bool.not_false, List.append_assoc, List.length_append, Option.isSome_some, wipeE, isNon, decide_true, decide_false]
    · have hf2 := List.length_filter_le (fun c => match cs[c]? with | some k => decide (k.t = p) | none => false) (List.range cs.length)
      rw [List.length_range] at hf2
      have hg2 : ∀ c ∈ (List.range cs.length).filter (fun c => match cs[c]? with | some k => decide (k.t = p) | none => false), ∃ k, cs[c]? = some k ∧ k.t = p := by
        intro c hc
        have hc := (List.mem_filter.mp hc).2
        cases e : cs[c]? with
        | none => rw [e] at hc; cases hc
        | some k => rw [e] at hc; exact ⟨k, rfl, by simpa using hc⟩
      generalize (List.range cs.length).filter (fun c => match cs[c]? with | some k => decide (k.t = p) | none => false) = taken at hf2 hg2
      simp only [ev, List.getElem?_cons_zero, List.getElem?_cons_succ, List.set_cons_zero, List.set_cons_succ, List.map_cons, List.map_nil, List.length_cons, List.length_nil, List.replicate_succ, List.replicate_zero, List.cons_append, List.nil_append, Nat.reduceAdd, Nat.reduceSub, Nat.zero_add, Nat.sub_zero, Option.bind_some, true_and, and_true, outF, if_true, if_false, Bool.false_eq_true, Bool.not_true, Bool.not_false, List.append_assoc, List.length_append, Option.isSome_some, wipeE, isNon, decide_true, decide_false, List.length_map]
      refine ⟨by omega, ?_⟩
      refine draw_rule (n := 7) h1.refl_of (by omega) (by omega) fun kind M2 hkind h2 => ?_
      have h12 := h1.trans h2
      simp only [ev, List.getElem?_cons_zero, List.getElem?_cons_succ, List.set_cons_zero, List.set_cons_succ, List.map_cons, List.map_nil, List.length_cons, List.length_nil, List.replicate_succ, List.replicate_zero, List.cons_append, List.nil_append, Nat.reduceAdd, Nat.reduceSub, Nat.zero_add, Nat.sub_zero, Option.bind_some, true_and, and_true, outF, if_true, if_false, Bool.false_eq_true, Bool.not_true, Bool.not_false, List.append_assoc, List.length_append, Option.isSome_some, wipeE, isNon, decide_true, decide_false]
      refine ⟨by decide, ?_⟩
      refine draw_rule (n := 4) h2.refl_of (by omega) (by omega) fun tk M3 htk h3' => ?_
      have h13 := h12.trans h3'
      obtain ⟨t, ht10, ht⟩ := tok_ok tk htk
      simp only [ev, List.getElem?_cons_zero, List.getElem?_cons_succ, List.set_cons_zero, List.set_cons_succ, List.map_cons, List.map_nil, List.length_cons, List.length_nil, List.replicate_succ, List.replicate_zero, List.cons_append, List.nil_append, Nat.reduceAdd, Nat.reduceSub, Nat.zero_add, Nat.sub_zero, Option.bind_some, true_and, and_true, outF, if_true, if_false, Bool.false_eq_true, Bool.not_true, Bool.not_false, List.append_assoc, List.length_append, Option.isSome_some, wipeE, isNon, decide_true, decide_false, ht, decide_eq_true_eq, List.length_map]
      have idle : wpO (retF (M ++ l) (D.tup [D.int (p : Int), D.int (s : Int), D.tup [D.str "do"], D.int (th : Int)]) (M3 ++ l)) fun z => ∃ M1, Pm M M1 ∧ z.2 = M1 ++ l ∧ ∃ r, z.1 = encR r ∧ RuV ps cs r := by
        rw [ret_pm (h13.append l) rfl]
        exact ⟨M3, h13, rfl, ⟨p, s, .idle, th⟩, rfl, ⟨q, hq, hs, hth⟩, trivial⟩
      have snd : 0 < (given.length : Int) → wpF F_law_picked [.ref 0, .lst (given.map ie)] (M3 ++ l) fun d M4 => wpO (retF (M ++ l) (D.tup [D.int (p : Int), D.int (s : Int), D.tup [D.str "send", d, D.int (t : Int)], D.int (th : Int)]) M4) fun z => ∃ M1, Pm M M1 ∧ z.2 = M1 ++ l ∧ ∃ r, z.1 = encR r ∧ RuV ps cs r := by
        intro hpos
        refine picked_ruleL h3'.refl_of (by omega) (by omega) (fun _ _ => rfl) fun c hcg M4 h4 => ?_
        obtain ⟨kk, hk1, hk2⟩ := hg1 c hcg
        rw [ret_pm ((h13.trans h4).append l) rfl]
        exact ⟨M4, h13.trans h4, rfl, ⟨p, s, .send c t, th⟩, rfl, ⟨q, hq, hs, hth⟩, kk, hk1, hk2, ht10⟩
      have tak : 0 < (taken.length : Int) → wpF F_law_picked [.ref 0, .lst (taken.map ie)] (M3 ++ l) fun d M4 => wpO (retF (M ++ l) (D.tup [D.int (p : Int), D.int (s : Int), D.tup [D.str "take", d, D.int (t : Int)], D.int (th : Int)]) M4) fun z => ∃ M1, Pm M M1 ∧ z.2 = M1 ++ l ∧ ∃ r, z.1 = encR r ∧ RuV ps cs r := by
        intro hpos
        refine picked_ruleL h3'.refl_of (by omega) (by omega) (fun _ _ => rfl) fun c hcg M4 h4 => ?_
        obtain ⟨kk, hk1, hk2⟩ := hg2 c hcg
        rw [ret_pm ((h13.trans h4).append l) rfl]
        exact ⟨M4, h13.trans h4, rfl, ⟨p, s, .take c t, th⟩, rfl, ⟨q, hq, hs, hth⟩, kk, hk1, hk2, ht10⟩
      split
      · split
        · exact (snd ‹_›).imp fun _ _ z => ⟨h3, h4, z⟩
        · split
          · split
            · exact (tak ‹_›).imp fun _ _ z => ⟨h3, h4, z⟩
            · exact ⟨h1', h4, idle⟩
          · exact ⟨h1', h4, idle⟩
      · split
        · split
          · exact (tak ‹_›).imp fun _ _ z => ⟨h3, h4, z⟩
          · exact ⟨h1', h4, idle⟩
        · exact ⟨h1', h4, idle⟩
theorem rel_pick {α β : Type} {f : α → β → D} {P : α → β → Prop} : ∀ ys : List (D × α), (∀ p ∈ ys, ∃ b, p.1 = f p.2 b ∧ P p.2 b) → ∃ zs : List (α × β), ys.map (·.1) = zs.map (fun z => f z.1 z.2) ∧ ys.map (·.2) = zs.map (·.1) ∧ ∀ z ∈ zs, P z.1 z.2
  | [], _ => ⟨[], rfl, rfl, by intro z hz; cases hz⟩
  | y :: ys, h => by
    obtain ⟨zs, a, b, c⟩ := rel_pick ys fun p hp => h p (List.mem_cons_of_mem _ hp)
    obtain ⟨b0, e, hb⟩ := h y (List.mem_cons_self ..)
    refine ⟨(y.2, b0) :: zs, by rw [List.map_cons, List.map_cons, a, e], by rw [List.map_cons, List.map_cons, b], ?_⟩
    intro z hz
    rcases List.mem_cons.mp hz with rfl | hz
    · exact hb
    · exact c z hz
structure NetV (n : Net) : Prop where
  np1 : 1 ≤ n.ps.length
  np : n.ps.length ≤ 5
  pok : ∀ p ∈ n.ps, NmOk p.1 ∧ 1 ≤ p.2 ∧ p.2 ≤ 8
  pnd : (n.ps.map (·.1)).Nodup
  nc : n.cs.length ≤ 8
  cok : ∀ c ∈ n.cs, NmOk c.nm ∧ c.g < n.ps.length ∧ c.t < n.ps.length ∧ c.g ≠ c.t
  cnd : (n.cs.map (·.nm)).Nodup
  nr : n.rs.length ≤ 40
  rok : ∀ r ∈ n.rs, RuV n.ps n.cs r
theorem NetV.ok {n : Net} (h : NetV n) : NetOk n := by
  refine ⟨fun r hr => ?_, h.np, h.nc, h.nr⟩
  have hv := h.rok r hr
  obtain ⟨q, hq, _⟩ := hv.p
  refine ⟨?_, ?_⟩
  · rcases Nat.lt_or_ge r.p n.ps.length with z | z
    · exact z
    · rw [List.getElem?_eq_none z] at hq; cases hq
  · have ha := hv.a
    cases e : r.a with
    | idle => trivial
    | send c x => rw [e] at ha; obtain ⟨k, h1, h2, h3⟩ := ha; exact ⟨⟨k, h1, h2⟩, h3⟩
    | take c x => rw [e] at ha; obtain ⟨k, h1, h2, h3⟩ := ha; exact ⟨⟨k, h1, h2⟩, h3⟩
theorem taker_ok {m g k : Nat} (hm : 2 ≤ m) (hg : g < m) (hk : k < m - 1) : ∃ t : Nat, ((g : Int) + 1 + (k : Int)) % (m : Int) = (t : Int) ∧ t < m ∧ g ≠ t := by
  refine ⟨(g + 1 + k) % m, ?_, Nat.mod_lt _ (by omega), ?_⟩
  · have e : ((g : Int) + 1 + (k : Int)) = ((g + 1 + k : Nat) : Int) := by omega
    rw [e]; exact (Int.natCast_emod _ _).symm
  · by_cases h : g + 1 + k < m
    · rw [Nat.mod_eq_of_lt h]; omega
    · rw [Nat.mod_eq_sub_mod (by omega), Nat.mod_eq_of_lt (by omega)]; omega
theorem many_ok (k : Nat) (hk : k < 6) : ∃ m : Nat, 1 ≤ m ∧ m ≤ 3 ∧ ([D.int 2, D.int 2, D.int 2, D.int 3, D.int 3, D.int 1] : List D)[k]? = some (.int (m : Nat)) := by
  match k, hk with
  | 0, _ => exact ⟨2, by omega, by omega, rfl⟩
  | 1, _ => exact ⟨2, by omega, by omega, rfl⟩
  | 2, _ => exact ⟨2, by omega, by omega, rfl⟩
  | 3, _ => exact ⟨3, by omega, by omega, rfl⟩
  | 4, _ => exact ⟨3, by omega, by omega, rfl⟩
  | 5, _ => exact ⟨1, by omega, by omega, rfl⟩
theorem chs_ok (k : Nat) (hk : k < 6) : ∃ m : Nat, m ≤ 4 ∧ ([D.int 1, D.int 2, D.int 3, D.int 4, D.int 2, D.int 0] : List D)[k]? = some (.int (m : Nat)) := by
  match k, hk with
  | 0, _ => exact ⟨1, by omega, rfl⟩
  | 1, _ => exact ⟨2, by omega, rfl⟩
  | 2, _ => exact ⟨3, by omega, rfl⟩
  | 3, _ => exact ⟨4, by omega, rfl⟩
  | 4, _ => exact ⟨2, by omega, rfl⟩
  | 5, _ => exact ⟨0, by omega, rfl⟩
def kindsD : D := .lst [.str "order", .str "loose", .str "order lossy", .str "loose lossy"]
def ChI (M : Sto) (ps : List (Str × Nat)) (m : Nat) (ns : List Str) (xs : List Str) (e : DV.Env) (M' : Sto) : Prop := ∃ (M1 : Sto) (cs : List Ch) (e6 e7 e8 e9 e10 e11 e12 : Option D), Pm M M1 ∧ M' = M1 ++ [.lst (cs.map encC)] ∧ cs.map (·.nm) ++ xs = ns ∧ (∀ c ∈ cs, NmOk c.nm ∧ c.g < m ∧ c.t < m ∧ c.g ≠ c.t) ∧
    e = [some (.ref 0), some (.int 3), some (.int (m : Int)), some (.tup (ps.map encP)), some (.ref M.length), some kindsD, e6, e7, e8, e9, e10, e11, e12]
def RuI (M : Sto) (ps : List (Str × Nat)) (cs : List Ch) (m b : Nat) (e8 : Option D) (e : DV.Env) (M' : Sto) : Prop := ∃ (M1 : Sto) (rs : List Ru) (e6 e9 e10 e11 e12 : Option D), Pm M M1 ∧ M' = M1 ++ [.lst (cs.map encC), .lst (rs.map encR)] ∧ (∀ r ∈ rs, RuV ps cs r) ∧ rs.length ≤ b ∧
    e = [some (.ref 0), some (.int 3), some (.int (m : Int)), some (.tup (ps.map encP)), some (.ref M.length), some kindsD, e6, some (.ref (M.length + 1)), e8, e9, e10, e11, e12]
theorem rule_rule {ps : List (Str × Nat)} {cs : List Ch} {p s : Nat} {q : Str × Nat} {M M1 t : Sto} {Q : D → Sto → Prop} (hl : M1.length = M.length) (hq : ps[p]? = some q) (hq1 : 1 ≤ q.2) (hq8 : q.2 ≤ 8) (hs : s < q.2) (hc : cs.length ≤ 8) (hM : Pm M1 M1)
    (h : ∀ M2 r, Pm M1 M2 → RuV ps cs r → Q (encR r) (M2 ++ (.lst (cs.map encC) :: t))) : wpF F_law_rule [.ref 0, .tup (ps.map encP), .ref M.length, .int (p : Int), .int (s : Int)] (M1 ++ (.lst (cs.map encC) :: t)) Q := by
  rw [← hl]
  refine (rule_ok (k := 0) (l := .lst (cs.map encC) :: t) hq hq1 hq8 hs hc hM rfl).imp ?_
  rintro v M' ⟨M2, h2, rfl, r, rfl, hr⟩
  exact h M2 r h2 hr
theorem net_ok (M : Sto) (hM : Pm M M) : wpF F_law_net [.ref 0, .int 3] M fun v M' => Pm M M' ∧ ∃ n, v = encN n ∧ NetV n := by
  unfold F_law_net B_law_net
  have hS : sizeLine = 16777216 := rfl
  simp only [ev, List.getElem?_cons_zero, List.getElem?_cons_succ, List.set_cons_zero, List.set_cons_succ, List.map_cons, List.map_nil, List.length_cons, List.length_nil, List.replicate_succ, List.replicate_zero, List.cons_append, List.nil_append, Nat.reduceAdd, Nat.reduceSub, Nat.zero_add, Nat.sub_zero, Option.bind_some, true_and, and_true, outF, if_true, if_false, Bool.false_eq_true, Bool.not_true, Bool.not_false, List.append_assoc, List.length_append, Option.isSome_some, wipeE, isNon, decide_true, decide_false]
  refine ⟨by decide, ?_⟩
  refine draw_rule0 (n := 6) hM (by omega) (by omega) fun k1 M1 hk1 h1 => ?_
  obtain ⟨m, hm1, hm3, hme⟩ := many_ok k1 hk1
  simp only [ev, List.getElem?_cons_zero, List.getElem?_cons_succ, List.set_cons_zero, List.set_cons_succ, List.map_cons, List.map_nil, List.length_cons, List.length_nil, List.replicate_succ, List.replicate_zero, List.cons_append, List.nil_append, Nat.reduceAdd, Nat.reduceSub, Nat.zero_add, Nat.sub_zero, Option.bind_some, true_and, and_true, outF, if_true, if_false, Bool.false_eq_true, Bool.not_true, Bool.not_false, List.append_assoc, List.length_append, Option.isSome_some, wipeE, isNon, decide_true, decide_false, hme]
  refine (names_ok m (by omega) M1 h1.refl_of).imp ?_
  rintro v M2 ⟨h2, ns, rfl, hns, hnd, hnk⟩
  have h12 := h1.trans h2
  simp only [ev, List.getElem?_cons_zero, List.getElem?_cons_succ, List.set_cons_zero, List.set_cons_succ, List.map_cons, List.map_nil, List.length_cons, List.length_nil, List.replicate_succ, List.replicate_zero, List.cons_append, List.nil_append, Nat.reduceAdd, Nat.reduceSub, Nat.zero_add, Nat.sub_zero, Option.bind_some, true_and, and_true, outF, if_true, if_false, Bool.false_eq_true, Bool.not_true, Bool.not_false, List.append_assoc, List.length_append, Option.isSome_some, wipeE, isNon, decide_true, decide_false]
  refine wpA_rel (enc := D.str) M2 (fun x y => ∃ s : Nat, y = .tup [.str x, .int (s : Int)] ∧ (1 ≤ s ∧ s ≤ 8)) ns _ _ h2.refl_of (fun x hx M3 h3 => ⟨_, rfl, ?_⟩) ?_
  · simp only [ev, List.getElem?_cons_zero, List.getElem?_cons_succ, List.set_cons_zero, List.set_cons_succ, List.map_cons, List.map_nil, List.length_cons, List.length_nil, List.replicate_succ, List.replicate_zero, List.cons_append, List.nil_append, Nat.reduceAdd, Nat.reduceSub, Nat.zero_add, Nat.sub_zero, Option.bind_some, true_and, and_true, outF, if_true, if_false, Bool.false_eq_true, Bool.not_true, Bool.not_false, List.append_assoc, List.length_append, Option.isSome_some, wipeE, isNon, decide_true, decide_false]
    refine draw_rule0 (n := 3) h3.refl_of (by omega) (by omega) fun s M4 hs h4 => ?_
    simp only [ev, List.getElem?_cons_zero, List.getElem?_cons_succ, List.set_cons_zero, List.set_cons_succ, List.map_cons, List.map_nil, List.length_cons, List.length_nil, List.replicate_succ, List.replicate_zero, List.cons_append, List.nil_append, Nat.reduceAdd, Nat.reduceSub, Nat.zero_add, Nat.sub_zero, Option.bind_some, true_and, and_true, outF, if_true, if_false, Bool.false_eq_true, Bool.not_true, Bool.not_false, List.append_assoc, List.length_append, Option.isSome_some, wipeE, isNon, decide_true, decide_false]
    exact ⟨by decide, h3.trans h4, s + 1, by rw [show ((1 : Int) + (s : Int)) = ((s + 1 : Nat) : Int) by omega], by omega, by omega⟩
  · intro ys M3 h3 hys hyr
    obtain ⟨ps, hp1, hp2, hp3⟩ := rel_pick (f := fun x (s : Nat) => D.tup [.str x, .int (s : Int)]) (P := fun _ s => 1 ≤ s ∧ s ≤ 8) ys hyr
    have hpe : ys.map (·.1) = ps.map encP := hp1
    have hpn : ps.map (·.1) = ns := by rw [← hp2, ← hys]
    have hpl : ps.length = m := by have := congrArg List.length hpn; rw [List.length_map] at this; omega
    have h13 := h12.trans h3
    rw [hpe]
    simp only [ev, List.getElem?_cons_zero, List.getElem?_cons_succ, List.set_cons_zero, List.set_cons_succ, List.map_cons, List.map_nil, List.length_cons, List.length_nil, List.replicate_succ, List.replicate_zero, List.cons_append, List.nil_append, Nat.reduceAdd, Nat.reduceSub, Nat.zero_add, Nat.sub_zero, Option.bind_some, true_and, and_true, outF, if_true, if_false, Bool.false_eq_true, Bool.not_true, Bool.not_false, List.append_assoc, List.length_append, Option.isSome_some, wipeE, isNon, decide_true, decide_false, List.length_map]
    refine ⟨by omega, by decide, by decide, by decide, ?_⟩
    rw [h13.len]
    refine draw_rule (n := 6) h3.refl_of (by omega) (by omega) fun k2 M4 hk2 h4 => ?_
    have h14 := h13.trans h4
    obtain ⟨mc, hmc, hmce⟩ := chs_ok k2 hk2
    obtain ⟨c, hc4, hcm, hce⟩ : ∃ c : Nat, c ≤ 4 ∧ (2 ≤ m ∨ c = 0) ∧ (mc : Int) * (if decide ((1 : Int) < (m : Int)) = true then 1 else 0) = (c : Int) := by
      by_cases h : 2 ≤ m
      · exact ⟨mc, hmc, .inl h, by rw [if_pos (by simp; omega)]; omega⟩
      · exact ⟨0, by omega, .inr rfl, by rw [if_neg (by simp; omega)]; omega⟩
    simp only [ev, List.getElem?_cons_zero, List.getElem?_cons_succ, List.set_cons_zero, List.set_cons_succ, List.map_cons, List.map_nil, List.length_cons, List.length_nil, List.replicate_succ, List.replicate_zero, List.cons_append, List.nil_append, Nat.reduceAdd, Nat.reduceSub, Nat.zero_add, Nat.sub_zero, Option.bind_some, true_and, and_true, outF, if_true, if_false, Bool.false_eq_true, Bool.not_true, Bool.not_false, List.append_assoc, List.length_append, Option.isSome_some, wipeE, isNon, decide_true, decide_false, hmce, hce]
    refine ⟨.inl ⟨by omega, by omega⟩, ?_⟩
    refine (names_ok c hc4 (M4 ++ [Ob.lst []] : Sto) (h4.refl_of.append _)).imp ?_
    rintro v M5 ⟨h5, cn, rfl, hcn, hcd, hck⟩
    obtain ⟨M6, rfl, h6⟩ := Pm.split h4.refl_of h5
    have h16 := h14.trans h6
    simp only [ev, List.getElem?_cons_zero, List.getElem?_cons_succ, List.set_cons_zero, List.set_cons_succ, List.map_cons, List.map_nil, List.length_cons, List.length_nil, List.replicate_succ, List.replicate_zero, List.cons_append, List.nil_append, Nat.reduceAdd, Nat.reduceSub, Nat.zero_add, Nat.sub_zero, Option.bind_some, true_and, and_true, outF, if_true, if_false, Bool.false_eq_true, Bool.not_true, Bool.not_false, List.append_assoc, List.length_append, Option.isSome_some, wipeE, isNon, decide_true, decide_false]
    refine wpS_forL (enc := D.str) (ChI M ps m cn) _ _ _ ?_ ?_ ?_
    · exact ⟨M6, [], _, _, _, _, _, _, _, h16, rfl, rfl, (by intro c hc; cases hc), rfl⟩
    · rintro x xs e M' ⟨M1, cs, e6, e7, e8, e9, e10, e11, e12, g1, rfl, gn, gc, rfl⟩
      have hl1 := g1.len
      have hm2 : 2 ≤ m := by
        rcases hcm with z | z
        · exact z
        · exfalso
          have := congrArg List.length gn
          rw [List.length_append, List.length_cons] at this
          omega
      have hcl : cs.length ≤ 4 := by
        have := congrArg List.length gn
        rw [List.length_append, List.length_map] at this
        omega
      refine ⟨_, rfl, ?_⟩
      simp only [ev, List.getElem?_cons_zero, List.getElem?_cons_succ, List.set_cons_zero, List.set_cons_succ, List.map_cons, List.map_nil, List.length_cons, List.length_nil, List.replicate_succ, List.replicate_zero, List.cons_append, List.nil_append, Nat.reduceAdd, Nat.reduceSub, Nat.zero_add, Nat.sub_zero, Option.bind_some, true_and, and_true, outF, if_true, if_false, Bool.false_eq_true, Bool.not_true, Bool.not_false, List.append_assoc, List.length_append, Option.isSome_some, wipeE, isNon, decide_true, decide_false]
      refine draw_rule (n := m) g1.refl_of (by omega) (by omega) fun g M2 hg g2 => ?_
      have g12 := g1.trans g2
      simp only [ev, List.getElem?_cons_zero, List.getElem?_cons_succ, List.set_cons_zero, List.set_cons_succ, List.map_cons, List.map_nil, List.length_cons, List.length_nil, List.replicate_succ, List.replicate_zero, List.cons_append, List.nil_append, Nat.reduceAdd, Nat.reduceSub, Nat.zero_add, Nat.sub_zero, Option.bind_some, true_and, and_true, outF, if_true, if_false, Bool.false_eq_true, Bool.not_true, Bool.not_false, List.append_assoc, List.length_append, Option.isSome_some, wipeE, isNon, decide_true, decide_false]
      rw [show ((m : Int) - 1) = ((m - 1 : Nat) : Int) by omega]
      refine draw_rule (n := m - 1) g2.refl_of (by omega) (by omega) fun k M3 hk g3 => ?_
      have g13 := g12.trans g3
      have hl3 := g13.len
      obtain ⟨t, ht, htm, htg⟩ := taker_ok hm2 hg hk
      simp only [ev, List.getElem?_cons_zero, List.getElem?_cons_succ, List.set_cons_zero, List.set_cons_succ, List.map_cons, List.map_nil, List.length_cons, List.length_nil, List.replicate_succ, List.replicate_zero, List.cons_append, List.nil_append, Nat.reduceAdd, Nat.reduceSub, Nat.zero_add, Nat.sub_zero, Option.bind_some, true_and, and_true, outF, if_true, if_false, Bool.false_eq_true, Bool.not_true, Bool.not_false, List.append_assoc, List.length_append, Option.isSome_some, wipeE, isNon, decide_true, decide_false, ht, asR_eq0 hl3]
      refine ⟨by omega, ?_⟩
      refine picked_ruleL (enc := fun k : Kd => D.str k.s) (xs := [.ord, .loo, .ordL, .looL]) g3.refl_of (by simp) (by simp) (fun _ _ => rfl) fun kd _ M4 g4 => ?_
      have g14 := g13.trans g4
      have hl4 := g14.len
      simp only [ev, List.getElem?_cons_zero, List.getElem?_cons_succ, List.set_cons_zero, List.set_cons_succ, List.map_cons, List.map_nil, List.length_cons, List.length_nil, List.replicate_succ, List.replicate_zero, List.cons_append, List.nil_append, Nat.reduceAdd, Nat.reduceSub, Nat.zero_add, Nat.sub_zero, Option.bind_some, true_and, and_true, outF, if_true, if_false, Bool.false_eq_true, Bool.not_true, Bool.not_false, List.append_assoc, List.length_append, Option.isSome_some, wipeE, isNon, decide_true, decide_false, asR_eq0 hl4, set_eq0 hl4, List.length_map]
      refine ⟨by decide, by omega, M4, cs ++ [⟨x, g, t, kd⟩], _, _, _, _, _, _, _, g14, by rw [List.map_append]; rfl, by rw [← gn]; simp, ?_, rfl⟩
      intro z hz
      rcases List.mem_append.mp hz with hz | hz
      · exact gc z hz
      · rw [List.mem_singleton.mp hz]
        exact ⟨hck x (by rw [← gn]; simp), hg, htm, htg⟩
    · rintro e M' ⟨M1, cs, e6, e7, e8, e9, e10, e11, e12, g1, rfl, gn, gc, rfl⟩
      have hl1 := g1.len
      rw [List.append_nil] at gn
      have hcl : cs.length ≤ 4 := by
        have := congrArg List.length gn
        rw [List.length_map] at this
        omega
      have hpst : ∀ p, p < m → ∃ q, ps[p]? = some q ∧ 1 ≤ q.2 ∧ q.2 ≤ 8 := by
        intro p hp
        exact ⟨ps[p]'(by omega), List.getElem?_eq_getElem (by omega), hp3 _ (List.getElem_mem _)⟩
      simp only [ev, List.getElem?_cons_zero, List.getElem?_cons_succ, List.set_cons_zero, List.set_cons_succ, List.map_cons, List.map_nil, List.length_cons, List.length_nil, List.replicate_succ, List.replicate_zero, List.cons_append, List.nil_append, Nat.reduceAdd, Nat.reduceSub, Nat.zero_add, Nat.sub_zero, Option.bind_some, true_and, and_true, outF, if_true, if_false, Bool.false_eq_true, Bool.not_true, Bool.not_false, List.append_assoc, List.length_append, Option.isSome_some, wipeE, isNon, decide_true, decide_false]
      refine ⟨by decide, ⟨by omega, by omega⟩, ?_⟩
      refine wpS_rng (n := m) (fun i e M' => ∃ e8, RuI M ps cs m (8 * i) e8 e M') ?_ ?_ ?_
      · rw [hl1]
        exact ⟨_, M1, [], _, _, _, _, _, g1, rfl, (by intro r hr; cases hr), by simp, rfl⟩
      · rintro i e M' hi ⟨e8, M1, rs, e6, e9, e10, e11, e12, g1, rfl, gr, grl, rfl⟩
        obtain ⟨q, hq, hq1, hq8⟩ := hpst i hi
        refine ⟨_, rfl, ?_⟩
        simp only [ev, List.getElem?_cons_zero, List.getElem?_cons_succ, List.set_cons_zero, List.set_cons_succ, List.map_cons, List.map_nil, List.length_cons, List.length_nil, List.replicate_succ, List.replicate_zero, List.cons_append, List.nil_append, Nat.reduceAdd, Nat.reduceSub, Nat.zero_add, Nat.sub_zero, Option.bind_some, true_and, and_true, outF, if_true, if_false, Bool.false_eq_true, Bool.not_true, Bool.not_false, List.append_assoc, List.length_append, Option.isSome_some, wipeE, isNon, decide_true, decide_false, ps_at hq, encP]
        refine ⟨⟨by omega, by omega⟩, ?_⟩
        refine wpS_rng (n := q.2) (fun j e M' => RuI M ps cs m (8 * i + j) (some (.int (i : Int))) e M') ?_ ?_ ?_
        · exact ⟨M1, rs, _, _, _, _, _, g1, rfl, gr, by omega, rfl⟩
        · rintro j e M' hj ⟨M1, rs, e6, e9, e10, e11, e12, g1, rfl, gr, grl, rfl⟩
          refine ⟨_, rfl, ?_⟩
          simp only [ev, List.getElem?_cons_zero, List.getElem?_cons_succ, List.set_cons_zero, List.set_cons_succ, List.map_cons, List.map_nil, List.length_cons, List.length_nil, List.replicate_succ, List.replicate_zero, List.cons_append, List.nil_append, Nat.reduceAdd, Nat.reduceSub, Nat.zero_add, Nat.sub_zero, Option.bind_some, true_and, and_true, outF, if_true, if_false, Bool.false_eq_true, Bool.not_true, Bool.not_false, List.append_assoc, List.length_append, Option.isSome_some, wipeE, isNon, decide_true, decide_false]
          refine draw_rule (n := 5) g1.refl_of (by omega) (by omega) fun k M2 hk g2 => ?_
          have g12 := g1.trans g2
          have hl2 := g12.len
          simp only [ev, List.getElem?_cons_zero, List.getElem?_cons_succ, List.set_cons_zero, List.set_cons_succ, List.map_cons, List.map_nil, List.length_cons, List.length_nil, List.replicate_succ, List.replicate_zero, List.cons_append, List.nil_append, Nat.reduceAdd, Nat.reduceSub, Nat.zero_add, Nat.sub_zero, Option.bind_some, true_and, and_true, outF, if_true, if_false, Bool.false_eq_true, Bool.not_true, Bool.not_false, List.append_assoc, List.length_append, Option.isSome_some, wipeE, isNon, decide_true, decide_false, decide_eq_true_eq, asR_eq hl2]
          split
          · refine rule_rule hl2 hq hq1 hq8 hj (by omega) g2.refl_of fun M3 r g3 hr => ?_
            have g13 := g12.trans g3
            have hl3 := g13.len
            simp only [ev, List.getElem?_cons_zero, List.getElem?_cons_succ, List.set_cons_zero, List.set_cons_succ, List.map_cons, List.map_nil, List.length_cons, List.length_nil, List.replicate_succ, List.replicate_zero, List.cons_append, List.nil_append, Nat.reduceAdd, Nat.reduceSub, Nat.zero_add, Nat.sub_zero, Option.bind_some, true_and, and_true, outF, if_true, if_false, Bool.false_eq_true, Bool.not_true, Bool.not_false, List.append_assoc, List.length_append, Option.isSome_some, wipeE, isNon, decide_true, decide_false, asR_eq hl3, set_eq hl3, List.length_map]
            refine ⟨by omega, M3, rs ++ [r], _, _, _, _, _, g13, by rw [List.map_append]; rfl, ?_, by simp; omega, rfl⟩
            intro z hz
            rcases List.mem_append.mp hz with hz | hz
            · exact gr z hz
            · rw [List.mem_singleton.mp hz]; exact hr
          · exact ⟨M2, rs, _, _, _, _, _, g12, rfl, gr, by omega, rfl⟩
        · rintro e M' ⟨M1, rs, e6, e9, e10, e11, e12, g1, rfl, gr, grl, rfl⟩
          exact ⟨_, M1, rs, _, _, _, _, _, g1, rfl, gr, by omega, rfl⟩
      · rintro e M' ⟨e8, M1, rs, e6, e9, e10, e11, e12, g1, rfl, gr, grl, rfl⟩
        simp only [ev, List.getElem?_cons_zero, List.getElem?_cons_succ, List.set_cons_zero, List.set_cons_succ, List.map_cons, List.map_nil, List.length_cons, List.length_nil, List.replicate_succ, List.replicate_zero, List.cons_append, List.nil_append, Nat.reduceAdd, Nat.reduceSub, Nat.zero_add, Nat.sub_zero, Option.bind_some, true_and, and_true, outF, if_true, if_false, Bool.false_eq_true, Bool.not_true, Bool.not_false, List.append_assoc, List.length_append, Option.isSome_some, wipeE, isNon, decide_true, decide_false]
        refine draw_rule (n := 8) g1.refl_of (by omega) (by omega) fun k M2 hk g2 => ?_
        have g12 := g1.trans g2
        simp only [ev, List.getElem?_cons_zero, List.getElem?_cons_succ, List.set_cons_zero, List.set_cons_succ, List.map_cons, List.map_nil, List.length_cons, List.length_nil, List.replicate_succ, List.replicate_zero, List.cons_append, List.nil_append, Nat.reduceAdd, Nat.reduceSub, Nat.zero_add, Nat.sub_zero, Option.bind_some, true_and, and_true, outF, if_true, if_false, Bool.false_eq_true, Bool.not_true, Bool.not_false, List.append_assoc, List.length_append, Option.isSome_some, wipeE, isNon, decide_true, decide_false]
        refine ⟨⟨by omega, by omega⟩, ?_⟩
        refine wpS_rng (n := k) (fun i e M' => ∃ e8, RuI M ps cs m (8 * m + i) e8 e M') ?_ ?_ ?_
        · exact ⟨_, M2, rs, _, _, _, _, _, g12, rfl, gr, by omega, rfl⟩
        · rintro i e M' hi ⟨e8, M1, rs, e6, e9, e10, e11, e12, g1, rfl, gr, grl, rfl⟩
          refine ⟨_, rfl, ?_⟩
          simp only [ev, List.getElem?_cons_zero, List.getElem?_cons_succ, List.set_cons_zero, List.set_cons_succ, List.map_cons, List.map_nil, List.length_cons, List.length_nil, List.replicate_succ, List.replicate_zero, List.cons_append, List.nil_append, Nat.reduceAdd, Nat.reduceSub, Nat.zero_add, Nat.sub_zero, Option.bind_some, true_and, and_true, outF, if_true, if_false, Bool.false_eq_true, Bool.not_true, Bool.not_false, List.append_assoc, List.length_append, Option.isSome_some, wipeE, isNon, decide_true, decide_false]
          refine draw_rule (n := m) g1.refl_of (by omega) (by omega) fun p M2 hp g2 => ?_
          have g12 := g1.trans g2
          have hl2 := g12.len
          obtain ⟨q, hq, hq1, hq8⟩ := hpst p hp
          simp only [ev, List.getElem?_cons_zero, List.getElem?_cons_succ, List.set_cons_zero, List.set_cons_succ, List.map_cons, List.map_nil, List.length_cons, List.length_nil, List.replicate_succ, List.replicate_zero, List.cons_append, List.nil_append, Nat.reduceAdd, Nat.reduceSub, Nat.zero_add, Nat.sub_zero, Option.bind_some, true_and, and_true, outF, if_true, if_false, Bool.false_eq_true, Bool.not_true, Bool.not_false, List.append_assoc, List.length_append, Option.isSome_some, wipeE, isNon, decide_true, decide_false, asR_eq hl2, ps_at hq, encP]
          refine draw_rule (n := q.2) g2.refl_of (by omega) (by omega) fun s M3 hs g3 => ?_
          have g13 := g12.trans g3
          have hl3 := g13.len
          refine rule_rule hl3 hq hq1 hq8 hs (by omega) g3.refl_of fun M4 r g4 hr => ?_
          have g14 := g13.trans g4
          have hl4 := g14.len
          simp only [ev, List.getElem?_cons_zero, List.getElem?_cons_succ, List.set_cons_zero, List.set_cons_succ, List.map_cons, List.map_nil, List.length_cons, List.length_nil, List.replicate_succ, List.replicate_zero, List.cons_append, List.nil_append, Nat.reduceAdd, Nat.reduceSub, Nat.zero_add, Nat.sub_zero, Option.bind_some, true_and, and_true, outF, if_true, if_false, Bool.false_eq_true, Bool.not_true, Bool.not_false, List.append_assoc, List.length_append, Option.isSome_some, wipeE, isNon, decide_true, decide_false, asR_eq hl4, set_eq hl4, List.length_map]
          refine ⟨by omega, _, M4, rs ++ [r], _, _, _, _, _, g14, by rw [List.map_append]; rfl, ?_, by simp; omega, rfl⟩
          intro z hz
          rcases List.mem_append.mp hz with hz | hz
          · exact gr z hz
          · rw [List.mem_singleton.mp hz]; exact hr
        · rintro e M' ⟨e8, M1, rs, e6, e9, e10, e11, e12, g1, rfl, gr, grl, rfl⟩
          have hl1 := g1.len
          simp only [ev, List.getElem?_cons_zero, List.getElem?_cons_succ, List.set_cons_zero, List.set_cons_succ, List.map_cons, List.map_nil, List.length_cons, List.length_nil, List.replicate_succ, List.replicate_zero, List.cons_append, List.nil_append, Nat.reduceAdd, Nat.reduceSub, Nat.zero_add, Nat.sub_zero, Option.bind_some, true_and, and_true, outF, if_true, if_false, Bool.false_eq_true, Bool.not_true, Bool.not_false, List.append_assoc, List.length_append, Option.isSome_some, wipeE, isNon, decide_true, decide_false, asR_eq0 hl1, asR_eq hl1]
          refine ⟨by decide, ?_⟩
          have hb : below 0 (encN ⟨ps, cs, rs⟩) = true := by
            have b1 : belows 0 (ps.map encP) = true := belows_map fun _ _ => rfl
            have b2 : belows 0 (cs.map encC) = true := belows_map fun _ _ => rfl
            have b3 : belows 0 (rs.map encR) = true := belows_map fun r _ => below_R r
            simp only [encN, below, belows, b1, b2, b3, Bool.and_self]
          refine ⟨(encN ⟨ps, cs, rs⟩, M1), retF_pm g1 hb, ?_⟩
          refine ⟨g1, ⟨ps, cs, rs⟩, rfl, ⟨by show 1 ≤ ps.length; omega, by show ps.length ≤ 5; omega, fun p hp => ⟨hnk _ (by rw [← hpn]; exact List.mem_map_of_mem hp), hp3 p hp⟩, by show (ps.map (·.1)).Nodup; rw [hpn]; exact hnd, by show cs.length ≤ 8; omega, fun c hc => ?_, by show (cs.map (·.nm)).Nodup; rw [gn]; exact hcd, by show rs.length ≤ 40; omega, gr⟩⟩
          show _ ∧ c.g < ps.length ∧ c.t < ps.length ∧ _
          rw [hpl]; exact gc c hc
end K40

end

section
set_option Elab.async false
set_option linter.all false
set_option maxRecDepth 100000
/-! K40P13: the hidden net; rows frozen -/
namespace K40
open PySem PySem.Spec L2 DV
theorem kd_pick (k : Nat) (hk : k < 4) : ∃ d : Kd, ([D.str "order", D.str "order lossy", D.str "loose", D.str "loose lossy"] : List D)[k]? = some (.str d.s) := by
  match k, hk with
  | 0, _ => exact ⟨.ord, rfl⟩
  | 1, _ => exact ⟨.ordL, rfl⟩
  | 2, _ => exact ⟨.loo, rfl⟩
  | 3, _ => exact ⟨.looL, rfl⟩
theorem nm_p : NmOk "p" := nm_of (by decide +kernel)
theorem nm_q : NmOk "q" := nm_of (by decide +kernel)
theorem nm_c : NmOk "c" := nm_of (by decide +kernel)
theorem below_N (n : Net) : below 0 (encN n) = true := by
  have b1 : belows 0 (n.ps.map encP) = true := belows_map fun _ _ => rfl
  have b2 : belows 0 (n.cs.map encC) = true := belows_map fun _ _ => rfl
  have b3 : belows 0 (n.rs.map encR) = true := belows_map fun r _ => below_R r
  simp only [encN, below, belows, b1, b2, b3, Bool.and_self]
theorem hidden_ok (M : Sto) (hM : Pm M M) : wpF F_law_hidden [.ref 0] M fun v M' => Pm M M' ∧ ∃ n, v = encN n ∧ NetV n := by
  unfold F_law_hidden B_law_hidden
  have hS : sizeLine = 16777216 := rfl
  simp only [ev, List.getElem?_cons_zero, List.getElem?_cons_succ, List.set_cons_zero, List.set_cons_succ, List.map_cons, List.map_nil, List.length_cons, List.length_nil, List.replicate_succ, List.replicate_zero, List.cons_append, List.nil_append, Nat.reduceAdd, Nat.reduceSub, Nat.zero_add, Nat.sub_zero, Option.bind_some, true_and, and_true, outF, if_true, if_false, Bool.false_eq_true, Bool.not_true, Bool.not_false, List.append_assoc, List.length_append, Option.isSome_some, wipeE, isNon, decide_true, decide_false]
  refine ⟨by decide, ?_⟩
  refine draw_rule0 (n := 4) hM (by omega) (by omega) fun k1 M1 hk1 h1 => ?_
  obtain ⟨kd, hkd⟩ := kd_pick k1 hk1
  simp only [ev, List.getElem?_cons_zero, List.getElem?_cons_succ, List.set_cons_zero, List.set_cons_succ, List.map_cons, List.map_nil, List.length_cons, List.length_nil, List.replicate_succ, List.replicate_zero, List.cons_append, List.nil_append, Nat.reduceAdd, Nat.reduceSub, Nat.zero_add, Nat.sub_zero, Option.bind_some, true_and, and_true, outF, if_true, if_false, Bool.false_eq_true, Bool.not_true, Bool.not_false, List.append_assoc, List.length_append, Option.isSome_some, wipeE, isNon, decide_true, decide_false, hkd]
  refine draw_rule0 (n := 3) h1.refl_of (by omega) (by omega) fun k2 M2 hk2 h2 => ?_
  have h12 := h1.trans h2
  simp only [ev, List.getElem?_cons_zero, List.getElem?_cons_succ, List.set_cons_zero, List.set_cons_succ, List.map_cons, List.map_nil, List.length_cons, List.length_nil, List.replicate_succ, List.replicate_zero, List.cons_append, List.nil_append, Nat.reduceAdd, Nat.reduceSub, Nat.zero_add, Nat.sub_zero, Option.bind_some, true_and, and_true, outF, if_true, if_false, Bool.false_eq_true, Bool.not_true, Bool.not_false, List.append_assoc, List.length_append, Option.isSome_some, wipeE, isNon, decide_true, decide_false]
  rw [show ((1 : Int) + (k2 : Int)) = ((k2 + 1 : Nat) : Int) by omega]
  generalize hm : k2 + 1 = m
  rw [rng_ie]
  refine ⟨⟨by omega, by omega⟩, ?_⟩
  refine wpA_rel (enc := ie) M2 (fun k y => ∃ x : Nat, y = encR ⟨0, k, .send 0 x, k + 1⟩ ∧ x < 10) (List.range m) _ _ h2.refl_of (fun k hk M3 h3 => ⟨_, rfl, ?_⟩) ?_
  · simp only [ev, List.getElem?_cons_zero, List.getElem?_cons_succ, List.set_cons_zero, List.set_cons_succ, List.map_cons, List.map_nil, List.length_cons, List.length_nil, List.replicate_succ, List.replicate_zero, List.cons_append, List.nil_append, Nat.reduceAdd, Nat.reduceSub, Nat.zero_add, Nat.sub_zero, Option.bind_some, true_and, and_true, outF, if_true, if_false, Bool.false_eq_true, Bool.not_true, Bool.not_false, List.append_assoc, List.length_append, Option.isSome_some, wipeE, isNon, decide_true, decide_false]
    refine ⟨by decide, ?_⟩
    refine picked_rule (enc := ie) (l := [3, 4]) h3.refl_of (by simp) (by simp) (fun _ _ => rfl) fun x hx M4 h4 => ?_
    have hx10 : x < 10 := by
      simp only [List.mem_cons, List.not_mem_nil, or_false] at hx
      omega
    simp only [ev, List.getElem?_cons_zero, List.getElem?_cons_succ, List.set_cons_zero, List.set_cons_succ, List.map_cons, List.map_nil, List.length_cons, List.length_nil, List.replicate_succ, List.replicate_zero, List.cons_append, List.nil_append, Nat.reduceAdd, Nat.reduceSub, Nat.zero_add, Nat.sub_zero, Option.bind_some, true_and, and_true, outF, if_true, if_false, Bool.false_eq_true, Bool.not_true, Bool.not_false, List.append_assoc, List.length_append, Option.isSome_some, wipeE, isNon, decide_true, decide_false, ie]
    exact ⟨by decide, by decide, h3.trans h4, x, rfl, hx10⟩
  · intro ys M3 h3 hys hyr
    have h13 := h12.trans h3
    obtain ⟨zs, hz1, hz2, hz3⟩ := rel_pick (f := fun k (x : Nat) => encR ⟨0, k, .send 0 x, k + 1⟩) (P := fun _ x => x < 10) ys hyr
    have hzr : zs.map (·.1) = List.range m := by rw [← hz2, ← hys]
    have hzl : zs.length = m := by have := congrArg List.length hzr; rw [List.length_map, List.length_range] at this; exact this
    rw [hz1]
    let rs : List Ru := zs.map (fun z => ⟨0, z.1, .send 0 z.2, z.1 + 1⟩) ++ [⟨0, m, .send 0 7, m + 1⟩, ⟨1, 0, .take 0 7, 1⟩]
    have hrs : (zs.map fun z => encR ⟨0, z.1, .send 0 z.2, z.1 + 1⟩) ++ [.tup [.int 0, .int (m : Int), .tup [.str "send", .int 0, .int 7], .int ((m : Int) + 1)], .tup [.int 1, .int 0, .tup [.str "take", .int 0, .int 7], .int 1]] = rs.map encR := by
      show _ = List.map encR (_ ++ _)
      rw [List.map_append, List.map_map]; rfl
    simp only [ev, List.getElem?_cons_zero, List.getElem?_cons_succ, List.set_cons_zero, List.set_cons_succ, List.map_cons, List.map_nil, List.length_cons, List.length_nil, List.replicate_succ, List.replicate_zero, List.cons_append, List.nil_append, Nat.reduceAdd, Nat.reduceSub, Nat.zero_add, Nat.sub_zero, Option.bind_some, true_and, and_true, outF, if_true, if_false, Bool.false_eq_true, Bool.not_true, Bool.not_false, List.append_assoc, List.length_append, Option.isSome_some, wipeE, isNon, decide_true, decide_false, List.length_map]
    refine ⟨by omega, by decide, by decide, by decide, by decide, by decide, by omega, by decide, by decide, by decide, by decide, by decide, by decide, ?_⟩
    rw [hrs]
    let n : Net := ⟨[("p", m + 2), ("q", 2)], [⟨"c", 0, 1, kd⟩], rs⟩
    have hret : retF M (encN n) M3 = some (encN n, M3) := retF_pm0 h13 (below_N n)
    refine ⟨(encN n, M3), hret, h13, n, rfl, ⟨by simp [n], by simp [n], ?_, ?_, by simp [n], ?_, by simp [n], ?_, ?_⟩⟩
    · intro p hp
      simp only [n, List.mem_cons, List.not_mem_nil, or_false] at hp
      rcases hp with rfl | rfl
      · exact ⟨nm_p, by show 1 ≤ m + 2; omega, by show m + 2 ≤ 8; omega⟩
      · exact ⟨nm_q, by decide, by decide⟩
    · show (["p", "q"] : List Str).Nodup
      decide +kernel
    · intro c hc
      simp only [n, List.mem_cons, List.not_mem_nil, or_false] at hc
      subst hc
      exact ⟨nm_c, by show 0 < 2; omega, by show 1 < 2; omega, by show (0 : Nat) ≠ 1; omega⟩
    · show (List.length (_ ++ _)) ≤ 40
      rw [List.length_append, List.length_map]
      show zs.length + 2 ≤ 40
      omega
    · intro r hr
      rcases List.mem_append.mp hr with hr | hr
      · obtain ⟨z, hz, rfl⟩ := List.mem_map.mp hr
        have hzm : z.1 < m := by
          have : z.1 ∈ zs.map (·.1) := List.mem_map_of_mem hz
          rw [hzr] at this
          exact List.mem_range.mp this
        exact ⟨⟨("p", m + 2), rfl, by show z.1 < m + 2; omega, by show z.1 + 1 < m + 2; omega⟩, ⟨_, rfl, rfl, hz3 z hz⟩⟩
      · simp only [List.mem_cons, List.not_mem_nil, or_false] at hr
        rcases hr with rfl | rfl
        · exact ⟨⟨("p", m + 2), rfl, by show m < m + 2; omega, by show m + 1 < m + 2; omega⟩, ⟨_, rfl, rfl, by omega⟩⟩
        · exact ⟨⟨("q", 2), rfl, by show 0 < 2; omega, by show 1 < 2; omega⟩, ⟨_, rfl, rfl, by omega⟩⟩
/-! frozen -/
theorem kit_tl : kitB "tuple" "list" = some false := by decide +kernel
theorem kit_ll : kitB "list" "list" = some true := by decide +kernel
theorem kit_il : kitB "int" "list" = some false := by decide +kernel
theorem frozen_int (k : Nat) (i d : Int) (M : Sto) : wpF (F_frozen (k + 1)) [.int i, .int d] M fun v M' => v = .int i ∧ M' = M := by
  unfold F_frozen B_frozen
  simp only [ev, List.getElem?_cons_zero, List.getElem?_cons_succ, List.set_cons_zero, List.set_cons_succ, List.map_cons, List.map_nil, List.length_cons, List.length_nil, List.replicate_succ, List.replicate_zero, List.cons_append, List.nil_append, Nat.reduceAdd, Nat.reduceSub, Nat.zero_add, Nat.sub_zero, Option.bind_some, true_and, and_true, outF, if_true, if_false, Bool.false_eq_true, Bool.not_true, Bool.not_false, List.append_assoc, List.length_append, Option.isSome_some, wipeE, isNon, decide_true, decide_false, decide_eq_true_eq, ty_int, kit_il, kit_it, ret_int, Bool.or_self]
  split <;> simp
theorem frozen_str (k : Nat) (i : Str) (d : Int) (M : Sto) : wpF (F_frozen (k + 1)) [.str i, .int d] M fun v M' => v = .str i ∧ M' = M := by
  unfold F_frozen B_frozen
  simp only [ev, List.getElem?_cons_zero, List.getElem?_cons_succ, List.set_cons_zero, List.set_cons_succ, List.map_cons, List.map_nil, List.length_cons, List.length_nil, List.replicate_succ, List.replicate_zero, List.cons_append, List.nil_append, Nat.reduceAdd, Nat.reduceSub, Nat.zero_add, Nat.sub_zero, Option.bind_some, true_and, and_true, outF, if_true, if_false, Bool.false_eq_true, Bool.not_true, Bool.not_false, List.append_assoc, List.length_append, Option.isSome_some, wipeE, isNon, decide_true, decide_false, decide_eq_true_eq, ty_str, kit_sl, kit_st, ret_str, Bool.or_self]
  split <;> simp
theorem frozen_seq {α : Type} {f g : α → D} {k d : Nat} {xs : List α} {v : D} (hv : SeqD v (xs.map f)) (hx : xs.length ≤ 1000) (hb : ∀ x ∈ xs, below 0 (g x) = true)
    (h : ∀ x ∈ xs, ∀ M, wpF (F_frozen (k + 1)) [f x, .int (d : Int)] M fun v M' => v = g x ∧ M' = M) (M : Sto) : wpF (F_frozen (k + 2)) [v, .int ((d + 1 : Nat) : Int)] M fun v M' => v = .tup (xs.map g) ∧ M' = M := by
  show wpF (fnD 3 true (B_frozen (F_frozen (k + 1)))) _ _ _
  unfold B_frozen
  have ht : (do let t ← tyN v M; let a ← kitB t "list"; let b ← kitB t "tuple"; pure (a || b) : Option Bool) = some true := by
    rcases hv with rfl | rfl
    · simp only [ty_tup, kit_tl, kit_tt]; rfl
    · simp only [ty_lst, kit_ll, kit_lt]; rfl
  have hS : sizeLine = 16777216 := rfl
  have hi : ((d + 1 : Nat) : Int) - 1 = (d : Int) := by omega
  have key : wpA (compL (gN 2) mYes (eCall (F_frozen (k + 1)) 2 (aCons (eVar 2) (aCons (eBin dSub (eVar 1) (eC (D.int 1))) aNil))) (xs.map f)) [some v, some (.int ((d + 1 : Nat) : Int)), none] M
      fun ys M2 => ys.length ≤ sizeLine ∧ wpO (retF M (D.tup ys) M2) fun p => p.1 = .tup (xs.map g) ∧ p.2 = M := by
    refine wpA_map g xs (fun x hx => ⟨_, rfl, ?_⟩) ?_
    · simp only [ev, List.getElem?_cons_zero, List.getElem?_cons_succ, List.set_cons_zero, List.set_cons_succ, List.map_cons, List.map_nil, List.length_cons, List.length_nil, List.replicate_succ, List.replicate_zero, List.cons_append, List.nil_append, Nat.reduceAdd, Nat.reduceSub, Nat.zero_add, Nat.sub_zero, Option.bind_some, true_and, and_true, outF, if_true, if_false, Bool.false_eq_true, Bool.not_true, Bool.not_false, List.append_assoc, List.length_append, Option.isSome_some, wipeE, isNon, decide_true, decide_false, hi]
      exact h x hx M
    · rw [List.length_map, ret_tup (belows_map hb)]
      exact ⟨by omega, rfl, rfl⟩
  have h1 : (0 : Int) < ((d + 1 : Nat) : Int) := by omega
  rcases hv with rfl | rfl
  · simp only [ev, List.getElem?_cons_zero, List.getElem?_cons_succ, List.set_cons_zero, List.set_cons_succ, List.map_cons, List.map_nil, List.length_cons, List.length_nil, List.replicate_succ, List.replicate_zero, List.cons_append, List.nil_append, Nat.reduceAdd, Nat.reduceSub, Nat.zero_add, Nat.sub_zero, Option.bind_some, true_and, and_true, outF, if_true, if_false, Bool.false_eq_true, Bool.not_true, Bool.not_false, List.append_assoc, List.length_append, Option.isSome_some, wipeE, isNon, decide_true, decide_false, decide_eq_true_eq, ty_tup, kit_tl, kit_tt, Bool.or_true, h1]
    exact key
  · simp only [ev, List.getElem?_cons_zero, List.getElem?_cons_succ, List.set_cons_zero, List.set_cons_succ, List.map_cons, List.map_nil, List.length_cons, List.length_nil, List.replicate_succ, List.replicate_zero, List.cons_append, List.nil_append, Nat.reduceAdd, Nat.reduceSub, Nat.zero_add, Nat.sub_zero, Option.bind_some, true_and, and_true, outF, if_true, if_false, Bool.false_eq_true, Bool.not_true, Bool.not_false, List.append_assoc, List.length_append, Option.isSome_some, wipeE, isNon, decide_true, decide_false, decide_eq_true_eq, ty_lst, kit_ll, kit_lt, Bool.or_false, h1]
    exact key
end K40

end

section
set_option Elab.async false
set_option linter.all false
set_option maxRecDepth 100000
/-! K40P14: a net is made -/
namespace K40
open PySem PySem.Spec L2 DV
def Sc (x : D) : Prop := (∃ i, x = .int i) ∨ ∃ s, x = .str s
theorem sc_below {x : D} (h : Sc x) : below 0 x = true := by rcases h with ⟨i, rfl⟩ | ⟨s, rfl⟩ <;> rfl
theorem frozen_sc {k : Nat} {x : D} {d : Int} {M : Sto} (h : Sc x) : wpF (F_frozen (k + 1)) [x, .int d] M fun v M' => v = x ∧ M' = M := by
  rcases h with ⟨i, rfl⟩ | ⟨s, rfl⟩
  · exact frozen_int k i d M
  · exact frozen_str k s d M
theorem frozen_flat {k d : Nat} {l : List D} {v : D} {M : Sto} (hv : SeqD v l) (hl : l.length ≤ 1000) (h : ∀ x ∈ l, Sc x) : wpF (F_frozen (k + 2)) [v, .int ((d + 1 : Nat) : Int)] M fun v M' => v = .tup l ∧ M' = M := by
  have hv' : SeqD v (l.map id) := by rw [List.map_id]; exact hv
  have := frozen_seq (g := id) (k := k) (d := d) hv' hl (fun x hx => sc_below (h x hx)) (fun x hx M => frozen_sc (h x hx)) M
  rw [List.map_id] at this
  exact this
theorem frozen_P {k d : Nat} (p : Str × Nat) {v : D} {M : Sto} (hv : SeqD v [.str p.1, .int (p.2 : Nat)]) : wpF (F_frozen (k + 2)) [v, .int ((d + 1 : Nat) : Int)] M fun v M' => v = encP p ∧ M' = M :=
  frozen_flat hv (by simp) (by
    intro x hx
    simp only [List.mem_cons, List.not_mem_nil, or_false] at hx
    rcases hx with rfl | rfl
    · exact .inr ⟨_, rfl⟩
    · exact .inl ⟨_, rfl⟩)
theorem frozen_C {k d : Nat} (c : Ch) {M : Sto} : wpF (F_frozen (k + 2)) [encC c, .int ((d + 1 : Nat) : Int)] M fun v M' => v = encC c ∧ M' = M :=
  frozen_flat (.inl rfl) (by simp) (by
    intro x hx
    simp only [List.mem_cons, List.not_mem_nil, or_false] at hx
    rcases hx with rfl | rfl | rfl | rfl
    · exact .inr ⟨_, rfl⟩
    · exact .inl ⟨_, rfl⟩
    · exact .inl ⟨_, rfl⟩
    · exact .inr ⟨_, rfl⟩)
theorem frozen_A {k d : Nat} (a : Act) {M : Sto} : wpF (F_frozen (k + 2)) [encA a, .int ((d + 1 : Nat) : Int)] M fun v M' => v = encA a ∧ M' = M := by
  cases a with
  | idle => exact frozen_flat (.inl rfl) (by simp) (by
      intro x hx
      simp only [List.mem_cons, List.not_mem_nil, or_false] at hx
      subst hx
      exact .inr ⟨_, rfl⟩)
  | send c x => exact frozen_flat (.inl rfl) (by simp) (by
      intro x hx
      simp only [List.mem_cons, List.not_mem_nil, or_false] at hx
      rcases hx with rfl | rfl | rfl
      · exact .inr ⟨_, rfl⟩
      · exact .inl ⟨_, rfl⟩
      · exact .inl ⟨_, rfl⟩)
  | take c x => exact frozen_flat (.inl rfl) (by simp) (by
      intro x hx
      simp only [List.mem_cons, List.not_mem_nil, or_false] at hx
      rcases hx with rfl | rfl | rfl
      · exact .inr ⟨_, rfl⟩
      · exact .inl ⟨_, rfl⟩
      · exact .inl ⟨_, rfl⟩)
theorem below_A (a : Act) : below 0 (encA a) = true := by cases a <;> rfl
theorem frozen_R {k : Nat} (r : Ru) {M : Sto} : wpF (F_frozen (k + 3)) [encR r, .int ((2 : Nat) : Int)] M fun v M' => v = encR r ∧ M' = M := by
  have := frozen_seq (f := id) (g := id) (k := k + 1) (d := 1) (xs := [.int (r.p : Nat), .int (r.s : Nat), encA r.a, .int (r.th : Nat)]) (v := encR r) (.inl rfl) (by simp) (by
    intro x hx
    simp only [List.mem_cons, List.not_mem_nil, or_false] at hx
    rcases hx with rfl | rfl | rfl | rfl
    · rfl
    · rfl
    · exact below_A _
    · rfl) (by
    intro x hx M
    simp only [List.mem_cons, List.not_mem_nil, or_false] at hx
    rcases hx with rfl | rfl | rfl | rfl
    · exact frozen_sc (.inl ⟨_, rfl⟩)
    · exact frozen_sc (.inl ⟨_, rfl⟩)
    · exact frozen_A (k := k) (d := 0) r.a
    · exact frozen_sc (.inl ⟨_, rfl⟩)) M
  exact this
theorem rows_ok {α : Type} {f g : α → D} {xs : List α} {v : D} {M : Sto} {lo hi : Nat} (hv : SeqD v (xs.map f)) (hx : xs.length ≤ 1000) (hlo : lo ≤ xs.length) (hhi : xs.length ≤ hi) (hb : ∀ x ∈ xs, below 0 (g x) = true ∧ ∃ l, g x = .tup l)
    (h : ∀ x ∈ xs, ∀ M, wpF (F_frozen 4) [f x, .int ((2 : Nat) : Int)] M fun v M' => v = g x ∧ M' = M) : wpF F_rows [v, .int (lo : Int), .int (hi : Int)] M fun v M' => v = .tup (xs.map g) ∧ M' = M := by
  unfold F_rows B_rows
  have hS : sizeLine = 16777216 := rfl
  simp only [ev, List.getElem?_cons_zero, List.getElem?_cons_succ, List.set_cons_zero, List.set_cons_succ, List.map_cons, List.map_nil, List.length_cons, List.length_nil, List.replicate_succ, List.replicate_zero, List.cons_append, List.nil_append, Nat.reduceAdd, Nat.reduceSub, Nat.zero_add, Nat.sub_zero, Option.bind_some, true_and, and_true, outF, if_true, if_false, Bool.false_eq_true, Bool.not_true, Bool.not_false, List.append_assoc, List.length_append, Option.isSome_some, wipeE, isNon, decide_true, decide_false]
  refine (frozen_seq (k := 3) (d := 2) hv hx (fun x hx => (hb x hx).1) h M).imp ?_
  rintro v M' ⟨rfl, rfl⟩
  have h1 : (lo : Int) ≤ (xs.length : Int) := by omega
  have h2 : (xs.length : Int) ≤ (hi : Int) := by omega
  simp only [ev, List.getElem?_cons_zero, List.getElem?_cons_succ, List.set_cons_zero, List.set_cons_succ, List.map_cons, List.map_nil, List.length_cons, List.length_nil, List.replicate_succ, List.replicate_zero, List.cons_append, List.nil_append, Nat.reduceAdd, Nat.reduceSub, Nat.zero_add, Nat.sub_zero, Option.bind_some, true_and, and_true, outF, if_true, if_false, Bool.false_eq_true, Bool.not_true, Bool.not_false, List.append_assoc, List.length_append, Option.isSome_some, wipeE, isNon, decide_true, decide_false, ty_tup, kit_tt, List.length_map, h1, h2]
  refine wpA_map (fun _ => .bl true) xs (fun x hx => ⟨_, rfl, ?_⟩) ?_
  · obtain ⟨l, e⟩ := (hb x hx).2
    simp only [ev, List.getElem?_cons_zero, List.getElem?_cons_succ, List.set_cons_zero, List.set_cons_succ, List.map_cons, List.map_nil, List.length_cons, List.length_nil, List.replicate_succ, List.replicate_zero, List.cons_append, List.nil_append, Nat.reduceAdd, Nat.reduceSub, Nat.zero_add, Nat.sub_zero, Option.bind_some, true_and, and_true, outF, if_true, if_false, Bool.false_eq_true, Bool.not_true, Bool.not_false, List.append_assoc, List.length_append, Option.isSome_some, wipeE, isNon, decide_true, decide_false, e, ty_tup, kit_tt]
  · have ha : cAll [.lst (xs.map fun _ => D.bl true)] M' = some (.bl true) := by
      have := o_all_map (l := xs) (f := fun _ => true) (M := M')
      rw [this]; congr 2
      rw [List.all_eq_true]; intro _ _; rfl
    rw [List.length_map]
    refine ⟨by omega, ?_⟩
    rw [ha]
    simp only [ev, List.getElem?_cons_zero, List.getElem?_cons_succ, List.set_cons_zero, List.set_cons_succ, List.map_cons, List.map_nil, List.length_cons, List.length_nil, List.replicate_succ, List.replicate_zero, List.cons_append, List.nil_append, Nat.reduceAdd, Nat.reduceSub, Nat.zero_add, Nat.sub_zero, Option.bind_some, true_and, and_true, outF, if_true, if_false, Bool.false_eq_true, Bool.not_true, Bool.not_false, List.append_assoc, List.length_append, Option.isSome_some, wipeE, isNon, decide_true, decide_false]
    rw [ret_tup (belows_map fun x hx => (hb x hx).1)]
    exact ⟨rfl, rfl⟩
/-! the checks -/
theorem chars_map {z : Str} : chars z = z.cps.toList.map fun c => D.str ⟨#[c]⟩ := rfl
theorem in_letters {c : Nat} {M : Sto} : dIn (.str ⟨#[c]⟩) (.str letters) M = some (.bl (decide (c ∈ letters.cps.toList))) := rfl
theorem itD_str {z : Str} : itD (.str z) = some (chars z) := rfl
theorem name_rule {x : Str} {M : Sto} {Q : D → Sto → Prop} (hx : NmOk x) (h : Q (.bl true) M) : wpF F_is_name [.str x] M Q := by
  have hS : sizeLine = 16777216 := rfl
  have h1 := hx.h1
  have h6 := hx.h6
  have e1 : (1 : Int) ≤ (x.length : Int) := by omega
  have e6 : (x.length : Int) ≤ (6 : Int) := by omega
  have hz : x.length ≤ sizeLine := by omega
  unfold F_is_name B_is_name
  simp only [ev, List.getElem?_cons_zero, List.getElem?_cons_succ, List.set_cons_zero, List.set_cons_succ, List.map_cons, List.map_nil, List.length_cons, List.length_nil, List.replicate_succ, List.replicate_zero, List.cons_append, List.nil_append, Nat.reduceAdd, Nat.reduceSub, Nat.zero_add, Nat.sub_zero, Option.bind_some, true_and, and_true, outF, if_true, if_false, Bool.false_eq_true, Bool.not_true, Bool.not_false, List.append_assoc, List.length_append, Option.isSome_some, wipeE, isNon, decide_true, decide_false, ty_str, kit_ss, o_len_str, hz, e1, e6, itD_str, chars_map]
  refine wpA_map (fun _ => .bl true) x.cps.toList (fun c hc => ⟨_, rfl, ?_⟩) ?_
  · have e := in_letters (c := c) (M := M)
    rw [decide_eq_true (hx.hl c hc)] at e
    have e' : dIn (.str ⟨#[c]⟩) (.str (Str.ofString "abcdefghijklmnopqrstuvwxyz")) M = some (.bl true) := e
    simp only [ev, List.getElem?_cons_zero, List.getElem?_cons_succ, List.set_cons_zero, List.set_cons_succ, List.map_cons, List.map_nil, List.length_cons, List.length_nil, List.replicate_succ, List.replicate_zero, List.cons_append, List.nil_append, Nat.reduceAdd, Nat.reduceSub, Nat.zero_add, Nat.sub_zero, Option.bind_some, true_and, and_true, outF, if_true, if_false, Bool.false_eq_true, Bool.not_true, Bool.not_false, List.append_assoc, List.length_append, Option.isSome_some, wipeE, isNon, decide_true, decide_false, e']
  · have ha : cAll [.lst (x.cps.toList.map fun _ => D.bl true)] M = some (.bl true) := by
      have := o_all_map (l := x.cps.toList) (f := fun _ => true) (M := M)
      rw [this]; congr 2
      rw [List.all_eq_true]; intro _ _; rfl
    rw [List.length_map, Array.length_toList]
    refine ⟨hz, ?_⟩
    rw [ha]
    simp only [ev, List.getElem?_cons_zero, List.getElem?_cons_succ, List.set_cons_zero, List.set_cons_succ, List.map_cons, List.map_nil, List.length_cons, List.length_nil, List.replicate_succ, List.replicate_zero, List.cons_append, List.nil_append, Nat.reduceAdd, Nat.reduceSub, Nat.zero_add, Nat.sub_zero, Option.bind_some, true_and, and_true, outF, if_true, if_false, Bool.false_eq_true, Bool.not_true, Bool.not_false, List.append_assoc, List.length_append, Option.isSome_some, wipeE, isNon, decide_true, decide_false, ret_bl]
    exact h
theorem whole_rule {i : Int} {M : Sto} {Q : D → Sto → Prop} (h : Q (.bl true) M) : wpF F_is_whole [.int i] M Q := by
  unfold F_is_whole B_is_whole
  simp only [ev, List.getElem?_cons_zero, List.getElem?_cons_succ, List.set_cons_zero, List.set_cons_succ, List.map_cons, List.map_nil, List.length_cons, List.length_nil, List.replicate_succ, List.replicate_zero, List.cons_append, List.nil_append, Nat.reduceAdd, Nat.reduceSub, Nat.zero_add, Nat.sub_zero, Option.bind_some, true_and, and_true, outF, if_true, if_false, Bool.false_eq_true, Bool.not_true, Bool.not_false, List.append_assoc, List.length_append, Option.isSome_some, wipeE, isNon, decide_true, decide_false, ty_int, kit_ii, kit_ib, ret_bl]
  exact h
theorem below_rule {i n : Nat} {M : Sto} {Q : D → Sto → Prop} (hi : i < n) (h : Q (.bl true) M) : wpF F_is_below [.int (i : Int), .int (n : Int)] M Q := by
  unfold F_is_below B_is_below
  simp only [ev, List.getElem?_cons_zero, List.getElem?_cons_succ, List.set_cons_zero, List.set_cons_succ, List.map_cons, List.map_nil, List.length_cons, List.length_nil, List.replicate_succ, List.replicate_zero, List.cons_append, List.nil_append, Nat.reduceAdd, Nat.reduceSub, Nat.zero_add, Nat.sub_zero, Option.bind_some, true_and, and_true, outF, if_true, if_false, Bool.false_eq_true, Bool.not_true, Bool.not_false, List.append_assoc, List.length_append, Option.isSome_some, wipeE, isNon, decide_true, decide_false]
  refine whole_rule ?_
  have h1 : (0 : Int) ≤ (i : Int) := by omega
  have h2 : (i : Int) < (n : Int) := by omega
  simp only [ev, List.getElem?_cons_zero, List.getElem?_cons_succ, List.set_cons_zero, List.set_cons_succ, List.map_cons, List.map_nil, List.length_cons, List.length_nil, List.replicate_succ, List.replicate_zero, List.cons_append, List.nil_append, Nat.reduceAdd, Nat.reduceSub, Nat.zero_add, Nat.sub_zero, Option.bind_some, true_and, and_true, outF, if_true, if_false, Bool.false_eq_true, Bool.not_true, Bool.not_false, List.append_assoc, List.length_append, Option.isSome_some, wipeE, isNon, decide_true, decide_false, h1, h2, ret_bl]
  exact h
theorem nm_strOk {x : Str} (h : NmOk x) : PyData.strOk x = true := by
  unfold PyData.strOk
  have hl : letters.cps.toList.all (fun c => decide (c < 0x110000)) = true := by decide +kernel
  rw [← Array.all_toList, List.all_eq_true]
  intro c hc
  exact List.all_eq_true.mp hl c (h.hl c hc)
theorem in_tup1 {x : Str} {l : List Str} {M : Sto} (hx : NmOk x) (hl : ∀ y ∈ l, NmOk y) : inD (.tup [.str x]) (.lst (l.map fun y => .tup [.str y])) M = some (decide (x ∈ l)) := by
  have e : inD (.tup [.str x]) (.lst (l.map fun y => .tup [.str y])) M = (match toPy0 (.tup [.str x]), toPy0s (l.map fun y => D.tup [.str y]) with
          | some p, some qs => if SeqAt.shaped p && SeqAt.shaped (.list qs) then some (qs.any fun z => PyData.eqv z p) else none
          | _, _ => none) := rfl
  rw [e]
  have h1 : toPy0 (.tup [.str x]) = some (.tuple [.str x]) := rfl
  have h2 : toPy0s (l.map fun y => D.tup [.str y]) = some (l.map fun y => PyData.tuple [.str y]) := toPy_map (fun _ => rfl) l
  have h3 : SeqAt.shaped (.tuple [.str x]) = true := by
    unfold SeqAt.shaped
    simp [PyData.canLay0, PyData.canLayAll0, nm_strOk hx, PyData.depth, PyData.depthAll]
  have h4 : SeqAt.shaped (.list (l.map fun y => PyData.tuple [.str y])) = true := by
    have hd := depth_map (g := fun y : Str => PyData.tuple [.str y]) (m := 1) (fun y => by simp [PyData.depth, PyData.depthAll]) l
    have hc : PyData.canLayAll0 (l.map fun y => PyData.tuple [.str y]) = true := by
      clear e h1 h2 h3 hd
      induction l with
      | nil => simp [PyData.canLayAll0]
      | cons y l ih =>
        simp only [List.map_cons, PyData.canLayAll0, PyData.canLay0, nm_strOk (hl y (List.mem_cons_self ..)), ih fun z hz => hl z (List.mem_cons_of_mem _ hz), Bool.and_self]
    unfold SeqAt.shaped
    rw [decide_eq_true (by simp only [PyData.depth]; omega)]
    simp only [PyData.canLay0, hc, Bool.and_self]
  rw [h1, h2]
  simp only [h3, h4, Bool.and_self, if_true, List.any_map]
  congr 1
  have : ((fun z => PyData.eqv z (.tuple [.str x])) ∘ fun y : Str => PyData.tuple [.str y]) = fun y => decide (y = x) := by
    funext y
    simp only [Function.comp, PyData.eqv, PyData.eqvAll, Bool.and_true]
    by_cases h : y = x <;> simp [h]
  rw [this]
  by_cases hm : x ∈ l
  · rw [decide_eq_true hm, List.any_eq_true]
    exact ⟨x, hm, by simp⟩
  · rw [decide_eq_false hm, List.any_eq_false]
    intro z hz
    simp only [decide_eq_true_eq]
    intro e; exact hm (e ▸ hz)
theorem notin_tup1 {x : Str} {l : List Str} {M : Sto} (hx : NmOk x) (hl : ∀ y ∈ l, NmOk y) (hn : x ∉ l) : dNotIn (.tup [.str x]) (.lst (l.map fun y => .tup [.str y])) M = some (.bl true) := by
  unfold dNotIn; rw [in_tup1 hx hl, decide_eq_false hn]; rfl
theorem isin_tup1 {x : Str} {l : List Str} {M : Sto} (hx : NmOk x) (hl : ∀ y ∈ l, NmOk y) (hn : x ∉ l) : dIn (.tup [.str x]) (.lst (l.map fun y => .tup [.str y])) M = some (.bl false) := by
  unfold dIn; rw [in_tup1 hx hl, decide_eq_false hn]; rfl
theorem process_rule {p : Str × Nat} {elder : List (Str × Nat)} {M : Sto} {Q : D → Sto → Prop} (hp : NmOk p.1 ∧ 1 ≤ p.2 ∧ p.2 ≤ 8) (he : ∀ e ∈ elder, NmOk e.1) (hl : elder.length ≤ 1000) (hn : p.1 ∉ elder.map (·.1)) (h : Q (.bl true) M) :
    wpF F_is_process [encP p, .tup (elder.map encP)] M Q := by
  have hS : sizeLine = 16777216 := rfl
  unfold F_is_process B_is_process
  simp only [ev, List.getElem?_cons_zero, List.getElem?_cons_succ, List.set_cons_zero, List.set_cons_succ, List.map_cons, List.map_nil, List.length_cons, List.length_nil, List.replicate_succ, List.replicate_zero, List.cons_append, List.nil_append, Nat.reduceAdd, Nat.reduceSub, Nat.zero_add, Nat.sub_zero, Option.bind_some, true_and, and_true, outF, if_true, if_false, Bool.false_eq_true, Bool.not_true, Bool.not_false, List.append_assoc, List.length_append, Option.isSome_some, wipeE, isNon, decide_true, decide_false, encP, Int.cast_ofNat_Int, decide_true]
  refine name_rule hp.1 ?_
  simp only [ev, List.getElem?_cons_zero, List.getElem?_cons_succ, List.set_cons_zero, List.set_cons_succ, List.map_cons, List.map_nil, List.length_cons, List.length_nil, List.replicate_succ, List.replicate_zero, List.cons_append, List.nil_append, Nat.reduceAdd, Nat.reduceSub, Nat.zero_add, Nat.sub_zero, Option.bind_some, true_and, and_true, outF, if_true, if_false, Bool.false_eq_true, Bool.not_true, Bool.not_false, List.append_assoc, List.length_append, Option.isSome_some, wipeE, isNon, decide_true, decide_false]
  refine whole_rule ?_
  have e1 : (1 : Int) ≤ (p.2 : Int) := by omega
  have e8 : (p.2 : Int) ≤ (8 : Int) := by omega
  simp only [ev, List.getElem?_cons_zero, List.getElem?_cons_succ, List.set_cons_zero, List.set_cons_succ, List.map_cons, List.map_nil, List.length_cons, List.length_nil, List.replicate_succ, List.replicate_zero, List.cons_append, List.nil_append, Nat.reduceAdd, Nat.reduceSub, Nat.zero_add, Nat.sub_zero, Option.bind_some, true_and, and_true, outF, if_true, if_false, Bool.false_eq_true, Bool.not_true, Bool.not_false, List.append_assoc, List.length_append, Option.isSome_some, wipeE, isNon, decide_true, decide_false, e1, e8, cut1, List.take_succ_cons, List.take_zero]
  refine wpA_map (enc := encP) (fun q => .tup [.str q.1]) elder (fun q hq => ⟨_, rfl, ?_⟩) ?_
  · simp only [ev, List.getElem?_cons_zero, List.getElem?_cons_succ, List.set_cons_zero, List.set_cons_succ, List.map_cons, List.map_nil, List.length_cons, List.length_nil, List.replicate_succ, List.replicate_zero, List.cons_append, List.nil_append, Nat.reduceAdd, Nat.reduceSub, Nat.zero_add, Nat.sub_zero, Option.bind_some, true_and, and_true, outF, if_true, if_false, Bool.false_eq_true, Bool.not_true, Bool.not_false, List.append_assoc, List.length_append, Option.isSome_some, wipeE, isNon, decide_true, decide_false, encP, cut1, List.take_succ_cons, List.take_zero]
  · rw [List.length_map]
    refine ⟨by omega, ?_⟩
    have e : (elder.map fun q => D.tup [.str q.1]) = (elder.map (·.1)).map fun y => D.tup [.str y] := by rw [List.map_map]; rfl
    rw [e, notin_tup1 hp.1 (fun y hy => by obtain ⟨q, hq, rfl⟩ := List.mem_map.mp hy; exact he q hq) hn]
    simp only [ev, List.getElem?_cons_zero, List.getElem?_cons_succ, List.set_cons_zero, List.set_cons_succ, List.map_cons, List.map_nil, List.length_cons, List.length_nil, List.replicate_succ, List.replicate_zero, List.cons_append, List.nil_append, Nat.reduceAdd, Nat.reduceSub, Nat.zero_add, Nat.sub_zero, Option.bind_some, true_and, and_true, outF, if_true, if_false, Bool.false_eq_true, Bool.not_true, Bool.not_false, List.append_assoc, List.length_append, Option.isSome_some, wipeE, isNon, decide_true, decide_false, ret_bl]
    exact h
end K40

end

section
set_option Elab.async false
set_option linter.all false
set_option maxRecDepth 100000
/-! K40P15: the net's own checks pass -/
namespace K40
open PySem PySem.Spec L2 DV
theorem kd_kt (k : Kd) {M : Sto} : dIn (.str k.s) (.kt [.str "order", .str "loose", .str "order lossy", .str "loose lossy"]) M = some (.bl true) := by cases k <;> rfl
theorem channel_rule {c : Ch} {ps : List (Str × Nat)} {elder : List Ch} {M : Sto} {Q : D → Sto → Prop} (hc : NmOk c.nm ∧ c.g < ps.length ∧ c.t < ps.length ∧ c.g ≠ c.t) (he : ∀ e ∈ elder, NmOk e.nm) (hl : elder.length ≤ 1000) (hn : c.nm ∉ elder.map (·.nm)) (h : Q (.bl true) M) :
    wpF F_is_channel [encC c, .tup (ps.map encP), .tup (elder.map encC)] M Q := by
  have hS : sizeLine = 16777216 := rfl
  unfold F_is_channel B_is_channel
  simp only [ev, List.getElem?_cons_zero, List.getElem?_cons_succ, List.set_cons_zero, List.set_cons_succ, List.map_cons, List.map_nil, List.length_cons, List.length_nil, List.replicate_succ, List.replicate_zero, List.cons_append, List.nil_append, Nat.reduceAdd, Nat.reduceSub, Nat.zero_add, Nat.sub_zero, Option.bind_some, true_and, and_true, outF, if_true, if_false, Bool.false_eq_true, Bool.not_true, Bool.not_false, List.append_assoc, List.length_append, Option.isSome_some, wipeE, isNon, decide_true, decide_false, encC, Int.cast_ofNat_Int, decide_true]
  refine name_rule hc.1 ?_
  simp only [ev, List.getElem?_cons_zero, List.getElem?_cons_succ, List.set_cons_zero, List.set_cons_succ, List.map_cons, List.map_nil, List.length_cons, List.length_nil, List.replicate_succ, List.replicate_zero, List.cons_append, List.nil_append, Nat.reduceAdd, Nat.reduceSub, Nat.zero_add, Nat.sub_zero, Option.bind_some, true_and, and_true, outF, if_true, if_false, Bool.false_eq_true, Bool.not_true, Bool.not_false, List.append_assoc, List.length_append, Option.isSome_some, wipeE, isNon, decide_true, decide_false, cut1, List.take_succ_cons, List.take_zero]
  refine wpA_map (enc := encC) (fun q => .tup [.str q.nm]) elder (fun q hq => ⟨_, rfl, ?_⟩) ?_
  · simp only [ev, List.getElem?_cons_zero, List.getElem?_cons_succ, List.set_cons_zero, List.set_cons_succ, List.map_cons, List.map_nil, List.length_cons, List.length_nil, List.replicate_succ, List.replicate_zero, List.cons_append, List.nil_append, Nat.reduceAdd, Nat.reduceSub, Nat.zero_add, Nat.sub_zero, Option.bind_some, true_and, and_true, outF, if_true, if_false, Bool.false_eq_true, Bool.not_true, Bool.not_false, List.append_assoc, List.length_append, Option.isSome_some, wipeE, isNon, decide_true, decide_false, encC, cut1, List.take_succ_cons, List.take_zero]
  · rw [List.length_map]
    refine ⟨by omega, ?_⟩
    have e : (elder.map fun q => D.tup [.str q.nm]) = (elder.map (·.nm)).map fun y => D.tup [.str y] := by rw [List.map_map]; rfl
    rw [e, isin_tup1 hc.1 (fun y hy => by obtain ⟨q, hq, rfl⟩ := List.mem_map.mp hy; exact he q hq) hn]
    simp only [ev, List.getElem?_cons_zero, List.getElem?_cons_succ, List.set_cons_zero, List.set_cons_succ, List.map_cons, List.map_nil, List.length_cons, List.length_nil, List.replicate_succ, List.replicate_zero, List.cons_append, List.nil_append, Nat.reduceAdd, Nat.reduceSub, Nat.zero_add, Nat.sub_zero, Option.bind_some, true_and, and_true, outF, if_true, if_false, Bool.false_eq_true, Bool.not_true, Bool.not_false, List.append_assoc, List.length_append, Option.isSome_some, wipeE, isNon, decide_true, decide_false, List.length_map]
    refine below_rule hc.2.1 ?_
    simp only [ev, List.getElem?_cons_zero, List.getElem?_cons_succ, List.set_cons_zero, List.set_cons_succ, List.map_cons, List.map_nil, List.length_cons, List.length_nil, List.replicate_succ, List.replicate_zero, List.cons_append, List.nil_append, Nat.reduceAdd, Nat.reduceSub, Nat.zero_add, Nat.sub_zero, Option.bind_some, true_and, and_true, outF, if_true, if_false, Bool.false_eq_true, Bool.not_true, Bool.not_false, List.append_assoc, List.length_append, Option.isSome_some, wipeE, isNon, decide_true, decide_false, List.length_map]
    refine below_rule hc.2.2.1 ?_
    have hne : ¬ ((c.g : Int) = (c.t : Int)) := by have := hc.2.2.2; omega
    simp only [ev, List.getElem?_cons_zero, List.getElem?_cons_succ, List.set_cons_zero, List.set_cons_succ, List.map_cons, List.map_nil, List.length_cons, List.length_nil, List.replicate_succ, List.replicate_zero, List.cons_append, List.nil_append, Nat.reduceAdd, Nat.reduceSub, Nat.zero_add, Nat.sub_zero, Option.bind_some, true_and, and_true, outF, if_true, if_false, Bool.false_eq_true, Bool.not_true, Bool.not_false, List.append_assoc, List.length_append, Option.isSome_some, wipeE, isNon, decide_true, decide_false, decide_eq_false hne, ty_str, kit_ss, kd_kt, ret_bl]
    exact h
theorem in_act1 {M : Sto} : dNotIn (.str "send") (.tup [.str "send", .str "take"]) M = some (.bl false) := rfl
theorem in_act2 {M : Sto} : dNotIn (.str "take") (.tup [.str "send", .str "take"]) M = some (.bl false) := rfl
theorem act_rule {a : Act} {p : Nat} {cs : List Ch} {M : Sto} {Q : D → Sto → Prop} (ha : ActV cs p a) (h : Q (.bl true) M) : wpF F_is_act [encA a, .int (p : Int), .tup (cs.map encC)] M Q := by
  unfold F_is_act B_is_act
  cases a with
  | idle =>
    simp only [ev, List.getElem?_cons_zero, List.getElem?_cons_succ, List.set_cons_zero, List.set_cons_succ, List.map_cons, List.map_nil, List.length_cons, List.length_nil, List.replicate_succ, List.replicate_zero, List.cons_append, List.nil_append, Nat.reduceAdd, Nat.reduceSub, Nat.zero_add, Nat.sub_zero, Option.bind_some, true_and, and_true, outF, if_true, if_false, Bool.false_eq_true, Bool.not_true, Bool.not_false, List.append_assoc, List.length_append, Option.isSome_some, wipeE, isNon, decide_true, decide_false, encA, ty_tup, kit_tt, Int.cast_ofNat_Int, decide_true, ty_str, kit_ss, ret_bl]
    rw [if_neg (by decide)]
    exact h
  | send c x =>
    obtain ⟨k, hk, hg, hx⟩ := ha
    have hlt := ch_lt (n := ⟨[], cs, []⟩) hk
    have hk2 : (cs.map encC)[c]? = some (encC k) := by rw [List.getElem?_map, hk]; rfl
    have e1 : decide (((3 : Nat) : Int) = 0) = false := by decide
    simp only [ev, List.getElem?_cons_zero, List.getElem?_cons_succ, List.set_cons_zero, List.set_cons_succ, List.map_cons, List.map_nil, List.length_cons, List.length_nil, List.replicate_succ, List.replicate_zero, List.cons_append, List.nil_append, Nat.reduceAdd, Nat.reduceSub, Nat.zero_add, Nat.sub_zero, Option.bind_some, true_and, and_true, outF, if_true, if_false, Bool.false_eq_true, Bool.not_true, Bool.not_false, List.append_assoc, List.length_append, Option.isSome_some, wipeE, isNon, decide_true, decide_false, encA, ty_tup, kit_tt, e1, decide_true, ty_str, kit_ss, ret_bl, str_7, in_act1, Int.cast_ofNat_Int, List.length_map]
    rw [if_neg (by decide)]
    refine ⟨by decide, ?_⟩
    refine below_rule hlt ?_
    simp only [ev, List.getElem?_cons_zero, List.getElem?_cons_succ, List.set_cons_zero, List.set_cons_succ, List.map_cons, List.map_nil, List.length_cons, List.length_nil, List.replicate_succ, List.replicate_zero, List.cons_append, List.nil_append, Nat.reduceAdd, Nat.reduceSub, Nat.zero_add, Nat.sub_zero, Option.bind_some, true_and, and_true, outF, if_true, if_false, Bool.false_eq_true, Bool.not_true, Bool.not_false, List.append_assoc, List.length_append, Option.isSome_some, wipeE, isNon, decide_true, decide_false]
    refine below_rule (n := 10) hx ?_
    simp only [ev, List.getElem?_cons_zero, List.getElem?_cons_succ, List.set_cons_zero, List.set_cons_succ, List.map_cons, List.map_nil, List.length_cons, List.length_nil, List.replicate_succ, List.replicate_zero, List.cons_append, List.nil_append, Nat.reduceAdd, Nat.reduceSub, Nat.zero_add, Nat.sub_zero, Option.bind_some, true_and, and_true, outF, if_true, if_false, Bool.false_eq_true, Bool.not_true, Bool.not_false, List.append_assoc, List.length_append, Option.isSome_some, wipeE, isNon, decide_true, decide_false, hk2, encC, hg, decide_true, ret_bl]
    exact h
  | take c x =>
    obtain ⟨k, hk, hg, hx⟩ := ha
    have hlt := ch_lt (n := ⟨[], cs, []⟩) hk
    have hk2 : (cs.map encC)[c]? = some (encC k) := by rw [List.getElem?_map, hk]; rfl
    have e1 : decide (((3 : Nat) : Int) = 0) = false := by decide
    simp only [ev, List.getElem?_cons_zero, List.getElem?_cons_succ, List.set_cons_zero, List.set_cons_succ, List.map_cons, List.map_nil, List.length_cons, List.length_nil, List.replicate_succ, List.replicate_zero, List.cons_append, List.nil_append, Nat.reduceAdd, Nat.reduceSub, Nat.zero_add, Nat.sub_zero, Option.bind_some, true_and, and_true, outF, if_true, if_false, Bool.false_eq_true, Bool.not_true, Bool.not_false, List.append_assoc, List.length_append, Option.isSome_some, wipeE, isNon, decide_true, decide_false, encA, ty_tup, kit_tt, e1, decide_true, ty_str, kit_ss, ret_bl, str_8, str_6, in_act2, Int.cast_ofNat_Int, List.length_map]
    rw [if_neg (by decide)]
    refine ⟨by decide, ?_⟩
    refine below_rule hlt ?_
    simp only [ev, List.getElem?_cons_zero, List.getElem?_cons_succ, List.set_cons_zero, List.set_cons_succ, List.map_cons, List.map_nil, List.length_cons, List.length_nil, List.replicate_succ, List.replicate_zero, List.cons_append, List.nil_append, Nat.reduceAdd, Nat.reduceSub, Nat.zero_add, Nat.sub_zero, Option.bind_some, true_and, and_true, outF, if_true, if_false, Bool.false_eq_true, Bool.not_true, Bool.not_false, List.append_assoc, List.length_append, Option.isSome_some, wipeE, isNon, decide_true, decide_false]
    refine below_rule (n := 10) hx ?_
    simp only [ev, List.getElem?_cons_zero, List.getElem?_cons_succ, List.set_cons_zero, List.set_cons_succ, List.map_cons, List.map_nil, List.length_cons, List.length_nil, List.replicate_succ, List.replicate_zero, List.cons_append, List.nil_append, Nat.reduceAdd, Nat.reduceSub, Nat.zero_add, Nat.sub_zero, Option.bind_some, true_and, and_true, outF, if_true, if_false, Bool.false_eq_true, Bool.not_true, Bool.not_false, List.append_assoc, List.length_append, Option.isSome_some, wipeE, isNon, decide_true, decide_false, hk2, encC, hg, decide_true, ret_bl]
    exact h
theorem isrule_rule {r : Ru} {ps : List (Str × Nat)} {cs : List Ch} {M : Sto} {Q : D → Sto → Prop} (hr : RuV ps cs r) (h : Q (.bl true) M) : wpF F_is_rule [encR r, .tup (ps.map encP), .tup (cs.map encC)] M Q := by
  obtain ⟨⟨q, hq, hs, ht⟩, ha⟩ := hr
  have hlt : r.p < ps.length := by
    rcases Nat.lt_or_ge r.p ps.length with z | z
    · exact z
    · rw [List.getElem?_eq_none z] at hq; cases hq
  unfold F_is_rule B_is_rule
  simp only [ev, List.getElem?_cons_zero, List.getElem?_cons_succ, List.set_cons_zero, List.set_cons_succ, List.map_cons, List.map_nil, List.length_cons, List.length_nil, List.replicate_succ, List.replicate_zero, List.cons_append, List.nil_append, Nat.reduceAdd, Nat.reduceSub, Nat.zero_add, Nat.sub_zero, Option.bind_some, true_and, and_true, outF, if_true, if_false, Bool.false_eq_true, Bool.not_true, Bool.not_false, List.append_assoc, List.length_append, Option.isSome_some, wipeE, isNon, decide_true, decide_false, encR, Int.cast_ofNat_Int, decide_true, List.length_map]
  refine below_rule hlt ?_
  simp only [ev, List.getElem?_cons_zero, List.getElem?_cons_succ, List.set_cons_zero, List.set_cons_succ, List.map_cons, List.map_nil, List.length_cons, List.length_nil, List.replicate_succ, List.replicate_zero, List.cons_append, List.nil_append, Nat.reduceAdd, Nat.reduceSub, Nat.zero_add, Nat.sub_zero, Option.bind_some, true_and, and_true, outF, if_true, if_false, Bool.false_eq_true, Bool.not_true, Bool.not_false, List.append_assoc, List.length_append, Option.isSome_some, wipeE, isNon, decide_true, decide_false, ps_at hq, encP]
  refine below_rule hs ?_
  simp only [ev, List.getElem?_cons_zero, List.getElem?_cons_succ, List.set_cons_zero, List.set_cons_succ, List.map_cons, List.map_nil, List.length_cons, List.length_nil, List.replicate_succ, List.replicate_zero, List.cons_append, List.nil_append, Nat.reduceAdd, Nat.reduceSub, Nat.zero_add, Nat.sub_zero, Option.bind_some, true_and, and_true, outF, if_true, if_false, Bool.false_eq_true, Bool.not_true, Bool.not_false, List.append_assoc, List.length_append, Option.isSome_some, wipeE, isNon, decide_true, decide_false]
  refine below_rule ht ?_
  simp only [ev, List.getElem?_cons_zero, List.getElem?_cons_succ, List.set_cons_zero, List.set_cons_succ, List.map_cons, List.map_nil, List.length_cons, List.length_nil, List.replicate_succ, List.replicate_zero, List.cons_append, List.nil_append, Nat.reduceAdd, Nat.reduceSub, Nat.zero_add, Nat.sub_zero, Option.bind_some, true_and, and_true, outF, if_true, if_false, Bool.false_eq_true, Bool.not_true, Bool.not_false, List.append_assoc, List.length_append, Option.isSome_some, wipeE, isNon, decide_true, decide_false]
  refine act_rule ha ?_
  simp only [ev, List.getElem?_cons_zero, List.getElem?_cons_succ, List.set_cons_zero, List.set_cons_succ, List.map_cons, List.map_nil, List.length_cons, List.length_nil, List.replicate_succ, List.replicate_zero, List.cons_append, List.nil_append, Nat.reduceAdd, Nat.reduceSub, Nat.zero_add, Nat.sub_zero, Option.bind_some, true_and, and_true, outF, if_true, if_false, Bool.false_eq_true, Bool.not_true, Bool.not_false, List.append_assoc, List.length_append, Option.isSome_some, wipeE, isNon, decide_true, decide_false, ret_bl]
  exact h

theorem cutn {α : Type} (l : List α) (i : Nat) : cut l none (some (i : Int)) = l.take i := by
  unfold cut
  rw [HT.sIx_none, HT.sIx_nat, List.drop_zero, Nat.sub_zero]
  by_cases h : i ≤ l.length
  · rw [Nat.min_eq_left h]
  · rw [Nat.min_eq_right (by omega), List.take_length, List.take_of_length_le (by omega)]
theorem putA_last {C f : Str} {v : D} {M : Sto} {ns : List Str} {ds : List D} (h : ns.length < 1000) : putA C f (.ref M.length) v (M ++ [Ob.ins C ns ds]) = some (M ++ [Ob.ins C (putN f v ns ds).1 (putN f v ns ds).2]) := by
  have hg : (M ++ [Ob.ins C ns ds])[M.length]? = some (Ob.ins C ns ds) := by simp
  unfold putA
  simp [hg, h]
theorem put1 {a : D} : putN "processes" a [] [] = (([("processes" : Str)], [a]) : List Str × List D) := rfl
theorem put2 {a b : D} : putN "channels" b ["processes"] [a] = (([("processes" : Str), "channels"], [a, b]) : List Str × List D) := by
  unfold putN
  rw [if_neg (by decide +kernel)]
  rfl
theorem put3 {a b c : D} : putN "rules" c ["processes", "channels"] [a, b] = (([("processes" : Str), "channels", "rules"], [a, b, c]) : List Str × List D) := by
  unfold putN
  rw [if_neg (by decide +kernel)]
  unfold putN
  rw [if_neg (by decide +kernel)]
  rfl
theorem retF_init {M : Sto} {o o' : Ob} (h : belowOb (M.length + 1) o' = true) : retF (M ++ [o]) .non (M ++ [o']) = some (.non, M ++ [o']) := by
  unfold retF
  rw [if_pos]
  · simp only [freeze]
    rw [List.take_of_length_le (by simp)]
  · intro r z hr hz
    rw [List.length_append, List.length_singleton] at hr ⊢
    by_cases e : r = M.length
    · subst e
      simp at hz
      subst hz
      exact .inr h
    · rw [List.getElem?_append_left (by omega)] at hz ⊢
      exact .inl hz
theorem retF_made {M : Sto} {C : Str} {ns : List Str} {ds : List D} (h : belows 0 ds = true) : retF M (.ref M.length) (M ++ [.ins C ns ds]) = some (.obj C ns ds, M) := by
  unfold retF
  rw [if_pos]
  · unfold freeze
    rw [if_neg (by omega), List.getElem?_append_right (Nat.le_refl _), Nat.sub_self]
    simp [belows_plain _ _ h]
  · intro r z hr hz
    rw [List.getElem?_append_left hr] at hz
    exact .inl hz
theorem zip_at {α : Type} {l : List α} {p : α × Nat} (h : p ∈ l.zipIdx) : l[p.2]? = some p.1 := by
  obtain ⟨x, i⟩ := p
  have := List.mk_mem_zipIdx_iff_getElem?.mp h
  exact this
theorem not_in_take {α β : Type} [DecidableEq β] {l : List α} {f : α → β} {x : α} {i : Nat} (hn : (l.map f).Nodup) (h : l[i]? = some x) : f x ∉ (l.take i).map f := by
  intro hm
  have hlt : i < l.length := by
    rcases Nat.lt_or_ge i l.length with z | z
    · exact z
    · rw [List.getElem?_eq_none z] at h; cases h
  have e : l = l.take i ++ l.drop i := (List.take_append_drop i l).symm
  have hd : l.drop i = x :: l.drop (i + 1) := by
    rw [List.drop_eq_getElem_cons hlt]
    rw [List.getElem?_eq_getElem hlt] at h
    cases h; rfl
  rw [e, List.map_append, hd, List.map_cons, List.nodup_append] at hn
  exact hn.2.2 (f x) hm (f x) (List.mem_cons_self ..) rfl
theorem all_true {α : Type} {l : List α} {M : Sto} : cAll [.lst (l.map fun _ => D.bl true)] M = some (.bl true) := by
  have := o_all_map (l := l) (f := fun _ => true) (M := M)
  rw [this]; congr 2
  rw [List.all_eq_true]; intro _ _; rfl
theorem init_ok {n : Net} (hn : NetV n) {M : Sto} {f : Str × Nat → D} {v1 v2 v3 : D} (h1 : SeqD v1 (n.ps.map f)) (hf : ∀ p, SeqD (f p) [.str p.1, .int (p.2 : Nat)]) (h2 : SeqD v2 (n.cs.map encC)) (h3 : SeqD v3 (n.rs.map encR)) :
    wpF F_Net_init [.ref M.length, v1, v2, v3] (M ++ [.ins "Net" [] []]) fun d M' => d = .non ∧ M' = M ++ [.ins "Net" ["processes", "channels", "rules"] [.tup (n.ps.map encP), .tup (n.cs.map encC), .tup (n.rs.map encR)]] := by
  have hS : sizeLine = 16777216 := rfl
  have np := hn.np
  have nc := hn.nc
  have nr := hn.nr
  unfold F_Net_init B_Net_init
  simp only [ev, List.getElem?_cons_zero, List.getElem?_cons_succ, List.set_cons_zero, List.set_cons_succ, List.map_cons, List.map_nil, List.length_cons, List.length_nil, List.replicate_succ, List.replicate_zero, List.cons_append, List.nil_append, Nat.reduceAdd, Nat.reduceSub, Nat.zero_add, Nat.sub_zero, Option.bind_some, true_and, and_true, outF, if_true, if_false, Bool.false_eq_true, Bool.not_true, Bool.not_false, List.append_assoc, List.length_append, Option.isSome_some, wipeE, isNon, decide_true, decide_false]
  refine (rows_ok (g := encP) (lo := 1) (hi := 5) h1 (by omega) hn.np1 hn.np (fun x _ => ⟨rfl, _, rfl⟩) (fun x _ M => frozen_P (k := 2) (d := 1) x (hf x))).imp ?_
  rintro v M' ⟨rfl, rfl⟩
  simp only [ev, List.getElem?_cons_zero, List.getElem?_cons_succ, List.set_cons_zero, List.set_cons_succ, List.map_cons, List.map_nil, List.length_cons, List.length_nil, List.replicate_succ, List.replicate_zero, List.cons_append, List.nil_append, Nat.reduceAdd, Nat.reduceSub, Nat.zero_add, Nat.sub_zero, Option.bind_some, true_and, and_true, outF, if_true, if_false, Bool.false_eq_true, Bool.not_true, Bool.not_false, List.append_assoc, List.length_append, Option.isSome_some, wipeE, isNon, decide_true, decide_false, en1_tup, enumD_map]
  refine wpA_map (enc := fun p : (Str × Nat) × Nat => .tup [.int (p.2 : Nat), encP p.1]) (fun _ => .bl true) n.ps.zipIdx (fun p hp => ?_) ?_
  · have hat := zip_at hp
    refine ⟨_, rfl, ?_⟩
    simp only [ev, List.getElem?_cons_zero, List.getElem?_cons_succ, List.set_cons_zero, List.set_cons_succ, List.map_cons, List.map_nil, List.length_cons, List.length_nil, List.replicate_succ, List.replicate_zero, List.cons_append, List.nil_append, Nat.reduceAdd, Nat.reduceSub, Nat.zero_add, Nat.sub_zero, Option.bind_some, true_and, and_true, outF, if_true, if_false, Bool.false_eq_true, Bool.not_true, Bool.not_false, List.append_assoc, List.length_append, Option.isSome_some, wipeE, isNon, decide_true, decide_false, cutn, ← List.map_take]
    refine process_rule (hn.pok p.1 (List.mem_of_getElem? hat)) (fun e he => (hn.pok e (List.mem_of_mem_take he)).1) (by simp; omega) (not_in_take hn.pnd hat) ?_
    exact ⟨rfl, rfl⟩
  rw [List.length_map, List.length_zipIdx, all_true]
  refine ⟨by omega, ?_⟩
  simp only [ev, List.getElem?_cons_zero, List.getElem?_cons_succ, List.set_cons_zero, List.set_cons_succ, List.map_cons, List.map_nil, List.length_cons, List.length_nil, List.replicate_succ, List.replicate_zero, List.cons_append, List.nil_append, Nat.reduceAdd, Nat.reduceSub, Nat.zero_add, Nat.sub_zero, Option.bind_some, true_and, and_true, outF, if_true, if_false, Bool.false_eq_true, Bool.not_true, Bool.not_false, List.append_assoc, List.length_append, Option.isSome_some, wipeE, isNon, decide_true, decide_false]
  refine (rows_ok (g := encC) (lo := 0) (hi := 8) h2 (by omega) (by omega) hn.nc (fun x _ => ⟨rfl, _, rfl⟩) (fun x _ M => frozen_C (k := 2) (d := 1) x)).imp ?_
  rintro v M' ⟨rfl, rfl⟩
  simp only [ev, List.getElem?_cons_zero, List.getElem?_cons_succ, List.set_cons_zero, List.set_cons_succ, List.map_cons, List.map_nil, List.length_cons, List.length_nil, List.replicate_succ, List.replicate_zero, List.cons_append, List.nil_append, Nat.reduceAdd, Nat.reduceSub, Nat.zero_add, Nat.sub_zero, Option.bind_some, true_and, and_true, outF, if_true, if_false, Bool.false_eq_true, Bool.not_true, Bool.not_false, List.append_assoc, List.length_append, Option.isSome_some, wipeE, isNon, decide_true, decide_false, en1_tup, enumD_map]
  refine wpA_map (enc := fun p : Ch × Nat => .tup [.int (p.2 : Nat), encC p.1]) (fun _ => .bl true) n.cs.zipIdx (fun p hp => ?_) ?_
  · have hat := zip_at hp
    refine ⟨_, rfl, ?_⟩
    simp only [ev, List.getElem?_cons_zero, List.getElem?_cons_succ, List.set_cons_zero, List.set_cons_succ, List.map_cons, List.map_nil, List.length_cons, List.length_nil, List.replicate_succ, List.replicate_zero, List.cons_append, List.nil_append, Nat.reduceAdd, Nat.reduceSub, Nat.zero_add, Nat.sub_zero, Option.bind_some, true_and, and_true, outF, if_true, if_false, Bool.false_eq_true, Bool.not_true, Bool.not_false, List.append_assoc, List.length_append, Option.isSome_some, wipeE, isNon, decide_true, decide_false, cutn, ← List.map_take]
    refine channel_rule (hn.cok p.1 (List.mem_of_getElem? hat)) (fun e he => (hn.cok e (List.mem_of_mem_take he)).1) (by simp; omega) (not_in_take hn.cnd hat) ?_
    exact ⟨rfl, rfl⟩
  rw [List.length_map, List.length_zipIdx, all_true]
  refine ⟨by omega, ?_⟩
  simp only [ev, List.getElem?_cons_zero, List.getElem?_cons_succ, List.set_cons_zero, List.set_cons_succ, List.map_cons, List.map_nil, List.length_cons, List.length_nil, List.replicate_succ, List.replicate_zero, List.cons_append, List.nil_append, Nat.reduceAdd, Nat.reduceSub, Nat.zero_add, Nat.sub_zero, Option.bind_some, true_and, and_true, outF, if_true, if_false, Bool.false_eq_true, Bool.not_true, Bool.not_false, List.append_assoc, List.length_append, Option.isSome_some, wipeE, isNon, decide_true, decide_false]
  refine (rows_ok (g := encR) (lo := 0) (hi := 40) h3 (by omega) (by omega) hn.nr (fun x _ => ⟨below_R x, _, rfl⟩) (fun x _ M => frozen_R (k := 1) x)).imp ?_
  rintro v M' ⟨rfl, rfl⟩
  simp only [ev, List.getElem?_cons_zero, List.getElem?_cons_succ, List.set_cons_zero, List.set_cons_succ, List.map_cons, List.map_nil, List.length_cons, List.length_nil, List.replicate_succ, List.replicate_zero, List.cons_append, List.nil_append, Nat.reduceAdd, Nat.reduceSub, Nat.zero_add, Nat.sub_zero, Option.bind_some, true_and, and_true, outF, if_true, if_false, Bool.false_eq_true, Bool.not_true, Bool.not_false, List.append_assoc, List.length_append, Option.isSome_some, wipeE, isNon, decide_true, decide_false]
  refine wpA_map (enc := encR) (fun _ => .bl true) n.rs (fun r hr => ⟨_, rfl, ?_⟩) ?_
  · simp only [ev, List.getElem?_cons_zero, List.getElem?_cons_succ, List.set_cons_zero, List.set_cons_succ, List.map_cons, List.map_nil, List.length_cons, List.length_nil, List.replicate_succ, List.replicate_zero, List.cons_append, List.nil_append, Nat.reduceAdd, Nat.reduceSub, Nat.zero_add, Nat.sub_zero, Option.bind_some, true_and, and_true, outF, if_true, if_false, Bool.false_eq_true, Bool.not_true, Bool.not_false, List.append_assoc, List.length_append, Option.isSome_some, wipeE, isNon, decide_true, decide_false]
    exact isrule_rule (hn.rok r hr) ⟨rfl, rfl⟩
  rw [List.length_map, all_true]
  refine ⟨by omega, ?_⟩
  simp only [ev, List.getElem?_cons_zero, List.getElem?_cons_succ, List.set_cons_zero, List.set_cons_succ, List.map_cons, List.map_nil, List.length_cons, List.length_nil, List.replicate_succ, List.replicate_zero, List.cons_append, List.nil_append, Nat.reduceAdd, Nat.reduceSub, Nat.zero_add, Nat.sub_zero, Option.bind_some, true_and, and_true, outF, if_true, if_false, Bool.false_eq_true, Bool.not_true, Bool.not_false, List.append_assoc, List.length_append, Option.isSome_some, wipeE, isNon, decide_true, decide_false]
  rw [putA_last (by simp), put1]
  simp only [ev, List.getElem?_cons_zero, List.getElem?_cons_succ, List.set_cons_zero, List.set_cons_succ, List.map_cons, List.map_nil, List.length_cons, List.length_nil, List.replicate_succ, List.replicate_zero, List.cons_append, List.nil_append, Nat.reduceAdd, Nat.reduceSub, Nat.zero_add, Nat.sub_zero, Option.bind_some, true_and, and_true, outF, if_true, if_false, Bool.false_eq_true, Bool.not_true, Bool.not_false, List.append_assoc, List.length_append, Option.isSome_some, wipeE, isNon, decide_true, decide_false]
  rw [putA_last (by simp), put2]
  simp only [ev, List.getElem?_cons_zero, List.getElem?_cons_succ, List.set_cons_zero, List.set_cons_succ, List.map_cons, List.map_nil, List.length_cons, List.length_nil, List.replicate_succ, List.replicate_zero, List.cons_append, List.nil_append, Nat.reduceAdd, Nat.reduceSub, Nat.zero_add, Nat.sub_zero, Option.bind_some, true_and, and_true, outF, if_true, if_false, Bool.false_eq_true, Bool.not_true, Bool.not_false, List.append_assoc, List.length_append, Option.isSome_some, wipeE, isNon, decide_true, decide_false]
  rw [putA_last (by simp), put3]
  simp only [ev, List.getElem?_cons_zero, List.getElem?_cons_succ, List.set_cons_zero, List.set_cons_succ, List.map_cons, List.map_nil, List.length_cons, List.length_nil, List.replicate_succ, List.replicate_zero, List.cons_append, List.nil_append, Nat.reduceAdd, Nat.reduceSub, Nat.zero_add, Nat.sub_zero, Option.bind_some, true_and, and_true, outF, if_true, if_false, Bool.false_eq_true, Bool.not_true, Bool.not_false, List.append_assoc, List.length_append, Option.isSome_some, wipeE, isNon, decide_true, decide_false]
  rw [retF_init (by
    have b1 : belows 0 (n.ps.map encP) = true := belows_map fun _ _ => rfl
    have b2 : belows 0 (n.cs.map encC) = true := belows_map fun _ _ => rfl
    have b3 : belows 0 (n.rs.map encR) = true := belows_map fun r _ => below_R r
    show belows _ [D.tup (n.ps.map encP), .tup (n.cs.map encC), .tup (n.rs.map encR)] = true
    exact belows_plain _ _ (by simp only [below, belows, b1, b2, b3, Bool.and_self]))]
  exact wpO_some.mpr ⟨rfl, rfl⟩
theorem mk_end {n : Net} {M M1 : Sto} {Q : D → Sto → Prop} (h : Pm M M1) (q : Q (oN n) M1) : wpO (retF M (oN n) M1) fun p => Q p.1 p.2 := by
  have b1 : belows 0 (n.ps.map encP) = true := belows_map fun _ _ => rfl
  have b2 : belows 0 (n.cs.map encC) = true := belows_map fun _ _ => rfl
  have b3 : belows 0 (n.rs.map encR) = true := belows_map fun r _ => below_R r
  rw [retF_pm0 h (by simp only [oN, below, belows, b1, b2, b3, Bool.and_self])]
  exact wpO_some.mpr q
theorem made_ok {n : Net} (hn : NetV n) (M : Sto) (hM : Pm M M) : wpF F_law_made [.ref 0, encN n] M fun v M' => Pm M M' ∧ v = oN n := by
  have hS : sizeLine = 16777216 := rfl
  have np := hn.np
  have nc := hn.nc
  have nr := hn.nr
  have hb : ∀ n : Net, belows 0 [D.tup (n.ps.map encP), .tup (n.cs.map encC), .tup (n.rs.map encR)] = true := by
    intro n
    have b1 : belows 0 (n.ps.map encP) = true := belows_map fun _ _ => rfl
    have b2 : belows 0 (n.cs.map encC) = true := belows_map fun _ _ => rfl
    have b3 : belows 0 (n.rs.map encR) = true := belows_map fun r _ => below_R r
    simp only [below, belows, b1, b2, b3, Bool.and_self]
  unfold F_law_made B_law_made
  simp only [ev, List.getElem?_cons_zero, List.getElem?_cons_succ, List.set_cons_zero, List.set_cons_succ, List.map_cons, List.map_nil, List.length_cons, List.length_nil, List.replicate_succ, List.replicate_zero, List.cons_append, List.nil_append, Nat.reduceAdd, Nat.reduceSub, Nat.zero_add, Nat.sub_zero, Option.bind_some, true_and, and_true, outF, if_true, if_false, Bool.false_eq_true, Bool.not_true, Bool.not_false, List.append_assoc, List.length_append, Option.isSome_some, wipeE, isNon, decide_true, decide_false]
  refine draw_rule0 (n := 2) hM (by omega) (by omega) fun k M1 hk h1 => ?_
  simp only [ev, List.getElem?_cons_zero, List.getElem?_cons_succ, List.set_cons_zero, List.set_cons_succ, List.map_cons, List.map_nil, List.length_cons, List.length_nil, List.replicate_succ, List.replicate_zero, List.cons_append, List.nil_append, Nat.reduceAdd, Nat.reduceSub, Nat.zero_add, Nat.sub_zero, Option.bind_some, true_and, and_true, outF, if_true, if_false, Bool.false_eq_true, Bool.not_true, Bool.not_false, List.append_assoc, List.length_append, Option.isSome_some, wipeE, isNon, decide_true, decide_false, encN, decide_eq_true_eq]
  split
  · refine (init_ok hn (M := M1) (f := encP) (.inl rfl) (fun p => .inl rfl) (.inl rfl) (.inl rfl)).imp ?_
    rintro d M' ⟨rfl, rfl⟩
    refine ⟨rfl, ?_⟩
    rw [retF_made (hb n)]
    simp only [ev, List.getElem?_cons_zero, List.getElem?_cons_succ, List.set_cons_zero, List.set_cons_succ, List.map_cons, List.map_nil, List.length_cons, List.length_nil, List.replicate_succ, List.replicate_zero, List.cons_append, List.nil_append, Nat.reduceAdd, Nat.reduceSub, Nat.zero_add, Nat.sub_zero, Option.bind_some, true_and, and_true, outF, if_true, if_false, Bool.false_eq_true, Bool.not_true, Bool.not_false, List.append_assoc, List.length_append, Option.isSome_some, wipeE, isNon, decide_true, decide_false]
    exact mk_end (Q := fun v M' => Pm M M' ∧ v = oN n) h1 ⟨h1, rfl⟩
  · refine wpA_map (enc := encP) (fun p => .lst [.str p.1, .int (p.2 : Nat)]) n.ps (fun p hp => ⟨_, rfl, ?_⟩) ?_
    · simp only [ev, List.getElem?_cons_zero, List.getElem?_cons_succ, List.set_cons_zero, List.set_cons_succ, List.map_cons, List.map_nil, List.length_cons, List.length_nil, List.replicate_succ, List.replicate_zero, List.cons_append, List.nil_append, Nat.reduceAdd, Nat.reduceSub, Nat.zero_add, Nat.sub_zero, Option.bind_some, true_and, and_true, outF, if_true, if_false, Bool.false_eq_true, Bool.not_true, Bool.not_false, List.append_assoc, List.length_append, Option.isSome_some, wipeE, isNon, decide_true, decide_false, encP]
    · rw [List.length_map]
      refine ⟨by omega, ?_⟩
      refine (init_ok hn (M := M1) (f := fun p => .lst [.str p.1, .int (p.2 : Nat)]) (.inr rfl) (fun p => .inr rfl) (.inr rfl) (.inr rfl)).imp ?_
      rintro d M' ⟨rfl, rfl⟩
      refine ⟨rfl, ?_⟩
      rw [retF_made (hb n)]
      simp only [ev, List.getElem?_cons_zero, List.getElem?_cons_succ, List.set_cons_zero, List.set_cons_succ, List.map_cons, List.map_nil, List.length_cons, List.length_nil, List.replicate_succ, List.replicate_zero, List.cons_append, List.nil_append, Nat.reduceAdd, Nat.reduceSub, Nat.zero_add, Nat.sub_zero, Option.bind_some, true_and, and_true, outF, if_true, if_false, Bool.false_eq_true, Bool.not_true, Bool.not_false, List.append_assoc, List.length_append, Option.isSome_some, wipeE, isNon, decide_true, decide_false]
      exact mk_end (Q := fun v M' => Pm M M' ∧ v = oN n) h1 ⟨h1, rfl⟩
end K40

end

section
set_option Elab.async false
set_option linter.all false
set_option maxRecDepth 100000
/-! K40P16: a run -/
namespace K40
open PySem PySem.Spec L2 DV
structure WI (n : Net) (w : Wo) (m : Nat) : Prop where
  st : w.st.length = n.ps.length
  sn : w.sn.length = n.cs.length
  pr : w.pr.length = n.cs.length
  sz : ∀ r ∈ w.pr, r.length ≤ m
  nd : ∀ c, ((w.row c).map (·.1)).Nodup
  lt : ∀ c, ∀ q ∈ w.row c, q.1 < w.sent c
theorem WI.ok {n : Net} {w : Wo} {m : Nat} (h : WI n w m) (hm : m ≤ 1000) : WoOk n w := ⟨h.st, h.sn, h.pr, fun r hr => Nat.le_trans (h.sz r hr) hm, h.nd⟩
theorem WI.mono {n : Net} {w : Wo} {m k : Nat} (h : WI n w m) (hm : m ≤ k) : WI n w k := ⟨h.st, h.sn, h.pr, fun r hr => Nat.le_trans (h.sz r hr) hm, h.nd, h.lt⟩
def startW (n : Net) : Wo := ⟨n.ps.map fun _ => 0, n.cs.map fun _ => 0, n.cs.map fun _ => []⟩
theorem start_row (n : Net) (c : Nat) : (startW n).row c = [] := by
  show (n.cs.map fun _ => []).getD c [] = []
  rw [List.getD_eq_getElem?_getD, List.getElem?_map]
  cases n.cs[c]? <;> rfl
theorem start_wi (n : Net) : WI n (startW n) 0 := by
  refine ⟨by simp [startW], by simp [startW], by simp [startW], ?_, fun c => by rw [start_row]; exact List.nodup_nil, fun c q hq => by rw [start_row] at hq; cases hq⟩
  intro r hr
  obtain ⟨_, _, rfl⟩ := List.mem_map.mp hr
  exact Nat.le_refl _
theorem start_ok {n : Net} {M : Sto} (hp : n.ps.length ≤ 1000) (hc : n.cs.length ≤ 1000) : wpF F_law_start [encN n] M fun v M' => v = encW (startW n) ∧ M' = M := by
  have hS : sizeLine = 16777216 := rfl
  unfold F_law_start B_law_start
  simp only [ev, List.getElem?_cons_zero, List.getElem?_cons_succ, List.set_cons_zero, List.set_cons_succ, List.map_cons, List.map_nil, List.length_cons, List.length_nil, List.replicate_succ, List.replicate_zero, List.cons_append, List.nil_append, Nat.reduceAdd, Nat.reduceSub, Nat.zero_add, Nat.sub_zero, Option.bind_some, true_and, and_true, outF, if_true, if_false, Bool.false_eq_true, Bool.not_true, Bool.not_false, List.append_assoc, List.length_append, Option.isSome_some, wipeE, isNon, decide_true, decide_false, encN]
  refine wpA_map (enc := encP) (fun _ => dn 0) n.ps (fun p hp => ⟨_, rfl, ?_⟩) ?_
  · simp only [ev, List.getElem?_cons_zero, List.getElem?_cons_succ, List.set_cons_zero, List.set_cons_succ, List.map_cons, List.map_nil, List.length_cons, List.length_nil, List.replicate_succ, List.replicate_zero, List.cons_append, List.nil_append, Nat.reduceAdd, Nat.reduceSub, Nat.zero_add, Nat.sub_zero, Option.bind_some, true_and, and_true, outF, if_true, if_false, Bool.false_eq_true, Bool.not_true, Bool.not_false, List.append_assoc, List.length_append, Option.isSome_some, wipeE, isNon, decide_true, decide_false]
    exact rfl
  rw [List.length_map]
  refine ⟨by omega, ?_⟩
  refine wpA_map (enc := encC) (fun _ => dn 0) n.cs (fun p hp => ⟨_, rfl, ?_⟩) ?_
  · simp only [ev, List.getElem?_cons_zero, List.getElem?_cons_succ, List.set_cons_zero, List.set_cons_succ, List.map_cons, List.map_nil, List.length_cons, List.length_nil, List.replicate_succ, List.replicate_zero, List.cons_append, List.nil_append, Nat.reduceAdd, Nat.reduceSub, Nat.zero_add, Nat.sub_zero, Option.bind_some, true_and, and_true, outF, if_true, if_false, Bool.false_eq_true, Bool.not_true, Bool.not_false, List.append_assoc, List.length_append, Option.isSome_some, wipeE, isNon, decide_true, decide_false]
    exact rfl
  rw [List.length_map]
  refine ⟨by omega, ?_⟩
  refine wpA_map (enc := encC) (fun _ => encRow []) n.cs (fun p hp => ⟨_, rfl, ?_⟩) ?_
  · simp only [ev, List.getElem?_cons_zero, List.getElem?_cons_succ, List.set_cons_zero, List.set_cons_succ, List.map_cons, List.map_nil, List.length_cons, List.length_nil, List.replicate_succ, List.replicate_zero, List.cons_append, List.nil_append, Nat.reduceAdd, Nat.reduceSub, Nat.zero_add, Nat.sub_zero, Option.bind_some, true_and, and_true, outF, if_true, if_false, Bool.false_eq_true, Bool.not_true, Bool.not_false, List.append_assoc, List.length_append, Option.isSome_some, wipeE, isNon, decide_true, decide_false, encRow]
    decide
  rw [List.length_map]
  refine ⟨by omega, ?_⟩
  have e : D.tup [.tup (n.ps.map fun _ => dn 0), .tup (n.cs.map fun _ => dn 0), .tup (n.cs.map fun _ => encRow [])] = encW (startW n) := by
    unfold encW startW
    simp only [List.map_map]; rfl
  rw [e]
  have hb : below 0 (encW (startW n)) = true := by
    show below 0 (.tup _) = true
    simp only [below]; exact below_W _ _ _
  rw [retF_same0 hb]
  exact ⟨by decide, wpO_some.mpr ⟨rfl, rfl⟩⟩
theorem sent_of_set {st sn : List Nat} {pr : List (List (Nat × Nat))} {c d x : Nat} : Wo.sent ⟨st, sn.set c x, pr⟩ d = if c = d ∧ c < sn.length then x else sn.getD d 0 := by
  unfold Wo.sent
  simp only [List.getD_eq_getElem?_getD, List.getElem?_set]
  by_cases h : c = d
  · subst h
    by_cases h2 : c < sn.length
    · simp [h2]
    · simp [h2]
  · simp [h]
theorem cut_wi {n : Net} {w : Wo} {m c k : Nat} {st : List Nat} (h : WI n w m) (hs : st.length = n.ps.length) : WI n ⟨st, w.sn, w.pr.set c (cutK k (w.row c))⟩ m := by
  have hsub : ∀ d, (Wo.row ⟨st, w.sn, w.pr.set c (cutK k (w.row c))⟩ d).Sublist (w.row d) := by
    intro d
    rw [row_of_set]
    split
    · rename_i z
      rw [← z.1]; exact List.filter_sublist
    · exact List.Sublist.refl _
  refine ⟨hs, h.sn, by simp [h.pr], ?_, fun d => ((hsub d).map _).nodup (h.nd d), fun d q hq => h.lt d q ((hsub d).subset hq)⟩
  intro r hr
  obtain ⟨d, hd⟩ := List.getElem?_of_mem hr
  have e : Wo.row ⟨st, w.sn, w.pr.set c (cutK k (w.row c))⟩ d = r := by
    show (w.pr.set c (cutK k (w.row c))).getD d [] = r
    rw [List.getD_eq_getElem?_getD]
    have hd : (w.pr.set c (cutK k (w.row c)))[d]? = some r := hd
    rw [hd]; rfl
  have h1 := (hsub d).length_le
  rw [e] at h1
  have h2 : (w.row d).length ≤ m := by
    unfold Wo.row
    rw [List.getD_eq_getElem?_getD]
    cases hx : w.pr[d]? with
    | none => simp
    | some r => exact h.sz r (List.mem_of_getElem? hx)
  omega
theorem done_wi {n : Net} {w : Wo} {m : Nat} {d : De} (hn : NetOk n) (h : WI n w m) (hd : DeOk n d) : WI n (doneM n w d) (m + 1) := by
  cases hd with
  | @idle i r hr ha =>
    have e : doneM n w (.act i) = ⟨w.st.set r.p r.th, w.sn, w.pr⟩ := by simp only [doneM, hr, ha]
    rw [e]
    exact ⟨by simp [h.st], h.sn, h.pr, fun r hr => Nat.le_succ_of_le (h.sz r hr), h.nd, h.lt⟩
  | @send i r c x hr ha =>
    have e : doneM n w (.act i) = ⟨w.st.set r.p r.th, w.sn.set c (w.sent c + 1), w.pr.set c (w.row c ++ [(w.sent c, x)])⟩ := by simp only [doneM, hr, ha]
    have hact := (hn.rs r (mem_of_at hr)).a
    rw [ha] at hact
    obtain ⟨k, hk, _⟩ := hact.ch
    have hlt := ch_lt hk
    rw [e]
    refine ⟨by simp [h.st], by simp [h.sn], by simp [h.pr], ?_, ?_, ?_⟩
    · intro z hz
      rcases List.mem_or_eq_of_mem_set hz with hz | hz
      · exact Nat.le_succ_of_le (h.sz z hz)
      · rw [hz, List.length_append]
        have : (w.row c).length ≤ m := by
          unfold Wo.row
          rw [List.getD_eq_getElem?_getD]
          cases hx : w.pr[c]? with
          | none => simp
          | some r => exact h.sz r (List.mem_of_getElem? hx)
        simp; omega
    · intro d
      rw [row_of_set]
      split
      · rw [List.map_append, List.nodup_append]
        refine ⟨h.nd c, by simp, ?_⟩
        intro a ha b hb
        simp only [List.map_cons, List.map_nil, List.mem_singleton] at hb
        obtain ⟨q, hq, rfl⟩ := List.mem_map.mp ha
        have := h.lt c q hq
        omega
      · exact h.nd d
    · intro d q hq
      rw [row_of_set] at hq
      show q.1 < Wo.sent ⟨w.st.set r.p r.th, w.sn.set c (w.sent c + 1), w.pr.set c (w.row c ++ [(w.sent c, x)])⟩ d
      rw [sent_of_set]
      split at hq
      · rename_i z
        rw [if_pos ⟨z.1, by rw [h.sn]; exact hlt⟩]
        rcases List.mem_append.mp hq with hq | hq
        · have := h.lt c q hq; omega
        · rw [List.mem_singleton.mp hq]; show w.sent c < _; omega
      · rename_i z
        have := h.lt d q hq
        split
        · rename_i z2
          exact absurd ⟨z2.1, by rw [h.pr]; exact hlt⟩ z
        · exact this
  | @take i k r c x hr ha =>
    have e : doneM n w (.take i k) = ⟨w.st.set r.p r.th, w.sn, w.pr.set c (cutK k (w.row c))⟩ := by simp only [doneM, hr, ha]
    rw [e]
    exact (cut_wi h (by simp [h.st])).mono (Nat.le_succ _)
  | @lose c k hc =>
    exact (cut_wi h h.st).mono (Nat.le_succ _)
structure RunOk (n : Net) (ds : List De) (ws : List Wo) : Prop where
  h0 : ws[0]? = some (startW n)
  len : ws.length = ds.length + 1
  step : ∀ i d w, ds[i]? = some d → ws[i]? = some w → d ∈ possM n w ∧ ws[i + 1]? = some (doneM n w d)
  wi : ∀ w ∈ ws, WI n w ds.length
theorem RunOk.snoc {n : Net} {ds : List De} {ws : List Wo} {w : Wo} {d : De} (hn : NetOk n) (h : RunOk n ds ws) (hw : ws[ds.length]? = some w) (hd : d ∈ possM n w) : RunOk n (ds ++ [d]) (ws ++ [doneM n w d]) := by
  have hl := h.len
  refine ⟨by rw [List.getElem?_append_left (by omega)]; exact h.h0, by simp [h.len], ?_, ?_⟩
  · intro i d' w' hd' hw'
    rcases Nat.lt_or_ge i ds.length with z | z
    · rw [List.getElem?_append_left z] at hd'
      rw [List.getElem?_append_left (by omega)] at hw'
      obtain ⟨a, b⟩ := h.step i d' w' hd' hw'
      exact ⟨a, by rw [List.getElem?_append_left (by omega)]; exact b⟩
    · have hi : i = ds.length := by
        rcases Nat.lt_or_ge i (ds.length + 1) with y | y
        · omega
        · rw [List.getElem?_eq_none (by simp; omega)] at hd'; cases hd'
      subst hi
      rw [List.getElem?_append_right (Nat.le_refl _), Nat.sub_self] at hd'
      cases hd'
      rw [List.getElem?_append_left (by omega), hw] at hw'
      cases hw'
      refine ⟨hd, ?_⟩
      rw [List.getElem?_append_right (by omega), hl, Nat.sub_self]; rfl
  · intro z hz
    rw [List.length_append]
    rcases List.mem_append.mp hz with hz | hz
    · exact (h.wi z hz).mono (by simp)
    · rw [List.mem_singleton.mp hz]
      exact done_wi hn (h.wi w (List.mem_of_getElem? hw)) (poss_ok_de hd)
theorem retF_two {M M1 : Sto} {a b : List D} (h : Pm M M1) (ha : belows 0 a = true) (hb : belows 0 b = true) : retF M (.tup [.ref M.length, .ref (M.length + 1)]) (M1 ++ [.lst a, .lst b]) = some (.tup [.lst a, .lst b], M1) := by
  unfold retF
  rw [if_pos (h.kept _)]
  have g0 : (M1 ++ [Ob.lst a, .lst b])[M.length]? = some (.lst a) := by rw [← h.len]; simp
  have g1 : (M1 ++ [Ob.lst a, .lst b])[M.length + 1]? = some (.lst b) := by rw [← h.len, List.getElem?_append_right (by omega)]; simp
  have f0 : freeze M.length (M1 ++ [Ob.lst a, .lst b]) (.ref M.length) = some (.lst a) := by
    unfold freeze; rw [if_neg (by omega), g0]; simp [belows_plain _ _ ha]
  have f1 : freeze M.length (M1 ++ [Ob.lst a, .lst b]) (.ref (M.length + 1)) = some (.lst b) := by
    unfold freeze; rw [if_neg (by omega), g1]; simp [belows_plain _ _ hb]
  simp only [freeze, freezes] at f0 f1 ⊢
  rw [f0, f1, ← h.len]
  simp
def RunI (M : Sto) (n : Net) (m i : Nat) (e : DV.Env) (M' : Sto) : Prop := ∃ (M1 : Sto) (ds : List De) (ws : List Wo) (w : Wo) (e6 e7 e8 e9 : Option D), Pm M M1 ∧ M' = M1 ++ [.lst (ds.map encD), .lst (ws.map encW)] ∧ RunOk n ds ws ∧ ws[ds.length]? = some w ∧ ds.length ≤ i ∧
  e = [some (.ref 0), some (encN n), some (.int (m : Int)), some (encW w), some (.ref M.length), some (.ref (M.length + 1)), e6, e7, e8, e9]
theorem run_ok {n : Net} (hn : NetOk n) {m : Nat} (hm : m ≤ 25) (M : Sto) (hM : Pm M M) : wpF F_law_run [.ref 0, encN n, .int (m : Int)] M fun v M' => Pm M M' ∧ ∃ ds ws, v = .tup [.lst (ds.map encD), .lst (ws.map encW)] ∧ RunOk n ds ws ∧ ds.length ≤ 25 := by
  have hS : sizeLine = 16777216 := rfl
  unfold F_law_run B_law_run
  simp only [ev, List.getElem?_cons_zero, List.getElem?_cons_succ, List.set_cons_zero, List.set_cons_succ, List.map_cons, List.map_nil, List.length_cons, List.length_nil, List.replicate_succ, List.replicate_zero, List.cons_append, List.nil_append, Nat.reduceAdd, Nat.reduceSub, Nat.zero_add, Nat.sub_zero, Option.bind_some, true_and, and_true, outF, if_true, if_false, Bool.false_eq_true, Bool.not_true, Bool.not_false, List.append_assoc, List.length_append, Option.isSome_some, wipeE, isNon, decide_true, decide_false]
  refine (start_ok (by have := hn.np; omega) (by have := hn.nc; omega)).imp ?_
  rintro v M' ⟨rfl, rfl⟩
  refine ⟨by decide, by decide, ⟨by omega, by omega⟩, ?_⟩
  refine wpS_rng (RunI M' n m) ?_ ?_ ?_
  · refine ⟨M', [], [startW n], startW n, _, _, _, _, hM, rfl, ⟨rfl, rfl, ?_, ?_⟩, rfl, by simp, rfl⟩
    · intro i d w hd; simp at hd
    · intro w hw; rw [List.mem_singleton.mp hw]; exact start_wi n
  · rintro i e M2 hi ⟨M1, ds, ws, w, e6, e7, e8, e9, h1, rfl, hr, hw, hl, rfl⟩
    have ok := (hr.wi w (List.mem_of_getElem? hw)).ok (by omega)
    have hps := poss_sz hn ok
    have hwl := hr.len
    refine ⟨_, rfl, ?_⟩
    simp only [ev, List.getElem?_cons_zero, List.getElem?_cons_succ, List.set_cons_zero, List.set_cons_succ, List.map_cons, List.map_nil, List.length_cons, List.length_nil, List.replicate_succ, List.replicate_zero, List.cons_append, List.nil_append, Nat.reduceAdd, Nat.reduceSub, Nat.zero_add, Nat.sub_zero, Option.bind_some, true_and, and_true, outF, if_true, if_false, Bool.false_eq_true, Bool.not_true, Bool.not_false, List.append_assoc, List.length_append, Option.isSome_some, wipeE, isNon, decide_true, decide_false]
    refine poss_rule hn ok ?_
    simp only [ev, List.getElem?_cons_zero, List.getElem?_cons_succ, List.set_cons_zero, List.set_cons_succ, List.map_cons, List.map_nil, List.length_cons, List.length_nil, List.replicate_succ, List.replicate_zero, List.cons_append, List.nil_append, Nat.reduceAdd, Nat.reduceSub, Nat.zero_add, Nat.sub_zero, Option.bind_some, true_and, and_true, outF, if_true, if_false, Bool.false_eq_true, Bool.not_true, Bool.not_false, List.append_assoc, List.length_append, Option.isSome_some, wipeE, isNon, decide_true, decide_false]
    refine wpA_pure (fun d => !d.isLose) encD (possM n w) (fun d hd => ⟨_, rfl, ?_, fun _ => ?_⟩) ?_
    · cases d with
      | act r => simp only [ev, List.getElem?_cons_zero, List.getElem?_cons_succ, List.set_cons_zero, List.set_cons_succ, List.map_cons, List.map_nil, List.length_cons, List.length_nil, List.replicate_succ, List.replicate_zero, List.cons_append, List.nil_append, Nat.reduceAdd, Nat.reduceSub, Nat.zero_add, Nat.sub_zero, Option.bind_some, true_and, and_true, outF, if_true, if_false, Bool.false_eq_true, Bool.not_true, Bool.not_false, List.append_assoc, List.length_append, Option.isSome_some, wipeE, isNon, decide_true, decide_false, encD, str_1, De.isLose]
      | take r k => simp only [ev, List.getElem?_cons_zero, List.getElem?_cons_succ, List.set_cons_zero, List.set_cons_succ, List.map_cons, List.map_nil, List.length_cons, List.length_nil, List.replicate_succ, List.replicate_zero, List.cons_append, List.nil_append, Nat.reduceAdd, Nat.reduceSub, Nat.zero_add, Nat.sub_zero, Option.bind_some, true_and, and_true, outF, if_true, if_false, Bool.false_eq_true, Bool.not_true, Bool.not_false, List.append_assoc, List.length_append, Option.isSome_some, wipeE, isNon, decide_true, decide_false, encD, str_2, De.isLose]
      | lose c k => simp only [ev, List.getElem?_cons_zero, List.getElem?_cons_succ, List.set_cons_zero, List.set_cons_succ, List.map_cons, List.map_nil, List.length_cons, List.length_nil, List.replicate_succ, List.replicate_zero, List.cons_append, List.nil_append, Nat.reduceAdd, Nat.reduceSub, Nat.zero_add, Nat.sub_zero, Option.bind_some, true_and, and_true, outF, if_true, if_false, Bool.false_eq_true, Bool.not_true, Bool.not_false, List.append_assoc, List.length_append, Option.isSome_some, wipeE, isNon, decide_true, decide_false, encD, De.isLose]
    · simp only [ev, List.getElem?_cons_zero, List.getElem?_cons_succ, List.set_cons_zero, List.set_cons_succ, List.map_cons, List.map_nil, List.length_cons, List.length_nil, List.replicate_succ, List.replicate_zero, List.cons_append, List.nil_append, Nat.reduceAdd, Nat.reduceSub, Nat.zero_add, Nat.sub_zero, Option.bind_some, true_and, and_true, outF, if_true, if_false, Bool.false_eq_true, Bool.not_true, Bool.not_false, List.append_assoc, List.length_append, Option.isSome_some, wipeE, isNon, decide_true, decide_false]
    have hf := List.length_filter_le (fun d : De => !d.isLose) (possM n w)
    have hfs : ∀ d ∈ (possM n w).filter (fun d => !d.isLose), d ∈ possM n w := fun d hd => (List.mem_filter.mp hd).1
    generalize (possM n w).filter (fun d => !d.isLose) = acts at hf hfs
    have fin : ∀ (can : List De) (M3 : Sto), can.length ≤ 48000 → (∀ d ∈ can, d ∈ possM n w) → Pm M' M3 → ∀ (u v : Option D), if (0 : Int) < (can.length : Int) then
        wpF F_law_picked [.ref 0, .lst (can.map encD)] (M3 ++ [Ob.lst (ds.map encD), Ob.lst (ws.map encW)]) fun d M4 => wpF F_law_done [encN n, encW w, d] M4 fun z M5 => (asR M'.length M5).isSome = true ∧ wpO (asR M'.length M5) fun l => l.length < sizeLine ∧
          (asR (M'.length + 1) (M5.set M'.length (.lst (l ++ [d])))).isSome = true ∧ wpO (asR (M'.length + 1) (M5.set M'.length (.lst (l ++ [d])))) fun l2 => l2.length < sizeLine ∧
            RunI M' n m (i + 1) [some (.ref 0), some (encN n), some (.int (m : Int)), some z, some (.ref M'.length), some (.ref (M'.length + 1)), some (.int (i : Int)), u, v, some d] ((M5.set M'.length (.lst (l ++ [d]))).set (M'.length + 1) (.lst (l2 ++ [z])))
        else RunI M' n m (i + 1) [some (.ref 0), some (encN n), some (.int (m : Int)), some (encW w), some (.ref M'.length), some (.ref (M'.length + 1)), some (.int (i : Int)), u, v, e9] (M3 ++ [Ob.lst (ds.map encD), Ob.lst (ws.map encW)]) := by
      intro can M3 hc hcs h3 u v
      split
      · refine picked_ruleL h3.refl_of (by omega) (by omega) (fun d _ => below_D d) fun d hd M4 h4 => ?_
        have h14 := h3.trans h4
        have hl4 := h14.len
        refine done_rule hn ok (poss_ok_de (hcs d hd)) ?_
        simp only [ev, List.getElem?_cons_zero, List.getElem?_cons_succ, List.set_cons_zero, List.set_cons_succ, List.map_cons, List.map_nil, List.length_cons, List.length_nil, List.replicate_succ, List.replicate_zero, List.cons_append, List.nil_append, Nat.reduceAdd, Nat.reduceSub, Nat.zero_add, Nat.sub_zero, Option.bind_some, true_and, and_true, outF, if_true, if_false, Bool.false_eq_true, Bool.not_true, Bool.not_false, List.append_assoc, List.length_append, Option.isSome_some, wipeE, isNon, decide_true, decide_false, asR_eq0 hl4, asR_eq hl4, set_eq0 hl4, set_eq hl4, List.length_map]
        refine ⟨by omega, by omega, M4, ds ++ [d], ws ++ [doneM n w d], doneM n w d, _, _, _, _, h14, by simp, hr.snoc hn hw (hcs d hd), ?_, by simp; omega, rfl⟩
        rw [List.length_append, List.getElem?_append_right (by simp; omega)]
        simp [hwl]
      · exact ⟨M3, ds, ws, w, _, _, _, _, h3, rfl, hr, hw, by omega, rfl⟩
    simp only [ev, List.getElem?_cons_zero, List.getElem?_cons_succ, List.set_cons_zero, List.set_cons_succ, List.map_cons, List.map_nil, List.length_cons, List.length_nil, List.replicate_succ, List.replicate_zero, List.cons_append, List.nil_append, Nat.reduceAdd, Nat.reduceSub, Nat.zero_add, Nat.sub_zero, Option.bind_some, true_and, and_true, outF, if_true, if_false, Bool.false_eq_true, Bool.not_true, Bool.not_false, List.append_assoc, List.length_append, Option.isSome_some, wipeE, isNon, decide_true, decide_false, List.length_map, decide_eq_true_eq]
    refine ⟨by omega, ?_⟩
    by_cases ha : (0 : Int) < (acts.length : Int)
    · rw [if_pos ha]
      refine draw_rule (n := 4) h1.refl_of (by omega) (by omega) fun k M3 hk h3 => ?_
      simp only [ev, List.getElem?_cons_zero, List.getElem?_cons_succ, List.set_cons_zero, List.set_cons_succ, List.map_cons, List.map_nil, List.length_cons, List.length_nil, List.replicate_succ, List.replicate_zero, List.cons_append, List.nil_append, Nat.reduceAdd, Nat.reduceSub, Nat.zero_add, Nat.sub_zero, Option.bind_some, true_and, and_true, outF, if_true, if_false, Bool.false_eq_true, Bool.not_true, Bool.not_false, List.append_assoc, List.length_append, Option.isSome_some, wipeE, isNon, decide_true, decide_false, List.length_map, decide_eq_true_eq]
      split
      · have z := fin acts M3 (by omega) hfs (h1.trans h3) (some (.lst (acts.map encD))) (some (.lst (acts.map encD)))
        rw [if_pos ha] at z
        exact z
      · exact fin (possM n w) M3 hps (fun _ h => h) (h1.trans h3) _ _
    · rw [if_neg ha]
      exact fin (possM n w) M1 hps (fun _ h => h) h1 _ _
  · rintro e M2 ⟨M1, ds, ws, w, e6, e7, e8, e9, h1, rfl, hr, hw, hl, rfl⟩
    simp only [ev, List.getElem?_cons_zero, List.getElem?_cons_succ, List.set_cons_zero, List.set_cons_succ, List.map_cons, List.map_nil, List.length_cons, List.length_nil, List.replicate_succ, List.replicate_zero, List.cons_append, List.nil_append, Nat.reduceAdd, Nat.reduceSub, Nat.zero_add, Nat.sub_zero, Option.bind_some, true_and, and_true, outF, if_true, if_false, Bool.false_eq_true, Bool.not_true, Bool.not_false, List.append_assoc, List.length_append, Option.isSome_some, wipeE, isNon, decide_true, decide_false]
    rw [retF_two h1 (belows_D _) (belows_map fun w _ => by
      show below 0 (.tup _) = true
      simp only [below]; exact below_W _ _ _)]
    exact ⟨by decide, wpO_some.mpr ⟨h1, ds, ws, rfl, hr, by omega⟩⟩
end K40

end

section
set_option Elab.async false
set_option linter.all false
set_option maxRecDepth 100000
/-! K40P17: told, the world of a cut -/
namespace K40
open PySem PySem.Spec L2 DV
def Net.ru (n : Net) (i : Nat) : Ru := n.rs.getD i ⟨0, 0, .idle, 0⟩
def Net.ch (n : Net) (c : Nat) : Ch := n.cs.getD c ⟨"", 0, 0, .ord⟩
theorem ru_get {n : Net} {i : Nat} {r : Ru} (h : n.rs[i]? = some r) : n.ru i = r := by unfold Net.ru; rw [List.getD_eq_getElem?_getD, h]; rfl
theorem ch_get {n : Net} {i : Nat} {r : Ch} (h : n.cs[i]? = some r) : n.ch i = r := by unfold Net.ch; rw [List.getD_eq_getElem?_getD, h]; rfl
def own (n : Net) : De → Nat
  | .lose c _ => (n.ch c).t
  | .act i => (n.ru i).p
  | .take i _ => (n.ru i).p
def toldM (n : Net) (ds : List De) : List (List De) := (List.range n.ps.length).map fun p => ds.filter fun d => decide (own n d = p)
def encT (row : List De) : D := .tup (row.map encD)
theorem upd_range {α : Type} {m p : Nat} {f g : Nat → α} (h : ∀ i, i ≠ p → f i = g i) : ((List.range m).map f).set p (g p) = (List.range m).map g := by
  apply List.ext_getElem?
  intro i
  rw [List.getElem?_set, List.getElem?_map, List.getElem?_map, List.length_map, List.length_range]
  by_cases hi : p = i
  · subst hi
    by_cases hp : p < m
    · simp [hp]
    · simp [hp]
  · rw [if_neg hi]
    by_cases hm : i < m
    · rw [List.getElem?_range hm]; simp [h i (fun e => hi e.symm)]
    · rw [List.getElem?_eq_none (by simpa using hm)]; rfl
theorem upd_rangeE {α : Type} {m p : Nat} {f g : Nat → α} {enc : α → D} {x : D} (hx : x = enc (g p)) (h : ∀ i, i ≠ p → f i = g i) : (((List.range m).map f).map enc).set p x = ((List.range m).map g).map enc := by
  rw [hx, ← upd_range h, List.map_set]
theorem at_range {α : Type} {m p : Nat} {f : Nat → α} {enc : α → D} (h : p < m) : (((List.range m).map f).map enc)[p]? = some (enc (f p)) := by
  rw [List.getElem?_map, List.getElem?_map, List.getElem?_range h]; rfl
theorem own_lt {n : Net} (hn : NetV n) {d : De} (hd : DeOk n d) : own n d < n.ps.length := by
  have hk := hn.ok
  cases hd with
  | @idle i r h ha => show (n.ru i).p < _; rw [ru_get h]; exact (hk.rs r (mem_of_at h)).p
  | @send i r c x h ha => show (n.ru i).p < _; rw [ru_get h]; exact (hk.rs r (mem_of_at h)).p
  | @take i k r c x h ha => show (n.ru i).p < _; rw [ru_get h]; exact (hk.rs r (mem_of_at h)).p
  | @lose c k h =>
    show (n.ch c).t < _
    rw [ch_get (List.getElem?_eq_getElem h)]
    exact (hn.cok _ (List.getElem_mem h)).2.2.1
theorem str_ll : decide (("lose" : Str) = "lose") = true := by decide +kernel
theorem del_0 {d : De} {M : Sto} : ∃ x, dIdx (encD d) (.int 0) M = some (.str x) ∧ decide (x = ("lose" : Str)) = d.isLose := by
  cases d with
  | act r => exact ⟨_, rfl, str_1⟩
  | take r k => exact ⟨_, rfl, str_2⟩
  | lose c k => exact ⟨_, rfl, str_ll⟩
def De.ix : De → Nat
  | .act i => i
  | .take i _ => i
  | .lose c _ => c
theorem del_1 {d : De} {M : Sto} : dIdx (encD d) (.int 1) M = some (.int (d.ix : Nat)) := by cases d <;> rfl
theorem told_ok {n : Net} (hn : NetV n) {ds : List De} (hl : ds.length ≤ 100) (hd : ∀ d ∈ ds, DeOk n d) (M : Sto) : wpF F_law_told [encN n, .lst (ds.map encD)] M fun v M' => M' = M ∧ v = .tup ((toldM n ds).map encT) := by
  have hS : sizeLine = 16777216 := rfl
  have np := hn.np
  unfold F_law_told B_law_told
  simp only [ev, List.getElem?_cons_zero, List.getElem?_cons_succ, List.set_cons_zero, List.set_cons_succ, List.map_cons, List.map_nil, List.length_cons, List.length_nil, List.replicate_succ, List.replicate_zero, List.cons_append, List.nil_append, Nat.reduceAdd, Nat.reduceSub, Nat.zero_add, Nat.sub_zero, Option.bind_some, true_and, and_true, outF, if_true, if_false, Bool.false_eq_true, Bool.not_true, Bool.not_false, List.append_assoc, List.length_append, Option.isSome_some, wipeE, isNon, decide_true, decide_false, encN]
  refine wpA_map (enc := encP) (fun _ => encT []) n.ps (fun p hp => ⟨_, rfl, ?_⟩) ?_
  · simp only [ev, List.getElem?_cons_zero, List.getElem?_cons_succ, List.set_cons_zero, List.set_cons_succ, List.map_cons, List.map_nil, List.length_cons, List.length_nil, List.replicate_succ, List.replicate_zero, List.cons_append, List.nil_append, Nat.reduceAdd, Nat.reduceSub, Nat.zero_add, Nat.sub_zero, Option.bind_some, true_and, and_true, outF, if_true, if_false, Bool.false_eq_true, Bool.not_true, Bool.not_false, List.append_assoc, List.length_append, Option.isSome_some, wipeE, isNon, decide_true, decide_false, encT]
    decide
  rw [List.length_map]
  refine ⟨by omega, ?_⟩
  refine wpS_forL (enc := encD) (fun xs e M' => ∃ pre e3 e4 e5, pre ++ xs = ds ∧ M' = M ++ [.lst ((toldM n pre).map encT)] ∧ e = [some (encN n), some (.lst (ds.map encD)), some (.ref M.length), e3, e4, e5]) _ _ _ ?_ ?_ ?_
  · refine ⟨[], _, _, _, rfl, ?_, rfl⟩
    congr 3
    unfold toldM
    rw [List.map_map]
    apply List.ext_getElem?
    intro i
    rw [List.getElem?_map, List.getElem?_map]
    by_cases h : i < n.ps.length
    · rw [List.getElem?_range h, List.getElem?_eq_getElem h]; rfl
    · rw [List.getElem?_eq_none (by simpa using h), List.getElem?_eq_none (by simpa using h)]; rfl
  · rintro d xs e M' ⟨pre, e3, e4, e5, hp, rfl, rfl⟩
    have hdk := hd d (by rw [← hp]; simp)
    have ho := own_lt hn hdk
    have hpl : pre.length ≤ 100 := by have := congrArg List.length hp; rw [List.length_append] at this; omega
    refine ⟨_, rfl, ?_⟩
    have fin : ∀ (v : D), v = .int (own n d : Nat) → wpO (dIdx (.ref M.length) v (M ++ [.lst ((toldM n pre).map encT)])) fun x => 1 ≤ sizeLine ∧ wpO (dAdd x (.tup [encD d]) (M ++ [.lst ((toldM n pre).map encT)])) fun y => wpO (putI (.ref M.length) v y (M ++ [.lst ((toldM n pre).map encT)])) fun M4 =>
        ∃ pre f3 f4 f5, pre ++ xs = ds ∧ M4 = M ++ [.lst ((toldM n pre).map encT)] ∧ [some (encN n), some (.lst (ds.map encD)), some (.ref M.length), some (encD d), some v, e5] = [some (encN n), some (.lst (ds.map encD)), some (.ref M.length), f3, f4, f5] := by
      rintro v rfl
      have hat : ((toldM n pre).map encT)[own n d]? = some (encT (pre.filter fun z => decide (own n z = own n d))) := at_range ho
      have hfl := List.length_filter_le (fun z => decide (own n z = own n d)) pre
      have hix : ixN ((toldM n pre).map encT).length (own n d : Int) = some (own n d) := ixN_nat (by unfold toldM; simpa using ho)
      simp only [ev, List.getElem?_cons_zero, List.getElem?_cons_succ, List.set_cons_zero, List.set_cons_succ, List.map_cons, List.map_nil, List.length_cons, List.length_nil, List.replicate_succ, List.replicate_zero, List.cons_append, List.nil_append, Nat.reduceAdd, Nat.reduceSub, Nat.zero_add, Nat.sub_zero, Option.bind_some, true_and, and_true, outF, if_true, if_false, Bool.false_eq_true, Bool.not_true, Bool.not_false, List.append_assoc, List.length_append, Option.isSome_some, wipeE, isNon, decide_true, decide_false, hat, encT, List.length_map]
      have hix2 : ixN (toldM n pre).length (own n d : Int) = some (own n d) := by rw [List.length_map] at hix; exact hix
      refine ⟨by decide, by omega, ?_⟩
      simp only [ev, List.getElem?_cons_zero, List.getElem?_cons_succ, List.set_cons_zero, List.set_cons_succ, List.map_cons, List.map_nil, List.length_cons, List.length_nil, List.replicate_succ, List.replicate_zero, List.cons_append, List.nil_append, Nat.reduceAdd, Nat.reduceSub, Nat.zero_add, Nat.sub_zero, Option.bind_some, true_and, and_true, outF, if_true, if_false, Bool.false_eq_true, Bool.not_true, Bool.not_false, List.append_assoc, List.length_append, Option.isSome_some, wipeE, isNon, decide_true, decide_false, hix2]
      refine ⟨pre ++ [d], _, _, _, by rw [← hp]; simp, ?_, rfl⟩
      congr 3
      exact upd_rangeE (enc := encT) (f := fun p => pre.filter fun z => decide (own n z = p)) (g := fun p => (pre ++ [d]).filter fun z => decide (own n z = p)) (by
        show _ = encT _
        rw [List.filter_append]
        unfold encT
        rw [List.map_append]
        simp) (fun i hi => by
        rw [List.filter_append, List.filter_cons_of_neg (by simp; exact fun e => hi e.symm)]
        simp)
    obtain ⟨x, hx1, hx2⟩ := del_0 (d := d) (M := M ++ [.lst ((toldM n pre).map encT)])
    simp only [ev, List.getElem?_cons_zero, List.getElem?_cons_succ, List.set_cons_zero, List.set_cons_succ, List.map_cons, List.map_nil, List.length_cons, List.length_nil, List.replicate_succ, List.replicate_zero, List.cons_append, List.nil_append, Nat.reduceAdd, Nat.reduceSub, Nat.zero_add, Nat.sub_zero, Option.bind_some, true_and, and_true, outF, if_true, if_false, Bool.false_eq_true, Bool.not_true, Bool.not_false, List.append_assoc, List.length_append, Option.isSome_some, wipeE, isNon, decide_true, decide_false, hx1, hx2, encN, del_1]
    cases hdk with
    | @idle i r h ha =>
      simp only [ev, List.getElem?_cons_zero, List.getElem?_cons_succ, List.set_cons_zero, List.set_cons_succ, List.map_cons, List.map_nil, List.length_cons, List.length_nil, List.replicate_succ, List.replicate_zero, List.cons_append, List.nil_append, Nat.reduceAdd, Nat.reduceSub, Nat.zero_add, Nat.sub_zero, Option.bind_some, true_and, and_true, outF, if_true, if_false, Bool.false_eq_true, Bool.not_true, Bool.not_false, List.append_assoc, List.length_append, Option.isSome_some, wipeE, isNon, decide_true, decide_false, De.isLose, De.ix, ru_at h, encR]
      have := fin (.int (r.p : Nat)) (by show _ = D.int ((n.ru i).p : Nat); rw [ru_get h])
      simp only [ev, List.getElem?_cons_zero, List.getElem?_cons_succ, List.set_cons_zero, List.set_cons_succ, List.map_cons, List.map_nil, List.length_cons, List.length_nil, List.replicate_succ, List.replicate_zero, List.cons_append, List.nil_append, Nat.reduceAdd, Nat.reduceSub, Nat.zero_add, Nat.sub_zero, Option.bind_some, true_and, and_true, outF, if_true, if_false, Bool.false_eq_true, Bool.not_true, Bool.not_false, List.append_assoc, List.length_append, Option.isSome_some, wipeE, isNon, decide_true, decide_false, encN] at this
      exact this
    | @send i r c x h ha =>
      simp only [ev, List.getElem?_cons_zero, List.getElem?_cons_succ, List.set_cons_zero, List.set_cons_succ, List.map_cons, List.map_nil, List.length_cons, List.length_nil, List.replicate_succ, List.replicate_zero, List.cons_append, List.nil_append, Nat.reduceAdd, Nat.reduceSub, Nat.zero_add, Nat.sub_zero, Option.bind_some, true_and, and_true, outF, if_true, if_false, Bool.false_eq_true, Bool.not_true, Bool.not_false, List.append_assoc, List.length_append, Option.isSome_some, wipeE, isNon, decide_true, decide_false, De.isLose, De.ix, ru_at h, encR]
      have := fin (.int (r.p : Nat)) (by show _ = D.int ((n.ru i).p : Nat); rw [ru_get h])
      simp only [ev, List.getElem?_cons_zero, List.getElem?_cons_succ, List.set_cons_zero, List.set_cons_succ, List.map_cons, List.map_nil, List.length_cons, List.length_nil, List.replicate_succ, List.replicate_zero, List.cons_append, List.nil_append, Nat.reduceAdd, Nat.reduceSub, Nat.zero_add, Nat.sub_zero, Option.bind_some, true_and, and_true, outF, if_true, if_false, Bool.false_eq_true, Bool.not_true, Bool.not_false, List.append_assoc, List.length_append, Option.isSome_some, wipeE, isNon, decide_true, decide_false, encN] at this
      exact this
    | @take i k r c x h ha =>
      simp only [ev, List.getElem?_cons_zero, List.getElem?_cons_succ, List.set_cons_zero, List.set_cons_succ, List.map_cons, List.map_nil, List.length_cons, List.length_nil, List.replicate_succ, List.replicate_zero, List.cons_append, List.nil_append, Nat.reduceAdd, Nat.reduceSub, Nat.zero_add, Nat.sub_zero, Option.bind_some, true_and, and_true, outF, if_true, if_false, Bool.false_eq_true, Bool.not_true, Bool.not_false, List.append_assoc, List.length_append, Option.isSome_some, wipeE, isNon, decide_true, decide_false, De.isLose, De.ix, ru_at h, encR]
      have := fin (.int (r.p : Nat)) (by show _ = D.int ((n.ru i).p : Nat); rw [ru_get h])
      simp only [ev, List.getElem?_cons_zero, List.getElem?_cons_succ, List.set_cons_zero, List.set_cons_succ, List.map_cons, List.map_nil, List.length_cons, List.length_nil, List.replicate_succ, List.replicate_zero, List.cons_append, List.nil_append, Nat.reduceAdd, Nat.reduceSub, Nat.zero_add, Nat.sub_zero, Option.bind_some, true_and, and_true, outF, if_true, if_false, Bool.false_eq_true, Bool.not_true, Bool.not_false, List.append_assoc, List.length_append, Option.isSome_some, wipeE, isNon, decide_true, decide_false, encN] at this
      exact this
    | @lose c k h =>
      have hc : n.cs[c]? = some n.cs[c] := List.getElem?_eq_getElem h
      simp only [ev, List.getElem?_cons_zero, List.getElem?_cons_succ, List.set_cons_zero, List.set_cons_succ, List.map_cons, List.map_nil, List.length_cons, List.length_nil, List.replicate_succ, List.replicate_zero, List.cons_append, List.nil_append, Nat.reduceAdd, Nat.reduceSub, Nat.zero_add, Nat.sub_zero, Option.bind_some, true_and, and_true, outF, if_true, if_false, Bool.false_eq_true, Bool.not_true, Bool.not_false, List.append_assoc, List.length_append, Option.isSome_some, wipeE, isNon, decide_true, decide_false, De.isLose, De.ix, chan_at hc, encC]
      have := fin (.int ((n.cs[c]).t : Nat)) (by show _ = D.int ((n.ch c).t : Nat); rw [ch_get hc])
      simp only [ev, List.getElem?_cons_zero, List.getElem?_cons_succ, List.set_cons_zero, List.set_cons_succ, List.map_cons, List.map_nil, List.length_cons, List.length_nil, List.replicate_succ, List.replicate_zero, List.cons_append, List.nil_append, Nat.reduceAdd, Nat.reduceSub, Nat.zero_add, Nat.sub_zero, Option.bind_some, true_and, and_true, outF, if_true, if_false, Bool.false_eq_true, Bool.not_true, Bool.not_false, List.append_assoc, List.length_append, Option.isSome_some, wipeE, isNon, decide_true, decide_false, encN] at this
      exact this
  · rintro e M' ⟨pre, e3, e4, e5, hp, rfl, rfl⟩
    rw [List.append_nil] at hp
    subst hp
    simp only [ev, List.getElem?_cons_zero, List.getElem?_cons_succ, List.set_cons_zero, List.set_cons_succ, List.map_cons, List.map_nil, List.length_cons, List.length_nil, List.replicate_succ, List.replicate_zero, List.cons_append, List.nil_append, Nat.reduceAdd, Nat.reduceSub, Nat.zero_add, Nat.sub_zero, Option.bind_some, true_and, and_true, outF, if_true, if_false, Bool.false_eq_true, Bool.not_true, Bool.not_false, List.append_assoc, List.length_append, Option.isSome_some, wipeE, isNon, decide_true, decide_false]
    rw [retF_same (by
      simp only [below]
      exact belows_map fun row _ => by
        show below 0 (.tup (row.map encD)) = true
        simp only [below]; exact belows_D _)]
    exact wpO_some.mpr ⟨rfl, rfl⟩
end K40

end

section
set_option Elab.async false
set_option linter.all false
set_option maxRecDepth 100000
/-! K40P18: the world of a cut -/
namespace K40
open PySem PySem.Spec L2 DV
abbrev Ev := Nat × De
def stD (n : Net) (s : Nat) : De → Nat
  | .lose _ _ => s
  | .act i => (n.ru i).th
  | .take i _ => (n.ru i).th
def stA (n : Net) (evl : List Ev) (p : Nat) : Nat := evl.foldl (fun s e => if e.1 = p then stD n s e.2 else s) 0
def seD (n : Net) (c : Nat) : De → Option Nat
  | .act i => match (n.ru i).a with
    | .send c' x => if c' = c then some x else none
    | _ => none
  | _ => none
def goD (n : Net) (c : Nat) : De → Option Nat
  | .lose c' k => if c' = c then some k else none
  | .take i k => match (n.ru i).a with
    | .take c' x => if c' = c then some k else none
    | _ => none
  | _ => none
def seA (n : Net) (evl : List Ev) (c : Nat) : List Nat := evl.filterMap fun e => seD n c e.2
def goA (n : Net) (evl : List Ev) (c : Nat) : List Nat := evl.filterMap fun e => goD n c e.2
def rowW (n : Net) (evl : List Ev) (c : Nat) : List (Nat × Nat) := ((List.range (seA n evl c).length).filter fun k => !decide (k ∈ goA n evl c)).map fun k => (k, (seA n evl c).getD k 0)
def badC (n : Net) (evl : List Ev) (c : Nat) : Bool := (goA n evl c).any fun k => decide ((seA n evl c).length ≤ k)
def worldE (n : Net) (evl : List Ev) : Option Wo := if (List.range n.cs.length).any (badC n evl) then none else
  some ⟨(List.range n.ps.length).map (stA n evl), (List.range n.cs.length).map fun c => (seA n evl c).length, (List.range n.cs.length).map (rowW n evl)⟩
def encI (l : List Nat) : D := .tup (l.map ie)
def cutE (told : List (List De)) (cut : List Nat) (p : Nat) : List De := (told.getD p []).take (cut.getD p 0)
def evsP (told : List (List De)) (cut : List Nat) (p : Nat) : List Ev := (List.range p).flatMap fun q => (cutE told cut q).map fun d => (q, d)
theorem evs_succ (told : List (List De)) (cut : List Nat) (p : Nat) : evsP told cut (p + 1) = evsP told cut p ++ (cutE told cut p).map fun d => (p, d) := by
  unfold evsP; rw [List.range_succ, List.flatMap_append]; simp
theorem se_sz (n : Net) (evl : List Ev) (c : Nat) : (seA n evl c).length ≤ evl.length := List.length_filterMap_le _ _
theorem go_sz (n : Net) (evl : List Ev) (c : Nat) : (goA n evl c).length ≤ evl.length := List.length_filterMap_le _ _
def WSt (M : Sto) (n : Net) (evl : List Ev) (t : Sto) : Sto := M ++ (.lst (((List.range n.ps.length).map (stA n evl)).map ie) :: .lst (((List.range n.cs.length).map (seA n evl)).map encI) :: .lst (((List.range n.cs.length).map (goA n evl)).map encI) :: t)
theorem st_snoc {n : Net} {evl : List Ev} {p : Nat} {d : De} (q : Nat) : stA n (evl ++ [(p, d)]) q = if p = q then stD n (stA n evl q) d else stA n evl q := by
  unfold stA; rw [List.foldl_append]; rfl
theorem se_snoc {n : Net} {evl : List Ev} {p : Nat} {d : De} (c : Nat) : seA n (evl ++ [(p, d)]) c = seA n evl c ++ (seD n c d).toList := by
  unfold seA; rw [List.filterMap_append]
  cases h : seD n c d <;> simp [h]
theorem go_snoc {n : Net} {evl : List Ev} {p : Nat} {d : De} (c : Nat) : goA n (evl ++ [(p, d)]) c = goA n evl c ++ (goD n c d).toList := by
  unfold goA; rw [List.filterMap_append]
  cases h : goD n c d <;> simp [h]
theorem upd_same {α : Type} {m p : Nat} {f g : Nat → α} {enc : α → D} (h : ∀ i, f i = g i) : ((List.range m).map f).map enc = ((List.range m).map g).map enc := by
  have : f = g := funext h
  rw [this]
theorem encI_snoc {l : List Nat} {x : Nat} : D.tup (l.map ie ++ [.int (x : Nat)]) = encI (l ++ [x]) := by unfold encI; rw [List.map_append]; rfl
/-- one deed of a row -/
theorem world_step {n : Net} (hn : NetV n) {told : List (List De)} {cut : List Nat} {evl : List Ev} {p : Nat} {d : De} {M : Sto} {K : Fl → Sto → Prop} {e7 e8 e10 e11 e12 : Option D} (hp : p < n.ps.length) (hd : DeOk n d) (hz : evl.length ≤ 1000)
    (h : ∀ f11, K (.nx [some (encN n), some (.tup (told.map encT)), some (.tup (cut.map dn)), some (.ref M.length), some (.ref (M.length + 1)), some (.ref (M.length + 2)), some (.int (p : Nat)), e7, e8, some (encD d), e10, f11, e12]) (WSt M n (evl ++ [(p, d)]) [])) :
    wpS (sIf (tV (eBin dEq (eBin dIdx (eVar 9) (eC (.int 0))) (eC (.str "lose")))) (sSub (eBin dAdd (eBin dIdx (eVar 5) (eBin dIdx (eVar 9) (eC (.int 1)))) (eTup (aCons (eBin dIdx (eVar 9) (eC (.int 2))) (aNil)))) (eVar 5) (eBin dIdx (eVar 9) (eC (.int 1)))) (sSeq (sAsg (eBin dIdx (eBin dIdx (eBin dIdx (eVar 0) (eC (.int 2))) (eBin dIdx (eVar 9) (eC (.int 1)))) (eC (.int 2))) (gN 11))
  (sSeq (sSub (eBin dIdx (eBin dIdx (eBin dIdx (eVar 0) (eC (.int 2))) (eBin dIdx (eVar 9) (eC (.int 1)))) (eC (.int 3))) (eVar 3) (eVar 6))
  (sSeq (sIf (tV (eBin dEq (eBin dIdx (eVar 11) (eC (.int 0))) (eC (.str "send")))) (sSub (eBin dAdd (eBin dIdx (eVar 4) (eBin dIdx (eVar 11) (eC (.int 1)))) (eTup (aCons (eBin dIdx (eVar 11) (eC (.int 2))) (aNil)))) (eVar 4) (eBin dIdx (eVar 11) (eC (.int 1)))) (sNext))
  (sIf (tV (eBin dEq (eBin dIdx (eVar 11) (eC (.int 0))) (eC (.str "take")))) (sSub (eBin dAdd (eBin dIdx (eVar 5) (eBin dIdx (eVar 11) (eC (.int 1)))) (eTup (aCons (eBin dIdx (eVar 9) (eC (.int 2))) (aNil)))) (eVar 5) (eBin dIdx (eVar 11) (eC (.int 1)))) (sNext))))))
      [some (encN n), some (.tup (told.map encT)), some (.tup (cut.map dn)), some (.ref M.length), some (.ref (M.length + 1)), some (.ref (M.length + 2)), some (.int (p : Nat)), e7, e8, some (encD d), e10, e11, e12] (WSt M n evl []) K := by
  have hS : sizeLine = 16777216 := rfl
  have hok := hn.ok
  have hst : (((List.range n.ps.length).map (stA n evl)).map ie).length = n.ps.length := by simp
  have hix : ixN (((List.range n.ps.length).map (stA n evl)).map ie).length (p : Int) = some p := ixN_nat (by rw [hst]; exact hp)
  have hse : ∀ c, c < n.cs.length → ixN (((List.range n.cs.length).map (seA n evl)).map encI).length (c : Int) = some c := fun c hc => ixN_nat (by simpa using hc)
  have hgo : ∀ c, c < n.cs.length → ixN (((List.range n.cs.length).map (goA n evl)).map encI).length (c : Int) = some c := fun c hc => ixN_nat (by simpa using hc)
  have h1 : 1 ≤ sizeLine := by decide
  unfold WSt at h ⊢
  cases hd with
  | @idle i r hr ha =>
    simp only [ev, List.getElem?_cons_zero, List.getElem?_cons_succ, List.set_cons_zero, List.set_cons_succ, List.map_cons, List.map_nil, List.length_cons, List.length_nil, List.replicate_succ, List.replicate_zero, List.cons_append, List.nil_append, Nat.reduceAdd, Nat.reduceSub, Nat.zero_add, Nat.sub_zero, Option.bind_some, true_and, and_true, outF, if_true, if_false, Bool.false_eq_true, Bool.not_true, Bool.not_false, List.append_assoc, List.length_append, Option.isSome_some, wipeE, isNon, decide_true, decide_false, encD, str_1, encN, ru_at hr, encR, ha, encA, str_5, hix]
    rw [show decide ((Str.ofString "do") = (Str.ofString "take")) = false from str_ne1]
    simp only [ev, List.getElem?_cons_zero, List.getElem?_cons_succ, List.set_cons_zero, List.set_cons_succ, List.map_cons, List.map_nil, List.length_cons, List.length_nil, List.replicate_succ, List.replicate_zero, List.cons_append, List.nil_append, Nat.reduceAdd, Nat.reduceSub, Nat.zero_add, Nat.sub_zero, Option.bind_some, true_and, and_true, outF, if_true, if_false, Bool.false_eq_true, Bool.not_true, Bool.not_false, List.append_assoc, List.length_append, Option.isSome_some, wipeE, isNon, decide_true, decide_false]
    have := h (some (encA .idle))
    have e1 : (((List.range n.ps.length).map (stA n evl)).map ie).set p (.int (r.th : Nat)) = ((List.range n.ps.length).map (stA n (evl ++ [(p, .act i)]))).map ie :=
      upd_rangeE (enc := ie) (g := stA n (evl ++ [(p, .act i)])) (by rw [st_snoc, if_pos rfl]; show _ = ie ((n.ru i).th); rw [ru_get hr]; rfl) (fun q hq => by rw [st_snoc, if_neg (fun z => hq z.symm)])
    have e2 : ((List.range n.cs.length).map (seA n evl)).map encI = ((List.range n.cs.length).map (seA n (evl ++ [(p, .act i)]))).map encI :=
      upd_same (p := 0) fun c => by rw [se_snoc]; simp only [seD, ru_get hr, ha]; simp
    have e3 : ((List.range n.cs.length).map (goA n evl)).map encI = ((List.range n.cs.length).map (goA n (evl ++ [(p, .act i)]))).map encI :=
      upd_same (p := 0) fun c => by rw [go_snoc]; simp only [goD]; simp
    rw [e1, e2, e3]
    exact this
  | @send i r c x hr ha =>
    have hact := (hok.rs r (mem_of_at hr)).a
    rw [ha] at hact
    obtain ⟨kc, hkc, _⟩ := hact.ch
    have hlt := ch_lt hkc
    have hat : (((List.range n.cs.length).map (seA n evl)).map encI)[c]? = some (encI (seA n evl c)) := at_range hlt
    have hz1 := se_sz n evl c
    simp only [ev, List.getElem?_cons_zero, List.getElem?_cons_succ, List.set_cons_zero, List.set_cons_succ, List.map_cons, List.map_nil, List.length_cons, List.length_nil, List.replicate_succ, List.replicate_zero, List.cons_append, List.nil_append, Nat.reduceAdd, Nat.reduceSub, Nat.zero_add, Nat.sub_zero, Option.bind_some, true_and, and_true, outF, if_true, if_false, Bool.false_eq_true, Bool.not_true, Bool.not_false, List.append_assoc, List.length_append, Option.isSome_some, wipeE, isNon, decide_true, decide_false, encD, str_1, encN, ru_at hr, encR, ha, encA, hix, hse c hlt, hat]
    rw [show decide ((Str.ofString "send") = (Str.ofString "take")) = false from str_ne2]
    simp only [ev, List.getElem?_cons_zero, List.getElem?_cons_succ, List.set_cons_zero, List.set_cons_succ, List.map_cons, List.map_nil, List.length_cons, List.length_nil, List.replicate_succ, List.replicate_zero, List.cons_append, List.nil_append, Nat.reduceAdd, Nat.reduceSub, Nat.zero_add, Nat.sub_zero, Option.bind_some, true_and, and_true, outF, if_true, if_false, Bool.false_eq_true, Bool.not_true, Bool.not_false, List.append_assoc, List.length_append, Option.isSome_some, wipeE, isNon, decide_true, decide_false, encI, encI_snoc, List.length_map, hse c hlt]
    have := h (some (encA (.send c x)))
    have e1 : (((List.range n.ps.length).map (stA n evl)).map ie).set p (.int (r.th : Nat)) = ((List.range n.ps.length).map (stA n (evl ++ [(p, .act i)]))).map ie :=
      upd_rangeE (enc := ie) (g := stA n (evl ++ [(p, .act i)])) (by rw [st_snoc, if_pos rfl]; show _ = ie ((n.ru i).th); rw [ru_get hr]; rfl) (fun q hq => by rw [st_snoc, if_neg (fun z => hq z.symm)])
    have e2 : (((List.range n.cs.length).map (seA n evl)).map encI).set c (encI (seA n evl c ++ [x])) = ((List.range n.cs.length).map (seA n (evl ++ [(p, .act i)]))).map encI :=
      upd_rangeE (enc := encI) (g := seA n (evl ++ [(p, .act i)])) (by rw [se_snoc]; simp only [seD, ru_get hr, ha, if_true]; rfl) (fun q hq => by rw [se_snoc]; simp only [seD, ru_get hr, ha]; rw [if_neg (fun z => hq z.symm)]; simp)
    have e3 : ((List.range n.cs.length).map (goA n evl)).map encI = ((List.range n.cs.length).map (goA n (evl ++ [(p, .act i)]))).map encI :=
      upd_same (p := 0) fun c => by rw [go_snoc]; simp only [goD]; simp
    have e2' : (((List.range n.cs.length).map (seA n evl)).map encI).set c (D.tup ((seA n evl c ++ [x]).map ie)) = _ := e2
    rw [e1, e2', e3]
    exact ⟨h1, by omega, this⟩
  | @take i k r c x hr ha =>
    have hact := (hok.rs r (mem_of_at hr)).a
    rw [ha] at hact
    obtain ⟨kc, hkc, _⟩ := hact.ch
    have hlt := ch_lt hkc
    have hat : (((List.range n.cs.length).map (goA n evl)).map encI)[c]? = some (encI (goA n evl c)) := at_range hlt
    have hz1 := go_sz n evl c
    simp only [ev, List.getElem?_cons_zero, List.getElem?_cons_succ, List.set_cons_zero, List.set_cons_succ, List.map_cons, List.map_nil, List.length_cons, List.length_nil, List.replicate_succ, List.replicate_zero, List.cons_append, List.nil_append, Nat.reduceAdd, Nat.reduceSub, Nat.zero_add, Nat.sub_zero, Option.bind_some, true_and, and_true, outF, if_true, if_false, Bool.false_eq_true, Bool.not_true, Bool.not_false, List.append_assoc, List.length_append, Option.isSome_some, wipeE, isNon, decide_true, decide_false, encD, str_2, encN, ru_at hr, encR, ha, encA, hix, str_6, hgo c hlt, hat]
    simp only [ev, List.getElem?_cons_zero, List.getElem?_cons_succ, List.set_cons_zero, List.set_cons_succ, List.map_cons, List.map_nil, List.length_cons, List.length_nil, List.replicate_succ, List.replicate_zero, List.cons_append, List.nil_append, Nat.reduceAdd, Nat.reduceSub, Nat.zero_add, Nat.sub_zero, Option.bind_some, true_and, and_true, outF, if_true, if_false, Bool.false_eq_true, Bool.not_true, Bool.not_false, List.append_assoc, List.length_append, Option.isSome_some, wipeE, isNon, decide_true, decide_false, encI, encI_snoc, List.length_map, hgo c hlt, hat]
    have := h (some (encA (.take c x)))
    have e1 : (((List.range n.ps.length).map (stA n evl)).map ie).set p (.int (r.th : Nat)) = ((List.range n.ps.length).map (stA n (evl ++ [(p, .take i k)]))).map ie :=
      upd_rangeE (enc := ie) (g := stA n (evl ++ [(p, .take i k)])) (by rw [st_snoc, if_pos rfl]; show _ = ie ((n.ru i).th); rw [ru_get hr]; rfl) (fun q hq => by rw [st_snoc, if_neg (fun z => hq z.symm)])
    have e2 : ((List.range n.cs.length).map (seA n evl)).map encI = ((List.range n.cs.length).map (seA n (evl ++ [(p, .take i k)]))).map encI :=
      upd_same (p := 0) fun c => by rw [se_snoc]; simp only [seD]; simp
    have e3 : (((List.range n.cs.length).map (goA n evl)).map encI).set c (encI (goA n evl c ++ [k])) = ((List.range n.cs.length).map (goA n (evl ++ [(p, .take i k)]))).map encI :=
      upd_rangeE (enc := encI) (g := goA n (evl ++ [(p, .take i k)])) (by rw [go_snoc]; simp only [goD, ru_get hr, ha, if_true]; rfl) (fun q hq => by rw [go_snoc]; simp only [goD, ru_get hr, ha]; rw [if_neg (fun z => hq z.symm)]; simp)
    have e3' : (((List.range n.cs.length).map (goA n evl)).map encI).set c (D.tup ((goA n evl c ++ [k]).map ie)) = _ := e3
    rw [e1, e2, e3']
    exact ⟨h1, by omega, this⟩
  | @lose c k hlt =>
    have hat : (((List.range n.cs.length).map (goA n evl)).map encI)[c]? = some (encI (goA n evl c)) := at_range hlt
    have hz1 := go_sz n evl c
    simp only [ev, List.getElem?_cons_zero, List.getElem?_cons_succ, List.set_cons_zero, List.set_cons_succ, List.map_cons, List.map_nil, List.length_cons, List.length_nil, List.replicate_succ, List.replicate_zero, List.cons_append, List.nil_append, Nat.reduceAdd, Nat.reduceSub, Nat.zero_add, Nat.sub_zero, Option.bind_some, true_and, and_true, outF, if_true, if_false, Bool.false_eq_true, Bool.not_true, Bool.not_false, List.append_assoc, List.length_append, Option.isSome_some, wipeE, isNon, decide_true, decide_false, encD, hgo c hlt, hat]
    simp only [ev, List.getElem?_cons_zero, List.getElem?_cons_succ, List.set_cons_zero, List.set_cons_succ, List.map_cons, List.map_nil, List.length_cons, List.length_nil, List.replicate_succ, List.replicate_zero, List.cons_append, List.nil_append, Nat.reduceAdd, Nat.reduceSub, Nat.zero_add, Nat.sub_zero, Option.bind_some, true_and, and_true, outF, if_true, if_false, Bool.false_eq_true, Bool.not_true, Bool.not_false, List.append_assoc, List.length_append, Option.isSome_some, wipeE, isNon, decide_true, decide_false, encI, encI_snoc, List.length_map, hgo c hlt, hat]
    have := h e11
    have e1 : ((List.range n.ps.length).map (stA n evl)).map ie = ((List.range n.ps.length).map (stA n (evl ++ [(p, .lose c k)]))).map ie :=
      upd_same (p := 0) fun q => by rw [st_snoc]; split <;> rfl
    have e2 : ((List.range n.cs.length).map (seA n evl)).map encI = ((List.range n.cs.length).map (seA n (evl ++ [(p, .lose c k)]))).map encI :=
      upd_same (p := 0) fun c => by rw [se_snoc]; simp only [seD]; simp
    have e3 : (((List.range n.cs.length).map (goA n evl)).map encI).set c (encI (goA n evl c ++ [k])) = ((List.range n.cs.length).map (goA n (evl ++ [(p, .lose c k)]))).map encI :=
      upd_rangeE (enc := encI) (g := goA n (evl ++ [(p, .lose c k)])) (by rw [go_snoc]; simp only [goD, if_true]; rfl) (fun q hq => by rw [go_snoc]; simp only [goD]; rw [if_neg (fun z => hq z.symm)]; simp)
    have e3' : (((List.range n.cs.length).map (goA n evl)).map encI).set c (D.tup ((goA n evl c ++ [k]).map ie)) = _ := e3
    rw [e1, e2, e3']
    exact ⟨h1, by omega, this⟩
end K40

end

section
set_option Elab.async false
set_option linter.all false
set_option maxRecDepth 100000
/-! K40P19: the world of a cut, whole -/
namespace K40
open PySem PySem.Spec L2 DV
def encO : Option Wo → D
  | none => .non
  | some w => encW w
theorem const_range {α β : Type} {l : List α} {x : D} {f : Nat → β} {enc : β → D} (h : ∀ i, enc (f i) = x) : (l.map fun _ => x) = ((List.range l.length).map f).map enc := by
  apply List.ext_getElem?
  intro i
  rw [List.getElem?_map, List.getElem?_map, List.getElem?_map]
  by_cases hi : i < l.length
  · rw [List.getElem?_range hi, List.getElem?_eq_getElem hi]; simp [h]
  · rw [List.getElem?_eq_none (by simpa using hi), List.getElem?_eq_none (by simpa using hi)]; rfl
theorem iRef_at {e : DV.Env} {M : Sto} {i r : Nat} {l : List D} (h : e[i]? = some (some (.ref r))) (hr : asR r M = some l) : iRef (eVar i) e M = some ((r, l), M) := by
  have h2 := asR_some hr
  unfold iRef eVar
  simp only [h, h2]
theorem wpR_map {α : Type} {enc : α → D} {g : GM} {m : EM} {e : DV.Env} {M : Sto} {r : Nat} {l : List D} {QA : List D → Sto → Prop} (f : α → D) : ∀ (xs : List α), Now r l M →
    (∀ x ∈ xs, ∃ e1, g (enc x) e = some e1 ∧ (wpE m e1 M fun d M' => d = f x ∧ M' = M)) → QA (xs.map f) M → wpA (compR r l g mYes m (xs.map enc)) e M QA
  | [], hn, _, q => by
    rw [List.map_nil]
    unfold wpA compR
    rw [if_pos hn]
    exact wpO_some.mpr q
  | x :: xs, hn, h, q => by
    obtain ⟨e1, h1, ⟨y, M2⟩, h2, h3, h4⟩ := h x (List.mem_cons_self ..)
    have h2' : m e1 M = some (f x, M) := by rw [h2]; exact congrArg some (Prod.ext h3 h4)
    rw [List.map_cons]
    unfold wpA compR
    rw [if_pos hn, h1]
    have hy : mYes e1 M = some (true, M) := rfl
    simp only [hy, h2']
    have := wpR_map (QA := fun ys M' => QA (f x :: ys) M') f xs hn (fun x hx => h x (List.mem_cons_of_mem _ hx)) q
    obtain ⟨⟨zs, M3⟩, h7, h8⟩ := this
    rw [h7]
    exact wpO_some.mpr h8
theorem scDs_int : ∀ l : List Nat, scDs (l.map ie) = some (l.map fun k : Nat => V.int (k : Int))
  | [] => rfl
  | x :: l => by simp only [List.map_cons, scDs, ie, scD, scDs_int l]
theorem o_notin_int {k : Nat} {l : List Nat} {M : Sto} : dNotIn (.int (k : Int)) (encI l) M = some (.bl (!decide (k ∈ l))) := by
  have e : inD (.int (k : Int)) (encI l) M = (match scD (.int (k : Int)), scDs (l.map ie) with
      | some a, some bs => some (inV a bs)
      | _, _ => none) := rfl
  have e2 : inV (.int (k : Int)) (l.map fun k : Nat => V.int (k : Int)) = decide (k ∈ l) := by
    unfold inV
    rw [List.any_map]
    by_cases h : k ∈ l
    · rw [decide_eq_true h, List.any_eq_true]
      exact ⟨k, h, by simp [eqV]⟩
    · rw [decide_eq_false h, List.any_eq_false]
      intro y hy
      simp only [Function.comp, eqV, beq_iff_eq]
      intro z
      have : y = k := by omega
      exact h (this ▸ hy)
  unfold dNotIn
  rw [e, scDs_int]
  simp only [scD, e2, Option.map_some]
theorem below_I (l : List Nat) : below 0 (encI l) = true := by
  show below 0 (.tup _) = true
  simp only [below]; exact belows_map fun _ _ => rfl
theorem evs_len {told : List (List De)} {cut : List Nat} (hr : ∀ row ∈ told, row.length ≤ 100) : ∀ p, (evsP told cut p).length ≤ p * 100
  | 0 => by simp [evsP]
  | p + 1 => by
    rw [evs_succ, List.length_append, List.length_map]
    have := evs_len (cut := cut) hr p
    have h2 : (cutE told cut p).length ≤ 100 := by
      unfold cutE
      rw [List.length_take]
      have : (told.getD p []).length ≤ 100 := by
        rw [List.getD_eq_getElem?_getD]
        cases e : told[p]? with
        | none => simp
        | some row => exact hr row (List.mem_of_getElem? e)
      omega
    omega
theorem world_ok {n : Net} (hn : NetV n) {told : List (List De)} {cut : List Nat} (ht : told.length = n.ps.length) (hc : cut.length = n.ps.length) (hr : ∀ row ∈ told, row.length ≤ 100 ∧ ∀ d ∈ row, DeOk n d) (M : Sto) :
    wpF F_law_world [encN n, .tup (told.map encT), .tup (cut.map dn)] M fun v M' => v = encO (worldE n (evsP told cut n.ps.length)) ∧ M' = M := by
  have hS : sizeLine = 16777216 := rfl
  have np := hn.np
  have nc := hn.nc
  unfold F_law_world B_law_world
  simp only [ev, List.getElem?_cons_zero, List.getElem?_cons_succ, List.set_cons_zero, List.set_cons_succ, List.map_cons, List.map_nil, List.length_cons, List.length_nil, List.replicate_succ, List.replicate_zero, List.cons_append, List.nil_append, Nat.reduceAdd, Nat.reduceSub, Nat.zero_add, Nat.sub_zero, Option.bind_some, true_and, and_true, outF, if_true, if_false, Bool.false_eq_true, Bool.not_true, Bool.not_false, List.append_assoc, List.length_append, Option.isSome_some, wipeE, isNon, decide_true, decide_false, encN]
  refine wpA_map (enc := encP) (fun _ => ie 0) n.ps (fun p hp => ⟨_, rfl, ?_⟩) ?_
  · simp only [ev, List.getElem?_cons_zero, List.getElem?_cons_succ, List.set_cons_zero, List.set_cons_succ, List.map_cons, List.map_nil, List.length_cons, List.length_nil, List.replicate_succ, List.replicate_zero, List.cons_append, List.nil_append, Nat.reduceAdd, Nat.reduceSub, Nat.zero_add, Nat.sub_zero, Option.bind_some, true_and, and_true, outF, if_true, if_false, Bool.false_eq_true, Bool.not_true, Bool.not_false, List.append_assoc, List.length_append, Option.isSome_some, wipeE, isNon, decide_true, decide_false]
    rfl
  rw [List.length_map]
  refine ⟨by omega, ?_⟩
  refine wpA_map (enc := encC) (fun _ => encI []) n.cs (fun p hp => ⟨_, rfl, ?_⟩) ?_
  · simp only [ev, List.getElem?_cons_zero, List.getElem?_cons_succ, List.set_cons_zero, List.set_cons_succ, List.map_cons, List.map_nil, List.length_cons, List.length_nil, List.replicate_succ, List.replicate_zero, List.cons_append, List.nil_append, Nat.reduceAdd, Nat.reduceSub, Nat.zero_add, Nat.sub_zero, Option.bind_some, true_and, and_true, outF, if_true, if_false, Bool.false_eq_true, Bool.not_true, Bool.not_false, List.append_assoc, List.length_append, Option.isSome_some, wipeE, isNon, decide_true, decide_false, encI]
    decide
  rw [List.length_map]
  refine ⟨by omega, ?_⟩
  simp only [ev, List.getElem?_cons_zero, List.getElem?_cons_succ, List.set_cons_zero, List.set_cons_succ, List.map_cons, List.map_nil, List.length_cons, List.length_nil, List.replicate_succ, List.replicate_zero, List.cons_append, List.nil_append, Nat.reduceAdd, Nat.reduceSub, Nat.zero_add, Nat.sub_zero, Option.bind_some, true_and, and_true, outF, if_true, if_false, Bool.false_eq_true, Bool.not_true, Bool.not_false, List.append_assoc, List.length_append, Option.isSome_some, wipeE, isNon, decide_true, decide_false]
  refine wpA_map (enc := encC) (fun _ => encI []) n.cs (fun p hp => ⟨_, rfl, ?_⟩) ?_
  · simp only [ev, List.getElem?_cons_zero, List.getElem?_cons_succ, List.set_cons_zero, List.set_cons_succ, List.map_cons, List.map_nil, List.length_cons, List.length_nil, List.replicate_succ, List.replicate_zero, List.cons_append, List.nil_append, Nat.reduceAdd, Nat.reduceSub, Nat.zero_add, Nat.sub_zero, Option.bind_some, true_and, and_true, outF, if_true, if_false, Bool.false_eq_true, Bool.not_true, Bool.not_false, List.append_assoc, List.length_append, Option.isSome_some, wipeE, isNon, decide_true, decide_false, encI]
    decide
  rw [List.length_map]
  refine ⟨by omega, ?_⟩
  rw [const_range (f := stA n []) (enc := ie) (fun i => rfl), const_range (l := n.cs) (x := encI []) (f := seA n []) (enc := encI) (fun i => rfl)]
  simp only [ev, List.getElem?_cons_zero, List.getElem?_cons_succ, List.set_cons_zero, List.set_cons_succ, List.map_cons, List.map_nil, List.length_cons, List.length_nil, List.replicate_succ, List.replicate_zero, List.cons_append, List.nil_append, Nat.reduceAdd, Nat.reduceSub, Nat.zero_add, Nat.sub_zero, Option.bind_some, true_and, and_true, outF, if_true, if_false, Bool.false_eq_true, Bool.not_true, Bool.not_false, List.append_assoc, List.length_append, Option.isSome_some, wipeE, isNon, decide_true, decide_false, List.length_map, Nat.add_assoc]
  refine ⟨⟨by omega, by omega⟩, ?_⟩
  have hlen := evs_len (cut := cut) (fun row h => (hr row h).1)
  refine wpS_rng (n := told.length) (fun p e M' => ∃ e6 e7 e8 e9 e10 e11 e12, M' = WSt M n (evsP told cut p) [] ∧ e = [some (encN n), some (.tup (told.map encT)), some (.tup (cut.map dn)), some (.ref M.length), some (.ref (M.length + 1)), some (.ref (M.length + 2)), e6, e7, e8, e9, e10, e11, e12]) ?_ ?_ ?_
  · exact ⟨_, _, _, _, _, _, _, rfl, rfl⟩
  · rintro p e M' hp ⟨e6, e7, e8, e9, e10, e11, e12, rfl, rfl⟩
    have hat : (told.map encT)[p]? = some (encT told[p]) := by rw [List.getElem?_map, List.getElem?_eq_getElem hp]; rfl
    have hat2 : (cut.map dn)[p]? = some (.int (cut[p]'(by omega) : Nat)) := by rw [List.getElem?_map, List.getElem?_eq_getElem (by omega)]; rfl
    have hcE : cutE told cut p = told[p].take (cut[p]'(by omega)) := by
      unfold cutE
      rw [List.getD_eq_getElem?_getD, List.getD_eq_getElem?_getD, List.getElem?_eq_getElem hp, List.getElem?_eq_getElem (show p < cut.length by omega)]; rfl
    refine ⟨_, rfl, ?_⟩
    simp only [ev, List.getElem?_cons_zero, List.getElem?_cons_succ, List.set_cons_zero, List.set_cons_succ, List.map_cons, List.map_nil, List.length_cons, List.length_nil, List.replicate_succ, List.replicate_zero, List.cons_append, List.nil_append, Nat.reduceAdd, Nat.reduceSub, Nat.zero_add, Nat.sub_zero, Option.bind_some, true_and, and_true, outF, if_true, if_false, Bool.false_eq_true, Bool.not_true, Bool.not_false, List.append_assoc, List.length_append, Option.isSome_some, wipeE, isNon, decide_true, decide_false, hat, hat2, encT, cutn, ← List.map_take]
    rw [← hcE]
    have hrow := hr _ (List.getElem_mem hp)
    have hdk : ∀ d ∈ cutE told cut p, DeOk n d := fun d hd => hrow.2 d (by rw [hcE] at hd; exact List.mem_of_mem_take hd)
    have hcl : (cutE told cut p).length ≤ 100 := by rw [hcE, List.length_take]; have := hrow.1; omega
    refine wpS_forL (enc := encD) (fun xs e M' => ∃ pre e7 e8 e9 e10 e11 e12, pre ++ xs = cutE told cut p ∧ M' = WSt M n (evsP told cut p ++ pre.map fun d => (p, d)) [] ∧ e = [some (encN n), some (.tup (told.map encT)), some (.tup (cut.map dn)), some (.ref M.length), some (.ref (M.length + 1)), some (.ref (M.length + 2)), some (.int (p : Nat)), e7, e8, e9, e10, e11, e12]) _ _ _ ?_ ?_ ?_
    · exact ⟨[], _, _, _, _, _, _, rfl, by simp, rfl⟩
    · rintro d xs e M' ⟨pre, e7, e8, e9, e10, e11, e12, hpre, rfl, rfl⟩
      refine ⟨_, rfl, ?_⟩
      have hpl : pre.length ≤ 100 := by have := congrArg List.length hpre; rw [List.length_append] at this; omega
      refine world_step hn (by omega) (hdk d (by rw [← hpre]; simp)) (by rw [List.length_append, List.length_map]; have := hlen p; omega) fun f11 => ?_
      show ∃ _, _
      exact ⟨pre ++ [d], _, _, _, _, _, _, by rw [← hpre]; simp, by rw [List.map_append, ← List.append_assoc]; rfl, rfl⟩
    · rintro e M' ⟨pre, e7, e8, e9, e10, e11, e12, hpre, rfl, rfl⟩
      rw [List.append_nil] at hpre
      subst hpre
      refine ⟨_, _, _, _, _, _, _, ?_, rfl⟩
      rw [evs_succ]
  · rintro e M' ⟨e6, e7, e8, e9, e10, e11, e12, rfl, rfl⟩
    rw [ht]
    have hlen2 := hlen n.ps.length
    generalize evsP told cut n.ps.length = evl at hlen2
    unfold WSt
    simp only [ev, List.getElem?_cons_zero, List.getElem?_cons_succ, List.set_cons_zero, List.set_cons_succ, List.map_cons, List.map_nil, List.length_cons, List.length_nil, List.replicate_succ, List.replicate_zero, List.cons_append, List.nil_append, Nat.reduceAdd, Nat.reduceSub, Nat.zero_add, Nat.sub_zero, Option.bind_some, true_and, and_true, outF, if_true, if_false, Bool.false_eq_true, Bool.not_true, Bool.not_false, List.append_assoc, List.length_append, Option.isSome_some, wipeE, isNon, decide_true, decide_false, encN, List.length_map, Nat.add_assoc]
    refine ⟨by decide, ⟨by omega, by omega⟩, ?_⟩
    refine wpS_rng (n := n.cs.length) (fun c e M' => (∀ j, j < c → badC n evl j = false) ∧ ∃ e6 e8 e9 e10 e11 e12, M' = WSt M n evl [.lst (((List.range c).map (rowW n evl)).map encRow)] ∧ e = [some (encN n), some (.tup (told.map encT)), some (.tup (cut.map dn)), some (.ref M.length), some (.ref (M.length + 1)), some (.ref (M.length + 2)), e6, some (.ref (M.length + 3)), e8, e9, e10, e11, e12]) ?_ ?_ ?_
    · exact ⟨fun j hj => absurd hj (by omega), _, _, _, _, _, _, rfl, rfl⟩
    · rintro c e M' hcl ⟨hbad, e6, e8, e9, e10, e11, e12, rfl, rfl⟩
      have hse : (((List.range n.cs.length).map (seA n evl)).map encI)[c]? = some (encI (seA n evl c)) := at_range hcl
      have hgo : (((List.range n.cs.length).map (goA n evl)).map encI)[c]? = some (encI (goA n evl c)) := at_range hcl
      have z1 := se_sz n evl c
      have z2 := go_sz n evl c
      refine ⟨_, rfl, ?_⟩
      unfold WSt
      have hI : ∀ l : List Nat, itD (encI l) = some (l.map ie) := fun l => rfl
      have hL : ∀ (l : List Nat) (M : Sto), cLen [encI l] M = some (.int (l.length : Nat)) := fun l M => by
        show some (D.int ((l.map ie).length : Nat)) = _
        rw [List.length_map]
      simp only [ev, List.getElem?_cons_zero, List.getElem?_cons_succ, List.set_cons_zero, List.set_cons_succ, List.map_cons, List.map_nil, List.length_cons, List.length_nil, List.replicate_succ, List.replicate_zero, List.cons_append, List.nil_append, Nat.reduceAdd, Nat.reduceSub, Nat.zero_add, Nat.sub_zero, Option.bind_some, true_and, and_true, outF, if_true, if_false, Bool.false_eq_true, Bool.not_true, Bool.not_false, List.append_assoc, List.length_append, Option.isSome_some, wipeE, isNon, decide_true, decide_false, hse, hgo, hI, hL]
      refine wpA_pure (enc := ie) (fun k => decide ((seA n evl c).length ≤ k)) ie (goA n evl c) (fun k hk => ⟨_, rfl, ?_, fun _ => ?_⟩) ?_
      · simp only [ev, List.getElem?_cons_zero, List.getElem?_cons_succ, List.set_cons_zero, List.set_cons_succ, List.map_cons, List.map_nil, List.length_cons, List.length_nil, List.replicate_succ, List.replicate_zero, List.cons_append, List.nil_append, Nat.reduceAdd, Nat.reduceSub, Nat.zero_add, Nat.sub_zero, Option.bind_some, true_and, and_true, outF, if_true, if_false, Bool.false_eq_true, Bool.not_true, Bool.not_false, List.append_assoc, List.length_append, Option.isSome_some, wipeE, isNon, decide_true, decide_false, hse, hL, ie, Int.ofNat_le]
      · simp only [ev, List.getElem?_cons_zero, List.getElem?_cons_succ, List.set_cons_zero, List.set_cons_succ, List.map_cons, List.map_nil, List.length_cons, List.length_nil, List.replicate_succ, List.replicate_zero, List.cons_append, List.nil_append, Nat.reduceAdd, Nat.reduceSub, Nat.zero_add, Nat.sub_zero, Option.bind_some, true_and, and_true, outF, if_true, if_false, Bool.false_eq_true, Bool.not_true, Bool.not_false, List.append_assoc, List.length_append, Option.isSome_some, wipeE, isNon, decide_true, decide_false]
      have hf := List.length_filter_le (fun k => decide ((seA n evl c).length ≤ k)) (goA n evl c)
      simp only [ev, List.getElem?_cons_zero, List.getElem?_cons_succ, List.set_cons_zero, List.set_cons_succ, List.map_cons, List.map_nil, List.length_cons, List.length_nil, List.replicate_succ, List.replicate_zero, List.cons_append, List.nil_append, Nat.reduceAdd, Nat.reduceSub, Nat.zero_add, Nat.sub_zero, Option.bind_some, true_and, and_true, outF, if_true, if_false, Bool.false_eq_true, Bool.not_true, Bool.not_false, List.append_assoc, List.length_append, Option.isSome_some, wipeE, isNon, decide_true, decide_false, List.length_map, decide_eq_true_eq]
      refine ⟨by omega, ?_⟩
      have hbc : badC n evl c = true ↔ 0 < ((goA n evl c).filter fun k => decide ((seA n evl c).length ≤ k)).length := by
        unfold badC
        rw [List.length_pos_iff_exists_mem, List.any_eq_true]
        exact ⟨fun ⟨k, a, b⟩ => ⟨k, List.mem_filter.mpr ⟨a, b⟩⟩, fun ⟨k, a⟩ => ⟨k, (List.mem_filter.mp a).1, (List.mem_filter.mp a).2⟩⟩
      split
      · rename_i h0
        rw [retF_same rfl]
        have hb : badC n evl c = true := hbc.mpr (by omega)
        have hw : worldE n evl = none := by
          unfold worldE
          rw [if_pos (List.any_eq_true.mpr ⟨c, List.mem_range.mpr hcl, hb⟩)]
        rw [hw]
        exact wpO_some.mpr ⟨rfl, rfl⟩
      · rename_i h0
        have hb : badC n evl c = false := by
          cases h : badC n evl c with
          | false => rfl
          | true => have := hbc.mp h; omega
        simp only [ev, List.getElem?_cons_zero, List.getElem?_cons_succ, List.set_cons_zero, List.set_cons_succ, List.map_cons, List.map_nil, List.length_cons, List.length_nil, List.replicate_succ, List.replicate_zero, List.cons_append, List.nil_append, Nat.reduceAdd, Nat.reduceSub, Nat.zero_add, Nat.sub_zero, Option.bind_some, true_and, and_true, outF, if_true, if_false, Bool.false_eq_true, Bool.not_true, Bool.not_false, List.append_assoc, List.length_append, Option.isSome_some, wipeE, isNon, decide_true, decide_false, hse, hgo, hI, hL]
        rw [rng_ie]
        refine ⟨⟨by omega, by omega⟩, ?_⟩
        refine wpA_pure (enc := ie) (fun k => !decide (k ∈ goA n evl c)) (fun k => encQ (k, (seA n evl c).getD k 0)) (List.range (seA n evl c).length) (fun k hk => ⟨_, rfl, ?_, fun _ => ?_⟩) ?_
        · simp only [ev, List.getElem?_cons_zero, List.getElem?_cons_succ, List.set_cons_zero, List.set_cons_succ, List.map_cons, List.map_nil, List.length_cons, List.length_nil, List.replicate_succ, List.replicate_zero, List.cons_append, List.nil_append, Nat.reduceAdd, Nat.reduceSub, Nat.zero_add, Nat.sub_zero, Option.bind_some, true_and, and_true, outF, if_true, if_false, Bool.false_eq_true, Bool.not_true, Bool.not_false, List.append_assoc, List.length_append, Option.isSome_some, wipeE, isNon, decide_true, decide_false, hgo, ie, o_notin_int]
        · have hkl : k < (seA n evl c).length := List.mem_range.mp hk
          have hx : ((seA n evl c).map ie)[k]? = some (ie ((seA n evl c).getD k 0)) := by
            rw [List.getElem?_map, List.getD_eq_getElem?_getD, List.getElem?_eq_getElem hkl]; rfl
          simp only [ev, List.getElem?_cons_zero, List.getElem?_cons_succ, List.set_cons_zero, List.set_cons_succ, List.map_cons, List.map_nil, List.length_cons, List.length_nil, List.replicate_succ, List.replicate_zero, List.cons_append, List.nil_append, Nat.reduceAdd, Nat.reduceSub, Nat.zero_add, Nat.sub_zero, Option.bind_some, true_and, and_true, outF, if_true, if_false, Bool.false_eq_true, Bool.not_true, Bool.not_false, List.append_assoc, List.length_append, Option.isSome_some, wipeE, isNon, decide_true, decide_false, hse, ie, encI, hx, encQ]
          decide
        · have hf2 := List.length_filter_le (fun k => !decide (k ∈ goA n evl c)) (List.range (seA n evl c).length)
          rw [List.length_range] at hf2
          simp only [ev, List.getElem?_cons_zero, List.getElem?_cons_succ, List.set_cons_zero, List.set_cons_succ, List.map_cons, List.map_nil, List.length_cons, List.length_nil, List.replicate_succ, List.replicate_zero, List.cons_append, List.nil_append, Nat.reduceAdd, Nat.reduceSub, Nat.zero_add, Nat.sub_zero, Option.bind_some, true_and, and_true, outF, if_true, if_false, Bool.false_eq_true, Bool.not_true, Bool.not_false, List.append_assoc, List.length_append, Option.isSome_some, wipeE, isNon, decide_true, decide_false, List.length_map, List.length_range]
          refine ⟨by omega, by omega, ?_, _, _, _, _, _, _, ?_, rfl⟩
          · intro j hj
            rcases Nat.lt_or_ge j c with z | z
            · exact hbad j z
            · have : j = c := by omega
              subst this; exact hb
          · have hrow : D.tup (((List.range (seA n evl c).length).filter fun k => !decide (k ∈ goA n evl c)).map fun k => encQ (k, (seA n evl c).getD k 0)) = encRow (rowW n evl c) := by
              unfold encRow rowW
              rw [List.map_map]; rfl
            rw [List.range_succ, List.map_append, List.map_append, hrow]; rfl
    · rintro e M' ⟨hbad, e6, e8, e9, e10, e11, e12, rfl, rfl⟩
      unfold WSt
      simp only [ev, List.getElem?_cons_zero, List.getElem?_cons_succ, List.set_cons_zero, List.set_cons_succ, List.map_cons, List.map_nil, List.length_cons, List.length_nil, List.replicate_succ, List.replicate_zero, List.cons_append, List.nil_append, Nat.reduceAdd, Nat.reduceSub, Nat.zero_add, Nat.sub_zero, Option.bind_some, true_and, and_true, outF, if_true, if_false, Bool.false_eq_true, Bool.not_true, Bool.not_false, List.append_assoc, List.length_append, Option.isSome_some, wipeE, isNon, decide_true, decide_false, Nat.add_assoc]
      rw [wpA_compR]
      rw [iRef_at (i := 4) (r := M.length + 1) (l := ((List.range n.cs.length).map (seA n evl)).map encI) rfl (by rw [asR_app]; rfl)]
      simp only [ev, List.getElem?_cons_zero, List.getElem?_cons_succ, List.set_cons_zero, List.set_cons_succ, List.map_cons, List.map_nil, List.length_cons, List.length_nil, List.replicate_succ, List.replicate_zero, List.cons_append, List.nil_append, Nat.reduceAdd, Nat.reduceSub, Nat.zero_add, Nat.sub_zero, Option.bind_some, true_and, and_true, outF, if_true, if_false, Bool.false_eq_true, Bool.not_true, Bool.not_false, List.append_assoc, List.length_append, Option.isSome_some, wipeE, isNon, decide_true, decide_false]
      refine wpR_map (enc := encI) (fun l => ie l.length) _ (asR_some (asR_app (k := 1))) (fun l hl => ⟨_, rfl, ?_⟩) ?_
      · have hL : ∀ (l : List Nat) (M : Sto), cLen [encI l] M = some (.int (l.length : Nat)) := fun l M => by
          show some (D.int ((l.map ie).length : Nat)) = _
          rw [List.length_map]
        simp only [ev, List.getElem?_cons_zero, List.getElem?_cons_succ, List.set_cons_zero, List.set_cons_succ, List.map_cons, List.map_nil, List.length_cons, List.length_nil, List.replicate_succ, List.replicate_zero, List.cons_append, List.nil_append, Nat.reduceAdd, Nat.reduceSub, Nat.zero_add, Nat.sub_zero, Option.bind_some, true_and, and_true, outF, if_true, if_false, Bool.false_eq_true, Bool.not_true, Bool.not_false, List.append_assoc, List.length_append, Option.isSome_some, wipeE, isNon, decide_true, decide_false, hL, ie]
      · simp only [ev, List.getElem?_cons_zero, List.getElem?_cons_succ, List.set_cons_zero, List.set_cons_succ, List.map_cons, List.map_nil, List.length_cons, List.length_nil, List.replicate_succ, List.replicate_zero, List.cons_append, List.nil_append, Nat.reduceAdd, Nat.reduceSub, Nat.zero_add, Nat.sub_zero, Option.bind_some, true_and, and_true, outF, if_true, if_false, Bool.false_eq_true, Bool.not_true, Bool.not_false, List.append_assoc, List.length_append, Option.isSome_some, wipeE, isNon, decide_true, decide_false, List.length_map, List.length_range]
        refine ⟨by omega, by decide, ?_⟩
        have hw : worldE n evl = some ⟨(List.range n.ps.length).map (stA n evl), (List.range n.cs.length).map fun c => (seA n evl c).length, (List.range n.cs.length).map (rowW n evl)⟩ := by
          unfold worldE
          rw [if_neg]
          intro h
          obtain ⟨c, hc1, hc2⟩ := List.any_eq_true.mp h
          rw [hbad c (List.mem_range.mp hc1)] at hc2; cases hc2
        rw [hw]
        have e : D.tup [D.tup (((List.range n.ps.length).map (stA n evl)).map ie), .tup (((List.range n.cs.length).map (seA n evl)).map fun l => ie l.length), .tup (((List.range n.cs.length).map (rowW n evl)).map encRow)] = encW ⟨(List.range n.ps.length).map (stA n evl), (List.range n.cs.length).map fun c => (seA n evl c).length, (List.range n.cs.length).map (rowW n evl)⟩ := by
          have h2 : ((List.range n.cs.length).map (seA n evl)).map (fun l => ie l.length) = ((List.range n.cs.length).map fun c => (seA n evl c).length).map dn := by
            rw [List.map_map, List.map_map]; rfl
          rw [h2]; rfl
        rw [e, retF_same (by
          show below 0 (.tup _) = true
          simp only [below]; exact below_W _ _ _)]
        exact wpO_some.mpr ⟨rfl, rfl⟩
end K40

end

section
set_option Elab.async false
set_option linter.all false
set_option maxRecDepth 100000
/-! K40P20: all cuts -/
namespace K40
open PySem PySem.Spec L2 DV
def encV (v : List Nat) : D := .tup (v.map dn)
def encVW (p : List Nat × Wo) : D := .tup [encV p.1, encW p.2]
theorem asInts_map {α : Type} {f : α → Int} : ∀ l : List α, asInts (l.map fun a => D.int (f a)) = some (l.map f)
  | [] => rfl
  | a :: l => by simp only [List.map_cons, asInts, asInts_map l, Option.map_some]
theorem o_sum_lst {α : Type} {f : α → Int} {l : List α} {M : Sto} : cSum [.lst (l.map fun a => D.int (f a))] M = some (.int (l.map f).sum) := by
  have e : cSum [.lst (l.map fun a => D.int (f a))] M = (asInts (l.map fun a => D.int (f a))).map fun bs => .int bs.sum := rfl
  rw [e, asInts_map]; rfl
theorem o_sum_V {v : List Nat} {M : Sto} : cSum [encV v] M = some (.int (v.map fun k : Nat => (k : Int)).sum) := by
  have e : cSum [encV v] M = (asInts (v.map dn)).map fun bs => .int bs.sum := rfl
  have e2 : (v.map dn) = v.map fun k : Nat => D.int (k : Int) := rfl
  rw [e, e2, asInts_map]; rfl
theorem isNon_O (o : Option Wo) : isNon (encO o) = o.isNone := by cases o <;> rfl
theorem pick_some {W : List Nat → Option Wo} : ∀ l : List (List Nat), (∀ v ∈ l, (W v).isNone = false) → ∃ rs : List (List Nat × Wo), (l.map fun v => D.tup [encV v, encO (W v)]) = rs.map encVW ∧ rs.map (·.1) = l ∧ ∀ p ∈ rs, W p.1 = some p.2
  | [], _ => ⟨[], rfl, rfl, by intro p hp; cases hp⟩
  | v :: l, h => by
    obtain ⟨rs, a, b, c⟩ := pick_some l fun v hv => h v (List.mem_cons_of_mem _ hv)
    have hv := h v (List.mem_cons_self ..)
    cases e : W v with
    | none => rw [e] at hv; cases hv
    | some w =>
      refine ⟨(v, w) :: rs, by rw [List.map_cons, List.map_cons, a, e]; rfl, by rw [List.map_cons, b], ?_⟩
      intro p hp
      rcases List.mem_cons.mp hp with rfl | hp
      · exact e
      · exact c p hp
theorem int_sum : ∀ l : List (List De), (l.map fun r => (r.length : Int)).sum = (((l.map fun r => r.length).sum : Nat) : Int)
  | [] => rfl
  | r :: l => by simp only [List.map_cons, List.sum_cons, int_sum l]; omega
theorem sum_le {l : List (List De)} (h : ∀ r ∈ l, r.length ≤ 9) : (l.map fun r => r.length).sum ≤ l.length * 9 := by
  induction l with
  | nil => simp
  | cons r l ih =>
    have := ih fun r hr => h r (List.mem_cons_of_mem _ hr)
    have := h r (List.mem_cons_self ..)
    simp only [List.map_cons, List.sum_cons, List.length_cons]; omega
theorem zero_sum (m : Nat) : ((List.replicate m 0).map fun k : Nat => (k : Int)).sum = 0 := by
  induction m with
  | zero => rfl
  | succ m ih => rw [List.replicate_succ, List.map_cons, List.sum_cons, ih]; rfl
theorem zero_evs (told : List (List De)) (m : Nat) : ∀ p, evsP told (List.replicate m 0) p = []
  | 0 => rfl
  | p + 1 => by
    rw [evs_succ, zero_evs told m p]
    have : cutE told (List.replicate m 0) p = [] := by
      unfold cutE
      have : (List.replicate m 0).getD p 0 = 0 := by
        rw [List.getD_eq_getElem?_getD]
        by_cases h : p < m
        · rw [List.getElem?_replicate_of_lt h]; rfl
        · rw [List.getElem?_eq_none (by simpa using h)]; rfl
      rw [this, List.take_zero]
    rw [this]; rfl
theorem zero_world (n : Net) : (worldE n []).isNone = false := by
  unfold worldE
  rw [if_neg]
  · rfl
  · intro h
    obtain ⟨c, _, hc⟩ := List.any_eq_true.mp h
    simp [badC, goA] at hc
theorem cuts_ok {n : Net} (hn : NetV n) {told : List (List De)} (ht : told.length = n.ps.length) (hr : ∀ row ∈ told, row.length ≤ 9 ∧ ∀ d ∈ row, DeOk n d) (M : Sto) :
    wpF F_law_cuts [encN n, .tup (told.map encT)] M fun v M' => M' = M ∧ ∃ rs : List (List Nat × Wo), v = .lst (rs.map encVW) ∧ 0 < rs.length ∧ rs.length ≤ 5000000 ∧ ∀ p ∈ rs, p.1.length = n.ps.length ∧ worldE n (evsP told p.1 n.ps.length) = some p.2 := by
  have hS : sizeLine = 16777216 := rfl
  have np := hn.np
  unfold F_law_cuts B_law_cuts
  simp only [ev, List.getElem?_cons_zero, List.getElem?_cons_succ, List.set_cons_zero, List.set_cons_succ, List.map_cons, List.map_nil, List.length_cons, List.length_nil, List.replicate_succ, List.replicate_zero, List.cons_append, List.nil_append, Nat.reduceAdd, Nat.reduceSub, Nat.zero_add, Nat.sub_zero, Option.bind_some, true_and, and_true, outF, if_true, if_false, Bool.false_eq_true, Bool.not_true, Bool.not_false, List.append_assoc, List.length_append, Option.isSome_some, wipeE, isNon, decide_true, decide_false]
  refine ⟨by decide, by decide, ?_⟩
  refine wpS_forL (enc := encT) (fun xs e M' => M' = M ∧ ∃ (pre : List (List De)) (vs : List (List Nat)) (e3 e4 e5 e6 e7 e8 e9 e10 : Option D), pre ++ xs = told ∧ (∀ v ∈ vs, v.length = pre.length) ∧ List.replicate pre.length 0 ∈ vs ∧ vs.length ≤ 10 ^ pre.length ∧ e = [some (encN n), some (.tup (told.map encT)), some (.lst (vs.map encV)), e3, e4, e5, e6, e7, e8, e9, e10]) _ _ _ ?_ ?_ ?_
  · exact ⟨rfl, [], [[]], _, _, _, _, _, _, _, _, rfl, by simp, by simp, by simp, rfl⟩
  · rintro row xs e M' ⟨rfl, pre, vs, e3, e4, e5, e6, e7, e8, e9, e10, hpre, hvl, hv0, hvs, rfl⟩
    have hrow := (hr row (by rw [← hpre]; simp)).1
    have hpl : pre.length + 1 ≤ 5 := by have := congrArg List.length hpre; rw [List.length_append, List.length_cons] at this; omega
    have hvs5 : vs.length ≤ 10000 := Nat.le_trans hvs (Nat.le_trans (Nat.pow_le_pow_right (by omega) (show pre.length ≤ 4 by omega)) (by decide))
    refine ⟨_, rfl, ?_⟩
    simp only [ev, List.getElem?_cons_zero, List.getElem?_cons_succ, List.set_cons_zero, List.set_cons_succ, List.map_cons, List.map_nil, List.length_cons, List.length_nil, List.replicate_succ, List.replicate_zero, List.cons_append, List.nil_append, Nat.reduceAdd, Nat.reduceSub, Nat.zero_add, Nat.sub_zero, Option.bind_some, true_and, and_true, outF, if_true, if_false, Bool.false_eq_true, Bool.not_true, Bool.not_false, List.append_assoc, List.length_append, Option.isSome_some, wipeE, isNon, decide_true, decide_false]
    refine ⟨by decide, ?_⟩
    refine wpS_forL (enc := encV) (fun ys e M2 => M2 = M' ∧ ∃ (dn ls : List (List Nat)) (e4 e5 e6 e8 e9 e10 : Option D), dn ++ ys = vs ∧ (∀ v ∈ ls, v.length = pre.length + 1) ∧ (List.replicate pre.length 0 ∈ dn → List.replicate (pre.length + 1) 0 ∈ ls) ∧ ls.length ≤ dn.length * 10 ∧ e = [some (encN n), some (.tup (told.map encT)), some (.lst (vs.map encV)), some (encT row), e4, e5, e6, some (.lst (ls.map encV)), e8, e9, e10]) _ _ _ ?_ ?_ ?_
    · exact ⟨rfl, [], [], _, _, _, _, _, _, rfl, (by intro v hv; cases hv), (by intro h; cases h), by simp, rfl⟩
    · rintro v ys e M2 ⟨rfl, dn', ls, e4, e5, e6, e8, e9, e10, hdn, hll, hl0, hls, rfl⟩
      have hdl : dn'.length + 1 ≤ vs.length := by have := congrArg List.length hdn; rw [List.length_append, List.length_cons] at this; omega
      have hvv := hvl v (by rw [← hdn]; simp)
      refine ⟨_, rfl, ?_⟩
      simp only [ev, List.getElem?_cons_zero, List.getElem?_cons_succ, List.set_cons_zero, List.set_cons_succ, List.map_cons, List.map_nil, List.length_cons, List.length_nil, List.replicate_succ, List.replicate_zero, List.cons_append, List.nil_append, Nat.reduceAdd, Nat.reduceSub, Nat.zero_add, Nat.sub_zero, Option.bind_some, true_and, and_true, outF, if_true, if_false, Bool.false_eq_true, Bool.not_true, Bool.not_false, List.append_assoc, List.length_append, Option.isSome_some, wipeE, isNon, decide_true, decide_false, encT, List.length_map]
      rw [show ((row.length : Int) + 1) = ((row.length + 1 : Nat) : Int) by omega, rng_ie]
      refine ⟨⟨by omega, by omega⟩, ?_⟩
      refine wpA_map (enc := ie) (fun k => encV (v ++ [k])) _ (fun k hk => ⟨_, rfl, ?_⟩) ?_
      · simp only [ev, List.getElem?_cons_zero, List.getElem?_cons_succ, List.set_cons_zero, List.set_cons_succ, List.map_cons, List.map_nil, List.length_cons, List.length_nil, List.replicate_succ, List.replicate_zero, List.cons_append, List.nil_append, Nat.reduceAdd, Nat.reduceSub, Nat.zero_add, Nat.sub_zero, Option.bind_some, true_and, and_true, outF, if_true, if_false, Bool.false_eq_true, Bool.not_true, Bool.not_false, List.append_assoc, List.length_append, Option.isSome_some, wipeE, isNon, decide_true, decide_false, encV, ie, List.length_map]
        refine ⟨by decide, by omega, ?_⟩
        rw [List.map_append]; rfl
      · simp only [ev, List.getElem?_cons_zero, List.getElem?_cons_succ, List.set_cons_zero, List.set_cons_succ, List.map_cons, List.map_nil, List.length_cons, List.length_nil, List.replicate_succ, List.replicate_zero, List.cons_append, List.nil_append, Nat.reduceAdd, Nat.reduceSub, Nat.zero_add, Nat.sub_zero, Option.bind_some, true_and, and_true, outF, if_true, if_false, Bool.false_eq_true, Bool.not_true, Bool.not_false, List.append_assoc, List.length_append, Option.isSome_some, wipeE, isNon, decide_true, decide_false, List.length_map, List.length_range]
        rw [show (ls.map encV ++ ((List.range (row.length + 1)).map fun k => encV (v ++ [k]))) = (ls ++ (List.range (row.length + 1)).map (fun k => v ++ [k])).map encV from by rw [List.map_append, List.map_map]; rfl]
        refine ⟨by omega, by omega, dn' ++ [v], ls ++ (List.range (row.length + 1)).map (fun k => v ++ [k]), _, _, _, _, _, _, by rw [← hdn]; simp, ?_, ?_, by simp; omega, rfl⟩
        · intro z hz
          rcases List.mem_append.mp hz with hz | hz
          · exact hll z hz
          · obtain ⟨k, _, rfl⟩ := List.mem_map.mp hz
            rw [List.length_append, hvv]; rfl
        · intro h
          rcases List.mem_append.mp h with h | h
          · exact List.mem_append_left _ (hl0 h)
          · rw [List.mem_singleton] at h
            refine List.mem_append_right _ (List.mem_map.mpr ⟨0, by simp, ?_⟩)
            rw [← h, ← List.replicate_succ']; rfl
    · rintro e M2 ⟨rfl, dn', ls, e4, e5, e6, e8, e9, e10, hdn, hll, hl0, hls, rfl⟩
      rw [List.append_nil] at hdn
      subst hdn
      simp only [ev, List.getElem?_cons_zero, List.getElem?_cons_succ, List.set_cons_zero, List.set_cons_succ, List.map_cons, List.map_nil, List.length_cons, List.length_nil, List.replicate_succ, List.replicate_zero, List.cons_append, List.nil_append, Nat.reduceAdd, Nat.reduceSub, Nat.zero_add, Nat.sub_zero, Option.bind_some, true_and, and_true, outF, if_true, if_false, Bool.false_eq_true, Bool.not_true, Bool.not_false, List.append_assoc, List.length_append, Option.isSome_some, wipeE, isNon, decide_true, decide_false]
      refine ⟨pre ++ [row], ls, _, _, _, _, _, _, _, _, by rw [← hpre]; simp, by rw [List.length_append]; exact hll, by rw [List.length_append]; exact hl0 hv0, ?_, rfl⟩
      rw [List.length_append]
      show ls.length ≤ 10 ^ (pre.length + 1)
      rw [Nat.pow_succ]; omega
  · rintro e M' ⟨rfl, pre, vs, e3, e4, e5, e6, e7, e8, e9, e10, hpre, hvl, hv0, hvs, rfl⟩
    rw [List.append_nil] at hpre
    subst hpre
    have hvs5 : vs.length ≤ 100000 := Nat.le_trans hvs (Nat.le_trans (Nat.pow_le_pow_right (by omega) (show pre.length ≤ 5 by omega)) (by decide))
    simp only [ev, List.getElem?_cons_zero, List.getElem?_cons_succ, List.set_cons_zero, List.set_cons_succ, List.map_cons, List.map_nil, List.length_cons, List.length_nil, List.replicate_succ, List.replicate_zero, List.cons_append, List.nil_append, Nat.reduceAdd, Nat.reduceSub, Nat.zero_add, Nat.sub_zero, Option.bind_some, true_and, and_true, outF, if_true, if_false, Bool.false_eq_true, Bool.not_true, Bool.not_false, List.append_assoc, List.length_append, Option.isSome_some, wipeE, isNon, decide_true, decide_false]
    refine wpA_map (enc := encV) (fun v => .tup [encV v, encO (worldE n (evsP pre v n.ps.length))]) vs (fun v hv => ⟨_, rfl, ?_⟩) ?_
    · simp only [ev, List.getElem?_cons_zero, List.getElem?_cons_succ, List.set_cons_zero, List.set_cons_succ, List.map_cons, List.map_nil, List.length_cons, List.length_nil, List.replicate_succ, List.replicate_zero, List.cons_append, List.nil_append, Nat.reduceAdd, Nat.reduceSub, Nat.zero_add, Nat.sub_zero, Option.bind_some, true_and, and_true, outF, if_true, if_false, Bool.false_eq_true, Bool.not_true, Bool.not_false, List.append_assoc, List.length_append, Option.isSome_some, wipeE, isNon, decide_true, decide_false]
      refine (world_ok hn ht (by rw [hvl v hv, ht]) (fun row h => ⟨by have := (hr row h).1; omega, (hr row h).2⟩) M').imp ?_
      rintro d M2 ⟨rfl, rfl⟩
      exact ⟨by decide, rfl, rfl⟩
    simp only [ev, List.getElem?_cons_zero, List.getElem?_cons_succ, List.set_cons_zero, List.set_cons_succ, List.map_cons, List.map_nil, List.length_cons, List.length_nil, List.replicate_succ, List.replicate_zero, List.cons_append, List.nil_append, Nat.reduceAdd, Nat.reduceSub, Nat.zero_add, Nat.sub_zero, Option.bind_some, true_and, and_true, outF, if_true, if_false, Bool.false_eq_true, Bool.not_true, Bool.not_false, List.append_assoc, List.length_append, Option.isSome_some, wipeE, isNon, decide_true, decide_false, List.length_map]
    refine ⟨by omega, by decide, ?_⟩
    refine wpA_map (enc := encT) (fun row => .int (row.length : Int)) pre (fun row hrow => ⟨_, rfl, ?_⟩) ?_
    · simp only [ev, List.getElem?_cons_zero, List.getElem?_cons_succ, List.set_cons_zero, List.set_cons_succ, List.map_cons, List.map_nil, List.length_cons, List.length_nil, List.replicate_succ, List.replicate_zero, List.cons_append, List.nil_append, Nat.reduceAdd, Nat.reduceSub, Nat.zero_add, Nat.sub_zero, Option.bind_some, true_and, and_true, outF, if_true, if_false, Bool.false_eq_true, Bool.not_true, Bool.not_false, List.append_assoc, List.length_append, Option.isSome_some, wipeE, isNon, decide_true, decide_false, encT, List.length_map]
    simp only [ev, List.getElem?_cons_zero, List.getElem?_cons_succ, List.set_cons_zero, List.set_cons_succ, List.map_cons, List.map_nil, List.length_cons, List.length_nil, List.replicate_succ, List.replicate_zero, List.cons_append, List.nil_append, Nat.reduceAdd, Nat.reduceSub, Nat.zero_add, Nat.sub_zero, Option.bind_some, true_and, and_true, outF, if_true, if_false, Bool.false_eq_true, Bool.not_true, Bool.not_false, List.append_assoc, List.length_append, Option.isSome_some, wipeE, isNon, decide_true, decide_false, List.length_map, o_sum_lst]
    have hsl := sum_le (l := pre) (fun r hr' => (hr r hr').1)
    rw [int_sum]
    generalize (pre.map fun r => r.length).sum = S at hsl
    rw [show ((S : Int) + 1) = ((S + 1 : Nat) : Int) by omega]
    refine ⟨by omega, ⟨by omega, by omega⟩, ?_⟩
    have hz0 : (worldE n (evsP pre (List.replicate pre.length 0) n.ps.length)).isNone = false := by rw [zero_evs]; exact zero_world n
    refine wpS_rng (n := S + 1) (fun t e M2 => M2 = M' ∧ ∃ (rs : List (List Nat × Wo)) (e6 e7 e8 e9 e10 : Option D), rs.length ≤ t * 100000 ∧ (0 < t → 0 < rs.length) ∧ (∀ p ∈ rs, p.1.length = n.ps.length ∧ worldE n (evsP pre p.1 n.ps.length) = some p.2) ∧ e = [some (encN n), some (.tup (pre.map encT)), some (.lst (vs.map encV)), e3, some (.lst (vs.map fun v => D.tup [encV v, encO (worldE n (evsP pre v n.ps.length))])), some (.lst (rs.map encVW)), e6, e7, e8, e9, e10]) ?_ ?_ ?_
    · exact ⟨rfl, [], _, _, _, _, _, by simp, by omega, (by intro p hp; cases hp), rfl⟩
    · rintro t e M2 ht' ⟨rfl, rs, e6, e7, e8, e9, e10, hrl, hr0, hrp, rfl⟩
      refine ⟨_, rfl, ?_⟩
      simp only [ev, List.getElem?_cons_zero, List.getElem?_cons_succ, List.set_cons_zero, List.set_cons_succ, List.map_cons, List.map_nil, List.length_cons, List.length_nil, List.replicate_succ, List.replicate_zero, List.cons_append, List.nil_append, Nat.reduceAdd, Nat.reduceSub, Nat.zero_add, Nat.sub_zero, Option.bind_some, true_and, and_true, outF, if_true, if_false, Bool.false_eq_true, Bool.not_true, Bool.not_false, List.append_assoc, List.length_append, Option.isSome_some, wipeE, isNon, decide_true, decide_false]
      refine wpA_pure (enc := fun v => D.tup [encV v, encO (worldE n (evsP pre v n.ps.length))]) (fun v => !(worldE n (evsP pre v n.ps.length)).isNone && decide ((v.map fun k : Nat => (k : Int)).sum = (t : Int))) (fun v => D.tup [encV v, encO (worldE n (evsP pre v n.ps.length))]) vs (fun v hv => ⟨_, rfl, ?_, fun _ => ?_⟩) ?_
      · cases hW : worldE n (evsP pre v n.ps.length) with
        | none =>
          simp only [ev, List.getElem?_cons_zero, List.getElem?_cons_succ, List.set_cons_zero, List.set_cons_succ, List.map_cons, List.map_nil, List.length_cons, List.length_nil, List.replicate_succ, List.replicate_zero, List.cons_append, List.nil_append, Nat.reduceAdd, Nat.reduceSub, Nat.zero_add, Nat.sub_zero, Option.bind_some, true_and, and_true, outF, if_true, if_false, Bool.false_eq_true, Bool.not_true, Bool.not_false, List.append_assoc, List.length_append, Option.isSome_some, wipeE, isNon, decide_true, decide_false, encO]
          simp
        | some w =>
          simp only [ev, List.getElem?_cons_zero, List.getElem?_cons_succ, List.set_cons_zero, List.set_cons_succ, List.map_cons, List.map_nil, List.length_cons, List.length_nil, List.replicate_succ, List.replicate_zero, List.cons_append, List.nil_append, Nat.reduceAdd, Nat.reduceSub, Nat.zero_add, Nat.sub_zero, Option.bind_some, true_and, and_true, outF, if_true, if_false, Bool.false_eq_true, Bool.not_true, Bool.not_false, List.append_assoc, List.length_append, Option.isSome_some, wipeE, isNon, decide_true, decide_false, encO, encW, o_sum_V]
          simp
      · simp only [ev, List.getElem?_cons_zero, List.getElem?_cons_succ, List.set_cons_zero, List.set_cons_succ, List.map_cons, List.map_nil, List.length_cons, List.length_nil, List.replicate_succ, List.replicate_zero, List.cons_append, List.nil_append, Nat.reduceAdd, Nat.reduceSub, Nat.zero_add, Nat.sub_zero, Option.bind_some, true_and, and_true, outF, if_true, if_false, Bool.false_eq_true, Bool.not_true, Bool.not_false, List.append_assoc, List.length_append, Option.isSome_some, wipeE, isNon, decide_true, decide_false]
      · have hf := List.length_filter_le (fun v => !(worldE n (evsP pre v n.ps.length)).isNone && decide ((v.map fun k : Nat => (k : Int)).sum = (t : Int))) vs
        have hfm : ∀ v ∈ vs.filter (fun v => !(worldE n (evsP pre v n.ps.length)).isNone && decide ((v.map fun k : Nat => (k : Int)).sum = (t : Int))), v ∈ vs ∧ (worldE n (evsP pre v n.ps.length)).isNone = false := by
          intro v hv
          obtain ⟨a, b⟩ := List.mem_filter.mp hv
          rw [Bool.and_eq_true] at b
          exact ⟨a, by simpa using b.1⟩
        have hfz : t = 0 → 0 < (vs.filter (fun v => !(worldE n (evsP pre v n.ps.length)).isNone && decide ((v.map fun k : Nat => (k : Int)).sum = (t : Int)))).length := by
          intro h0
          rw [List.length_pos_iff_exists_mem]
          refine ⟨_, List.mem_filter.mpr ⟨hv0, ?_⟩⟩
          rw [hz0, zero_sum, h0]; rfl
        generalize vs.filter (fun v => !(worldE n (evsP pre v n.ps.length)).isNone && decide ((v.map fun k : Nat => (k : Int)).sum = (t : Int))) = fs at hf hfm hfz
        obtain ⟨zs, g1, g2, g3⟩ := pick_some (W := fun v => worldE n (evsP pre v n.ps.length)) fs (fun v hv => (hfm v hv).2)
        have hzl : zs.length = fs.length := by rw [← g2, List.length_map]
        rw [g1]
        simp only [ev, List.getElem?_cons_zero, List.getElem?_cons_succ, List.set_cons_zero, List.set_cons_succ, List.map_cons, List.map_nil, List.length_cons, List.length_nil, List.replicate_succ, List.replicate_zero, List.cons_append, List.nil_append, Nat.reduceAdd, Nat.reduceSub, Nat.zero_add, Nat.sub_zero, Option.bind_some, true_and, and_true, outF, if_true, if_false, Bool.false_eq_true, Bool.not_true, Bool.not_false, List.append_assoc, List.length_append, Option.isSome_some, wipeE, isNon, decide_true, decide_false, List.length_map, ← List.map_append]
        refine ⟨by omega, by omega, rs ++ zs, _, _, _, _, _, by rw [List.length_append]; omega, ?_, ?_, rfl⟩
        · intro _
          rw [List.length_append]
          by_cases h0 : t = 0
          · have := hfz h0; omega
          · have := hr0 (by omega); omega
        · intro p hp
          rcases List.mem_append.mp hp with hp | hp
          · exact hrp p hp
          · have hm : p.1 ∈ fs := by rw [← g2]; exact List.mem_map_of_mem hp
            exact ⟨by rw [hvl _ (hfm _ hm).1, ht], g3 p hp⟩
    · rintro e M2 ⟨rfl, rs, e6, e7, e8, e9, e10, hrl, hr0, hrp, rfl⟩
      simp only [ev, List.getElem?_cons_zero, List.getElem?_cons_succ, List.set_cons_zero, List.set_cons_succ, List.map_cons, List.map_nil, List.length_cons, List.length_nil, List.replicate_succ, List.replicate_zero, List.cons_append, List.nil_append, Nat.reduceAdd, Nat.reduceSub, Nat.zero_add, Nat.sub_zero, Option.bind_some, true_and, and_true, outF, if_true, if_false, Bool.false_eq_true, Bool.not_true, Bool.not_false, List.append_assoc, List.length_append, Option.isSome_some, wipeE, isNon, decide_true, decide_false]
      rw [retF_same0 (by
        simp only [below]
        exact belows_map fun p _ => by
          have h1 : below 0 (encV p.1) = true := by
            show below 0 (.tup _) = true
            simp only [below]; exact belows_map fun _ _ => rfl
          have h2 : below 0 (encW p.2) = true := by
            show below 0 (.tup _) = true
            simp only [below]; exact below_W _ _ _
          show below 0 (.tup [encV p.1, encW p.2]) = true
          simp only [below, belows, h1, h2, Bool.and_self])]
      exact wpO_some.mpr ⟨rfl, rs, rfl, hr0 (by omega), by omega, hrp⟩
end K40

end

section
set_option Elab.async false
set_option linter.all false
set_option maxRecDepth 100000
/-! K40P21: what a run's worlds hold (no program here) -/
namespace K40
open PySem PySem.Spec L2 DV
def seR (n : Net) (pre : List De) (c : Nat) : List Nat := pre.filterMap (seD n c)
def goR (n : Net) (pre : List De) (c : Nat) : List Nat := pre.filterMap (goD n c)
def rowR (n : Net) (pre : List De) (c : Nat) : List (Nat × Nat) := ((List.range (seR n pre c).length).filter fun k => !decide (k ∈ goR n pre c)).map fun k => (k, (seR n pre c).getD k 0)
def stR (n : Net) (pre : List De) (p : Nat) : Nat := (pre.filter fun d => decide (own n d = p)).foldl (stD n) 0
structure Inv (n : Net) (pre : List De) (w : Wo) : Prop where
  st : ∀ p, p < n.ps.length → w.at_ p = stR n pre p
  sn : ∀ c, c < n.cs.length → w.sent c = (seR n pre c).length
  row : ∀ c, c < n.cs.length → w.row c = rowR n pre c
  lt : ∀ c, ∀ k ∈ goR n pre c, k < (seR n pre c).length
theorem seR_snoc {n : Net} {pre : List De} {d : De} {c : Nat} : seR n (pre ++ [d]) c = seR n pre c ++ (seD n c d).toList := by
  unfold seR; rw [List.filterMap_append]
  cases h : seD n c d <;> simp [h]
theorem goR_snoc {n : Net} {pre : List De} {d : De} {c : Nat} : goR n (pre ++ [d]) c = goR n pre c ++ (goD n c d).toList := by
  unfold goR; rw [List.filterMap_append]
  cases h : goD n c d <;> simp [h]
theorem stR_snoc {n : Net} {pre : List De} {d : De} {p : Nat} : stR n (pre ++ [d]) p = if own n d = p then stD n (stR n pre p) d else stR n pre p := by
  unfold stR; rw [List.filter_append, List.foldl_append]
  by_cases h : own n d = p
  · rw [if_pos h, List.filter_cons_of_pos (by simpa using h)]; rfl
  · rw [if_neg h, List.filter_cons_of_neg (by simpa using h)]; rfl
theorem rowR_mem {n : Net} {pre : List De} {c : Nat} {q : Nat × Nat} : q ∈ rowR n pre c ↔ q.1 < (seR n pre c).length ∧ q.1 ∉ goR n pre c ∧ q.2 = (seR n pre c).getD q.1 0 := by
  unfold rowR
  constructor
  · intro h
    obtain ⟨k, hk, rfl⟩ := List.mem_map.mp h
    obtain ⟨a, b⟩ := List.mem_filter.mp hk
    exact ⟨List.mem_range.mp a, by simpa using b, rfl⟩
  · rintro ⟨a, b, e⟩
    exact List.mem_map.mpr ⟨q.1, List.mem_filter.mpr ⟨List.mem_range.mpr a, by simpa using b⟩, by rw [← e]⟩
theorem row_send {se go : List Nat} {x : Nat} (hlt : ∀ k ∈ go, k < se.length) : ((List.range (se ++ [x]).length).filter fun k => !decide (k ∈ go)).map (fun k => (k, (se ++ [x]).getD k 0)) =
    (((List.range se.length).filter fun k => !decide (k ∈ go)).map fun k => (k, se.getD k 0)) ++ [(se.length, x)] := by
  rw [List.length_append, List.length_singleton, List.range_succ, List.filter_append, List.map_append]
  congr 1
  · apply List.map_congr_left
    intro k hk
    have := List.mem_range.mp (List.mem_filter.mp hk).1
    rw [List.getD_eq_getElem?_getD, List.getD_eq_getElem?_getD, List.getElem?_append_left this]
  · rw [List.filter_cons_of_pos]
    · simp [List.getD_eq_getElem?_getD]
    · have : se.length ∉ go := fun h => absurd (hlt _ h) (by omega)
      simpa using this
theorem row_gone {se go : List Nat} {x : Nat} : ((List.range se.length).filter fun k => !decide (k ∈ go ++ [x])).map (fun k => (k, se.getD k 0)) =
    cutK x (((List.range se.length).filter fun k => !decide (k ∈ go)).map fun k => (k, se.getD k 0)) := by
  unfold cutK
  rw [List.filter_map, List.filter_filter]
  congr 1
  apply List.filter_congr
  intro k hk
  simp only [Function.comp, List.mem_append, List.mem_singleton]
  by_cases h1 : k ∈ go <;> by_cases h2 : k = x <;> simp [h1, h2]
theorem inv_start (n : Net) : Inv n [] (startW n) := by
  refine ⟨fun p hp => ?_, fun c hc => ?_, fun c hc => by rw [start_row]; rfl, fun c k hk => by cases hk⟩
  · show (n.ps.map fun _ => 0).getD p 0 = 0
    rw [List.getD_eq_getElem?_getD, List.getElem?_map]
    cases n.ps[p]? <;> rfl
  · show (n.cs.map fun _ => 0).getD c 0 = 0
    rw [List.getD_eq_getElem?_getD, List.getElem?_map]
    cases n.cs[c]? <;> rfl
theorem at_of_set {st sn : List Nat} {pr : List (List (Nat × Nat))} {p q x : Nat} (hq : p < st.length) : Wo.at_ ⟨st.set p x, sn, pr⟩ q = if p = q then x else st.getD q 0 := by
  unfold Wo.at_
  simp only [List.getD_eq_getElem?_getD, List.getElem?_set]
  by_cases h : p = q
  · subst h; simp [hq]
  · simp [h]
theorem firsts_row {n : Net} {w : Wo} {c : Nat} {q : Nat × Nat} (h : q ∈ firsts n w c) : q ∈ w.row c := by
  unfold firsts at h
  split at h
  · exact List.mem_of_mem_take h
  · exact h
theorem poss_take {n : Net} {w : Wo} {i k : Nat} (h : De.take i k ∈ possM n w) : ∃ r c x, n.rs[i]? = some r ∧ r.a = .take c x ∧ w.at_ r.p = r.s ∧ (k, x) ∈ firsts n w c := by
  rcases mem_poss.mp h with ⟨j, hj, hd⟩ | ⟨c, hc, hd⟩
  · unfold ruD at hd
    cases hr : n.rs[j]? with
    | none => rw [hr] at hd; cases hd
    | some r =>
      rw [hr] at hd
      simp only at hd
      split at hd
      · rename_i hp
        cases ha : r.a with
        | idle => rw [ha] at hd; simp at hd
        | send c x => rw [ha] at hd; simp at hd
        | take c x =>
          rw [ha] at hd
          simp only [List.mem_map, List.mem_filter, decide_eq_true_eq] at hd
          obtain ⟨q, ⟨q1, q2⟩, e⟩ := hd
          cases e
          exact ⟨r, c, x, hr, ha, hp, by rw [← q2]; exact q1⟩
      · cases hd
  · unfold loD at hd
    split at hd
    · simp at hd
    · cases hd
theorem poss_lose {n : Net} {w : Wo} {c k : Nat} (h : De.lose c k ∈ possM n w) : ∃ x, (k, x) ∈ w.row c := by
  rcases mem_poss.mp h with ⟨j, hj, hd⟩ | ⟨c', hc, hd⟩
  · unfold ruD at hd
    cases hr : n.rs[j]? with
    | none => rw [hr] at hd; cases hd
    | some r =>
      rw [hr] at hd
      simp only at hd
      split at hd
      · cases ha : r.a <;> rw [ha] at hd <;> simp at hd
      · cases hd
  · unfold loD at hd
    split at hd
    · simp only [List.mem_map] at hd
      obtain ⟨q, q1, e⟩ := hd
      cases e
      exact ⟨q.2, firsts_row q1⟩
    · cases hd
theorem poss_act {n : Net} {w : Wo} {i : Nat} (h : De.act i ∈ possM n w) : ∃ r, n.rs[i]? = some r ∧ w.at_ r.p = r.s ∧ (∀ c x, r.a ≠ .take c x) := by
  rcases mem_poss.mp h with ⟨j, hj, hd⟩ | ⟨c, hc, hd⟩
  · unfold ruD at hd
    cases hr : n.rs[j]? with
    | none => rw [hr] at hd; cases hd
    | some r =>
      rw [hr] at hd
      simp only at hd
      split at hd
      · rename_i hp
        cases ha : r.a with
        | idle => rw [ha] at hd; simp only [List.mem_singleton] at hd; cases hd; exact ⟨r, hr, hp, by rw [ha]; intro c x z; cases z⟩
        | send c x => rw [ha] at hd; simp only [List.mem_singleton] at hd; cases hd; exact ⟨r, hr, hp, by rw [ha]; intro c x z; cases z⟩
        | take c x => rw [ha] at hd; simp at hd
      · cases hd
  · unfold loD at hd
    split at hd
    · simp at hd
    · cases hd
/-- something goes from channel c, number k -/
theorem inv_gone {n : Net} {pre : List De} {w : Wo} {m c k : Nat} {d : De} {st : List Nat} (hw : WI n w m) (h : Inv n pre w) (hc : c < n.cs.length) (hk : ∃ x, (k, x) ∈ w.row c) (hse : ∀ c', seD n c' d = none) (hgo : ∀ c', goD n c' d = if c = c' then some k else none)
    (hst : ∀ p, p < n.ps.length → Wo.at_ ⟨st, w.sn, w.pr.set c (cutK k (w.row c))⟩ p = stR n (pre ++ [d]) p) : Inv n (pre ++ [d]) ⟨st, w.sn, w.pr.set c (cutK k (w.row c))⟩ := by
  have hs : ∀ c', seR n (pre ++ [d]) c' = seR n pre c' := fun c' => by rw [seR_snoc, hse]; simp
  refine ⟨hst, fun c' hc' => by rw [hs]; exact h.sn c' hc', fun c' hc' => ?_, fun c' k' hk' => ?_⟩
  · rw [row_of_set]
    unfold rowR
    rw [hs, goR_snoc, hgo]
    by_cases e : c = c'
    · subst e
      rw [if_pos ⟨rfl, by rw [hw.pr]; exact hc⟩, if_pos rfl, h.row c hc]
      exact row_gone.symm
    · rw [if_neg (fun z => e z.1), if_neg e]
      simp only [Option.toList_none, List.append_nil]
      exact h.row c' hc'
  · rw [hs]
    rw [goR_snoc, hgo] at hk'
    by_cases e : c = c'
    · subst e
      rw [if_pos rfl] at hk'
      rcases List.mem_append.mp hk' with hk' | hk'
      · exact h.lt c k' hk'
      · simp only [Option.toList_some, List.mem_singleton] at hk'
        obtain ⟨x, hx⟩ := hk
        rw [h.row c hc] at hx
        rw [hk']; exact (rowR_mem.mp hx).1
    · rw [if_neg e] at hk'
      simp only [Option.toList_none, List.append_nil] at hk'
      exact h.lt c' k' hk'
theorem inv_step {n : Net} (hn : NetV n) {pre : List De} {w : Wo} {m : Nat} {d : De} (hw : WI n w m) (h : Inv n pre w) (hd : d ∈ possM n w) : Inv n (pre ++ [d]) (doneM n w d) := by
  have hk := hn.ok
  have hst : ∀ (r : Ru) (i : Nat) (d : De) (sn : List Nat) (pr : List (List (Nat × Nat))), n.rs[i]? = some r → own n d = r.p → (∀ s, stD n s d = r.th) → ∀ p, p < n.ps.length → Wo.at_ ⟨w.st.set r.p r.th, sn, pr⟩ p = stR n (pre ++ [d]) p := by
    intro r i d sn pr hr ho hs p hp
    rw [at_of_set (by rw [hw.st]; exact (hk.rs r (mem_of_at hr)).p), stR_snoc, ho]
    by_cases e : r.p = p
    · rw [if_pos e, if_pos e, hs]
    · rw [if_neg e, if_neg e]; exact h.st p hp
  cases poss_ok_de hd with
  | @idle i r hr ha =>
    have e : doneM n w (.act i) = ⟨w.st.set r.p r.th, w.sn, w.pr⟩ := by simp only [doneM, hr, ha]
    have hs : ∀ c, seR n (pre ++ [.act i]) c = seR n pre c := fun c => by rw [seR_snoc]; simp only [seD, ru_get hr, ha]; simp
    have hg : ∀ c, goR n (pre ++ [.act i]) c = goR n pre c := fun c => by rw [goR_snoc]; simp only [goD]; simp
    rw [e]
    refine ⟨hst r i _ _ _ hr (by show (n.ru i).p = _; rw [ru_get hr]) (fun s => by show (n.ru i).th = _; rw [ru_get hr]), fun c hc => by rw [hs]; exact h.sn c hc, fun c hc => ?_, fun c k hk => by rw [hs]; rw [hg] at hk; exact h.lt c k hk⟩
    unfold rowR; rw [hs, hg]; exact h.row c hc
  | @send i r c x hr ha =>
    have e : doneM n w (.act i) = ⟨w.st.set r.p r.th, w.sn.set c (w.sent c + 1), w.pr.set c (w.row c ++ [(w.sent c, x)])⟩ := by simp only [doneM, hr, ha]
    have hact := (hk.rs r (mem_of_at hr)).a
    rw [ha] at hact
    obtain ⟨kc, hkc, _⟩ := hact.ch
    have hlt := ch_lt hkc
    have hs : ∀ c', seR n (pre ++ [.act i]) c' = seR n pre c' ++ (if c = c' then some x else none).toList := fun c' => by rw [seR_snoc]; simp only [seD, ru_get hr, ha]
    have hg : ∀ c, goR n (pre ++ [.act i]) c = goR n pre c := fun c => by rw [goR_snoc]; simp only [goD]; simp
    rw [e]
    refine ⟨hst r i _ _ _ hr (by show (n.ru i).p = _; rw [ru_get hr]) (fun s => by show (n.ru i).th = _; rw [ru_get hr]), fun c' hc => ?_, fun c' hc => ?_, fun c' k hk => ?_⟩
    · rw [sent_of_set, hs]
      by_cases e : c = c'
      · subst e
        rw [if_pos ⟨rfl, by rw [hw.sn]; exact hlt⟩, if_pos rfl, h.sn c hc]; simp
      · rw [if_neg (fun z => e z.1), if_neg e]
        simp only [Option.toList_none, List.append_nil]
        exact h.sn c' hc
    · rw [row_of_set]
      unfold rowR
      rw [hs, hg]
      by_cases e : c = c'
      · subst e
        rw [if_pos ⟨rfl, by rw [hw.pr]; exact hlt⟩, if_pos rfl, h.row c hc, h.sn c hc]
        exact (row_send (h.lt c)).symm
      · rw [if_neg (fun z => e z.1), if_neg e]
        simp only [Option.toList_none, List.append_nil]
        exact h.row c' hc
    · rw [hg] at hk
      have := h.lt c' k hk
      rw [hs, List.length_append]; omega
  | @take i k r c x hr ha =>
    have e : doneM n w (.take i k) = ⟨w.st.set r.p r.th, w.sn, w.pr.set c (cutK k (w.row c))⟩ := by simp only [doneM, hr, ha]
    have hact := (hk.rs r (mem_of_at hr)).a
    rw [ha] at hact
    obtain ⟨kc, hkc, _⟩ := hact.ch
    obtain ⟨r', c', x', hr', ha', _, hf⟩ := poss_take hd
    rw [hr] at hr'; cases hr'
    rw [ha] at ha'; cases ha'
    rw [e]
    exact inv_gone hw h (ch_lt hkc) ⟨_, firsts_row hf⟩ (fun c' => rfl) (fun c' => by simp only [goD, ru_get hr, ha]) (hst r i _ _ _ hr (by show (n.ru i).p = _; rw [ru_get hr]) (fun s => by show (n.ru i).th = _; rw [ru_get hr]))
  | @lose c k hc =>
    refine inv_gone hw h hc (poss_lose hd) (fun c' => rfl) (fun c' => rfl) (fun p hp => ?_)
    rw [stR_snoc]
    have := h.st p hp
    split
    · exact this
    · exact this
theorem run_inv {n : Net} (hn : NetV n) {ds : List De} {ws : List Wo} (h : RunOk n ds ws) : ∀ t w, t ≤ ds.length → ws[t]? = some w → Inv n (ds.take t) w
  | 0, w, _, hw => by
    rw [h.h0] at hw
    cases hw
    exact inv_start n
  | t + 1, w, ht, hw => by
    have hl := h.len
    have h1 : ds[t]? = some ds[t] := List.getElem?_eq_getElem (by omega)
    have h2 : ws[t]? = some (ws[t]'(by omega)) := List.getElem?_eq_getElem (by omega)
    obtain ⟨a, b⟩ := h.step t _ _ h1 h2
    rw [b] at hw
    cases hw
    have ih := run_inv hn h t _ (by omega) h2
    have e : ds.take (t + 1) = ds.take t ++ [ds[t]] := by rw [List.take_succ, h1]; rfl
    rw [e]
    exact inv_step hn (h.wi _ (List.mem_of_getElem? h2)) ih a
end K40

end

section
set_option Elab.async false
set_option linter.all false
set_option maxRecDepth 100000
/-! K40P22: what is behind a cut whose world is still, is lost (no program here) -/
namespace K40
open PySem PySem.Spec L2 DV
def RunL (n : Net) (es : List De) : Prop := ∀ pre d post, es = pre ++ d :: post → ∃ w, d ∈ possM n w ∧ Inv n pre w
theorem runL {n : Net} (hn : NetV n) {ds : List De} {ws : List Wo} (h : RunOk n ds ws) (m : Nat) : RunL n (ds.take m) := by
  intro pre d post e
  have hl := h.len
  have hlt : pre.length < (ds.take m).length := by rw [e]; simp
  rw [List.length_take] at hlt
  have h1 : ds[pre.length]? = some d := by
    have : (ds.take m)[pre.length]? = some d := by rw [e]; simp
    rw [List.getElem?_take] at this
    split at this
    · exact this
    · cases this
  have h2 : ws[pre.length]? = some (ws[pre.length]'(by omega)) := List.getElem?_eq_getElem (by omega)
  have h3 := run_inv hn h pre.length _ (by omega) h2
  have h4 : ds.take pre.length = pre := by
    have : (ds.take m).take pre.length = pre := by rw [e]; simp
    rw [List.take_take, Nat.min_eq_left (by omega)] at this
    exact this
  rw [h4] at h3
  exact ⟨_, (h.step _ _ _ h1 h2).1, h3⟩
theorem filter_split {α : Type} {f : α → Bool} : ∀ (l : List α) (j : Nat) (x : α), (l.filter f)[j]? = some x → ∃ a b, l = a ++ x :: b ∧ (a.filter f).length = j ∧ f x = true
  | [], j, x, h => by simp at h
  | y :: l, j, x, h => by
    by_cases hy : f y = true
    · rw [List.filter_cons_of_pos hy] at h
      cases j with
      | zero =>
        simp at h
        subst h
        exact ⟨[], l, rfl, rfl, hy⟩
      | succ j =>
        rw [List.getElem?_cons_succ] at h
        obtain ⟨a, b, e, hl, hx⟩ := filter_split l j x h
        exact ⟨y :: a, b, by rw [e]; rfl, by rw [List.filter_cons_of_pos hy, List.length_cons, hl], hx⟩
    · rw [List.filter_cons_of_neg hy] at h
      obtain ⟨a, b, e, hl, hx⟩ := filter_split l j x h
      exact ⟨y :: a, b, by rw [e]; rfl, by rw [List.filter_cons_of_neg hy, hl], hx⟩
abbrev ofP (n : Net) (q : Nat) (l : List De) : List De := l.filter fun d => decide (own n d = q)
def Good (n : Net) (v : List Nat) (pre : List De) : Prop := ∀ a x b, pre = a ++ x :: b → x.isLose = false → (ofP n (own n x) a).length < v.getD (own n x) 0
theorem lose_tail {n : Net} {v : List Nat} {pre : List De} {q : Nat} (h : Good n v pre) : ∀ y ∈ (ofP n q pre).drop (v.getD q 0), y.isLose = true := by
  intro y hy
  cases hL : y.isLose with
  | true => rfl
  | false =>
    exfalso
    obtain ⟨j, hj⟩ := List.getElem?_of_mem hy
    rw [List.getElem?_drop] at hj
    obtain ⟨a, b, e, hl, hx⟩ := filter_split _ _ _ hj
    have hq : own n y = q := by simpa using hx
    have := h a y b e hL
    rw [hq] at this
    have hl : (ofP n q a).length = v.getD q 0 + j := hl
    omega
theorem fold_lose {n : Net} : ∀ (l : List De) (s : Nat), (∀ y ∈ l, y.isLose = true) → l.foldl (stD n) s = s
  | [], _, _ => rfl
  | y :: l, s, h => by
    have hy := h y (List.mem_cons_self ..)
    rw [List.foldl_cons]
    cases y with
    | act i => cases hy
    | take i k => cases hy
    | lose c k => exact fold_lose l s fun z hz => h z (List.mem_cons_of_mem _ hz)
theorem told_get {n : Net} {es : List De} {v : List Nat} {q : Nat} (hq : q < n.ps.length) : cutE (toldM n es) v q = (ofP n q es).take (v.getD q 0) := by
  unfold cutE toldM
  congr 1
  rw [List.getD_eq_getElem?_getD, List.getElem?_map, List.getElem?_range hq]; rfl
theorem st_of {n : Net} {told : List (List De)} {cut : List Nat} {p : Nat} : ∀ m, stA n (evsP told cut m) p = if p < m then (cutE told cut p).foldl (stD n) 0 else 0
  | 0 => by simp [evsP, stA]
  | m + 1 => by
    rw [evs_succ]
    have ih := st_of (n := n) (told := told) (cut := cut) (p := p) m
    unfold stA at ih ⊢
    rw [List.foldl_append, ih]
    have key : ∀ (l : List De) (s : Nat), (l.map fun d => (m, d)).foldl (fun s e => if e.1 = p then stD n s e.2 else s) s = if m = p then l.foldl (stD n) s else s := by
      intro l
      induction l with
      | nil => intro s; simp
      | cons d l ih => intro s; rw [List.map_cons, List.foldl_cons, ih]; split <;> rfl
    rw [key]
    by_cases e : m = p
    · subst e; simp
    · rw [if_neg e]
      by_cases h : p < m
      · rw [if_pos h, if_pos (by omega)]
      · rw [if_neg h, if_neg (by omega)]
theorem map_of {told : List (List De)} {cut : List Nat} {o : Nat} {F : De → Option Nat} (hF : ∀ q d, d ∈ cutE told cut q → q ≠ o → F d = none) : ∀ m, (evsP told cut m).filterMap (fun e => F e.2) = if o < m then (cutE told cut o).filterMap F else []
  | 0 => by simp [evsP]
  | m + 1 => by
    rw [evs_succ, List.filterMap_append, map_of hF m, List.filterMap_map]
    have e0 : ((fun e : Ev => F e.2) ∘ fun d => (m, d)) = F := rfl
    rw [e0]
    by_cases e : m = o
    · subst e; simp
    · have : (cutE told cut m).filterMap F = [] := by
        rw [List.filterMap_eq_nil_iff]
        intro d hd
        exact hF m d hd e
      rw [this, List.append_nil]
      by_cases h : o < m
      · rw [if_pos h, if_pos (by omega)]
      · rw [if_neg h, if_neg (by omega)]
theorem own_se {n : Net} (hn : NetV n) {d : De} {c x : Nat} (hd : DeOk n d) (h : seD n c d = some x) : own n d = (n.ch c).g := by
  cases hd with
  | @idle i r hr ha => simp only [seD, ru_get hr, ha] at h; cases h
  | @send i r c' x' hr ha =>
    simp only [seD, ru_get hr, ha] at h
    split at h
    · rename_i e
      subst e
      have := (hn.rok r (mem_of_at hr)).a
      rw [ha] at this
      obtain ⟨k, hk, hg, _⟩ := this
      show (n.ru i).p = _
      rw [ru_get hr, ch_get hk, hg]
    · cases h
  | @take i k r c' x' hr ha => simp only [seD] at h; cases h
  | @lose c' k hc => simp only [seD] at h; cases h
theorem own_go {n : Net} (hn : NetV n) {d : De} {c x : Nat} (hd : DeOk n d) (h : goD n c d = some x) : own n d = (n.ch c).t := by
  cases hd with
  | @idle i r hr ha => simp only [goD] at h; cases h
  | @send i r c' x' hr ha => simp only [goD] at h; cases h
  | @take i k r c' x' hr ha =>
    simp only [goD, ru_get hr, ha] at h
    split at h
    · rename_i e
      subst e
      have := (hn.rok r (mem_of_at hr)).a
      rw [ha] at this
      obtain ⟨kk, hk, hg, _⟩ := this
      show (n.ru i).p = _
      rw [ru_get hr, ch_get hk, hg]
    · cases h
  | @lose c' k hc =>
    simp only [goD] at h
    split at h
    · rename_i e; subst e; rfl
    · cases h
theorem se_lose {n : Net} {d : De} {c : Nat} (h : d.isLose = true) : seD n c d = none := by cases d <;> first | rfl | cases h
theorem fm_of {n : Net} {F : De → Option Nat} {o : Nat} : ∀ (l : List De), (∀ d ∈ l, ∀ x, F d = some x → own n d = o) → l.filterMap F = (ofP n o l).filterMap F
  | [], _ => rfl
  | d :: l, h => by
    have ih := fm_of l fun d hd => h d (List.mem_cons_of_mem _ hd)
    by_cases e : own n d = o
    · have e2 : ofP n o (d :: l) = d :: ofP n o l := List.filter_cons_of_pos (by simpa using e)
      rw [e2, List.filterMap_cons, List.filterMap_cons, ih]
    · have e2 : ofP n o (d :: l) = ofP n o l := List.filter_cons_of_neg (by simpa using e)
      have hF : F d = none := by
        cases hx : F d with
        | none => rfl
        | some x => exact absurd (h d (List.mem_cons_self ..) x hx) e
      rw [e2, List.filterMap_cons, hF, ih]
theorem runL_ok {n : Net} {es : List De} (h : RunL n es) : ∀ d ∈ es, DeOk n d := by
  intro d hd
  obtain ⟨a, b, e⟩ := List.append_of_mem hd
  obtain ⟨w, hw, _⟩ := h a d b e
  exact poss_ok_de hw
theorem key {n : Net} (hn : NetV n) {es pre post : List De} {d : De} {v : List Nat} {w : Wo} (hes : RunL n es) (hG : Good n v pre) (e : es = pre ++ d :: post) (hd : d.isLose = false) (hle : v.getD (own n d) 0 ≤ (ofP n (own n d) pre).length)
    (hW : worldE n (evsP (toldM n es) v n.ps.length) = some w) : stillB n w = false := by
  have hdk := runL_ok hes
  obtain ⟨wt, hposs, hinv⟩ := hes pre d post e
  have hpk : ∀ y ∈ pre, DeOk n y := fun y hy => hdk y (by rw [e]; exact List.mem_append_left _ hy)
  have hop := own_lt hn (hdk d (by rw [e]; simp))
  -- the cut's rows
  have hrow : ∀ q, ofP n q es = ofP n q pre ++ ofP n q (d :: post) := fun q => by rw [e]; exact List.filter_append ..
  have hcutP : cutE (toldM n es) v (own n d) = (ofP n (own n d) pre).take (v.getD (own n d) 0) := by
    rw [told_get hop, hrow, List.take_append_of_le_length hle]
  have hw : w = ⟨(List.range n.ps.length).map (stA n (evsP (toldM n es) v n.ps.length)), (List.range n.cs.length).map fun c => (seA n (evsP (toldM n es) v n.ps.length) c).length, (List.range n.cs.length).map (rowW n (evsP (toldM n es) v n.ps.length))⟩ := by
    unfold worldE at hW
    split at hW
    · cases hW
    · exact (Option.some.inj hW).symm
  -- the state
  have hst : w.at_ (own n d) = wt.at_ (own n d) := by
    rw [hinv.st _ hop]
    rw [hw]
    show ((List.range n.ps.length).map _).getD (own n d) 0 = _
    rw [List.getD_eq_getElem?_getD, List.getElem?_map, List.getElem?_range hop]
    show stA n _ (own n d) = _
    rw [st_of, if_pos hop, hcutP]
    unfold stR
    have h1 : ofP n (own n d) pre = (ofP n (own n d) pre).take (v.getD (own n d) 0) ++ (ofP n (own n d) pre).drop (v.getD (own n d) 0) := (List.take_append_drop _ _).symm
    show _ = (ofP n (own n d) pre).foldl (stD n) 0
    rw [h1, List.foldl_append, fold_lose _ _ (lose_tail hG)]
    simp
  have fin : ∀ r, r ∈ n.rs → enab n w r = true → stillB n w = false := by
    intro r hr he
    unfold stillB
    rw [List.all_eq_false]
    exact ⟨r, hr, by rw [he]; simp⟩
  cases d with
  | lose c k => cases hd
  | act i =>
    obtain ⟨r, hr, hp, hna⟩ := poss_act hposs
    have ho : own n (.act i) = r.p := by show (n.ru i).p = _; rw [ru_get hr]
    rw [ho] at hst
    refine fin r (mem_of_at hr) ?_
    unfold enab
    rw [decide_eq_true (hst.trans hp), Bool.true_and]
    cases ha : r.a with
    | idle => rfl
    | send c x => rfl
    | take c x => exact absurd ha (hna c x)
  | take i k =>
    obtain ⟨r, c, x, hr, ha, hp, hf⟩ := poss_take hposs
    have ho : own n (.take i k) = r.p := by show (n.ru i).p = _; rw [ru_get hr]
    rw [ho] at hst
    refine fin r (mem_of_at hr) ?_
    have hact := (hn.rok r (mem_of_at hr)).a
    rw [ha] at hact
    obtain ⟨kc, hkc, hkt, _⟩ := hact
    have hc := ch_lt hkc
    have hchc := ch_get hkc
    have ht : (n.ch c).t = own n (.take i k) := by rw [hchc, hkt, ho]
    have hgl : (n.ch c).g < n.ps.length := by rw [hchc]; exact (hn.cok kc (List.mem_of_getElem? hkc)).2.1
    have hcok : ∀ q y, y ∈ cutE (toldM n es) v q → DeOk n y ∧ own n y = q := by
      intro q y hy
      by_cases hq : q < n.ps.length
      · rw [told_get hq] at hy
        have := List.mem_filter.mp (List.mem_of_mem_take hy)
        exact ⟨hdk y this.1, by simpa using this.2⟩
      · have h0 : (toldM n es).getD q [] = [] := by
          unfold toldM
          rw [List.getD_eq_getElem?_getD, List.getElem?_eq_none (by simpa using hq)]; rfl
        unfold cutE at hy
        rw [h0] at hy
        simp at hy
    -- what was sent
    have hse : seA n (evsP (toldM n es) v n.ps.length) c = (cutE (toldM n es) v (n.ch c).g).filterMap (seD n c) := by
      unfold seA
      rw [map_of (o := (n.ch c).g) (F := seD n c) (fun q y hy hq => by
        obtain ⟨h1, h2⟩ := hcok q y hy
        cases hx : seD n c y with
        | none => rfl
        | some z => exact absurd (h2.symm.trans (own_se hn h1 hx)) hq), if_pos hgl]
    have hseR : seR n pre c = (ofP n (n.ch c).g pre).filterMap (seD n c) := fm_of pre fun y hy z hz => own_se hn (hpk y hy) hz
    have hpref : seR n pre c <+: seA n (evsP (toldM n es) v n.ps.length) c := by
      rw [hse, hseR, told_get hgl, hrow]
      by_cases hv : v.getD (n.ch c).g 0 ≤ (ofP n (n.ch c).g pre).length
      · rw [List.take_append_of_le_length hv]
        have h1 : ofP n (n.ch c).g pre = (ofP n (n.ch c).g pre).take (v.getD (n.ch c).g 0) ++ (ofP n (n.ch c).g pre).drop (v.getD (n.ch c).g 0) := (List.take_append_drop _ _).symm
        have h2 : ((ofP n (n.ch c).g pre).drop (v.getD (n.ch c).g 0)).filterMap (seD n c) = [] := by
          rw [List.filterMap_eq_nil_iff]
          intro y hy
          exact se_lose (lose_tail hG y hy)
        have h3 : (ofP n (n.ch c).g pre).filterMap (seD n c) = ((ofP n (n.ch c).g pre).take (v.getD (n.ch c).g 0)).filterMap (seD n c) := by
          conv => lhs; rw [h1]
          rw [List.filterMap_append, h2, List.append_nil]
        rw [h3]
        exact List.prefix_refl _
      · rw [List.take_append, List.take_of_length_le (by omega), List.filterMap_append]
        exact List.prefix_append _ _
    -- what is gone
    have hgo : goA n (evsP (toldM n es) v n.ps.length) c = ((ofP n (own n (.take i k)) pre).take (v.getD (own n (.take i k)) 0)).filterMap (goD n c) := by
      unfold goA
      rw [map_of (o := (n.ch c).t) (F := goD n c) (fun q y hy hq => by
        obtain ⟨h1, h2⟩ := hcok q y hy
        cases hx : goD n c y with
        | none => rfl
        | some z => exact absurd (h2.symm.trans (own_go hn h1 hx)) hq), ht, if_pos hop, hcutP]
    have hgosub : ∀ z ∈ goA n (evsP (toldM n es) v n.ps.length) c, z ∈ goR n pre c := by
      intro z hz
      rw [hgo] at hz
      obtain ⟨y, hy, hyz⟩ := List.mem_filterMap.mp hz
      exact List.mem_filterMap.mpr ⟨y, (List.mem_filter.mp (List.mem_of_mem_take hy)).1, hyz⟩
    have hmem := rowR_mem.mp (by rw [← hinv.row c hc]; exact firsts_row hf)
    obtain ⟨m1, m2, m3⟩ := hmem
    have m1 : k < (seR n pre c).length := m1
    have m2 : k ∉ goR n pre c := m2
    have m3 : x = (seR n pre c).getD k 0 := m3
    obtain ⟨tl, htl⟩ := hpref
    have hx : (seA n (evsP (toldM n es) v n.ps.length) c).getD k 0 = x := by
      rw [← htl, List.getD_eq_getElem?_getD, List.getElem?_append_left m1, ← List.getD_eq_getElem?_getD, ← m3]
    have hkl : k < (seA n (evsP (toldM n es) v n.ps.length) c).length := by rw [← htl, List.length_append]; omega
    have hkg : k ∉ goA n (evsP (toldM n es) v n.ps.length) c := fun h => m2 (hgosub k h)
    have hrw : w.row c = rowW n (evsP (toldM n es) v n.ps.length) c := by
      rw [hw]
      show ((List.range n.cs.length).map _).getD c [] = _
      rw [List.getD_eq_getElem?_getD, List.getElem?_map, List.getElem?_range hc]; rfl
    have hkx : (k, x) ∈ w.row c := by
      rw [hrw]
      unfold rowW
      exact List.mem_map.mpr ⟨k, List.mem_filter.mpr ⟨List.mem_range.mpr hkl, by simpa using hkg⟩, by rw [hx]⟩
    unfold enab
    rw [decide_eq_true (hst.trans hp), Bool.true_and, ha]
    refine List.any_eq_true.mpr ⟨(k, x), ?_, by simp⟩
    unfold seen
    split
    · rename_i hord
      -- the first of both
      have hfirst : ∀ j, j < k → j ∈ goR n pre c := by
        intro j hj
        have hf2 : (k, x) ∈ (wt.row c).take 1 := by
          unfold firsts at hf
          rw [hord] at hf
          exact hf
        rw [hinv.row c hc] at hf2
        by_cases hg : j ∈ goR n pre c
        · exact hg
        · exfalso
          unfold rowR at hf2
          rw [← List.map_take] at hf2
          obtain ⟨k', hk', ek⟩ := List.mem_map.mp hf2
          have ek : k' = k := congrArg Prod.fst ek
          subst ek
          have hsp : List.range (seR n pre c).length = List.range (j + 1) ++ (List.range ((seR n pre c).length - (j + 1))).map (j + 1 + ·) := by
            rw [← List.range_add]; congr 1; omega
          rw [hsp, List.filter_append, List.range_succ, List.filter_append, List.filter_cons_of_pos (by simpa using hg)] at hk'
          cases hh : (List.range j).filter (fun k => !decide (k ∈ goR n pre c)) with
          | nil =>
            rw [hh] at hk'
            simp at hk'
            omega
          | cons y ys =>
            rw [hh] at hk'
            simp at hk'
            have hy : y ∈ (List.range j).filter (fun k => !decide (k ∈ goR n pre c)) := by rw [hh]; exact List.mem_cons_self ..
            have := List.mem_range.mp (List.mem_filter.mp hy).1
            omega
      have hall : ∀ j, j < k → j ∈ goA n (evsP (toldM n es) v n.ps.length) c := by
        intro j hj
        obtain ⟨y, hy, hyj⟩ := List.mem_filterMap.mp (hfirst j hj)
        have hyo : own n y = own n (.take i k) := (own_go hn (hpk y hy) hyj).trans ht
        obtain ⟨a, b, eab⟩ := List.append_of_mem hy
        have hyl : y.isLose = false := by
          cases hL : y.isLose with
          | false => rfl
          | true =>
            exfalso
            cases y with
            | act i => cases hL
            | take i k => cases hL
            | lose c' k' =>
              obtain ⟨wy, hwy, _⟩ := hes a (.lose c' k') (b ++ .take i k :: post) (by rw [e, eab]; simp)
              have hkl := lose_kd hwy
              simp only [goD] at hyj
              split at hyj
              · rename_i ec
                rw [ec, hord] at hkl; cases hkl
              · cases hyj
        have hin := hG a y b eab hyl
        rw [hyo] at hin
        rw [hgo]
        refine List.mem_filterMap.mpr ⟨y, ?_, hyj⟩
        have e1 : ofP n (own n (.take i k)) pre = ofP n (own n (.take i k)) a ++ y :: ofP n (own n (.take i k)) b := by
          show List.filter _ pre = _
          rw [eab, List.filter_append, List.filter_cons_of_pos (by simpa using hyo)]
        have e2 : ((ofP n (own n (.take i k)) pre).take (v.getD (own n (.take i k)) 0))[(ofP n (own n (.take i k)) a).length]? = some y := by
          rw [List.getElem?_take, if_pos hin, e1]; simp
        exact List.mem_of_getElem? e2
      rw [hrw]
      unfold rowW
      rw [← List.map_take]
      refine List.mem_map.mpr ⟨k, ?_, by rw [hx]⟩
      have hsp : List.range (seA n (evsP (toldM n es) v n.ps.length) c).length = List.range k ++ (k :: (List.range ((seA n (evsP (toldM n es) v n.ps.length) c).length - (k + 1))).map (k + 1 + ·)) := by
        have h1 : List.range (seA n (evsP (toldM n es) v n.ps.length) c).length = List.range (k + 1) ++ (List.range ((seA n (evsP (toldM n es) v n.ps.length) c).length - (k + 1))).map (k + 1 + ·) := by
          rw [← List.range_add]; congr 1; omega
        rw [h1, List.range_succ, List.append_assoc]; rfl
      have hnil : (List.range k).filter (fun z => !decide (z ∈ goA n (evsP (toldM n es) v n.ps.length) c)) = [] := by
        rw [List.filter_eq_nil_iff]
        intro j hj
        have := hall j (List.mem_range.mp hj)
        simpa using this
      rw [hsp, List.filter_append, hnil, List.nil_append, List.filter_cons_of_pos (by simpa using hkg)]
      simp
    · exact hkx
theorem good_all {n : Net} (hn : NetV n) {es : List De} {v : List Nat} {w : Wo} (hes : RunL n es) (hW : worldE n (evsP (toldM n es) v n.ps.length) = some w) (hS : stillB n w = true) : ∀ (t : Nat) (pre post : List De), pre.length = t → es = pre ++ post → Good n v pre
  | 0, pre, post, hl, _ => by
    rw [List.length_eq_zero_iff.mp hl]
    intro a x b e
    cases a <;> cases e
  | t + 1, pre, post, hl, e => by
    obtain ⟨q, d, rfl⟩ : ∃ q d, pre = q ++ [d] := by
      have hne : pre ≠ [] := by intro h; rw [h] at hl; cases hl
      exact ⟨pre.dropLast, pre.getLast hne, (List.dropLast_concat_getLast hne).symm⟩
    have hql : q.length = t := by rw [List.length_append] at hl; simpa using hl
    have ih := good_all hn hes hW hS t q (d :: post) hql (by rw [e]; simp)
    intro a x b eab hx
    by_cases hb : b = []
    · subst hb
      have h1 := List.append_inj' eab rfl
      obtain ⟨rfl, h2⟩ := h1
      cases h2
      rcases Nat.lt_or_ge (ofP n (own n d) q).length (v.getD (own n d) 0) with z | z
      · exact z
      · have := key (post := post) hn hes ih (by rw [e]; simp) hx z hW
        rw [this] at hS; cases hS
    · obtain ⟨b', y, rfl⟩ : ∃ b' y, b = b' ++ [y] := ⟨b.dropLast, b.getLast hb, (List.dropLast_concat_getLast hb).symm⟩
      have : q ++ [d] = (a ++ x :: b') ++ [y] := by rw [eab]; simp
      obtain ⟨h1, _⟩ := List.append_inj' this rfl
      exact ih a x b' h1 hx
theorem behind_lost {n : Net} (hn : NetV n) {es : List De} {v : List Nat} {w : Wo} (hes : RunL n es) (hW : worldE n (evsP (toldM n es) v n.ps.length) = some w) (hS : stillB n w = true) (q : Nat) : ∀ y ∈ (ofP n q es).drop (v.getD q 0), y.isLose = true :=
  lose_tail (good_all hn hes hW hS es.length es [] rfl (by simp))
end K40

end

section
set_option Elab.async false
set_option linter.all false
set_option maxRecDepth 100000
/-! K40P23: the law, over plain data -/
namespace K40
open PySem PySem.Spec L2 DV
theorem cut_map {α β : Type} {f : α → β} {l : List α} {a b : Option Int} : cut (l.map f) a b = (cut l a b).map f := by
  unfold cut
  rw [List.length_map, List.map_take, List.map_drop]
theorem cut_mem {α : Type} {l : List α} {a b : Option Int} {x : α} (h : x ∈ cut l a b) : x ∈ l := List.mem_of_mem_drop (List.mem_of_mem_take h)
theorem cut_len {α : Type} {l : List α} {a b : Option Int} : (cut l a b).length ≤ l.length := by
  unfold cut
  rw [List.length_take, List.length_drop]; omega
theorem cut_drop {α : Type} (l : List α) (i : Nat) : cut l (some (i : Int)) none = l.drop i := by
  unfold cut
  rw [HT.sIx_none, HT.sIx_nat]
  by_cases h : i ≤ l.length
  · rw [Nat.min_eq_left h, List.take_of_length_le (by rw [List.length_drop]; exact Nat.le_refl _)]
  · rw [Nat.min_eq_right (by omega), List.drop_of_length_le (by omega), List.drop_of_length_le (by omega)]; simp
theorem cut9 {α : Type} (l : List α) : cut l none (some 9) = l.take 9 := cutn l 9
theorem worldE_ok {n : Net} {evl : List Ev} {w : Wo} (h : worldE n evl = some w) (hl : evl.length ≤ 1000) : WoOk n w := by
  unfold worldE at h
  split at h
  · cases h
  · have h := (Option.some.inj h).symm
    subst h
    have hz : ∀ c, (rowW n evl c).length ≤ 1000 := by
      intro c
      unfold rowW
      rw [List.length_map]
      have := List.length_filter_le (fun k => !decide (k ∈ goA n evl c)) (List.range (seA n evl c).length)
      rw [List.length_range] at this
      have := se_sz n evl c
      omega
    refine ⟨by simp, by simp, by simp, ?_, ?_⟩
    · intro r hr
      obtain ⟨c, _, rfl⟩ := List.mem_map.mp hr
      exact hz c
    · intro c
      show ((((List.range n.cs.length).map (rowW n evl)).getD c []).map (·.1)).Nodup
      rw [List.getD_eq_getElem?_getD, List.getElem?_map]
      by_cases hc : c < n.cs.length
      · rw [List.getElem?_range hc]
        show ((rowW n evl c).map (·.1)).Nodup
        unfold rowW
        rw [List.map_map]
        have : ((fun x : Nat × Nat => x.1) ∘ fun k => (k, (seA n evl c).getD k 0)) = id := rfl
        rw [this, List.map_id]
        exact List.Nodup.sublist List.filter_sublist List.nodup_range
      · rw [List.getElem?_eq_none (by simpa using hc)]; exact List.nodup_nil
theorem sub_net {n : Net} (hn : NetV n) {rs : List Ru} (hs : ∀ r ∈ rs, r ∈ n.rs) (hl : rs.length ≤ n.rs.length) : NetV ⟨n.ps, n.cs, rs⟩ :=
  ⟨hn.np1, hn.np, hn.pok, hn.pnd, hn.nc, hn.cok, hn.cnd, Nat.le_trans hl hn.nr, fun r hr => hn.rok r (hs r hr)⟩
/-- a comprehension that keeps some -/
theorem wpA_sub {α : Type} {enc : α → D} {g : GM} {t : TM} {m : EM} {e : DV.Env} (M0 : Sto) : ∀ (xs : List α) (M : Sto) (QA : List D → Sto → Prop), Pm M0 M →
    (∀ x ∈ xs, ∀ M, Pm M0 M → ∃ e1, g (enc x) e = some e1 ∧ wpT t e1 M fun b M1 => Pm M0 M1 ∧ (b = true → wpE m e1 M1 fun y M2 => y = enc x ∧ M2 = M1)) →
    (∀ (ys : List α) M', Pm M0 M' → (∀ y ∈ ys, y ∈ xs) → ys.length ≤ xs.length → QA (ys.map enc) M') → wpA (compL g t m (xs.map enc)) e M QA
  | [], M, QA, h0, _, q => wpO_some.mpr (q [] M h0 (fun _ h => h) (Nat.le_refl _))
  | x :: xs, M, QA, h0, h, q => by
    obtain ⟨e1, h1, ⟨b, M1⟩, h2, h3, h4⟩ := h x (List.mem_cons_self ..) M h0
    have hh := fun x hx => h x (List.mem_cons_of_mem _ hx)
    rw [List.map_cons]
    unfold wpA compL
    rw [h1]
    simp only [h2]
    cases b with
    | false =>
      exact wpA_sub M0 xs M1 QA h3 hh fun ys M' a b c => q ys M' a (fun y hy => List.mem_cons_of_mem _ (b y hy)) (Nat.le_succ_of_le c)
    | true =>
      obtain ⟨⟨y, M2⟩, h5, h6, h7⟩ := h4 rfl
      have h6 : y = enc x := h6
      have h7 : M2 = M1 := h7
      subst h6
      subst h7
      simp only [h5]
      have := wpA_sub M0 xs M2 (fun ys M' => QA (enc x :: ys) M') h3 hh fun ys M' a b c => q (x :: ys) M' a (fun y hy => by
        rcases List.mem_cons.mp hy with rfl | hy
        · exact List.mem_cons_self ..
        · exact List.mem_cons_of_mem _ (b y hy)) (Nat.succ_le_succ c)
      obtain ⟨⟨zs, M3⟩, h8, h9⟩ := this
      rw [h8]
      exact wpO_some.mpr h9
theorem many_pick (k : Nat) (hk : k < 3) : ∃ m : Nat, m ≤ 25 ∧ ([D.int 5, D.int 12, D.int 25] : List D)[k]? = some (.int (m : Nat)) := by
  match k, hk with
  | 0, _ => exact ⟨5, by omega, rfl⟩
  | 1, _ => exact ⟨12, by omega, rfl⟩
  | 2, _ => exact ⟨25, by omega, rfl⟩
theorem plain (ns : List Int) (hns : ns.length ≤ 63) : ∃ M', F_law [.kl (ns.map D.int)] [] = some (.bl true, M') := by
  suffices h : wpF F_law [.kl (ns.map D.int)] [] fun v _ => v = .bl true by
    obtain ⟨⟨v, M'⟩, h1, h2⟩ := h
    exact ⟨M', by rw [h1]; cases h2; rfl⟩
  have hS : sizeLine = 16777216 := rfl
  unfold F_law B_law
  rw [wpF_fn]
  have hret : ∀ M' : Sto, outF true ([] : Sto) (fun v _ => v = .bl true) (.rt (.bl true)) M' := by
    intro M'
    show wpO (retF [] (.bl true) M') _
    have := retF_same (M := []) (l := M') (d := .bl true) rfl
    rw [List.nil_append] at this
    rw [this]; exact wpO_some.mpr rfl
  generalize outF true ([] : Sto) (fun v _ => v = D.bl true) = K at hret
  have hpool : F_law_pool [.kl (ns.map D.int)] [] = some (.ref 0, [Pool.ob ⟨ns, 0, 0, 0, 0⟩]) := rfl
  show wpS _ [some (.kl (ns.map D.int)), none, none, none, none, none, none, none, none, none, none, none, none, none] _ _
  generalize hs : some (D.kl (ns.map D.int)) = s0
  rw [wpS_seq]
  refine wpS.imp (Q := fun fl M' => M' = [Pool.ob ⟨ns, 0, 0, 0, 0⟩] ∧ fl = .nx [s0, some (.ref 0), none, none, none, none, none, none, none, none, none, none, none, none]) (by
    rw [← hs]
    simp only [ev, List.getElem?_cons_zero, List.getElem?_cons_succ, List.set_cons_zero, List.set_cons_succ, List.map_cons, List.map_nil, List.length_cons, List.length_nil, List.replicate_succ, List.replicate_zero, List.cons_append, List.nil_append, Nat.reduceAdd, Nat.reduceSub, Nat.zero_add, Nat.sub_zero, Option.bind_some, true_and, and_true, outF, if_true, if_false, Bool.false_eq_true, Bool.not_true, Bool.not_false, List.append_assoc, List.length_append, Option.isSome_some, wipeE, isNon, decide_true, decide_false]
    rw [wpF_eq hpool]
    exact ⟨rfl, rfl⟩) ?_
  rintro fl M0 ⟨e0, rfl⟩
  have h0 : Pm M0 M0 := by rw [e0]; exact ⟨_, _, [], rfl, rfl⟩
  clear hs e0 hpool
  show wpS _ _ _ _
  rw [wpS_seq]
  refine wpS.imp (Q := fun fl M' => Pm M0 M' ∧ ∃ n, NetV n ∧ fl = .nx [s0, some (.ref 0), some (encN n), none, none, none, none, none, none, none, none, none, none, none]) (by
    simp only [ev, List.getElem?_cons_zero, List.getElem?_cons_succ, List.set_cons_zero, List.set_cons_succ, List.map_cons, List.map_nil, List.length_cons, List.length_nil, List.replicate_succ, List.replicate_zero, List.cons_append, List.nil_append, Nat.reduceAdd, Nat.reduceSub, Nat.zero_add, Nat.sub_zero, Option.bind_some, true_and, and_true, outF, if_true, if_false, Bool.false_eq_true, Bool.not_true, Bool.not_false, List.append_assoc, List.length_append, Option.isSome_some, wipeE, isNon, decide_true, decide_false]
    refine (net_ok M0 h0).imp ?_
    rintro v M1 ⟨h1, n0, rfl, hn0⟩
    exact ⟨h1, n0, hn0, rfl⟩) ?_
  rintro fl M1 ⟨h1, n0, hn0, rfl⟩
  show wpS _ _ _ _
  rw [wpS_seq]
  refine wpS.imp (Q := fun fl M' => Pm M0 M' ∧ ∃ n, NetV n ∧ fl = .nx [s0, some (.ref 0), some (encN n), none, none, none, none, none, none, none, none, none, none, none]) (by
    simp only [ev, List.getElem?_cons_zero, List.getElem?_cons_succ, List.set_cons_zero, List.set_cons_succ, List.map_cons, List.map_nil, List.length_cons, List.length_nil, List.replicate_succ, List.replicate_zero, List.cons_append, List.nil_append, Nat.reduceAdd, Nat.reduceSub, Nat.zero_add, Nat.sub_zero, Option.bind_some, true_and, and_true, outF, if_true, if_false, Bool.false_eq_true, Bool.not_true, Bool.not_false, List.append_assoc, List.length_append, Option.isSome_some, wipeE, isNon, decide_true, decide_false]
    refine draw_rule0 (n := 4) h1.refl_of (by omega) (by omega) fun k M2 hk h2 => ?_
    have h12 := h1.trans h2
    simp only [ev, List.getElem?_cons_zero, List.getElem?_cons_succ, List.set_cons_zero, List.set_cons_succ, List.map_cons, List.map_nil, List.length_cons, List.length_nil, List.replicate_succ, List.replicate_zero, List.cons_append, List.nil_append, Nat.reduceAdd, Nat.reduceSub, Nat.zero_add, Nat.sub_zero, Option.bind_some, true_and, and_true, outF, if_true, if_false, Bool.false_eq_true, Bool.not_true, Bool.not_false, List.append_assoc, List.length_append, Option.isSome_some, wipeE, isNon, decide_true, decide_false, decide_eq_true_eq]
    split
    · refine (hidden_ok M2 h2.refl_of).imp ?_
      rintro v M3 ⟨h3, n, rfl, hn⟩
      exact ⟨h12.trans h3, n, hn, rfl⟩
    · refine draw_rule0 (n := 3) h2.refl_of (by omega) (by omega) fun k3 M3 hk3 h3 => ?_
      have h13 := h12.trans h3
      simp only [ev, List.getElem?_cons_zero, List.getElem?_cons_succ, List.set_cons_zero, List.set_cons_succ, List.map_cons, List.map_nil, List.length_cons, List.length_nil, List.replicate_succ, List.replicate_zero, List.cons_append, List.nil_append, Nat.reduceAdd, Nat.reduceSub, Nat.zero_add, Nat.sub_zero, Option.bind_some, true_and, and_true, outF, if_true, if_false, Bool.false_eq_true, Bool.not_true, Bool.not_false, List.append_assoc, List.length_append, Option.isSome_some, wipeE, isNon, decide_true, decide_false, decide_eq_true_eq]
      split
      · simp only [ev, List.getElem?_cons_zero, List.getElem?_cons_succ, List.set_cons_zero, List.set_cons_succ, List.map_cons, List.map_nil, List.length_cons, List.length_nil, List.replicate_succ, List.replicate_zero, List.cons_append, List.nil_append, Nat.reduceAdd, Nat.reduceSub, Nat.zero_add, Nat.sub_zero, Option.bind_some, true_and, and_true, outF, if_true, if_false, Bool.false_eq_true, Bool.not_true, Bool.not_false, List.append_assoc, List.length_append, Option.isSome_some, wipeE, isNon, decide_true, decide_false, encN]
        refine wpA_sub (enc := encR) M0 n0.rs M3 _ h13 (fun r hr M4 h4 => ⟨_, rfl, ?_⟩) ?_
        · simp only [ev, List.getElem?_cons_zero, List.getElem?_cons_succ, List.set_cons_zero, List.set_cons_succ, List.map_cons, List.map_nil, List.length_cons, List.length_nil, List.replicate_succ, List.replicate_zero, List.cons_append, List.nil_append, Nat.reduceAdd, Nat.reduceSub, Nat.zero_add, Nat.sub_zero, Option.bind_some, true_and, and_true, outF, if_true, if_false, Bool.false_eq_true, Bool.not_true, Bool.not_false, List.append_assoc, List.length_append, Option.isSome_some, wipeE, isNon, decide_true, decide_false]
          refine draw_rule0 (n := 3) h4.refl_of (by omega) (by omega) fun k5 M5 hk5 h5 => ?_
          simp only [ev, List.getElem?_cons_zero, List.getElem?_cons_succ, List.set_cons_zero, List.set_cons_succ, List.map_cons, List.map_nil, List.length_cons, List.length_nil, List.replicate_succ, List.replicate_zero, List.cons_append, List.nil_append, Nat.reduceAdd, Nat.reduceSub, Nat.zero_add, Nat.sub_zero, Option.bind_some, true_and, and_true, outF, if_true, if_false, Bool.false_eq_true, Bool.not_true, Bool.not_false, List.append_assoc, List.length_append, Option.isSome_some, wipeE, isNon, decide_true, decide_false]
          exact ⟨h4.trans h5, fun _ => trivial⟩
        · intro ys M4 h4 hys hyl
          have := hn0.nr
          rw [List.length_map]
          refine ⟨by omega, by decide, h4, ⟨n0.ps, n0.cs, ys⟩, sub_net hn0 hys hyl, rfl⟩
      · exact ⟨h13, n0, hn0, rfl⟩) ?_
  clear h1 hn0 n0 M1
  rintro fl M1 ⟨h1, n, hn, rfl⟩
  show wpS _ _ _ _
  have hok := hn.ok
  rw [wpS_seq]
  refine wpS.imp (Q := fun fl M' => Pm M0 M' ∧ fl = .nx [s0, some (.ref 0), some (encN n), some (oN n), none, none, none, none, none, none, none, none, none, none]) (by
    simp only [ev, List.getElem?_cons_zero, List.getElem?_cons_succ, List.set_cons_zero, List.set_cons_succ, List.map_cons, List.map_nil, List.length_cons, List.length_nil, List.replicate_succ, List.replicate_zero, List.cons_append, List.nil_append, Nat.reduceAdd, Nat.reduceSub, Nat.zero_add, Nat.sub_zero, Option.bind_some, true_and, and_true, outF, if_true, if_false, Bool.false_eq_true, Bool.not_true, Bool.not_false, List.append_assoc, List.length_append, Option.isSome_some, wipeE, isNon, decide_true, decide_false]
    refine (made_ok hn M1 h1.refl_of).imp ?_
    rintro v M2 ⟨h2, rfl⟩
    exact ⟨h1.trans h2, rfl⟩) ?_
  rintro fl M2 ⟨h2, rfl⟩
  show wpS _ _ _ _
  rw [wpS_seq]
  refine wpS.imp (Q := fun fl M' => Pm M0 M' ∧ ∃ ds ws, RunOk n ds ws ∧ ds.length ≤ 25 ∧ fl = .nx [s0, some (.ref 0), some (encN n), some (oN n), none, none, none, none, some (.lst (ds.map encD)), some (.lst (ws.map encW)), none, none, none, none]) (by
    simp only [ev, List.getElem?_cons_zero, List.getElem?_cons_succ, List.set_cons_zero, List.set_cons_succ, List.map_cons, List.map_nil, List.length_cons, List.length_nil, List.replicate_succ, List.replicate_zero, List.cons_append, List.nil_append, Nat.reduceAdd, Nat.reduceSub, Nat.zero_add, Nat.sub_zero, Option.bind_some, true_and, and_true, outF, if_true, if_false, Bool.false_eq_true, Bool.not_true, Bool.not_false, List.append_assoc, List.length_append, Option.isSome_some, wipeE, isNon, decide_true, decide_false]
    refine ⟨by decide, ?_⟩
    refine draw_rule0 (n := 3) h2.refl_of (by omega) (by omega) fun k M3 hk h3 => ?_
    obtain ⟨m, hm, hme⟩ := many_pick k hk
    simp only [ev, List.getElem?_cons_zero, List.getElem?_cons_succ, List.set_cons_zero, List.set_cons_succ, List.map_cons, List.map_nil, List.length_cons, List.length_nil, List.replicate_succ, List.replicate_zero, List.cons_append, List.nil_append, Nat.reduceAdd, Nat.reduceSub, Nat.zero_add, Nat.sub_zero, Option.bind_some, true_and, and_true, outF, if_true, if_false, Bool.false_eq_true, Bool.not_true, Bool.not_false, List.append_assoc, List.length_append, Option.isSome_some, wipeE, isNon, decide_true, decide_false, hme]
    refine (run_ok hok hm M3 h3.refl_of).imp ?_
    rintro v M4 ⟨h4, ds, ws, rfl, hr, hl⟩
    simp only [ev, List.getElem?_cons_zero, List.getElem?_cons_succ, List.set_cons_zero, List.set_cons_succ, List.map_cons, List.map_nil, List.length_cons, List.length_nil, List.replicate_succ, List.replicate_zero, List.cons_append, List.nil_append, Nat.reduceAdd, Nat.reduceSub, Nat.zero_add, Nat.sub_zero, Option.bind_some, true_and, and_true, outF, if_true, if_false, Bool.false_eq_true, Bool.not_true, Bool.not_false, List.append_assoc, List.length_append, Option.isSome_some, wipeE, isNon, decide_true, decide_false, gT_eq]
    exact ⟨(h2.trans h3).trans h4, ds, ws, hr, hl, rfl⟩) ?_
  rintro fl M3 ⟨h3, ds, ws, hrun, hdl, rfl⟩
  show wpS _ _ _ _
  have hwl := hrun.len
  rw [wpS_seq]
  refine wpS.imp (Q := fun fl M' => Pm M0 M' ∧ ∃ e4, fl = .nx [s0, some (.ref 0), some (encN n), some (oN n), e4, none, none, none, some (.lst (ds.map encD)), some (.lst (ws.map encW)), none, none, none, none]) (by
    simp only [ev, List.getElem?_cons_zero, List.getElem?_cons_succ, List.set_cons_zero, List.set_cons_succ, List.map_cons, List.map_nil, List.length_cons, List.length_nil, List.replicate_succ, List.replicate_zero, List.cons_append, List.nil_append, Nat.reduceAdd, Nat.reduceSub, Nat.zero_add, Nat.sub_zero, Option.bind_some, true_and, and_true, outF, if_true, if_false, Bool.false_eq_true, Bool.not_true, Bool.not_false, List.append_assoc, List.length_append, Option.isSome_some, wipeE, isNon, decide_true, decide_false, cut_map, List.length_map, ← List.map_append]
    have c1 := cut_len (l := ws) (a := none) (b := some 6)
    have c2 := cut_len (l := ws) (a := some (-8)) (b := none)
    refine ⟨by omega, ?_⟩
    refine wpS_forL (enc := encW) (fun xs e M' => Pm M0 M' ∧ (∀ x ∈ xs, x ∈ ws) ∧ ∃ e4, e = [s0, some (.ref 0), some (encN n), some (oN n), e4, none, none, none, some (.lst (ds.map encD)), some (.lst (ws.map encW)), none, none, none, none]) _ _ _ ⟨h3, fun x hx => ?_, _, rfl⟩ ?_ ?_
    · rcases List.mem_append.mp hx with hx | hx
      · exact cut_mem hx
      · exact cut_mem hx
    · rintro w xs e M4 ⟨h4, hxs, e4, rfl⟩
      have ok := (hrun.wi w (hxs w (List.mem_cons_self ..))).ok (by omega)
      refine ⟨_, rfl, ?_⟩
      simp only [ev, List.getElem?_cons_zero, List.getElem?_cons_succ, List.set_cons_zero, List.set_cons_succ, List.map_cons, List.map_nil, List.length_cons, List.length_nil, List.replicate_succ, List.replicate_zero, List.cons_append, List.nil_append, Nat.reduceAdd, Nat.reduceSub, Nat.zero_add, Nat.sub_zero, Option.bind_some, true_and, and_true, outF, if_true, if_false, Bool.false_eq_true, Bool.not_true, Bool.not_false, List.append_assoc, List.length_append, Option.isSome_some, wipeE, isNon, decide_true, decide_false]
      refine is_told_rule hok ok h4.refl_of fun M5 h5 => ?_
      have h45 := h4.trans h5
      simp only [ev, List.getElem?_cons_zero, List.getElem?_cons_succ, List.set_cons_zero, List.set_cons_succ, List.map_cons, List.map_nil, List.length_cons, List.length_nil, List.replicate_succ, List.replicate_zero, List.cons_append, List.nil_append, Nat.reduceAdd, Nat.reduceSub, Nat.zero_add, Nat.sub_zero, Option.bind_some, true_and, and_true, outF, if_true, if_false, Bool.false_eq_true, Bool.not_true, Bool.not_false, List.append_assoc, List.length_append, Option.isSome_some, wipeE, isNon, decide_true, decide_false]
      refine (law_still_ok hok ok).imp ?_
      rintro v M6 ⟨rfl, rfl⟩
      simp only [ev, List.getElem?_cons_zero, List.getElem?_cons_succ, List.set_cons_zero, List.set_cons_succ, List.map_cons, List.map_nil, List.length_cons, List.length_nil, List.replicate_succ, List.replicate_zero, List.cons_append, List.nil_append, Nat.reduceAdd, Nat.reduceSub, Nat.zero_add, Nat.sub_zero, Option.bind_some, true_and, and_true, outF, if_true, if_false, Bool.false_eq_true, Bool.not_true, Bool.not_false, List.append_assoc, List.length_append, Option.isSome_some, wipeE, isNon, decide_true, decide_false]
      cases hst : stillB n w with
      | false =>
        simp only [Bool.false_eq_true, if_false]
        exact ⟨h45, fun x hx => hxs x (List.mem_cons_of_mem _ hx), _, rfl⟩
      | true =>
        simp only [if_true]
        refine (lost_on_ok hok ok hst M6 h5.refl_of).imp ?_
        rintro v M7 ⟨h7, rfl⟩
        simp only [ev, List.getElem?_cons_zero, List.getElem?_cons_succ, List.set_cons_zero, List.set_cons_succ, List.map_cons, List.map_nil, List.length_cons, List.length_nil, List.replicate_succ, List.replicate_zero, List.cons_append, List.nil_append, Nat.reduceAdd, Nat.reduceSub, Nat.zero_add, Nat.sub_zero, Option.bind_some, true_and, and_true, outF, if_true, if_false, Bool.false_eq_true, Bool.not_true, Bool.not_false, List.append_assoc, List.length_append, Option.isSome_some, wipeE, isNon, decide_true, decide_false]
        exact ⟨h45.trans h7, fun x hx => hxs x (List.mem_cons_of_mem _ hx), _, rfl⟩
    · rintro e M4 ⟨h4, _, e4, rfl⟩
      exact ⟨h4, _, rfl⟩) ?_
  rintro fl M4 ⟨h4, e4, rfl⟩
  show wpS _ _ _ _
  rw [wpS_seq]
  have hrl := runL hn hrun 9
  have hdk := runL_ok hrl
  have hesl : (ds.take 9).length ≤ 9 := by rw [List.length_take]; omega
  have hfl : ∀ q, (ofP n q (ds.take 9)).length ≤ 9 := fun q => Nat.le_trans (List.length_filter_le ..) hesl
  refine wpS.imp (Q := fun fl M' => M' = M4 ∧ fl = .nx [s0, some (.ref 0), some (encN n), some (oN n), e4, some (.tup ((toldM n (ds.take 9)).map encT)), none, none, some (.lst (ds.map encD)), some (.lst (ws.map encW)), none, none, none, none]) (by
    simp only [ev, List.getElem?_cons_zero, List.getElem?_cons_succ, List.set_cons_zero, List.set_cons_succ, List.map_cons, List.map_nil, List.length_cons, List.length_nil, List.replicate_succ, List.replicate_zero, List.cons_append, List.nil_append, Nat.reduceAdd, Nat.reduceSub, Nat.zero_add, Nat.sub_zero, Option.bind_some, true_and, and_true, outF, if_true, if_false, Bool.false_eq_true, Bool.not_true, Bool.not_false, List.append_assoc, List.length_append, Option.isSome_some, wipeE, isNon, decide_true, decide_false, cut9, ← List.map_take]
    refine (told_ok hn (by omega) hdk M4).imp ?_
    rintro v M5 ⟨rfl, rfl⟩
    exact ⟨rfl, rfl⟩) ?_
  rintro fl M5 ⟨rfl, rfl⟩
  show wpS _ _ _ _
  generalize ds.take 9 = es at hesl hrl hdk hfl
  have htl : (toldM n es).length = n.ps.length := by unfold toldM; simp
  have hrow : ∀ row ∈ toldM n es, row.length ≤ 9 ∧ ∀ d ∈ row, DeOk n d := by
    intro row hr
    obtain ⟨q, _, rfl⟩ := List.mem_map.mp hr
    exact ⟨hfl q, fun d hd => hdk d (List.mem_filter.mp hd).1⟩
  have hnp := hn.np
  rw [wpS_seq]
  refine wpS.imp (Q := fun fl M' => M' = M5 ∧ ∃ rs : List (List Nat × Wo), 0 < rs.length ∧ rs.length ≤ 5000000 ∧ (∀ p ∈ rs, p.1.length = n.ps.length ∧ worldE n (evsP (toldM n es) p.1 n.ps.length) = some p.2) ∧ fl = .nx [s0, some (.ref 0), some (encN n), some (oN n), e4, some (.tup ((toldM n es).map encT)), some (.lst (rs.map encVW)), none, some (.lst (ds.map encD)), some (.lst (ws.map encW)), none, none, none, none]) (by
    simp only [ev, List.getElem?_cons_zero, List.getElem?_cons_succ, List.set_cons_zero, List.set_cons_succ, List.map_cons, List.map_nil, List.length_cons, List.length_nil, List.replicate_succ, List.replicate_zero, List.cons_append, List.nil_append, Nat.reduceAdd, Nat.reduceSub, Nat.zero_add, Nat.sub_zero, Option.bind_some, true_and, and_true, outF, if_true, if_false, Bool.false_eq_true, Bool.not_true, Bool.not_false, List.append_assoc, List.length_append, Option.isSome_some, wipeE, isNon, decide_true, decide_false]
    refine (cuts_ok hn htl hrow M5).imp ?_
    rintro v M6 ⟨rfl, rs, rfl, a, b, c⟩
    exact ⟨rfl, rs, a, b, c, rfl⟩) ?_
  rintro fl M6 ⟨rfl, rs, hr0, hrm, hrp, rfl⟩
  show wpS _ _ _ _
  rw [wpS_seq]
  refine wpS.imp (Q := fun fl M' => Pm M0 M' ∧ ∃ k : Nat, fl = .nx [s0, some (.ref 0), some (encN n), some (oN n), e4, some (.tup ((toldM n es).map encT)), some (.lst (rs.map encVW)), some (.int (k : Int)), some (.lst (ds.map encD)), some (.lst (ws.map encW)), none, none, none, none]) (by
    simp only [ev, List.getElem?_cons_zero, List.getElem?_cons_succ, List.set_cons_zero, List.set_cons_succ, List.map_cons, List.map_nil, List.length_cons, List.length_nil, List.replicate_succ, List.replicate_zero, List.cons_append, List.nil_append, Nat.reduceAdd, Nat.reduceSub, Nat.zero_add, Nat.sub_zero, Option.bind_some, true_and, and_true, outF, if_true, if_false, Bool.false_eq_true, Bool.not_true, Bool.not_false, List.append_assoc, List.length_append, Option.isSome_some, wipeE, isNon, decide_true, decide_false, List.length_map]
    refine (draw_ok (rs.length : Int) (by omega) (by omega) M6 h4.refl_of).imp ?_
    rintro v M7 ⟨h7, k, rfl, hk⟩
    exact ⟨h4.trans h7, k, rfl⟩) ?_
  rintro fl M7 ⟨h7, k, rfl⟩
  show wpS _ _ _ _
  clear h4
  rw [wpS_seq]
  refine wpS.imp (Q := fun fl M' => ∃ e, fl = .nx e) ?_ (by
    rintro fl M8 ⟨e, rfl⟩
    show wpS _ _ _ _
    simp only [ev, List.getElem?_cons_zero, List.getElem?_cons_succ, List.set_cons_zero, List.set_cons_succ, List.map_cons, List.map_nil, List.length_cons, List.length_nil, List.replicate_succ, List.replicate_zero, List.cons_append, List.nil_append, Nat.reduceAdd, Nat.reduceSub, Nat.zero_add, Nat.sub_zero, Option.bind_some, true_and, and_true, outF, if_true, if_false, Bool.false_eq_true, Bool.not_true, Bool.not_false, List.append_assoc, List.length_append, Option.isSome_some, wipeE, isNon, decide_true, decide_false]
    exact hret M8)
  simp only [ev, List.getElem?_cons_zero, List.getElem?_cons_succ, List.set_cons_zero, List.set_cons_succ, List.map_cons, List.map_nil, List.length_cons, List.length_nil, List.replicate_succ, List.replicate_zero, List.cons_append, List.nil_append, Nat.reduceAdd, Nat.reduceSub, Nat.zero_add, Nat.sub_zero, Option.bind_some, true_and, and_true, outF, if_true, if_false, Bool.false_eq_true, Bool.not_true, Bool.not_false, List.append_assoc, List.length_append, Option.isSome_some, wipeE, isNon, decide_true, decide_false, cut_map, List.length_map, ← List.map_append]
  have c1 := cut_len (l := rs) (a := some (k : Int)) (b := some ((k : Int) + 8))
  have c2 := cut_len (l := rs) (a := some (-4)) (b := none)
  refine ⟨by omega, ?_⟩
  refine wpS_forL (enc := encVW) (fun xs e M' => Pm M0 M' ∧ (∀ x ∈ xs, x ∈ rs) ∧ ∃ e4 e10 e11, e = [s0, some (.ref 0), some (encN n), some (oN n), e4, some (.tup ((toldM n es).map encT)), some (.lst (rs.map encVW)), some (.int (k : Int)), some (.lst (ds.map encD)), some (.lst (ws.map encW)), e10, e11, none, none]) _ _ _ ⟨h7, fun x hx => ?_, _, _, _, rfl⟩ ?_ ?_
  · rcases List.mem_append.mp hx with hx | hx
    · exact cut_mem hx
    · exact cut_mem hx
  · rintro ⟨v, w⟩ xs e M8 ⟨h8, hxs, e4, e10, e11, rfl⟩
    obtain ⟨hvl, hW⟩ := hrp (v, w) (hxs _ (List.mem_cons_self ..))
    have hvl : v.length = n.ps.length := hvl
    have hW : worldE n (evsP (toldM n es) v n.ps.length) = some w := hW
    have hel := evs_len (cut := v) (told := toldM n es) (fun row h => by have := (hrow row h).1; omega) n.ps.length
    have ok := worldE_ok hW (by omega)
    refine ⟨[s0, some (.ref 0), some (encN n), some (oN n), some (encW w), some (.tup ((toldM n es).map encT)), some (.lst (rs.map encVW)), some (.int (k : Int)), some (.lst (ds.map encD)), some (.lst (ws.map encW)), some (encV v), e11, none, none], rfl, ?_⟩
    simp only [ev, List.getElem?_cons_zero, List.getElem?_cons_succ, List.set_cons_zero, List.set_cons_succ, List.map_cons, List.map_nil, List.length_cons, List.length_nil, List.replicate_succ, List.replicate_zero, List.cons_append, List.nil_append, Nat.reduceAdd, Nat.reduceSub, Nat.zero_add, Nat.sub_zero, Option.bind_some, true_and, and_true, outF, if_true, if_false, Bool.false_eq_true, Bool.not_true, Bool.not_false, List.append_assoc, List.length_append, Option.isSome_some, wipeE, isNon, decide_true, decide_false]
    refine is_told_rule hok ok h8.refl_of fun M9 h9 => ?_
    have h89 := h8.trans h9
    simp only [ev, List.getElem?_cons_zero, List.getElem?_cons_succ, List.set_cons_zero, List.set_cons_succ, List.map_cons, List.map_nil, List.length_cons, List.length_nil, List.replicate_succ, List.replicate_zero, List.cons_append, List.nil_append, Nat.reduceAdd, Nat.reduceSub, Nat.zero_add, Nat.sub_zero, Option.bind_some, true_and, and_true, outF, if_true, if_false, Bool.false_eq_true, Bool.not_true, Bool.not_false, List.append_assoc, List.length_append, Option.isSome_some, wipeE, isNon, decide_true, decide_false]
    refine (still_ok hok ok (lw_e w)).imp ?_
    rintro z M10 ⟨rfl, rfl⟩
    simp only [ev, List.getElem?_cons_zero, List.getElem?_cons_succ, List.set_cons_zero, List.set_cons_succ, List.map_cons, List.map_nil, List.length_cons, List.length_nil, List.replicate_succ, List.replicate_zero, List.cons_append, List.nil_append, Nat.reduceAdd, Nat.reduceSub, Nat.zero_add, Nat.sub_zero, Option.bind_some, true_and, and_true, outF, if_true, if_false, Bool.false_eq_true, Bool.not_true, Bool.not_false, List.append_assoc, List.length_append, Option.isSome_some, wipeE, isNon, decide_true, decide_false]
    cases hst : stillB n w with
    | false =>
      simp only [Bool.false_eq_true, if_false]
      exact ⟨h89, fun x hx => hxs x (List.mem_cons_of_mem _ hx), _, _, _, rfl⟩
    | true =>
      simp only [if_true]
      simp only [ev, List.getElem?_cons_zero, List.getElem?_cons_succ, List.set_cons_zero, List.set_cons_succ, List.map_cons, List.map_nil, List.length_cons, List.length_nil, List.replicate_succ, List.replicate_zero, List.cons_append, List.nil_append, Nat.reduceAdd, Nat.reduceSub, Nat.zero_add, Nat.sub_zero, Option.bind_some, true_and, and_true, outF, if_true, if_false, Bool.false_eq_true, Bool.not_true, Bool.not_false, List.append_assoc, List.length_append, Option.isSome_some, wipeE, isNon, decide_true, decide_false, List.length_map]
      refine ⟨⟨by omega, by omega⟩, ?_⟩
      refine wpS_rng (n := (toldM n es).length) (fun p e M' => M' = M10 ∧ ∃ e11, e = [s0, some (.ref 0), some (encN n), some (oN n), some (encW w), some (.tup ((toldM n es).map encT)), some (.lst (rs.map encVW)), some (.int (k : Int)), some (.lst (ds.map encD)), some (.lst (ws.map encW)), some (encV v), e11, none, none]) ⟨rfl, _, rfl⟩ ?_ ?_
      · rintro p e M11 hp ⟨rfl, e11, rfl⟩
        have hpn : p < n.ps.length := by omega
        have hat : ((toldM n es).map encT)[p]? = some (.tup ((ofP n p es).map encD)) := at_range (enc := encT) (f := fun q => ofP n q es) hpn
        have hvp : p < v.length := by omega
        have hv : (v.map dn)[p]? = some (.int (v[p] : Nat)) := by rw [List.getElem?_map, List.getElem?_eq_getElem hvp]; rfl
        have hvd : v.getD p 0 = v[p] := by rw [List.getD_eq_getElem?_getD, List.getElem?_eq_getElem hvp]; rfl
        have hlost := behind_lost hn hrl hW hst p
        rw [hvd] at hlost
        refine ⟨_, rfl, ?_⟩
        simp only [ev, List.getElem?_cons_zero, List.getElem?_cons_succ, List.set_cons_zero, List.set_cons_succ, List.map_cons, List.map_nil, List.length_cons, List.length_nil, List.replicate_succ, List.replicate_zero, List.cons_append, List.nil_append, Nat.reduceAdd, Nat.reduceSub, Nat.zero_add, Nat.sub_zero, Option.bind_some, true_and, and_true, outF, if_true, if_false, Bool.false_eq_true, Bool.not_true, Bool.not_false, List.append_assoc, List.length_append, Option.isSome_some, wipeE, isNon, decide_true, decide_false, hat, encV, hv, cut_drop, ← List.map_drop]
        refine wpA_pure (enc := encD) (fun d => !d.isLose) encD ((ofP n p es).drop v[p]) (fun d hd => ⟨_, rfl, ?_, fun _ => ?_⟩) ?_
        · cases d with
          | act r => simp only [ev, List.getElem?_cons_zero, List.getElem?_cons_succ, List.set_cons_zero, List.set_cons_succ, List.map_cons, List.map_nil, List.length_cons, List.length_nil, List.replicate_succ, List.replicate_zero, List.cons_append, List.nil_append, Nat.reduceAdd, Nat.reduceSub, Nat.zero_add, Nat.sub_zero, Option.bind_some, true_and, and_true, outF, if_true, if_false, Bool.false_eq_true, Bool.not_true, Bool.not_false, List.append_assoc, List.length_append, Option.isSome_some, wipeE, isNon, decide_true, decide_false, encD, str_1, De.isLose]
          | take r k => simp only [ev, List.getElem?_cons_zero, List.getElem?_cons_succ, List.set_cons_zero, List.set_cons_succ, List.map_cons, List.map_nil, List.length_cons, List.length_nil, List.replicate_succ, List.replicate_zero, List.cons_append, List.nil_append, Nat.reduceAdd, Nat.reduceSub, Nat.zero_add, Nat.sub_zero, Option.bind_some, true_and, and_true, outF, if_true, if_false, Bool.false_eq_true, Bool.not_true, Bool.not_false, List.append_assoc, List.length_append, Option.isSome_some, wipeE, isNon, decide_true, decide_false, encD, str_2, De.isLose]
          | lose c k => simp only [ev, List.getElem?_cons_zero, List.getElem?_cons_succ, List.set_cons_zero, List.set_cons_succ, List.map_cons, List.map_nil, List.length_cons, List.length_nil, List.replicate_succ, List.replicate_zero, List.cons_append, List.nil_append, Nat.reduceAdd, Nat.reduceSub, Nat.zero_add, Nat.sub_zero, Option.bind_some, true_and, and_true, outF, if_true, if_false, Bool.false_eq_true, Bool.not_true, Bool.not_false, List.append_assoc, List.length_append, Option.isSome_some, wipeE, isNon, decide_true, decide_false, encD, De.isLose]
        · simp only [ev, List.getElem?_cons_zero, List.getElem?_cons_succ, List.set_cons_zero, List.set_cons_succ, List.map_cons, List.map_nil, List.length_cons, List.length_nil, List.replicate_succ, List.replicate_zero, List.cons_append, List.nil_append, Nat.reduceAdd, Nat.reduceSub, Nat.zero_add, Nat.sub_zero, Option.bind_some, true_and, and_true, outF, if_true, if_false, Bool.false_eq_true, Bool.not_true, Bool.not_false, List.append_assoc, List.length_append, Option.isSome_some, wipeE, isNon, decide_true, decide_false]
        · have hf : ((ofP n p es).drop v[p]).filter (fun d => !d.isLose) = [] := by
            rw [List.filter_eq_nil_iff]
            intro d hd
            rw [hlost d hd]; simp
          rw [hf]
          simp only [ev, List.getElem?_cons_zero, List.getElem?_cons_succ, List.set_cons_zero, List.set_cons_succ, List.map_cons, List.map_nil, List.length_cons, List.length_nil, List.replicate_succ, List.replicate_zero, List.cons_append, List.nil_append, Nat.reduceAdd, Nat.reduceSub, Nat.zero_add, Nat.sub_zero, Option.bind_some, true_and, and_true, outF, if_true, if_false, Bool.false_eq_true, Bool.not_true, Bool.not_false, List.append_assoc, List.length_append, Option.isSome_some, wipeE, isNon, decide_true, decide_false]
          refine ⟨by decide, ?_⟩
          rw [if_neg (by simp)]
          exact ⟨_, rfl⟩
      · rintro e M11 ⟨rfl, e11, rfl⟩
        exact ⟨h89, fun x hx => hxs x (List.mem_cons_of_mem _ hx), _, _, _, rfl⟩
  · rintro e M8 ⟨h8, _, e4, e10, e11, rfl⟩
    exact ⟨_, rfl⟩
end K40

end

section
set_option Elab.async false
set_option linter.all false
set_option maxRecDepth 100000
set_option maxHeartbeats 4000000
namespace K40
open PySem PySem.Spec PyProof.Rows L2 DV
theorem glo_law {K : PySem.W.Frag} {mg : Str → Option Value} (T : Tx K mg) : mg "law" = some (.ref (He.ga K "law")) := T.glo "law" 65 rfl
theorem walk (plain : ∀ ns : List Int, ns.length ≤ 63 → ∃ M', F_law [.kl (ns.map D.int)] [] = some (.bl true, M')) (w : World) (mg : PySem.Str → Option Value) (fa1 : Addr) (h : Heap) (Y : ∃ K : PySem.W.Frag, K.In h ∧ SaysB fa fn ex K) (G : h.Ns mainGlobals mg) (hmg : mg ("law" : PySem.Str) = some (.ref fa1)) :
    ∃ (K : PySem.W.Frag) (fd : FuncData) (sp : Sp), K.In h ∧ (∀ (s : Shared) (u : Value), BindsTo s fd ⟨[u], []⟩ [("_law_script", u)]) ∧
        (∀ (H : Hp) (a : Addr) (ns : List Int), ns.length ≤ 63 → Only H → SqL K H a (ns.map V.int) → sp [.ref a] H (fun v _ => v = .bl true) fun _ _ _ => False) ∧
        ∀ base : Heap, K.In base → base.Ns mainGlobals mg → FnOk PySem.Challenge.rw_cutweave_k40_what_stays.prog w K mg base CX0 13 fa1 fd ["_law_script"] sp := by
  obtain ⟨K, KX, c⟩ := Y
  have T : Tx K mg := ⟨⟨h, KX, G⟩, c⟩
  have e := hmg.symm.trans (glo_law T)
  cases e
  obtain ⟨fd, hb, hF⟩ := ok_law (P := PySem.Challenge.rw_cutweave_k40_what_stays.prog) (w := w) T
  exact ⟨K, fd, spF K 1 F_law, KX, hb, fun H a ns hl hO hS => spF_start hO hS (plain ns hl), fun base _ _ => hF base⟩
end K40
open PySem PySem.W PySem.Calls PyProof.Rows
theorem K40.holds_of (plain : ∀ ns : List Int, ns.length ≤ 63 → ∃ M', K40.F_law [.kl (ns.map DV.D.int)] [] = some (.bl true, M')) : PySem.Challenge.rw_cutweave_k40_what_stays.Holds := by
  w_on; o_law
  refine HandSHeadRun.head_any (r := OpenLaw.row PySem.Challenge.rw_cutweave_k40_what_stays) (q := view (OpenLaw.row PySem.Challenge.rw_cutweave_k40_what_stays).prog [55]) (H := K40.hk) (ob := K40.ob) (M := 6000) (loose := K40.names) (d := HandSHeadRun.topDef (OpenLaw.row PySem.Challenge.rw_cutweave_k40_what_stays).prog 55) (kwd := []) K40.ob_eq
    (by kernel_rfl) (fun s => by kernel_rfl) K40.run (by kernel_rfl) (by kernel_rfl) (by kernel_rfl) (by rfl) (by first | assumption | decide +kernel) (by decide +kernel) ⟨rfl, rfl, rfl, rfl, rfl, by decide +kernel⟩ ?hw ?hc
  case hw => w_witness2
  case hc =>
    refine L2.walk_ofE (l := PySem.Challenge.rw_cutweave_k40_what_stays) (n := 63) (k := 13) (x := "_law_script") (CX := L2.CX0) rfl (by decide) (by kernel_rfl) ⟨rfl, by decide, by decide⟩ ?F (fun _ _ _ _ z => z)
    intro w mg fa h Y G hmg0
    have hmg : mg ("law" : PySem.Str) = some (.ref fa) := by
      have e : (HandSHeadRun.topDef (OpenLaw.row PySem.Challenge.rw_cutweave_k40_what_stays).prog 55).name = ("law" : PySem.Str) := by kernel_rfl
      rw [← e]
      exact hmg0
    exact K40.walk plain w mg fa h Y G hmg

end

section
theorem PySem.Challenge.cw_cutweave_k40_what_stays_holds : PySem.Challenge.rw_cutweave_k40_what_stays.Holds :=
  K40.holds_of K40.plain

end
