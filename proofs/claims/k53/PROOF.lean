import PyProof.Rows.All
import Wide.All
import OpenK.AllK
import Wide.FinOn
import HandS.ForMost
import HandS.ForExc
import HandS.TryMany
import HandS.ExcInit
import HandS.Wide
import HandS.WideBits
import HandS.IsInst
import HandS.Flow
import HandS.HeadHook1
import HandS.More
import HandS.Style
import HandS.SortInts
import HandS.RaiseMore
import HandS.ExcField
import HandS.Head2
import HandS.HeadHook2
import HandS.HeadEnd
import HandS.EndBits
import KE.KBits
import PySem.Challenge.RW_undivided_k53_whole_from_the_low_end
set_option Elab.async false
set_option linter.all false
set_option maxRecDepth 100000
set_option maxHeartbeats 4000000
section
/-! Ab1: data, states, what a heap holds of them. -/
namespace Ab
open PySem PySem.Spec L2

/-- a value with all that hangs on it -/
inductive D where
  | non | bl (b : Bool) | int (i : Int) | str (x : Str) | raw (v : V)
  | lst (xs : List D) | tup (xs : List D) | frl (xs : List D)
  | dct (ks : List Key) (xs : List D)
  | obj (C : Str) (ns : List Str) (xs : List D)

abbrev Mem := Addr → Option D
abbrev Env := List (Option D)
def m0 : Mem := fun _ => none
def setM (m : Mem) (a : Addr) (d : D) : Mem := fun b => if b = a then some d else m b
def delM (m : Mem) (a : Addr) : Mem := fun b => if b = a then none else m b
theorem setM_same {m : Mem} {a : Addr} {d : D} : setM m a d a = some d := if_pos rfl
theorem setM_ne {m : Mem} {a b : Addr} {d : D} (h : b ≠ a) : setM m a d b = m b := if_neg h
theorem delM_ne {m : Mem} {a b : Addr} (h : b ≠ a) : delM m a b = m b := if_neg h
theorem setM_setM {m : Mem} {a : Addr} {d e : D} : setM (setM m a d) a e = setM m a e := by
  funext b; unfold setM; split <;> rfl
theorem delM_setM {m : Mem} {a : Addr} {d : D} (h : m a = none) : delM (setM m a d) a = m := by
  funext b; unfold delM setM
  by_cases e : b = a
  · rw [if_pos e, e, h]
  · rw [if_neg e, if_neg e]

mutual
def Rep (K : PySem.W.Frag) (F : Hp) : D → V → Prop
  | .non, v => v = .non
  | .bl b, v => v = .bl b
  | .int i, v => v = .int i
  | .str x, v => v = .str x
  | .raw u, v => v = u
  | .lst xs, v => ∃ a vs, v = .ref a ∧ F a = some (.lst vs) ∧ RepL K F xs vs
  | .frl xs, v => ∃ a vs, v = .ref a ∧ SqL K F a vs ∧ RepL K F xs vs
  | .tup xs, v => ∃ a vs, v = .ref a ∧ SqT K F a vs ∧ RepL K F xs vs
  | .dct ks xs, v => ∃ a kvs, v = .ref a ∧ Rd F a (.dK kvs) ∧ kvs.map (·.1) = ks ∧ RepL K F xs (kvs.map (·.2))
  | .obj C ns xs, v => ∃ a dx fs, v = .ref a ∧ F a = some (.ins (He.ga K C) dx fs) ∧ fs.map (·.1) = ns ∧ RepL K F xs (fs.map (·.2))
def RepL (K : PySem.W.Frag) (F : Hp) : List D → List V → Prop
  | [], vs => vs = []
  | d :: ds, vs => ∃ v r, vs = v :: r ∧ Rep K F d v ∧ RepL K F ds r
end

theorem rd_mono {F F' : Hp} (e : Same F F') {a : Addr} {u : HO} (h : Rd F a u) : Rd F' a u := by
  rcases h with h | ⟨o, h⟩
  · exact .inl (e _ _ h)
  · exact .inr ⟨o, e _ _ h⟩
theorem sqt_mono {K : PySem.W.Frag} {F F' : Hp} (e : Same F F') {a : Addr} {xs : List V} (h : SqT K F a xs) : SqT K F' a xs := by
  rcases h with h | h
  · exact .inl (rd_mono e h)
  · exact .inr h

mutual
theorem rep_mono {K : PySem.W.Frag} {F F' : Hp} (e : Same F F') : ∀ (d : D) {v : V}, Rep K F d v → Rep K F' d v
  | .non, _, h => by unfold Rep at *; exact h
  | .bl _, _, h => by unfold Rep at *; exact h
  | .int _, _, h => by unfold Rep at *; exact h
  | .str _, _, h => by unfold Rep at *; exact h
  | .raw _, _, h => by unfold Rep at *; exact h
  | .lst xs, _, h => by
    unfold Rep at *
    obtain ⟨a, vs, h1, h2, h3⟩ := h
    exact ⟨a, vs, h1, e _ _ h2, repL_mono e xs h3⟩
  | .frl xs, _, h => by
    unfold Rep at *
    obtain ⟨a, vs, h1, h2, h3⟩ := h
    exact ⟨a, vs, h1, e.seq h2, repL_mono e xs h3⟩
  | .tup xs, _, h => by
    unfold Rep at *
    obtain ⟨a, vs, h1, h2, h3⟩ := h
    exact ⟨a, vs, h1, sqt_mono e h2, repL_mono e xs h3⟩
  | .dct ks xs, _, h => by
    unfold Rep at *
    obtain ⟨a, vs, h1, h2, h3, h4⟩ := h
    exact ⟨a, vs, h1, rd_mono e h2, h3, repL_mono e xs h4⟩
  | .obj C ns xs, _, h => by
    unfold Rep at *
    obtain ⟨a, dx, vs, h1, h2, h3, h4⟩ := h
    exact ⟨a, dx, vs, h1, e _ _ h2, h3, repL_mono e xs h4⟩
theorem repL_mono {K : PySem.W.Frag} {F F' : Hp} (e : Same F F') : ∀ (ds : List D) {vs : List V}, RepL K F ds vs → RepL K F' ds vs
  | [], _, h => by unfold RepL at *; exact h
  | d :: ds, _, h => by
    unfold RepL at *
    obtain ⟨v, r, h1, h2, h3⟩ := h
    exact ⟨v, r, h1, rep_mono e d h2, repL_mono e ds h3⟩
end

section
variable {K : PySem.W.Frag} {F F' H H' : Hp}
theorem repL_nil {vs : List V} : RepL K F [] vs ↔ vs = [] := by unfold RepL; exact Iff.rfl
theorem repL_cons {d : D} {ds : List D} {vs : List V} : RepL K F (d :: ds) vs ↔ ∃ v r, vs = v :: r ∧ Rep K F d v ∧ RepL K F ds r := by rw [RepL]
theorem RepL.nil : RepL K F [] [] := repL_nil.mpr rfl
theorem RepL.cons {d : D} {ds : List D} {v : V} {vs : List V} (h : Rep K F d v) (t : RepL K F ds vs) : RepL K F (d :: ds) (v :: vs) := repL_cons.mpr ⟨v, vs, rfl, h, t⟩
theorem RepL.len : ∀ {ds : List D} {vs : List V}, RepL K F ds vs → vs.length = ds.length
  | [], vs, h => by rw [repL_nil.mp h] <;> rfl
  | d :: ds, vs, h => by
    obtain ⟨v, r, rfl, _, t⟩ := repL_cons.mp h
    simp [RepL.len t]
theorem RepL.append : ∀ {ds es : List D} {vs us : List V}, RepL K F ds vs → RepL K F es us → RepL K F (ds ++ es) (vs ++ us)
  | [], _, _, _, h, t => by rw [repL_nil.mp h]; exact t
  | d :: ds, _, _, _, h, t => by
    obtain ⟨v, r, rfl, h1, h2⟩ := repL_cons.mp h
    exact RepL.cons h1 (RepL.append h2 t)
theorem RepL.get : ∀ {ds : List D} {vs : List V} {i : Nat} {d : D}, RepL K F ds vs → ds[i]? = some d → ∃ v, vs[i]? = some v ∧ Rep K F d v
  | [], _, _, _, _, e => by simp at e
  | d :: ds, _, 0, _, h, e => by
    obtain ⟨v, r, rfl, h1, h2⟩ := repL_cons.mp h
    simp at e; subst e
    exact ⟨v, by simp, h1⟩
  | d :: ds, _, i + 1, _, h, e => by
    obtain ⟨v, r, rfl, h1, h2⟩ := repL_cons.mp h
    obtain ⟨u, q, w⟩ := RepL.get (i := i) h2 (by simpa using e)
    exact ⟨u, by simpa using q, w⟩
theorem RepL.getV : ∀ {ds : List D} {vs : List V} {i : Nat} {v : V}, RepL K F ds vs → vs[i]? = some v → ∃ d, ds[i]? = some d ∧ Rep K F d v := fun {ds vs i v} h e => by
  have hi : i < ds.length := by
    rw [← h.len]
    exact (List.getElem?_eq_some_iff.mp e).1
  obtain ⟨u, q, w⟩ := h.get (List.getElem?_eq_getElem hi)
  rw [e] at q
  cases q
  exact ⟨_, List.getElem?_eq_getElem hi, w⟩
theorem RepL.take : ∀ {ds : List D} {vs : List V} (n : Nat), RepL K F ds vs → RepL K F (ds.take n) (vs.take n)
  | _, _, 0, _ => RepL.nil
  | [], _, n + 1, h => by rw [repL_nil.mp h]; exact RepL.nil
  | d :: ds, _, n + 1, h => by
    obtain ⟨v, r, rfl, h1, h2⟩ := repL_cons.mp h
    exact RepL.cons h1 (RepL.take n h2)
theorem RepL.drop : ∀ {ds : List D} {vs : List V} (n : Nat), RepL K F ds vs → RepL K F (ds.drop n) (vs.drop n)
  | _, _, 0, h => h
  | [], _, n + 1, h => by rw [repL_nil.mp h]; exact RepL.nil
  | d :: ds, _, n + 1, h => by
    obtain ⟨v, r, rfl, h1, h2⟩ := repL_cons.mp h
    exact RepL.drop n h2
theorem RepL.set : ∀ {ds : List D} {vs : List V} (i : Nat) {d : D} {v : V}, RepL K F ds vs → Rep K F d v → RepL K F (ds.set i d) (vs.set i v)
  | [], _, _, _, _, h, _ => by rw [repL_nil.mp h]; exact RepL.nil
  | d :: ds, _, 0, _, _, h, q => by
    obtain ⟨v, r, rfl, h1, h2⟩ := repL_cons.mp h
    exact RepL.cons q h2
  | d :: ds, _, i + 1, _, _, h, q => by
    obtain ⟨v, r, rfl, h1, h2⟩ := repL_cons.mp h
    exact RepL.cons h1 (RepL.set i h2 q)
theorem RepL.reverse : ∀ {ds : List D} {vs : List V}, RepL K F ds vs → RepL K F ds.reverse vs.reverse
  | [], _, h => by rw [repL_nil.mp h]; exact RepL.nil
  | d :: ds, _, h => by
    obtain ⟨v, r, rfl, h1, h2⟩ := repL_cons.mp h
    rw [List.reverse_cons, List.reverse_cons]
    exact (RepL.reverse h2).append (RepL.cons h1 RepL.nil)
theorem repL_ints {ns : List Int} : ∀ {vs : List V}, RepL K F (ns.map D.int) vs ↔ vs = ns.map V.int := by
  induction ns with
  | nil => intro vs; exact repL_nil
  | cons n ns ih =>
    intro vs
    rw [List.map_cons, repL_cons, List.map_cons]
    constructor
    · rintro ⟨v, r, rfl, h1, h2⟩
      rw [ih.mp h2]
      unfold Rep at h1
      rw [h1]
    · rintro rfl
      exact ⟨_, _, rfl, by unfold Rep; rfl, ih.mpr rfl⟩

/-- what may be changed at a -/
def MRep (K : PySem.W.Frag) (F H : Hp) (a : Addr) : D → Prop
  | .lst xs => ∃ vs, H a = some (.lst vs) ∧ RepL K F xs vs
  | .dct ks xs => ∃ kvs, H a = some (.dK kvs) ∧ kvs.map (·.1) = ks ∧ RepL K F xs (kvs.map (·.2))
  | .obj C ns xs => ∃ dx fs, H a = some (.ins (He.ga K C) dx fs) ∧ fs.map (·.1) = ns ∧ RepL K F xs (fs.map (·.2))
  | _ => False
theorem MRep.there {a : Addr} {d : D} (h : MRep K F H a d) : ∃ o, H a = some o := by
  cases d with
  | lst xs => obtain ⟨vs, h, _⟩ := h; exact ⟨_, h⟩
  | dct ks xs => obtain ⟨vs, h, _⟩ := h; exact ⟨_, h⟩
  | obj C ns xs => obtain ⟨dx, vs, h, _⟩ := h; exact ⟨_, h⟩
  | _ => exact False.elim h
theorem MRep.mono {a : Addr} {d : D} (h : MRep K F H a d) (e : Same F F') (q : H' a = H a) : MRep K F' H' a d := by
  cases d with
  | lst xs => obtain ⟨vs, h, r⟩ := h; exact ⟨_, q.trans h, repL_mono e _ r⟩
  | dct ks xs => obtain ⟨vs, h, r, z⟩ := h; exact ⟨_, q.trans h, r, repL_mono e _ z⟩
  | obj C ns xs => obtain ⟨dx, vs, h, r, z⟩ := h; exact ⟨_, _, q.trans h, r, repL_mono e _ z⟩
  | _ => exact False.elim h
theorem MRep.frozen {a : Addr} {d : D} {o : HO} (h : MRep K F H a d) (ho : H a = some o) (hF : F a = none) : Rep K (upd F a o) d (.ref a) := by
  have e : Same F (upd F a o) := fun b u q => by rw [upd_ne (ne_of_none q hF)]; exact q
  cases d with
  | lst xs =>
    obtain ⟨vs, h, r⟩ := h
    rw [ho] at h; cases h
    unfold Rep
    exact ⟨a, vs, rfl, upd_same, repL_mono e _ r⟩
  | dct ks xs =>
    obtain ⟨vs, h, r, z⟩ := h
    rw [ho] at h; cases h
    unfold Rep
    exact ⟨a, vs, rfl, .inl upd_same, r, repL_mono e _ z⟩
  | obj C ns xs =>
    obtain ⟨dx, vs, h, r, z⟩ := h
    rw [ho] at h; cases h
    unfold Rep
    exact ⟨a, dx, vs, rfl, upd_same, r, repL_mono e _ z⟩
  | _ => exact False.elim h

/-! ### the heap as it stands against the entry -/
structure Bs where
  H0 : Hp
  F0 : Hp
  m0 : Mem
structure HM (K : PySem.W.Frag) (B : Bs) (F : Hp) (m : Mem) (H : Hp) : Prop where
  fr : Same F H
  f0 : Same B.F0 F
  fresh : ∀ a o, F a = some o → B.F0 a = some o ∨ B.H0 a = none ∨ B.m0 a ≠ none
  frame : ∀ a o, B.H0 a = some o → B.m0 a = none → H a = some o
  mem : ∀ a d, m a = some d → F a = none ∧ MRep K F H a d ∧ (B.m0 a ≠ none ∨ B.H0 a = none)
  grow : ∀ a, B.H0 a ≠ none → H a ≠ none
variable {B : Bs} {m : Mem}
theorem HM.h0 (h : HM K B F m H) {p : Addr} (hp : H p = none) : B.H0 p = none := by
  cases e : B.H0 p with
  | none => rfl
  | some o => exact absurd hp (h.grow p (by rw [e]; exact fun z => nomatch z))
theorem HM.fn (h : HM K B F m H) {p : Addr} (hp : H p = none) : F p = none := h.fr.free hp
theorem HM.ne (h : HM K B F m H) {p a : Addr} {d : D} (hp : H p = none) (ha : m a = some d) : a ≠ p := by
  rintro rfl
  obtain ⟨o, e⟩ := (h.mem a d ha).2.1.there
  rw [hp] at e; cases e
theorem HM.mn (h : HM K B F m H) {p : Addr} (hp : H p = none) : m p = none := by
  cases e : m p with
  | none => rfl
  | some d => exact absurd rfl (h.ne hp e)
theorem same_new {p : Addr} {o : HO} (hp : F p = none) : Same F (upd F p o) := fun b u q => by rw [upd_ne (ne_of_none q hp)]; exact q
/-- a new thing that never changes -/
theorem HM.new (h : HM K B F m H) {p : Addr} (hp : H p = none) (o : HO) : HM K B (upd F p o) m (upd H p o) where
  fr := fun b u q => by
    by_cases e : b = p
    · subst e; rw [upd_same] at q ⊢; exact q
    · rw [upd_ne e] at q ⊢; exact h.fr b u q
  f0 := fun b u q => same_new (h.fn hp) b u (h.f0 b u q)
  fresh := fun b u q => by
    by_cases e : b = p
    · subst e; exact .inr (.inl (h.h0 hp))
    · rw [upd_ne e] at q; exact h.fresh b u q
  frame := fun b u q n => by rw [upd_ne (ne_of_none (h.frame b u q n) hp)]; exact h.frame b u q n
  mem := fun b d q => by
    obtain ⟨h1, h2, h3⟩ := h.mem b d q
    have hb := h.ne hp q
    exact ⟨by rw [upd_ne hb]; exact h1, h2.mono (same_new (h.fn hp)) (upd_ne hb), h3⟩
  grow := fun b q => by
    by_cases e : b = p
    · subst e; rw [upd_same]; exact fun z => nomatch z
    · rw [upd_ne e]; exact h.grow b q
/-- a new thing that is not looked at -/
theorem HM.aside (h : HM K B F m H) {p : Addr} (hp : H p = none) (o : HO) : HM K B F m (upd H p o) where
  fr := fun b u q => by rw [upd_ne (ne_of_none (h.fr b u q) hp)]; exact h.fr b u q
  f0 := h.f0
  fresh := h.fresh
  frame := fun b u q n => by rw [upd_ne (ne_of_none (h.frame b u q n) hp)]; exact h.frame b u q n
  mem := fun b d q => by
    obtain ⟨h1, h2, h3⟩ := h.mem b d q
    exact ⟨h1, h2.mono (Same.refl _) (upd_ne (h.ne hp q)), h3⟩
  grow := fun b q => by
    by_cases e : b = p
    · subst e; rw [upd_same]; exact fun z => nomatch z
    · rw [upd_ne e]; exact h.grow b q
/-- a new thing that may change -/
theorem HM.newM (h : HM K B F m H) {p : Addr} (hp : H p = none) {o : HO} {d : D} (r : MRep K F (upd H p o) p d) : HM K B F (setM m p d) (upd H p o) where
  fr := (h.aside hp o).fr
  f0 := h.f0
  fresh := h.fresh
  frame := (h.aside hp o).frame
  mem := fun b e q => by
    by_cases z : b = p
    · subst z; rw [setM_same] at q; cases q
      exact ⟨h.fn hp, r, .inr (h.h0 hp)⟩
    · rw [setM_ne z] at q
      exact (h.aside hp o).mem b e q
  grow := (h.aside hp o).grow
/-- a thing is changed -/
theorem HM.set (h : HM K B F m H) {a : Addr} {d d' : D} {o : HO} (ha : m a = some d) (r : MRep K F (upd H a o) a d') : HM K B F (setM m a d') (upd H a o) where
  fr := fun b u q => by
    rw [upd_ne (ne_of_none q (h.mem a d ha).1)]; exact h.fr b u q
  f0 := h.f0
  fresh := h.fresh
  frame := fun b u q n => by
    by_cases e : b = a
    · subst e
      rcases (h.mem _ _ ha).2.2 with z | z
      · exact absurd n z
      · rw [z] at q; cases q
    · rw [upd_ne e]; exact h.frame b u q n
  mem := fun b e q => by
    by_cases z : b = a
    · subst z; rw [setM_same] at q; cases q
      exact ⟨(h.mem _ _ ha).1, r, (h.mem _ _ ha).2.2⟩
    · rw [setM_ne z] at q
      obtain ⟨h1, h2, h3⟩ := h.mem b e q
      exact ⟨h1, h2.mono (Same.refl _) (upd_ne z), h3⟩
  grow := fun b q => by
    by_cases e : b = a
    · subst e; rw [upd_same]; exact fun z => nomatch z
    · rw [upd_ne e]; exact h.grow b q
/-- a thing is forgotten -/
theorem HM.drop (h : HM K B F m H) {m' : Mem} (s : ∀ a d, m' a = some d → m a = some d) : HM K B F m' H := ⟨h.fr, h.f0, h.fresh, h.frame, fun a d q => h.mem a d (s a d q), h.grow⟩
/-- a thing will not change any more -/
theorem HM.freeze (h : HM K B F m H) {a : Addr} {d : D} (ha : m a = some d) : ∃ o, H a = some o ∧ HM K B (upd F a o) (delM m a) H ∧ Rep K (upd F a o) d (.ref a) ∧ Same F (upd F a o) := by
  obtain ⟨h1, h2, h3⟩ := h.mem a d ha
  obtain ⟨o, ho⟩ := h2.there
  refine ⟨o, ho, ⟨fun b u q => ?_, fun b u q => same_new h1 b u (h.f0 b u q), fun b u q => ?_, h.frame, fun b e q => ?_, h.grow⟩, h2.frozen ho h1, same_new h1⟩
  · by_cases z : b = a
    · subst z; rw [upd_same] at q; cases q; exact ho
    · rw [upd_ne z] at q; exact h.fr b u q
  · by_cases z : b = a
    · subst z
      rcases h3 with y | y
      · exact .inr (.inr y)
      · exact .inr (.inl y)
    · rw [upd_ne z] at q; exact h.fresh b u q
  · by_cases z : b = a
    · subst z; unfold delM at q; rw [if_pos rfl] at q; cases q
    · rw [delM_ne z] at q
      obtain ⟨k1, k2, k3⟩ := h.mem b e q
      exact ⟨by rw [upd_ne z]; exact k1, k2.mono (same_new h1) rfl, k3⟩
/-- a callee's entry -/
theorem HM.start (h : HM K B F m H) : HM K ⟨H, F, m⟩ F m H := ⟨h.fr, Same.refl _, fun _ _ q => .inl q, fun _ _ q _ => q, fun a d q => ⟨(h.mem a d q).1, (h.mem a d q).2.1, .inl (by show m a ≠ none; rw [q]; exact fun z => nomatch z)⟩, fun _ q => q⟩
/-- behind a call -/
theorem HM.after (h : HM K B F m H) {m' : Mem} (g : HM K ⟨H, F, m⟩ F' m' H') : HM K B F' m' H' where
  fr := g.fr
  f0 := h.f0.trans g.f0
  fresh := fun a o q => by
    rcases g.fresh a o q with z | z | z
    · exact h.fresh a o z
    · exact .inr (.inl (h.h0 z))
    · have z' : m a ≠ none := z
      cases e : m a with
      | none => exact absurd e z'
      | some u =>
        rcases (h.mem a u e).2.2 with y | y
        · exact .inr (.inr y)
        · exact .inr (.inl y)
  frame := fun a o q n => g.frame a o (h.frame a o q n) (by
    show m a = none
    cases e : m a with
    | none => rfl
    | some d =>
      rcases (h.mem a d e).2.2 with z | z
      · exact absurd n z
      · rw [z] at q; cases q)
  mem := fun a d q => by
    obtain ⟨h1, h2, h3⟩ := g.mem a d q
    refine ⟨h1, h2, ?_⟩
    rcases h3 with z | z
    · have z' : m a ≠ none := z
      cases e : m a with
      | none => exact absurd e z'
      | some u => exact (h.mem a u e).2.2
    · exact .inr (h.h0 z)
  grow := fun a q => g.grow a (h.grow a q)
/-- a thing that the code does not know -/
theorem HM.hidden {m' : Mem} (g : HM K ⟨H, F, m⟩ F' m' H') {a : Addr} {o : HO} (ho : H a = some o) (hm : m a = none) (hF : F a = none) : H' a = some o ∧ m' a = none ∧ F' a = none := by
  refine ⟨g.frame a o ho hm, ?_, ?_⟩
  · cases e : m' a with
    | none => rfl
    | some d =>
      rcases (g.mem a d e).2.2 with z | z
      · exact absurd hm z
      · have z' : H a = none := z
        rw [ho] at z'; cases z'
  · cases e : F' a with
    | none => rfl
    | some u =>
      rcases g.fresh a u e with z | z | z
      · have z' : F a = some u := z
        rw [hF] at z'; cases z'
      · have z' : H a = none := z
        rw [ho] at z'; cases z'
      · exact absurd hm z
theorem HM.poke (h : HM K B F m H) {a : Addr} (hm : m a = none) (hF : F a = none) (h0 : B.H0 a = none) (o : HO) : HM K B F m (upd H a o) where
  fr := fun b u q => by rw [upd_ne (ne_of_none q hF)]; exact h.fr b u q
  f0 := h.f0
  fresh := h.fresh
  frame := fun b u q n => by rw [upd_ne (ne_of_none q h0)]; exact h.frame b u q n
  mem := fun b d q => by
    obtain ⟨h1, h2, h3⟩ := h.mem b d q
    refine ⟨h1, h2.mono (Same.refl _) (upd_ne ?_), h3⟩
    rintro rfl
    rw [hm] at q; cases q
  grow := fun b q => by
    by_cases e : b = a
    · subst e; rw [upd_same]; exact fun z => nomatch z
    · rw [upd_ne e]; exact h.grow b q
theorem HM.adopt (h : HM K B F m H) {a : Addr} {o : HO} (hm : m a = none) (hF : F a = none) (h0 : B.H0 a = none) (ho : H a = some o) : HM K B (upd F a o) m H where
  fr := fun b u q => by
    by_cases e : b = a
    · subst e; rw [upd_same] at q; cases q; exact ho
    · rw [upd_ne e] at q; exact h.fr b u q
  f0 := fun b u q => same_new hF b u (h.f0 b u q)
  fresh := fun b u q => by
    by_cases e : b = a
    · subst e; exact .inr (.inl h0)
    · rw [upd_ne e] at q; exact h.fresh b u q
  frame := h.frame
  mem := fun b d q => by
    obtain ⟨h1, h2, h3⟩ := h.mem b d q
    have hb : b ≠ a := by
      rintro rfl
      rw [hm] at q; cases q
    exact ⟨by rw [upd_ne hb]; exact h1, h2.mono (same_new hF) rfl, h3⟩
  grow := h.grow
theorem HM.adoptM (h : HM K B F m H) {a : Addr} {d : D} (hF : F a = none) (h0 : B.H0 a = none) (r : MRep K F H a d) : HM K B F (setM m a d) H where
  fr := h.fr
  f0 := h.f0
  fresh := h.fresh
  frame := h.frame
  mem := fun b e q => by
    by_cases z : b = a
    · subst z; rw [setM_same] at q; cases q
      exact ⟨hF, r, .inr h0⟩
    · rw [setM_ne z] at q
      exact h.mem b e q
  grow := h.grow
end

/-! ### the slots -/
structure REnv (K : PySem.W.Frag) (F : Hp) (v : Env) (σ : L2.St) : Prop where
  len : σ.length = v.length
  get : ∀ (i : Nat) d, v[i]? = some (some d) → ∃ x, σ[i]? = some (some x) ∧ Rep K F d x
def look (v : Env) (i : Nat) : Option D := (v[i]?).join
theorem look_some {v : Env} {i : Nat} {d : D} (h : look v i = some d) : v[i]? = some (some d) := by
  unfold look at h
  cases e : v[i]? with
  | none => rw [e] at h; cases h
  | some o =>
    rw [e] at h
    have z : o = some d := h
    rw [z]
section
variable {K : PySem.W.Frag} {F F' : Hp} {v : Env} {σ : L2.St}
theorem REnv.mono (r : REnv K F v σ) (e : Same F F') : REnv K F' v σ := ⟨r.len, fun i d h => let ⟨x, h1, h2⟩ := r.get i d h; ⟨x, h1, rep_mono e _ h2⟩⟩
theorem REnv.set (r : REnv K F v σ) (i : Nat) {d : D} {x : V} (h : Rep K F d x) : REnv K F (v.set i (some d)) (σ.set i (some x)) := by
  refine ⟨by rw [List.length_set, List.length_set]; exact r.len, fun j e q => ?_⟩
  by_cases hj : i = j
  · subst hj
    have hl : i < v.length := by
      have := (List.getElem?_eq_some_iff.mp q).1
      rwa [List.length_set] at this
    rw [List.getElem?_set_self hl] at q
    cases q
    exact ⟨x, List.getElem?_set_self (by rw [r.len]; exact hl), h⟩
  · rw [List.getElem?_set_ne hj] at q
    obtain ⟨y, h1, h2⟩ := r.get j e q
    exact ⟨y, by rw [List.getElem?_set_ne hj]; exact h1, h2⟩
theorem REnv.weak (r : REnv K F v σ) {v' : Env} (hl : v'.length = v.length) (h : ∀ (i : Nat) d, v'[i]? = some (some d) → v[i]? = some (some d)) : REnv K F v' σ := ⟨r.len.trans hl.symm, fun i d q => r.get i d (h i d q)⟩
theorem REnv.wipe (r : REnv K F v σ) (i : Nat) : REnv K F (v.set i none) (σ.set i none) := by
  refine ⟨by rw [List.length_set, List.length_set]; exact r.len, fun j e q => ?_⟩
  by_cases hj : i = j
  · subst hj
    have hl : i < v.length := by
      have := (List.getElem?_eq_some_iff.mp q).1
      rwa [List.length_set] at this
    rw [List.getElem?_set_self hl] at q
    cases q
  · rw [List.getElem?_set_ne hj] at q
    obtain ⟨y, h1, h2⟩ := r.get j e q
    exact ⟨y, by rw [List.getElem?_set_ne hj]; exact h1, h2⟩
end

/-- an exception: its class, its fields -/
structure Exn where
  C : Str
  ns : List Str
  ds : List D
def RX (K : PySem.W.Frag) (F : Hp) (x : Exn) (dd : Addr) : Prop := ∃ fs, F dd = some (.xd fs) ∧ fs.map (·.1) = x.ns ∧ RepL K F x.ds (fs.map (·.2))
theorem RX.mono {K : PySem.W.Frag} {F F' : Hp} {x : Exn} {dd : Addr} (h : RX K F x dd) (e : Same F F') : RX K F' x dd := let ⟨fs, h1, h2, h3⟩ := h; ⟨fs, e _ _ h1, h2, repL_mono e _ h3⟩
end Ab
end

section
/-! Ab2: readings over data: expressions. -/
namespace Ab
open PySem PySem.Spec L2

abbrev KE := D → Mem → Prop
abbrev KX := Exn → Mem → Prop
abbrev KL := List D → Mem → Prop
abbrev KB := Bool → Mem → Prop
abbrev WE := Env → Mem → KE → KX → Prop
abbrev WL := Env → Mem → KL → KX → Prop
abbrev WT := Env → Mem → KB → KX → Prop

section
variable (K : PySem.W.Frag)
def QE (B : Bs) (F : Hp) (k : KE) (Q : VK) : Prop := ∀ d m F' H v, k d m → Same F F' → HM K B F' m H → Rep K F' d v → Q v H
def QL (B : Bs) (F : Hp) (k : KL) (Q : List V → Hp → Prop) : Prop := ∀ ds m F' H vs, k ds m → Same F F' → HM K B F' m H → RepL K F' ds vs → Q vs H
def QB (B : Bs) (F : Hp) (k : KB) (Q : Bool → Hp → Prop) : Prop := ∀ b m F' H, k b m → Same F F' → HM K B F' m H → Q b H
def QX (W : WX) (B : Bs) (F : Hp) (σ : L2.St) (k : KX) : Prop := ∀ x m F' H dd, k x m → Same F F' → HM K B F' m H → RX K F' x dd → W (.ref (He.ga K x.C)) (some dd) σ H
structure GE (W : WX) (t : TE) (w : WE) : Prop where
  run : ∀ {B : Bs} {F : Hp} {v : Env} {m : Mem} {σ : L2.St} {H : Hp} {k : KE} {kx : KX} {Q : VK}, HM K B F m H → REnv K F v σ → w v m k kx → QE K B F k Q → QX K W B F σ kx → t σ H Q
structure GL (W : WX) (t : TA) (w : WL) : Prop where
  run : ∀ {B : Bs} {F : Hp} {v : Env} {m : Mem} {σ : L2.St} {H : Hp} {k : KL} {kx : KX} {Q : List V → Hp → Prop}, HM K B F m H → REnv K F v σ → w v m k kx → QL K B F k Q → QX K W B F σ kx → t σ H Q
structure GT (W : WX) (t : TT) (w : WT) : Prop where
  run : ∀ {B : Bs} {F : Hp} {v : Env} {m : Mem} {σ : L2.St} {H : Hp} {k : KB} {kx : KX} {Q : Bool → Hp → Prop}, HM K B F m H → REnv K F v σ → w v m k kx → QB K B F k Q → QX K W B F σ kx → t σ H Q
end
section
variable {K : PySem.W.Frag} {B : Bs} {F F1 : Hp} {W : WX} {σ : L2.St}
theorem QE.mono {k : KE} {Q : VK} (h : QE K B F k Q) (e : Same F F1) : QE K B F1 k Q := fun d m F' H v a b c r => h d m F' H v a (e.trans b) c r
theorem QL.mono {k : KL} {Q : List V → Hp → Prop} (h : QL K B F k Q) (e : Same F F1) : QL K B F1 k Q := fun d m F' H v a b c r => h d m F' H v a (e.trans b) c r
theorem QB.mono {k : KB} {Q : Bool → Hp → Prop} (h : QB K B F k Q) (e : Same F F1) : QB K B F1 k Q := fun b m F' H a q c => h b m F' H a (e.trans q) c
theorem QX.mono {k : KX} (h : QX K W B F σ k) (e : Same F F1) : QX K W B F1 σ k := fun x m F' H dd a b c r => h x m F' H dd a (e.trans b) c r
end

/-- an expression of the text, and what it comes to -/
structure Xe (X : Cx) (W : WX) (e : Expr) (w : WE) : Prop where
  ex : ∃ t, PE X e t ∧ GE X.K W t w
structure Xl (X : Cx) (W : WX) (es : List Expr) (w : WL) : Prop where
  ex : ∃ t, PA X es t ∧ GL X.K W t w
structure Xt (X : Cx) (W : WX) (e : Expr) (w : WT) : Prop where
  ex : ∃ t, PT X e t ∧ GT X.K W t w

/-! ### what stands at a thing now -/
def res (m : Mem) : D → D
  | .raw (.ref a) => match m a with
    | some d => d
    | none => .raw (.ref a)
  | d => d
theorem res_none {m : Mem} {a : Addr} (h : m a = none) : res m (.raw (.ref a)) = .raw (.ref a) := by simp only [res, h]
theorem res_some {m : Mem} {a : Addr} {d : D} (h : m a = some d) : res m (.raw (.ref a)) = d := by simp only [res, h]
def View (K : PySem.W.Frag) (F H : Hp) : D → V → Prop
  | .lst xs, v => ∃ a vs, v = .ref a ∧ H a = some (.lst vs) ∧ RepL K F xs vs
  | .frl xs, v => ∃ a vs, v = .ref a ∧ SqL K H a vs ∧ RepL K F xs vs
  | .tup xs, v => ∃ a vs, v = .ref a ∧ SqT K H a vs ∧ RepL K F xs vs
  | .dct ks xs, v => ∃ a kvs, v = .ref a ∧ Rd H a (.dK kvs) ∧ kvs.map (·.1) = ks ∧ RepL K F xs (kvs.map (·.2))
  | .obj C ns xs, v => ∃ a dx fs, v = .ref a ∧ H a = some (.ins (He.ga K C) dx fs) ∧ fs.map (·.1) = ns ∧ RepL K F xs (fs.map (·.2))
  | .non, v => v = .non
  | .bl b, v => v = .bl b
  | .int i, v => v = .int i
  | .str x, v => v = .str x
  | .raw u, v => v = u
section
variable {K : PySem.W.Frag} {B : Bs} {F H : Hp} {m : Mem}
theorem view_of (h : HM K B F m H) {d : D} {v : V} (r : Rep K F d v) : View K F H d v := by
  cases d with
  | lst xs => unfold Rep at r; obtain ⟨a, vs, h1, h2, h3⟩ := r; exact ⟨a, vs, h1, h.fr _ _ h2, h3⟩
  | frl xs => unfold Rep at r; obtain ⟨a, vs, h1, h2, h3⟩ := r; exact ⟨a, vs, h1, h.fr.seq h2, h3⟩
  | tup xs => unfold Rep at r; obtain ⟨a, vs, h1, h2, h3⟩ := r; exact ⟨a, vs, h1, sqt_mono h.fr h2, h3⟩
  | dct ks xs => unfold Rep at r; obtain ⟨a, vs, h1, h2, h3, h4⟩ := r; exact ⟨a, vs, h1, rd_mono h.fr h2, h3, h4⟩
  | obj C ns xs => unfold Rep at r; obtain ⟨a, dx, vs, h1, h2, h3, h4⟩ := r; exact ⟨a, dx, vs, h1, h.fr _ _ h2, h3, h4⟩
  | non => unfold Rep at r; exact r
  | bl _ => unfold Rep at r; exact r
  | int _ => unfold Rep at r; exact r
  | str _ => unfold Rep at r; exact r
  | raw _ => unfold Rep at r; exact r
theorem view_res (h : HM K B F m H) {d : D} {v : V} (r : Rep K F d v) : View K F H (res m d) v := by
  cases d with
  | raw u =>
    cases u with
    | ref a =>
      unfold Rep at r
      subst r
      cases e : m a with
      | none => rw [res_none e]; exact rfl
      | some d =>
        rw [res_some e]
        obtain ⟨h1, h2, h3⟩ := h.mem a d e
        cases d with
        | lst xs => obtain ⟨vs, q, z⟩ := h2; exact ⟨a, vs, rfl, q, z⟩
        | dct ks xs => obtain ⟨vs, q, z, y⟩ := h2; exact ⟨a, vs, rfl, .inl q, z, y⟩
        | obj C ns xs => obtain ⟨dx, vs, q, z, y⟩ := h2; exact ⟨a, dx, vs, rfl, q, z, y⟩
        | _ => exact False.elim h2
    | _ => exact view_of h r
  | _ => exact view_of h r
def ViewL (K : PySem.W.Frag) (F H : Hp) : List D → List V → Prop
  | [], vs => vs = []
  | d :: ds, vs => ∃ v r, vs = v :: r ∧ View K F H d v ∧ ViewL K F H ds r
theorem viewL_res (h : HM K B F m H) : ∀ {ds : List D} {vs : List V}, RepL K F ds vs → ViewL K F H (ds.map (res m)) vs
  | [], _, r => repL_nil.mp r
  | d :: ds, _, r => by
    obtain ⟨v, t, rfl, h1, h2⟩ := repL_cons.mp r
    exact ⟨v, t, rfl, view_res h h1, viewL_res h h2⟩
end

/-! ### names, constants -/
def wVar (i : Nat) : WE := fun v m k _ => match look v i with
  | some d => k d m
  | none => False
def wCon (d : D) : WE := fun _ m k _ => k d m
section
variable {X : Cx} {W : WX} {e a b c : Expr} {es : List Expr} {pos : Pos}
theorem ge_var {K : PySem.W.Frag} {i : Nat} : GE K W (tVar i) (wVar i) := by
  refine ⟨fun {B F v m σ H k kx Q} hm re hw hq hx => ?_⟩
  unfold wVar at hw
  cases e : look v i with
  | none => rw [e] at hw; exact hw.elim
  | some d =>
    rw [e] at hw
    obtain ⟨x, h1, h2⟩ := re.get i d (look_some e)
    exact ⟨x, h1, hq d m F H x hw (Same.refl _) hm h2⟩
theorem ge_con {K : PySem.W.Frag} {d : D} {v : V} (h : ∀ F, Rep K F d v) : GE K W (tC v) (wCon d) :=
  ⟨fun {B F _ m σ H k kx Q} hm re hw hq hx => hq d m F H v hw (Same.refl _) hm (h F)⟩
theorem xe_int {i j} : Xe X W (.Constant (.int i) j pos) (wCon (.int i)) := ⟨_, pe_int, ge_con fun _ => by unfold Rep; rfl⟩
theorem xe_bl {i j} : Xe X W (.Constant (.bool i) j pos) (wCon (.bl i)) := ⟨_, pe_bl, ge_con fun _ => by unfold Rep; rfl⟩
theorem xe_non {j} : Xe X W (.Constant .none j pos) (wCon .non) := ⟨_, pe_non, ge_con fun _ => by unfold Rep; rfl⟩
theorem xe_str {x j} : Xe X W (.Constant (.str x) j pos) (wCon (.str x)) := ⟨_, pe_str, ge_con fun _ => by unfold Rep; rfl⟩

/-! ### arguments -/
def wNil : WL := fun _ m k _ => k [] m
def wCons (a : WE) (r : WL) : WL := fun v m k kx => a v m (fun d m1 => r v m1 (fun ds m2 => k (d :: ds) m2) kx) kx
theorem xl_nil : Xl X W [] wNil := ⟨_, pa_nil, ⟨fun {B F v m σ H k kx Q} hm re hw hq hx => hq [] m F H [] hw (Same.refl _) hm RepL.nil⟩⟩
theorem gl_cons {K : PySem.W.Frag} {t : TE} {u : TA} {w : WE} {r : WL} (h1 : GE K W t w) (h2 : GL K W u r) : GL K W (tCons t u) (wCons w r) := by
  refine ⟨fun {B F v m σ H k kx Q} hm re hw hq hx => ?_⟩
  refine h1.run hm re hw (fun d m1 F1 H1 x hw1 e1 hm1 r1 => ?_) hx
  refine h2.run hm1 (re.mono e1) hw1 (fun ds m2 F2 H2 xs hw2 e2 hm2 r2 => ?_) (hx.mono e1)
  exact hq (d :: ds) m2 F2 H2 _ hw2 (e1.trans e2) hm2 (RepL.cons (rep_mono e2 d r1) r2)
def starred : Expr → Bool
  | .Starred .. => true
  | _ => false
theorem star_eq (h : starred e = false) (env : PySem.Env) : starEach (e :: es) env = (false, eval e env) :: starEach es env := by
  cases e <;> first
    | rfl
    | cases h
theorem xl_cons {w : WE} {r : WL} (h : Xe X W e w) (t : Xl X W es r) (hs : starred e = false) : Xl X W (e :: es) (wCons w r) := by
  obtain ⟨te, p1, g1⟩ := h.ex
  obtain ⟨tr, p2, g2⟩ := t.ex
  exact ⟨_, pa_cons p1 p2 (star_eq hs _), gl_cons g1 g2⟩

/-! ### operations on two values -/
abbrev O2 := Mem → D → D → KE → Prop
structure GO (K : PySem.W.Frag) (r : R2) (o : O2) : Prop where
  run : ∀ {B : Bs} {F : Hp} {m : Mem} {H : Hp} {x y : V} {a b : D} {k : KE} {Q : VK}, HM K B F m H → View K F H a x → View K F H b y → o m a b k → QE K B F k Q → r x y H Q
def wOp (o : O2) (a b : WE) : WE := fun v m k kx => a v m (fun x m1 => b v m1 (fun y m2 => o m2 (res m2 x) (res m2 y) k) kx) kx
theorem ge_op {K : PySem.W.Frag} {r : R2} {o : O2} {ta tb : TE} {wa wb : WE} (g : GO K r o) (h1 : GE K W ta wa) (h2 : GE K W tb wb) : GE K W (tOp r ta tb) (wOp o wa wb) := by
  refine ⟨fun {B F v m σ H k kx Q} hm re hw hq hx => ?_⟩
  refine h1.run hm re hw (fun x m1 F1 H1 vx hw1 e1 hm1 r1 => ?_) hx
  refine h2.run hm1 (re.mono e1) hw1 (fun y m2 F2 H2 vy hw2 e2 hm2 r2 => ?_) (hx.mono e1)
  exact g.run hm2 (view_res hm2 (rep_mono e2 x r1)) (view_res hm2 r2) hw2 (hq.mono (e1.trans e2))
/-- a rule of the layer's for an operation, told of data -/
structure XO (X : Cx) (f : Value → Value → Sem Value) (o : O2) : Prop where
  ex : ∃ r, OpR X f r ∧ GO X.K r o
theorem xe_op {op : Operator} {o : O2} {wa wb : WE} (h : XO X (binaryOp op) o) (ha : Xe X W a wa) (hb : Xe X W b wb) : Xe X W (.BinOp a op b pos) (wOp o wa wb) := by
  obtain ⟨r, p, g⟩ := h.ex
  obtain ⟨ta, p1, g1⟩ := ha.ex
  obtain ⟨tb, p2, g2⟩ := hb.ex
  exact ⟨_, pe_op p p1 p2, ge_op g g1 g2⟩
theorem xe_cmp {op : CmpOp} {o : O2} {wa wb : WE} (h : XO X (compareOp op) o) (ha : Xe X W a wa) (hb : Xe X W b wb) (hm : behindInMarks op b = false) : Xe X W (.Compare a [op] [b] pos) (wOp o wa wb) := by
  obtain ⟨r, p, g⟩ := h.ex
  obtain ⟨ta, p1, g1⟩ := ha.ex
  obtain ⟨tb, p2, g2⟩ := hb.ex
  exact ⟨_, pe_cmpR p p1 p2 hm, ge_op g g1 g2⟩

/-! ### tests: a value that is a bool; a value's truth -/
def tru (m : Mem) (d : D) (k : Bool → Prop) : Prop := match res m d with
  | .non => k false
  | .bl b => k b
  | .int i => k (i != 0)
  | .str x => x.length ≤ sizeLine ∧ k ((x.length : Int) != 0)
  | .lst xs => k (!xs.isEmpty)
  | .frl xs => k (!xs.isEmpty)
  | .tup xs => k (!xs.isEmpty)
  | _ => False
theorem empty_rep {K : PySem.W.Frag} {F : Hp} {ds : List D} {vs : List V} (r : RepL K F ds vs) : vs.isEmpty = ds.isEmpty := by
  cases ds with
  | nil => rw [repL_nil.mp r] <;> rfl
  | cons d ds => obtain ⟨v, t, rfl, _, _⟩ := repL_cons.mp r; rfl
theorem tru_ok {K : PySem.W.Frag} {B : Bs} {F H : Hp} {m : Mem} {d : D} {v : V} {k : Bool → Prop} (hm : HM K B F m H) (r : Rep K F d v) (h : tru m d k) : ∃ b, TruV K v H b ∧ k b := by
  have q := view_res hm r
  unfold tru at h
  cases e : res m d with
  | non => rw [e] at h q; cases q; exact ⟨_, rfl, h⟩
  | bl b => rw [e] at h q; cases q; exact ⟨_, rfl, h⟩
  | int b => rw [e] at h q; cases q; exact ⟨_, rfl, h⟩
  | str b => rw [e] at h q; cases q; exact ⟨_, ⟨h.1, rfl⟩, h.2⟩
  | lst xs => rw [e] at h q; obtain ⟨a, vs, rfl, q1, q2⟩ := q; exact ⟨_, .inl ⟨vs, .inl (.inl q1), rfl⟩, by rw [empty_rep q2]; exact h⟩
  | frl xs => rw [e] at h q; obtain ⟨a, vs, rfl, q1, q2⟩ := q; exact ⟨_, .inl ⟨vs, q1, rfl⟩, by rw [empty_rep q2]; exact h⟩
  | tup xs => rw [e] at h q; obtain ⟨a, vs, rfl, q1, q2⟩ := q; exact ⟨_, .inr (.inl ⟨vs, q1, rfl⟩), by rw [empty_rep q2]; exact h⟩
  | _ => rw [e] at h; exact h.elim
/-- a value as a test -/
def wTru (a : WE) : WT := fun v m k kx => a v m (fun d m1 => tru m1 d fun b => k b m1) kx
theorem xt_tru {w : WE} (h : Xe X W e w) (he : ∀ whole, isTrue e X.env whole = (do let v ← whole; standAt e.pos; holding [v] (truthy v))) : Xt X W e (wTru w) := by
  obtain ⟨t, p, g⟩ := h.ex
  refine ⟨_, pt_truth p he, ⟨fun {B F v m σ H k kx Q} hm re hw hq hx => ?_⟩⟩
  refine g.run hm re hw (fun d m1 F1 H1 x hw1 e1 hm1 r1 => ?_) hx
  obtain ⟨b, hb, kb⟩ := tru_ok hm1 r1 hw1
  exact ⟨b, hb, hq b m1 F1 H1 kb e1 hm1⟩
def isB (d : D) (k : Bool → Prop) : Prop := match d with
  | .bl b => k b
  | _ => False
def wIsB (a : WE) : WT := fun v m k kx => a v m (fun d m1 => isB d fun b => k b m1) kx
theorem isB_ok {K : PySem.W.Frag} {F : Hp} {d : D} {v : V} {k : Bool → Prop} (r : Rep K F d v) (h : isB d k) : ∃ b, v = .bl b ∧ k b := by
  cases d with
  | bl b => unfold Rep at r; exact ⟨b, r, h⟩
  | _ => exact h.elim
theorem xt_cmp {op : CmpOp} {o : O2} {wa wb : WE} (h : XO X (compareOp op) o) (ha : Xe X W a wa) (hb : Xe X W b wb) (hm : behindInMarks op b = false) : Xt X W (.Compare a [op] [b] pos) (wIsB (wOp o wa wb)) := by
  obtain ⟨r, p, g⟩ := h.ex
  obtain ⟨ta, p1, g1⟩ := ha.ex
  obtain ⟨tb, p2, g2⟩ := hb.ex
  refine ⟨_, pt_cmpR p p1 p2 hm, ⟨fun {B F v m σ H k kx Q} hm re hw hq hx => ?_⟩⟩
  refine (ge_op g g1 g2).run hm re hw (fun d m1 F1 H1 x hw1 e1 hm1 r1 => ?_) hx
  obtain ⟨b, rfl, kb⟩ := isB_ok r1 hw1
  exact ⟨b, rfl, hq b m1 F1 H1 kb e1 hm1⟩
/-! ### chains -/
def wChain (o o' : O2) (a b c : WE) : WE := fun v m k kx => a v m (fun x m1 => b v m1 (fun y m2 => o m2 (res m2 x) (res m2 y) fun z m3 => isB z fun q =>
  (q = true → c v m3 (fun u m4 => o' m4 (res m4 y) (res m4 u) k) kx) ∧ (q = false → k (.bl false) m3)) kx) kx
theorem ge_chain {K : PySem.W.Frag} {r r' : R2} {o o' : O2} {ta tb tc : TE} {wa wb wc : WE} (g : GO K r o) (g' : GO K r' o') (h1 : GE K W ta wa) (h2 : GE K W tb wb) (h3 : GE K W tc wc) : GE K W (tChain r r' ta tb tc) (wChain o o' wa wb wc) := by
  refine ⟨fun {B F v m σ H k kx Q} hm re hw hq hx => ?_⟩
  refine h1.run hm re hw (fun x m1 F1 H1 vx hw1 e1 hm1 r1 => ?_) hx
  refine h2.run hm1 (re.mono e1) hw1 (fun y m2 F2 H2 vy hw2 e2 hm2 r2 => ?_) (hx.mono e1)
  refine g.run hm2 (view_res hm2 (rep_mono e2 x r1)) (view_res hm2 r2) hw2 fun d m3 F3 H3 u hk e3 hm3 r3 => ?_
  obtain ⟨q, rfl, k1, k2⟩ := isB_ok r3 hk
  have e13 := (e1.trans e2).trans e3
  refine ⟨q, rfl, ?_⟩
  cases q with
  | false =>
    rw [if_neg Bool.false_ne_true]
    exact hq (.bl false) m3 F3 H3 _ (k2 rfl) e13 hm3 (by unfold Rep; rfl)
  | true =>
    rw [if_pos rfl]
    refine h3.run hm3 (re.mono e13) (k1 rfl) (fun z m4 F4 H4 vz hw4 e4 hm4 r4 => ?_) (hx.mono e13)
    exact g'.run hm4 (view_res hm4 (rep_mono (e3.trans e4) y r2)) (view_res hm4 r4) hw4 (hq.mono (e13.trans e4))
theorem xe_chain {op op' : CmpOp} {o o' : O2} {wa wb wc : WE} (h : XO X (compareOp op) o) (h' : XO X (compareOp op') o') (ha : Xe X W a wa) (hb : Xe X W b wb) (hc : Xe X W c wc) (hm : lastMarks [op, op'] [b, c] = false) :
    Xe X W (.Compare a [op, op'] [b, c] pos) (wChain o o' wa wb wc) := by
  obtain ⟨r, p, g⟩ := h.ex
  obtain ⟨r', p', g'⟩ := h'.ex
  obtain ⟨ta, p1, g1⟩ := ha.ex
  obtain ⟨tb, p2, g2⟩ := hb.ex
  obtain ⟨tc, p3, g3⟩ := hc.ex
  exact ⟨_, pe_chain p p' p1 p2 p3 hm, ge_chain g g' g1 g2 g3⟩
theorem xt_chain {op op' : CmpOp} {o o' : O2} {wa wb wc : WE} (h : XO X (compareOp op) o) (h' : XO X (compareOp op') o') (ha : Xe X W a wa) (hb : Xe X W b wb) (hc : Xe X W c wc) (hm : lastMarks [op, op'] [b, c] = false) :
    Xt X W (.Compare a [op, op'] [b, c] pos) (wIsB (wChain o o' wa wb wc)) := by
  obtain ⟨r, p, g⟩ := h.ex
  obtain ⟨r', p', g'⟩ := h'.ex
  obtain ⟨ta, p1, g1⟩ := ha.ex
  obtain ⟨tb, p2, g2⟩ := hb.ex
  obtain ⟨tc, p3, g3⟩ := hc.ex
  refine ⟨_, pt_chain p p' p1 p2 p3 hm, ⟨fun {B F v m σ H k kx Q} hm re hw hq hx => ?_⟩⟩
  refine (ge_chain g g' g1 g2 g3).run hm re hw (fun d m1 F1 H1 x hw1 e1 hm1 r1 => ?_) hx
  obtain ⟨b, rfl, kb⟩ := isB_ok r1 hw1
  exact ⟨b, rfl, hq b m1 F1 H1 kb e1 hm1⟩

/-! ### and, or, not, one of two -/
def wAnd (a b : WT) : WT := fun v m k kx => a v m (fun q m1 => (q = true → b v m1 k kx) ∧ (q = false → k false m1)) kx
def wOr (a b : WT) : WT := fun v m k kx => a v m (fun q m1 => (q = true → k true m1) ∧ (q = false → b v m1 k kx)) kx
def wNot (a : WT) : WT := fun v m k kx => a v m (fun q m1 => k (!q) m1) kx
def wIf (c : WT) (a b : WE) : WE := fun v m k kx => c v m (fun q m1 => (q = true → a v m1 k kx) ∧ (q = false → b v m1 k kx)) kx
def wOfT (a : WT) : WE := fun v m k kx => a v m (fun q m1 => k (.bl q) m1) kx
theorem gt_and {K : PySem.W.Frag} {t u : TT} {a b : WT} (h1 : GT K W t a) (h2 : GT K W u b) : GT K W (tAnd t u) (wAnd a b) := by
  refine ⟨fun {B F v m σ H k kx Q} hm re hw hq hx => ?_⟩
  refine h1.run hm re hw (fun q m1 F1 H1 hw1 e1 hm1 => ?_) hx
  cases q with
  | true => rw [if_pos rfl]; exact h2.run hm1 (re.mono e1) (hw1.1 rfl) (hq.mono e1) (hx.mono e1)
  | false => rw [if_neg Bool.false_ne_true]; exact hq false m1 F1 H1 (hw1.2 rfl) e1 hm1
theorem gt_or {K : PySem.W.Frag} {t u : TT} {a b : WT} (h1 : GT K W t a) (h2 : GT K W u b) : GT K W (tOr t u) (wOr a b) := by
  refine ⟨fun {B F v m σ H k kx Q} hm re hw hq hx => ?_⟩
  refine h1.run hm re hw (fun q m1 F1 H1 hw1 e1 hm1 => ?_) hx
  cases q with
  | true => rw [if_pos rfl]; exact hq true m1 F1 H1 (hw1.1 rfl) e1 hm1
  | false => rw [if_neg Bool.false_ne_true]; exact h2.run hm1 (re.mono e1) (hw1.2 rfl) (hq.mono e1) (hx.mono e1)
theorem gt_not {K : PySem.W.Frag} {t : TT} {a : WT} (h1 : GT K W t a) : GT K W (tNot t) (wNot a) :=
  ⟨fun {B F v m σ H k kx Q} hm re hw hq hx => h1.run hm re hw (fun q m1 F1 H1 hw1 e1 hm1 => hq (!q) m1 F1 H1 hw1 e1 hm1) hx⟩
/-- a test whatever its whole is -/
structure Xw (X : Cx) (W : WX) (e : Expr) (w : WT) : Prop where
  ex : ∃ t, PW X e t ∧ GT X.K W t w
theorem Xw.t {w : WT} (h : Xw X W e w) : Xt X W e w := by
  obtain ⟨t, p, g⟩ := h.ex
  exact ⟨t, p.pt, g⟩
theorem xw_and1 {w : WT} (h : Xt X W a w) : Xw X W (.BoolOp .And [a] pos) w := by
  obtain ⟨t, p, g⟩ := h.ex
  exact ⟨t, pw_and1 p, g⟩
theorem xw_or1 {w : WT} (h : Xt X W a w) : Xw X W (.BoolOp .Or [a] pos) w := by
  obtain ⟨t, p, g⟩ := h.ex
  exact ⟨t, pw_or1 p, g⟩
theorem xw_and {wa wb : WT} {rest : List Expr} (ha : Xt X W a wa) (hb : Xw X W (.BoolOp .And (b :: rest) pos) wb) : Xw X W (.BoolOp .And (a :: b :: rest) pos) (wAnd wa wb) := by
  obtain ⟨t, p, g⟩ := ha.ex
  obtain ⟨u, p2, g2⟩ := hb.ex
  exact ⟨_, pw_and p p2, gt_and g g2⟩
theorem xw_or {wa wb : WT} {rest : List Expr} (ha : Xt X W a wa) (hb : Xw X W (.BoolOp .Or (b :: rest) pos) wb) : Xw X W (.BoolOp .Or (a :: b :: rest) pos) (wOr wa wb) := by
  obtain ⟨t, p, g⟩ := ha.ex
  obtain ⟨u, p2, g2⟩ := hb.ex
  exact ⟨_, pw_or p p2, gt_or g g2⟩
theorem xt_not {w : WT} (h : Xt X W a w) : Xt X W (.UnaryOp .Not a pos) (wNot w) := by
  obtain ⟨t, p, g⟩ := h.ex
  exact ⟨_, pt_not p, gt_not g⟩
theorem xe_if {wc : WT} {wa wb : WE} (hc : Xt X W c wc) (ha : Xe X W a wa) (hb : Xe X W b wb) : Xe X W (.IfExp c a b pos) (wIf wc wa wb) := by
  obtain ⟨tc, pc, gc⟩ := hc.ex
  obtain ⟨ta, pa, ga⟩ := ha.ex
  obtain ⟨tb, pb, gb⟩ := hb.ex
  refine ⟨_, pe_ifExp pc pa pb, ⟨fun {B F v m σ H k kx Q} hm re hw hq hx => ?_⟩⟩
  refine gc.run hm re hw (fun q m1 F1 H1 hw1 e1 hm1 => ?_) hx
  cases q with
  | true => rw [if_pos rfl]; exact ga.run hm1 (re.mono e1) (hw1.1 rfl) (hq.mono e1) (hx.mono e1)
  | false => rw [if_neg Bool.false_ne_true]; exact gb.run hm1 (re.mono e1) (hw1.2 rfl) (hq.mono e1) (hx.mono e1)
/-- and, or as values: by the truth of the left side -/
def wAndV (a b : WE) : WE := fun v m k kx => a v m (fun d m1 => tru m1 d fun q => (q = true → b v m1 k kx) ∧ (q = false → k d m1)) kx
def wOrV (a b : WE) : WE := fun v m k kx => a v m (fun d m1 => tru m1 d fun q => (q = true → k d m1) ∧ (q = false → b v m1 k kx)) kx
def wNotV (a : WE) : WE := fun v m k kx => a v m (fun d m1 => tru m1 d fun q => k (.bl (!q)) m1) kx
theorem ge_andV {K : PySem.W.Frag} {ta tb : TE} {a b : WE} (h1 : GE K W ta a) (h2 : GE K W tb b) : GE K W (tAndT K ta tb) (wAndV a b) := by
  refine ⟨fun {B F v m σ H k kx Q} hm re hw hq hx => ?_⟩
  refine h1.run hm re hw (fun d m1 F1 H1 x hw1 e1 hm1 r1 => ?_) hx
  obtain ⟨q, hb, k1, k2⟩ := tru_ok hm1 r1 hw1
  refine ⟨q, hb, ?_⟩
  cases q with
  | true => rw [if_pos rfl]; exact h2.run hm1 (re.mono e1) (k1 rfl) (hq.mono e1) (hx.mono e1)
  | false => rw [if_neg Bool.false_ne_true]; exact hq d m1 F1 H1 x (k2 rfl) e1 hm1 r1
theorem ge_orV {K : PySem.W.Frag} {ta tb : TE} {a b : WE} (h1 : GE K W ta a) (h2 : GE K W tb b) : GE K W (tOrT K ta tb) (wOrV a b) := by
  refine ⟨fun {B F v m σ H k kx Q} hm re hw hq hx => ?_⟩
  refine h1.run hm re hw (fun d m1 F1 H1 x hw1 e1 hm1 r1 => ?_) hx
  obtain ⟨q, hb, k1, k2⟩ := tru_ok hm1 r1 hw1
  refine ⟨q, hb, ?_⟩
  cases q with
  | true => rw [if_pos rfl]; exact hq d m1 F1 H1 x (k1 rfl) e1 hm1 r1
  | false => rw [if_neg Bool.false_ne_true]; exact h2.run hm1 (re.mono e1) (k2 rfl) (hq.mono e1) (hx.mono e1)
theorem ge_notV {K : PySem.W.Frag} {ta : TE} {a : WE} (h1 : GE K W ta a) : GE K W (tNotT K ta) (wNotV a) := by
  refine ⟨fun {B F v m σ H k kx Q} hm re hw hq hx => ?_⟩
  refine h1.run hm re hw (fun d m1 F1 H1 x hw1 e1 hm1 r1 => ?_) hx
  obtain ⟨q, hb, k1⟩ := tru_ok hm1 r1 hw1
  exact ⟨q, hb, hq _ m1 F1 H1 _ k1 e1 hm1 (by unfold Rep; rfl)⟩
/-- and, or as values -/
structure Xb (X : Cx) (W : WX) (op : BoolOp) (es : List Expr) (w : WE) : Prop where
  ex : ∀ pos, ∃ t, PE X (.BoolOp op es pos) t ∧ GE X.K W t w
theorem xb_one {op : BoolOp} {w : WE} (h : Xe X W a w) : Xb X W op [a] w := by
  obtain ⟨t, p, g⟩ := h.ex
  exact ⟨fun pos => ⟨t, pe_one p, g⟩⟩
theorem xb_and {wa wb : WE} {rest : List Expr} (ha : Xe X W a wa) (hb : Xb X W .And (b :: rest) wb) : Xb X W .And (a :: b :: rest) (wAndV wa wb) := by
  obtain ⟨t, p, g⟩ := ha.ex
  refine ⟨fun pos => ?_⟩
  obtain ⟨u, p2, g2⟩ := hb.ex pos
  exact ⟨_, pe_andT p p2, ge_andV g g2⟩
theorem xb_or {wa wb : WE} {rest : List Expr} (ha : Xe X W a wa) (hb : Xb X W .Or (b :: rest) wb) : Xb X W .Or (a :: b :: rest) (wOrV wa wb) := by
  obtain ⟨t, p, g⟩ := ha.ex
  refine ⟨fun pos => ?_⟩
  obtain ⟨u, p2, g2⟩ := hb.ex pos
  exact ⟨_, pe_orT p p2, ge_orV g g2⟩
theorem Xb.toXe {op : BoolOp} {w : WE} (h : Xb X W op es w) : Xe X W (.BoolOp op es pos) w := ⟨h.ex pos⟩
theorem xe_notV {w : WE} (h : Xe X W a w) : Xe X W (.UnaryOp .Not a pos) (wNotV w) := by
  obtain ⟨t, p, g⟩ := h.ex
  exact ⟨_, pe_notT p, ge_notV g⟩
end
end Ab
end

section
/-! Ab3: operations, displays, places, slices, calls of what the language has. -/
namespace Ab
open PySem PySem.Spec L2

/-- a new list: to stay as it is, or to be changed -/
def newK (z : Bool) (d : D) (m : Mem) (k : KE) : Prop := match z with
  | true => k d m
  | false => ∀ a, m a = none → k (.raw (.ref a)) (setM m a d)
section
variable {K : PySem.W.Frag} {B : Bs} {F H : Hp} {m : Mem}
theorem newK_ok {z : Bool} {xs : List D} {vs : List V} {k : KE} {Q : VK} {p : Addr} (hm : HM K B F m H) (hp : H p = none) (r : RepL K F xs vs) (h : newK z (.lst xs) m k) (hq : QE K B F k Q) : Q (.ref p) (upd H p (.lst vs)) := by
  cases z with
  | true => exact hq _ m _ _ _ h (same_new (hm.fn hp)) (hm.new hp _) (by unfold Rep; exact ⟨p, vs, rfl, upd_same, repL_mono (same_new (hm.fn hp)) _ r⟩)
  | false => exact hq _ _ _ _ _ (h p (hm.mn hp)) (Same.refl _) (hm.newM hp ⟨vs, upd_same, r⟩) (by unfold Rep; rfl)
theorem newT_ok {xs : List D} {vs : List V} {k : KE} {Q : VK} {p : Addr} (hm : HM K B F m H) (hp : H p = none) (r : RepL K F xs vs) (h : k (.tup xs) m) (hq : QE K B F k Q) : Q (.ref p) (upd H p (.tup vs)) :=
  hq _ m _ _ _ h (same_new (hm.fn hp)) (hm.new hp _) (by unfold Rep; exact ⟨p, vs, rfl, .inl (.inl upd_same), repL_mono (same_new (hm.fn hp)) _ r⟩)
theorem newD_ok {ks : List Key} {xs : List D} {kvs : List (Key × V)} {z : Bool} {k : KE} {Q : VK} {p : Addr} (hm : HM K B F m H) (hp : H p = none) (e : kvs.map (·.1) = ks) (r : RepL K F xs (kvs.map (·.2))) (h : newK z (.dct ks xs) m k) (hq : QE K B F k Q) : Q (.ref p) (upd H p (.dK kvs)) := by
  cases z with
  | true => exact hq _ m _ _ _ h (same_new (hm.fn hp)) (hm.new hp _) (by unfold Rep; exact ⟨p, kvs, rfl, .inl upd_same, e, repL_mono (same_new (hm.fn hp)) _ r⟩)
  | false => exact hq _ _ _ _ _ (h p (hm.mn hp)) (Same.refl _) (hm.newM hp ⟨kvs, upd_same, e, r⟩) (by unfold Rep; rfl)
theorem qint {k : KE} {Q : VK} {i : Int} (hm : HM K B F m H) (hq : QE K B F k Q) (h : k (.int i) m) : Q (.int i) H := hq _ m F H _ h (Same.refl _) hm (by unfold Rep; rfl)
theorem qbl {k : KE} {Q : VK} {i : Bool} (hm : HM K B F m H) (hq : QE K B F k Q) (h : k (.bl i) m) : Q (.bl i) H := hq _ m F H _ h (Same.refl _) hm (by unfold Rep; rfl)
theorem qstr {k : KE} {Q : VK} {i : Str} (hm : HM K B F m H) (hq : QE K B F k Q) (h : k (.str i) m) : Q (.str i) H := hq _ m F H _ h (Same.refl _) hm (by unfold Rep; rfl)
theorem qnon {k : KE} {Q : VK} (hm : HM K B F m H) (hq : QE K B F k Q) (h : k .non m) : Q .non H := hq _ m F H _ h (Same.refl _) hm (by unfold Rep; rfl)
end

/-! ### operators on ints, texts, lists -/
def oAdd (z : Bool) : O2 := fun m a b k => match a, b with
  | .int i, .int j => k (.int (i + j)) m
  | .str x, .str y => x.length + y.length ≤ sizeLine ∧ k (.str (x ++ y)) m
  | .lst xs, .lst ys => xs.length + ys.length ≤ sizeLine ∧ newK z (.lst (xs ++ ys)) m k
  | .tup xs, .tup ys => xs ≠ [] ∧ ys ≠ [] ∧ xs.length + ys.length ≤ sizeLine ∧ k (.tup (xs ++ ys)) m
  | _, _ => False
def oSub : O2 := fun m a b k => match a, b with
  | .int i, .int j => k (.int (i - j)) m
  | _, _ => False
def MulOk (i j : Int) : Prop := CMul i j ∨ CMulX i j
def oMul (z : Bool) : O2 := fun m a b k => match a, b with
  | .int i, .int j => MulOk i j ∧ k (.int (i * j)) m
  | .lst xs, .int j => -(2 ^ 63) ≤ j ∧ j < 2 ^ 63 ∧ xs.length * j.toNat ≤ sizeLine ∧ newK z (.lst (List.replicate j.toNat xs).flatten) m k
  | _, _ => False
def DivOk (j : Int) : Prop := 0 < j ∧ (j < 1073741824 ∨ j.natAbs.log2 < 9000)
def oDiv : O2 := fun m a b k => match a, b with
  | .int i, .int j => DivOk j ∧ k (.int (i / j)) m
  | _, _ => False
def oMod : O2 := fun m a b k => match a, b with
  | .int i, .int j => 0 < j ∧ k (.int (i % j)) m
  | _, _ => False
def oPow : O2 := fun m a b k => match a, b with
  | .int i, .int j => CPow i j ∧ k (.int (i ^ j.toNat)) m
  | _, _ => False
def ShlOk (i j : Int) : Prop := CPow i j ∨ CShl i j
def oShl : O2 := fun m a b k => match a, b with
  | .int i, .int j => ShlOk i j ∧ k (.int (i * 2 ^ j.toNat)) m
  | _, _ => False
def oShr : O2 := fun m a b k => match a, b with
  | .int i, .int j => 0 ≤ j ∧ k (.int (i / 2 ^ j.toNat)) m
  | _, _ => False
def oAnd : O2 := fun m a b k => match a, b with
  | .int i, .int j => k (.int (Builtin.bitAnd i j)) m
  | _, _ => False
def oOr : O2 := fun m a b k => match a, b with
  | .int i, .int j => k (.int (Builtin.bitOr i j)) m
  | _, _ => False
def oXor : O2 := fun m a b k => match a, b with
  | .int i, .int j => k (.int (Builtin.bitXor i j)) m
  | _, _ => False
section
variable {K : PySem.W.Frag}
/-- ints in, one int or bool out -/
theorem go_ints {r : R2} {o : O2} (C : Int → Int → Prop) (g : Int → Int → V) (gd : Int → Int → D) (hg : ∀ i j F, Rep K F (gd i j) (g i j)) (hr : r = rI C g)
    (ho : ∀ m a b k, o m a b k → ∃ i j, a = .int i ∧ b = .int j ∧ C i j ∧ k (gd i j) m) : GO K r o := by
  subst hr
  refine ⟨fun {B F m H x y a b k Q} hm va vb h hq => ?_⟩
  obtain ⟨i, j, rfl, rfl, hc, hk⟩ := ho m a b k h
  exact ⟨i, j, va, vb, hc, hq _ m F H _ hk (Same.refl _) hm (hg i j F)⟩
theorem go_ints0 {r : R2} {o : O2} (g : Int → Int → V) (gd : Int → Int → D) (hg : ∀ i j F, Rep K F (gd i j) (g i j)) (hr : r = rI0 g)
    (ho : ∀ m a b k, o m a b k → ∃ i j, a = .int i ∧ b = .int j ∧ k (gd i j) m) : GO K r o := by
  subst hr
  refine ⟨fun {B F m H x y a b k Q} hm va vb h hq => ?_⟩
  obtain ⟨i, j, rfl, rfl, hk⟩ := ho m a b k h
  exact ⟨i, j, va, vb, hq _ m F H _ hk (Same.refl _) hm (hg i j F)⟩
theorem rep_int {F : Hp} {i : Int} : Rep K F (.int i) (.int i) := by unfold Rep; rfl
theorem rep_bl {F : Hp} {i : Bool} : Rep K F (.bl i) (.bl i) := by unfold Rep; rfl
theorem rep_str {F : Hp} {i : Str} : Rep K F (.str i) (.str i) := by unfold Rep; rfl
theorem rep_non {F : Hp} : Rep K F .non .non := by unfold Rep; rfl
end
section
variable {X : Cx}
theorem xo_sub : XO X (binaryOp .Sub) oSub := ⟨_, op_sub, go_ints0 _ (fun i j => .int (i - j)) (fun _ _ _ => rep_int) rfl fun m a b k h => by
  cases a <;> cases b <;> first
    | exact ⟨_, _, rfl, rfl, h⟩
    | exact False.elim h⟩
theorem xo_isub : XO X (inplaceOp .Sub) oSub := ⟨_, iop_sub, go_ints0 _ (fun i j => .int (i - j)) (fun _ _ _ => rep_int) rfl fun m a b k h => by
  cases a <;> cases b <;> first
    | exact ⟨_, _, rfl, rfl, h⟩
    | exact False.elim h⟩
theorem xo_and : XO X (binaryOp .BitAnd) oAnd := ⟨_, op_and, go_ints0 _ (fun i j => .int (Builtin.bitAnd i j)) (fun _ _ _ => rep_int) rfl fun m a b k h => by
  cases a <;> cases b <;> first
    | exact ⟨_, _, rfl, rfl, h⟩
    | exact False.elim h⟩
theorem xo_or : XO X (binaryOp .BitOr) oOr := ⟨_, op_or, go_ints0 _ (fun i j => .int (Builtin.bitOr i j)) (fun _ _ _ => rep_int) rfl fun m a b k h => by
  cases a <;> cases b <;> first
    | exact ⟨_, _, rfl, rfl, h⟩
    | exact False.elim h⟩
theorem xo_xor : XO X (binaryOp .BitXor) oXor := ⟨_, op_xor, go_ints0 _ (fun i j => .int (Builtin.bitXor i j)) (fun _ _ _ => rep_int) rfl fun m a b k h => by
  cases a <;> cases b <;> first
    | exact ⟨_, _, rfl, rfl, h⟩
    | exact False.elim h⟩
theorem xo_mod : XO X (binaryOp .Mod) oMod := ⟨_, op_mod, go_ints _ _ (fun i j => .int (i % j)) (fun _ _ _ => rep_int) rfl fun m a b k h => by
  cases a <;> cases b <;> first
    | exact ⟨_, _, rfl, rfl, h.1, h.2⟩
    | exact False.elim h⟩
theorem xo_shr : XO X (binaryOp .RShift) oShr := ⟨_, op_shr, go_ints _ _ (fun i j => .int (i / 2 ^ j.toNat)) (fun _ _ _ => rep_int) rfl fun m a b k h => by
  cases a <;> cases b <;> first
    | exact ⟨_, _, rfl, rfl, h.1, h.2⟩
    | exact False.elim h⟩
theorem xo_pow : XO X (binaryOp .Pow) oPow := ⟨_, op_pow, go_ints _ _ (fun i j => .int (i ^ j.toNat)) (fun _ _ _ => rep_int) rfl fun m a b k h => by
  cases a <;> cases b <;> first
    | exact ⟨_, _, rfl, rfl, h.1, h.2⟩
    | exact False.elim h⟩
theorem xo_div : XO X (binaryOp .FloorDiv) oDiv := by
  refine ⟨_, OpR.or op_fdiv op_fdivW, ⟨fun {B F m H x y a b k Q} hm va vb h hq => ?_⟩⟩
  cases a <;> cases b <;> first
    | exact False.elim h
    | skip
  obtain ⟨⟨h1, h2⟩, h3⟩ := h
  rcases h2 with h2 | h2
  · exact .inl ⟨_, _, va, vb, ⟨h1, h2⟩, qint hm hq h3⟩
  · exact .inr ⟨_, _, va, vb, ⟨h1, h2⟩, qint hm hq h3⟩
theorem xo_shl : XO X (binaryOp .LShift) oShl := by
  refine ⟨_, OpR.or op_shl op_shlW, ⟨fun {B F m H x y a b k Q} hm va vb h hq => ?_⟩⟩
  cases a <;> cases b <;> first
    | exact False.elim h
    | skip
  obtain ⟨h2, h3⟩ := h
  rcases h2 with h2 | h2
  · exact .inl ⟨_, _, va, vb, h2, qint hm hq h3⟩
  · exact .inr ⟨_, _, va, vb, h2, qint hm hq h3⟩
theorem xo_add {z : Bool} : XO X (binaryOp .Add) (oAdd z) := by
  refine ⟨_, OpR.or op_add (OpR.or op_add_str (OpR.or op_cat op_catT)), ⟨fun {B F m H x y a b k Q} hm va vb h hq => ?_⟩⟩
  cases a <;> cases b <;> first
    | exact False.elim h
    | skip
  · exact .inl ⟨_, _, va, vb, qint hm hq h⟩
  · exact .inr (.inl ⟨_, _, va, vb, h.1, qstr hm hq h.2⟩)
  · obtain ⟨a, vs, rfl, ha, ra⟩ := va
    obtain ⟨b, us, rfl, hb, rb⟩ := vb
    refine .inr (.inr (.inl ⟨a, b, vs, us, rfl, rfl, ha, hb, by rw [ra.len, rb.len]; exact h.1, fun p hp => ?_⟩))
    exact newK_ok hm hp (ra.append rb) h.2 hq
  · obtain ⟨a, vs, rfl, ha, ra⟩ := va
    obtain ⟨b, us, rfl, hb, rb⟩ := vb
    obtain ⟨h1, h2, h3, h4⟩ := h
    have n1 : vs ≠ [] := fun e => h1 (List.length_eq_zero_iff.mp (by rw [← ra.len, e]; rfl))
    have n2 : us ≠ [] := fun e => h2 (List.length_eq_zero_iff.mp (by rw [← rb.len, e]; rfl))
    exact .inr (.inr (.inr ⟨a, b, vs, us, rfl, rfl, ha, hb, n1, by rw [ra.len, rb.len]; exact h3, fun e => absurd e n2, fun _ p hp => newT_ok hm hp (ra.append rb) h4 hq⟩))
def oIAdd : O2 := fun m a b k => match a, b with
  | .int i, .int j => k (.int (i + j)) m
  | .str x, .str y => x.length + y.length ≤ sizeLine ∧ k (.str (x ++ y)) m
  | _, _ => False
theorem xo_iadd : XO X (inplaceOp .Add) oIAdd := by
  refine ⟨_, OpR.or iop_add iop_add_str, ⟨fun {B F m H x y a b k Q} hm va vb h hq => ?_⟩⟩
  cases a <;> cases b <;> first
    | exact False.elim h
    | skip
  · exact .inl ⟨_, _, va, vb, qint hm hq h⟩
  · exact .inr ⟨_, _, va, vb, h.1, qstr hm hq h.2⟩
def oIMul : O2 := fun m a b k => match a, b with
  | .int i, .int j => CMul i j ∧ k (.int (i * j)) m
  | _, _ => False
theorem xo_imul : XO X (inplaceOp .Mult) oIMul := ⟨_, iop_mul, go_ints _ _ (fun i j => .int (i * j)) (fun _ _ _ => rep_int) rfl fun m a b k h => by
  cases a <;> cases b <;> first
    | exact ⟨_, _, rfl, rfl, h.1, h.2⟩
    | exact False.elim h⟩
theorem repL_rep {K : PySem.W.Frag} {F : Hp} {xs : List D} {vs : List V} (r : RepL K F xs vs) : ∀ n : Nat, RepL K F (List.replicate n xs).flatten (List.replicate n vs).flatten
  | 0 => RepL.nil
  | n + 1 => by
    rw [List.replicate_succ, List.replicate_succ, List.flatten_cons, List.flatten_cons]
    exact r.append (repL_rep r n)
theorem xo_mul {z : Bool} : XO X (binaryOp .Mult) (oMul z) := by
  refine ⟨_, OpR.or op_mul (OpR.or op_mulX op_rep), ⟨fun {B F m H x y a b k Q} hm va vb h hq => ?_⟩⟩
  cases a <;> cases b <;> first
    | exact False.elim h
    | skip
  · obtain ⟨h2, h3⟩ := h
    rcases h2 with h2 | h2
    · exact .inl ⟨_, _, va, vb, h2, qint hm hq h3⟩
    · exact .inr (.inl ⟨_, _, va, vb, h2, qint hm hq h3⟩)
  · obtain ⟨a, vs, rfl, ha, ra⟩ := va
    obtain ⟨h1, h2, h3, h4⟩ := h
    exact .inr (.inr ⟨a, _, vs, rfl, vb, ha, h1, h2, by rw [ra.len]; exact h3, fun p hp => newK_ok hm hp (repL_rep ra _) h4 hq⟩)

/-! ### comparisons -/
mutual
def toP : D → Option PyData
  | .non => some .none
  | .bl b => some (.bool b)
  | .int i => some (.int i)
  | .str x => some (.str x)
  | .lst xs => (toPs xs).map .list
  | .frl xs => (toPs xs).map .list
  | .tup xs => (toPs xs).map .tuple
  | _ => none
def toPs : List D → Option (List PyData)
  | [] => some []
  | d :: ds => match toP d, toPs ds with
    | some p, some q => some (p :: q)
    | _, _ => none
end
theorem toPs_cons {d : D} {ds : List D} {p : List PyData} (h : toPs (d :: ds) = some p) : ∃ q r, p = q :: r ∧ toP d = some q ∧ toPs ds = some r := by
  rw [toPs] at h
  cases e1 : toP d with
  | none => rw [e1] at h; cases h
  | some q =>
    cases e2 : toPs ds with
    | none => rw [e1, e2] at h; cases h
    | some r => rw [e1, e2] at h; cases h; exact ⟨q, r, rfl, rfl, rfl⟩
mutual
theorem dp_of {K : PySem.W.Frag} {F H : Hp} (e : Same F H) : ∀ (d : D) {v : V} {p : PyData}, Rep K F d v → toP d = some p → Dp K H v p
  | .non, _, _, r, h => by rw [toP] at h; cases h; unfold Rep at r; subst r; exact .non
  | .bl b, _, _, r, h => by rw [toP] at h; cases h; unfold Rep at r; subst r; exact .bl b
  | .int b, _, _, r, h => by rw [toP] at h; cases h; unfold Rep at r; subst r; exact .int b
  | .str b, _, _, r, h => by rw [toP] at h; cases h; unfold Rep at r; subst r; exact .str b
  | .lst xs, _, _, r, h => by
    rw [toP] at h
    unfold Rep at r
    obtain ⟨a, vs, rfl, h1, h2⟩ := r
    cases e1 : toPs xs with
    | none => rw [e1] at h; cases h
    | some q => rw [e1] at h; cases h; exact .lst (.inl (.inl (e _ _ h1))) (dps_of e xs h2 e1)
  | .frl xs, _, _, r, h => by
    rw [toP] at h
    unfold Rep at r
    obtain ⟨a, vs, rfl, h1, h2⟩ := r
    cases e1 : toPs xs with
    | none => rw [e1] at h; cases h
    | some q => rw [e1] at h; cases h; exact .lst (e.seq h1) (dps_of e xs h2 e1)
  | .tup xs, _, _, r, h => by
    rw [toP] at h
    unfold Rep at r
    obtain ⟨a, vs, rfl, h1, h2⟩ := r
    cases e1 : toPs xs with
    | none => rw [e1] at h; cases h
    | some q => rw [e1] at h; cases h; exact .tup (sqt_mono e h1) (dps_of e xs h2 e1)
  | .raw _, _, _, _, h => by rw [toP] at h; cases h; all_goals (intros; contradiction)
  | .dct _ _, _, _, _, h => by rw [toP] at h; cases h; all_goals (intros; contradiction)
  | .obj _ _ _, _, _, _, h => by rw [toP] at h; cases h; all_goals (intros; contradiction)
theorem dps_of {K : PySem.W.Frag} {F H : Hp} (e : Same F H) : ∀ (ds : List D) {vs : List V} {ps : List PyData}, RepL K F ds vs → toPs ds = some ps → DpAll K H vs ps
  | [], _, _, r, h => by rw [toPs] at h; cases h; rw [repL_nil.mp r]; exact .nil
  | d :: ds, _, _, r, h => by
    obtain ⟨q, p, rfl, h1, h2⟩ := toPs_cons h
    obtain ⟨v, t, rfl, r1, r2⟩ := repL_cons.mp r
    exact .cons (dp_of e d r1 h1) (dps_of e ds r2 h2)
end
theorem dp_view {K : PySem.W.Frag} {B : Bs} {F H : Hp} {m : Mem} (hm : HM K B F m H) {d : D} {v : V} {p : PyData} (r : View K F H d v) (h : toP d = some p) : Dp K H v p := by
  cases d with
  | non => rw [toP] at h; cases h; cases r; exact .non
  | bl b => rw [toP] at h; cases h; cases r; exact .bl b
  | int b => rw [toP] at h; cases h; cases r; exact .int b
  | str b => rw [toP] at h; cases h; cases r; exact .str b
  | lst xs =>
    rw [toP] at h
    obtain ⟨a, vs, rfl, h1, h2⟩ := r
    cases e1 : toPs xs with
    | none => rw [e1] at h; cases h
    | some q => rw [e1] at h; cases h; exact .lst (.inl (.inl h1)) (dps_of hm.fr xs h2 e1)
  | frl xs =>
    rw [toP] at h
    obtain ⟨a, vs, rfl, h1, h2⟩ := r
    cases e1 : toPs xs with
    | none => rw [e1] at h; cases h
    | some q => rw [e1] at h; cases h; exact .lst h1 (dps_of hm.fr xs h2 e1)
  | tup xs =>
    rw [toP] at h
    obtain ⟨a, vs, rfl, h1, h2⟩ := r
    cases e1 : toPs xs with
    | none => rw [e1] at h; cases h
    | some q => rw [e1] at h; cases h; exact .tup h1 (dps_of hm.fr xs h2 e1)
  | raw _ => rw [toP] at h; cases h; all_goals (intros; contradiction)
  | dct _ _ => rw [toP] at h; cases h; all_goals (intros; contradiction)
  | obj _ _ _ => rw [toP] at h; cases h; all_goals (intros; contradiction)
def eqD (m : Mem) (a b : D) (k : Bool → Prop) : Prop := ∃ p q, toP a = some p ∧ toP b = some q ∧ SeqAt.shaped p = true ∧ SeqAt.shaped q = true ∧ k (PyData.eqv p q)
def oEq : O2 := fun m a b k => match a, b with
  | .int i, .int j => k (.bl (decide (i = j))) m
  | .str i, .str j => k (.bl (decide (i = j))) m
  | .bl i, .bl j => k (.bl (decide (i = j))) m
  | .non, .non => k (.bl true) m
  | a, b => eqD m a b fun q => k (.bl q) m
def oNe : O2 := fun m a b k => match a, b with
  | .int i, .int j => k (.bl (!decide (i = j))) m
  | .str i, .str j => k (.bl (!decide (i = j))) m
  | .bl i, .bl j => k (.bl (!decide (i = j))) m
  | .non, .non => k (.bl false) m
  | a, b => eqD m a b fun q => k (.bl (!q)) m
theorem oEq_cases {m : Mem} {a b : D} {k : KE} (h : oEq m a b k) : (∃ i j, a = .int i ∧ b = .int j ∧ k (.bl (decide (i = j))) m) ∨ (∃ i j, a = .str i ∧ b = .str j ∧ k (.bl (decide (i = j))) m) ∨ (∃ i j, a = .bl i ∧ b = .bl j ∧ k (.bl (decide (i = j))) m) ∨
    (a = .non ∧ b = .non ∧ k (.bl true) m) ∨ eqD m a b fun q => k (.bl q) m := by
  unfold oEq at h
  split at h
  · exact .inl ⟨_, _, rfl, rfl, h⟩
  · exact .inr (.inl ⟨_, _, rfl, rfl, h⟩)
  · exact .inr (.inr (.inl ⟨_, _, rfl, rfl, h⟩))
  · exact .inr (.inr (.inr (.inl ⟨rfl, rfl, h⟩)))
  · exact .inr (.inr (.inr (.inr h)))
theorem oNe_cases {m : Mem} {a b : D} {k : KE} (h : oNe m a b k) : (∃ i j, a = .int i ∧ b = .int j ∧ k (.bl (!decide (i = j))) m) ∨ (∃ i j, a = .str i ∧ b = .str j ∧ k (.bl (!decide (i = j))) m) ∨ (∃ i j, a = .bl i ∧ b = .bl j ∧ k (.bl (!decide (i = j))) m) ∨
    (a = .non ∧ b = .non ∧ k (.bl false) m) ∨ eqD m a b fun q => k (.bl (!q)) m := by
  unfold oNe at h
  split at h
  · exact .inl ⟨_, _, rfl, rfl, h⟩
  · exact .inr (.inl ⟨_, _, rfl, rfl, h⟩)
  · exact .inr (.inr (.inl ⟨_, _, rfl, rfl, h⟩))
  · exact .inr (.inr (.inr (.inl ⟨rfl, rfl, h⟩)))
  · exact .inr (.inr (.inr (.inr h)))
theorem dec_iff {α β : Type} {a b : α} {c d : β} [Decidable (a = b)] [Decidable (c = d)] (h : a = b ↔ c = d) : decide (a = b) = decide (c = d) := by
  by_cases e : a = b
  · rw [decide_eq_true e, decide_eq_true (h.mp e)]
  · rw [decide_eq_false e, decide_eq_false (fun z => e (h.mpr z))]
theorem xo_eq (hu : X.A.units + 64 < cLine) : XO X (compareOp .Eq) oEq := by
  refine ⟨_, OpR.or op_eq (op_eqD hu), ⟨fun {B F m H x y a b k Q} hm va vb h hq => ?_⟩⟩
  rcases oEq_cases h with ⟨i, j, rfl, rfl, h⟩ | ⟨i, j, rfl, rfl, h⟩ | ⟨i, j, rfl, rfl, h⟩ | ⟨rfl, rfl, h⟩ | ⟨p, q, h1, h2, h3, h4, h5⟩
  · cases va; cases vb
    exact .inl ⟨rfl, qbl hm hq (by rw [dec_iff (show V.int i = V.int j ↔ i = j from ⟨fun z => V.int.inj z, fun z => by rw [z]⟩)]; exact h)⟩
  · cases va; cases vb
    exact .inl ⟨rfl, qbl hm hq (by rw [dec_iff (show V.str i = V.str j ↔ i = j from ⟨fun z => V.str.inj z, fun z => by rw [z]⟩)]; exact h)⟩
  · cases va; cases vb
    exact .inl ⟨rfl, qbl hm hq (by rw [dec_iff (show V.bl i = V.bl j ↔ i = j from ⟨fun z => V.bl.inj z, fun z => by rw [z]⟩)]; exact h)⟩
  · cases va; cases vb
    exact .inl ⟨rfl, qbl hm hq h⟩
  · exact .inr ⟨p, q, dp_view hm va h1, dp_view hm vb h2, h3, h4, qbl hm hq h5⟩
theorem xo_ne (hu : X.A.units + 64 < cLine) : XO X (compareOp .NotEq) oNe := by
  refine ⟨_, OpR.or op_ne (op_neD hu), ⟨fun {B F m H x y a b k Q} hm va vb h hq => ?_⟩⟩
  rcases oNe_cases h with ⟨i, j, rfl, rfl, h⟩ | ⟨i, j, rfl, rfl, h⟩ | ⟨i, j, rfl, rfl, h⟩ | ⟨rfl, rfl, h⟩ | ⟨p, q, h1, h2, h3, h4, h5⟩
  · cases va; cases vb
    exact .inl ⟨rfl, qbl hm hq (by rw [dec_iff (show V.int i = V.int j ↔ i = j from ⟨fun z => V.int.inj z, fun z => by rw [z]⟩)]; exact h)⟩
  · cases va; cases vb
    exact .inl ⟨rfl, qbl hm hq (by rw [dec_iff (show V.str i = V.str j ↔ i = j from ⟨fun z => V.str.inj z, fun z => by rw [z]⟩)]; exact h)⟩
  · cases va; cases vb
    exact .inl ⟨rfl, qbl hm hq (by rw [dec_iff (show V.bl i = V.bl j ↔ i = j from ⟨fun z => V.bl.inj z, fun z => by rw [z]⟩)]; exact h)⟩
  · cases va; cases vb
    exact .inl ⟨rfl, qbl hm hq h⟩
  · exact .inr ⟨p, q, dp_view hm va h1, dp_view hm vb h2, h3, h4, qbl hm hq h5⟩
def oLt : O2 := fun m a b k => match a, b with
  | .int i, .int j => k (.bl (decide (i < j))) m
  | _, _ => False
def oLe : O2 := fun m a b k => match a, b with
  | .int i, .int j => k (.bl (decide (i ≤ j))) m
  | _, _ => False
def oGt : O2 := fun m a b k => match a, b with
  | .int i, .int j => k (.bl (decide (j < i))) m
  | _, _ => False
def oGe : O2 := fun m a b k => match a, b with
  | .int i, .int j => k (.bl (decide (j ≤ i))) m
  | _, _ => False
theorem xo_lt : XO X (compareOp .Lt) oLt := ⟨_, op_lt, go_ints0 _ (fun i j => .bl (decide (i < j))) (fun _ _ _ => rep_bl) rfl fun m a b k h => by
  cases a <;> cases b <;> first
    | exact ⟨_, _, rfl, rfl, h⟩
    | exact False.elim h⟩
theorem xo_le : XO X (compareOp .LtE) oLe := ⟨_, op_le, go_ints0 _ (fun i j => .bl (decide (i ≤ j))) (fun _ _ _ => rep_bl) rfl fun m a b k h => by
  cases a <;> cases b <;> first
    | exact ⟨_, _, rfl, rfl, h⟩
    | exact False.elim h⟩
theorem xo_gt : XO X (compareOp .Gt) oGt := ⟨_, op_gt, go_ints0 _ (fun i j => .bl (decide (j < i))) (fun _ _ _ => rep_bl) rfl fun m a b k h => by
  cases a <;> cases b <;> first
    | exact ⟨_, _, rfl, rfl, h⟩
    | exact False.elim h⟩
theorem xo_ge : XO X (compareOp .GtE) oGe := ⟨_, op_ge, go_ints0 _ (fun i j => .bl (decide (j ≤ i))) (fun _ _ _ => rep_bl) rfl fun m a b k h => by
  cases a <;> cases b <;> first
    | exact ⟨_, _, rfl, rfl, h⟩
    | exact False.elim h⟩
/-- is, is not: None or a truth on the right -/
def isNonD : D → Option Bool
  | .non => some true
  | .raw _ => none
  | _ => some false
def oIs : O2 := fun m a b k => match b with
  | .non => ∃ q, isNonD a = some q ∧ k (.bl q) m
  | .bl j => ∃ i, a = .bl i ∧ k (.bl (decide (i = j))) m
  | _ => False
def oIsNot : O2 := fun m a b k => match b with
  | .non => ∃ q, isNonD a = some q ∧ k (.bl (!q)) m
  | .bl j => ∃ i, a = .bl i ∧ k (.bl (!decide (i = j))) m
  | _ => False
theorem isNon_ok {K : PySem.W.Frag} {F H : Hp} {d : D} {v : V} {q : Bool} (r : View K F H d v) (h : isNonD d = some q) : decide (v = .non) = q := by
  cases d with
  | non => cases h; cases r; rfl
  | bl _ => cases h; cases r; rfl
  | int _ => cases h; cases r; rfl
  | str _ => cases h; cases r; rfl
  | raw _ => cases h
  | lst _ => cases h; obtain ⟨a, vs, rfl, _⟩ := r; rfl
  | frl _ => cases h; obtain ⟨a, vs, rfl, _⟩ := r; rfl
  | tup _ => cases h; obtain ⟨a, vs, rfl, _⟩ := r; rfl
  | dct _ _ => cases h; obtain ⟨a, vs, rfl, _⟩ := r; rfl
  | obj _ _ _ => cases h; obtain ⟨a, dx, vs, rfl, _⟩ := r; rfl
theorem xo_is : XO X (compareOp .Is) oIs := by
  refine ⟨_, OpR.or op_isN op_isBl, ⟨fun {B F m H x y a b k Q} hm va vb h hq => ?_⟩⟩
  cases b with
  | non =>
    obtain ⟨q, h1, h2⟩ := h
    exact .inl ⟨vb, qbl hm hq (by rw [isNon_ok va h1]; exact h2)⟩
  | bl j =>
    obtain ⟨i, rfl, h2⟩ := h
    exact .inr ⟨i, j, va, vb, qbl hm hq h2⟩
  | _ => exact False.elim h
theorem xo_isnot : XO X (compareOp .IsNot) oIsNot := by
  refine ⟨_, OpR.or op_notN op_notBl, ⟨fun {B F m H x y a b k Q} hm va vb h hq => ?_⟩⟩
  cases b with
  | non =>
    obtain ⟨q, h1, h2⟩ := h
    exact .inl ⟨vb, qbl hm hq (by rw [isNon_ok va h1]; exact h2)⟩
  | bl j =>
    obtain ⟨i, rfl, h2⟩ := h
    exact .inr ⟨i, j, va, vb, qbl hm hq h2⟩
  | _ => exact False.elim h
end
end Ab
end

section
/-! Ab4: displays, places, slices, calls of what the language has, methods of lists. -/
namespace Ab
open PySem PySem.Spec L2

section
variable {X : Cx} {W : WX} {e a b c : Expr} {es : List Expr} {pos : Pos}
/-! ### displays -/
def wTup (w : WL) : WE := fun v m k kx => w v m (fun ds m1 => ds.length ≤ sizeLine ∧ k (.tup ds) m1) kx
def wLst (z : Bool) (w : WL) : WE := fun v m k kx => w v m (fun ds m1 => ds.length ≤ sizeLine ∧ newK z (.lst ds) m1 k) kx
theorem xe_tup {x1} {w : WL} (h : Xl X W es w) : Xe X W (.Tuple es x1 pos) (wTup w) := by
  obtain ⟨t, p, g⟩ := h.ex
  refine ⟨_, pe_tup p, ⟨fun {B F v m σ H k kx Q} hm re hw hq hx => ?_⟩⟩
  refine g.run hm re hw (fun ds m1 F1 H1 vs hw1 e1 hm1 r1 => ⟨by rw [r1.len]; exact hw1.1, fun p hp => newT_ok hm1 hp r1 hw1.2 (hq.mono e1)⟩) hx
theorem xe_lst {z : Bool} {w : WL} (h : Xl X W es w) : Xe X W (.List es pos) (wLst z w) := by
  obtain ⟨t, p, g⟩ := h.ex
  refine ⟨_, pe_lst p, ⟨fun {B F v m σ H k kx Q} hm re hw hq hx => ?_⟩⟩
  refine g.run hm re hw (fun ds m1 F1 H1 vs hw1 e1 hm1 r1 => ⟨by rw [r1.len]; exact hw1.1, fun p hp => newK_ok hm1 hp r1 hw1.2 (hq.mono e1)⟩) hx
/-! ### minus -/
def wNeg (a : WE) : WE := fun v m k kx => a v m (fun d m1 => match d with
  | .int i => k (.int (-i)) m1
  | _ => False) kx
theorem xe_neg {w : WE} (h : Xe X W a w) : Xe X W (.UnaryOp .USub a pos) (wNeg w) := by
  obtain ⟨t, p, g⟩ := h.ex
  refine ⟨_, pe_un un_neg p, ⟨fun {B F v m σ H k kx Q} hm re hw hq hx => ?_⟩⟩
  refine g.run hm re hw (fun d m1 F1 H1 x hw1 e1 hm1 r1 => ?_) hx
  cases d with
  | int i => unfold Rep at r1; exact ⟨i, r1, qint hm1 (hq.mono e1) hw1⟩
  | _ => exact hw1.elim
/-! ### places -/
theorem atI_rep {K : PySem.W.Frag} {F : Hp} {xs : List D} {vs : List V} {i : Int} {d : D} (r : RepL K F xs vs) (h : atI xs i = some d) : ∃ v, atI vs i = some v ∧ Rep K F d v := by
  unfold atI at *
  rw [r.len]
  cases e : ixN xs.length i with
  | none => rw [e] at h; cases h
  | some j =>
    rw [e] at h
    obtain ⟨v, h1, h2⟩ := r.get (show xs[j]? = some d from h)
    exact ⟨v, h1, h2⟩
def oIdx : O2 := fun m a b k => match a, b with
  | .lst xs, .int i => ∃ d, atI xs i = some d ∧ k d m
  | .frl xs, .int i => ∃ d, atI xs i = some d ∧ k d m
  | .tup xs, .int i => ∃ d, atI xs i = some d ∧ k d m
  | .str z, .int i => z.length ≤ sizeLine ∧ ∃ c, atI z.cps.toList i = some c ∧ k (.str ⟨#[c]⟩) m
  | _, _ => False
theorem go_idx {K : PySem.W.Frag} : GO K (rIx K) oIdx := by
  refine ⟨fun {B F m H x y a b k Q} hm va vb h hq => ?_⟩
  cases a <;> cases b <;> first
    | exact False.elim h
    | skip
  · obtain ⟨hz, c, h1, h2⟩ := h
    exact .inr (.inr ⟨_, _, c, va, vb, hz, h1, qstr hm hq h2⟩)
  · obtain ⟨a, vs, rfl, ha, ra⟩ := va
    obtain ⟨d, h1, h2⟩ := h
    obtain ⟨v, q1, q2⟩ := atI_rep ra h1
    exact .inl ⟨a, vs, _, v, rfl, vb, .inl (.inl ha), q1, hq _ m F H v h2 (Same.refl _) hm q2⟩
  · obtain ⟨a, vs, rfl, ha, ra⟩ := va
    obtain ⟨d, h1, h2⟩ := h
    obtain ⟨v, q1, q2⟩ := atI_rep ra h1
    exact .inr (.inl ⟨a, vs, _, v, rfl, vb, ha, q1, hq _ m F H v h2 (Same.refl _) hm q2⟩)
  · obtain ⟨a, vs, rfl, ha, ra⟩ := va
    obtain ⟨d, h1, h2⟩ := h
    obtain ⟨v, q1, q2⟩ := atI_rep ra h1
    exact .inl ⟨a, vs, _, v, rfl, vb, ha, q1, hq _ m F H v h2 (Same.refl _) hm q2⟩
def isSlice : Expr → Bool
  | .Slice .. => true
  | _ => false
theorem plain_ix (h : isSlice b = false) : PlainIx b := fun o i => by
  cases b <;> first
    | rfl
    | cases h
theorem xe_idx {wa wb : WE} (ha : Xe X W a wa) (hb : Xe X W b wb) (hs : isSlice b = false) : Xe X W (.Subscript a b pos) (wOp oIdx wa wb) := by
  obtain ⟨ta, p1, g1⟩ := ha.ex
  obtain ⟨tb, p2, g2⟩ := hb.ex
  exact ⟨_, pe_ix ix_seq p1 p2 (plain_ix hs), ge_op go_idx g1 g2⟩
/-! ### slices -/
abbrev WO := Env → Mem → (Option Int → Mem → Prop) → KX → Prop
def wNoPart : WO := fun _ m k _ => k none m
def wPart (a : WE) : WO := fun v m k kx => a v m (fun d m1 => match d with
  | .int i => k (some i) m1
  | _ => False) kx
structure GOp (K : PySem.W.Frag) (W : WX) (t : TO) (w : WO) : Prop where
  run : ∀ {B : Bs} {F : Hp} {v : Env} {m : Mem} {σ : L2.St} {H : Hp} {k : Option Int → Mem → Prop} {kx : KX} {Q : Option Int → Hp → Prop}, HM K B F m H → REnv K F v σ → w v m k kx →
    (∀ o m' F' H', k o m' → Same F F' → HM K B F' m' H' → Q o H') → QX K W B F σ kx → t σ H Q
structure Xo (X : Cx) (W : WX) (e : Option Expr) (w : WO) : Prop where
  ex : ∃ t, PO X e t ∧ GOp X.K W t w
theorem xo_none : Xo X W none wNoPart := ⟨_, po_none, ⟨fun {B F v m σ H k kx Q} hm re hw hq hx => hq none m F H hw (Same.refl _) hm⟩⟩
theorem xo_some {w : WE} (h : Xe X W e w) : Xo X W (some e) (wPart w) := by
  obtain ⟨t, p, g⟩ := h.ex
  refine ⟨_, po_some p, ⟨fun {B F v m σ H k kx Q} hm re hw hq hx => ?_⟩⟩
  refine g.run hm re hw (fun d m1 F1 H1 x hw1 e1 hm1 r1 => ?_) hx
  cases d with
  | int i => unfold Rep at r1; exact ⟨i, r1, hq _ m1 F1 H1 hw1 e1 hm1⟩
  | _ => exact hw1.elim
def cutD (xs : List D) (lo hi : Option Int) : List D := (xs.drop (HT.sIx xs.length 0 lo)).take (HT.sIx xs.length xs.length hi - HT.sIx xs.length 0 lo)
theorem RepL.cut {K : PySem.W.Frag} {F : Hp} {xs : List D} {vs : List V} (r : RepL K F xs vs) (lo hi : Option Int) : RepL K F (cutD xs lo hi) (cutV vs lo hi) := by
  unfold cutD cutV
  rw [r.len]
  exact (r.drop _).take _
def oSl (z : Bool) (m : Mem) (a : D) (lo hi : Option Int) (k : KE) : Prop := match a with
  | .lst xs => newK z (.lst (cutD xs lo hi)) m k
  | .frl xs => newK z (.lst (cutD xs lo hi)) m k
  | .tup xs => ¬ (HT.sIx xs.length 0 lo = 0 ∧ HT.sIx xs.length xs.length hi = xs.length) ∧ k (.tup (cutD xs lo hi)) m
  | .str x => x.length ≤ sizeLine ∧ k (.str (cutS x lo hi)) m
  | _ => False
def wSl (z : Bool) (a : WE) (l h : WO) : WE := fun v m k kx => a v m (fun d m1 => l v m1 (fun lo m2 => h v m2 (fun hi m3 => oSl z m3 (res m3 d) lo hi k) kx) kx) kx
theorem xe_sl {z : Bool} {wa : WE} {wl wh : WO} {lo hi : Option Expr} {p2 : Pos} (ha : Xe X W a wa) (hl : Xo X W lo wl) (hh : Xo X W hi wh) : Xe X W (.Subscript a (.Slice lo hi none p2) pos) (wSl z wa wl wh) := by
  obtain ⟨ta, p1, g1⟩ := ha.ex
  obtain ⟨tl, q1, gl⟩ := hl.ex
  obtain ⟨th, q2, gh⟩ := hh.ex
  refine ⟨_, pe_slice (SlR.or sl_list (SlR.or sl_tup sl_str)) p1 q1 q2, ⟨fun {B F v m σ H k kx Q} hm re hw hq hx => ?_⟩⟩
  refine g1.run hm re hw (fun d m1 F1 H1 x hw1 e1 hm1 r1 => ?_) hx
  refine gl.run hm1 (re.mono e1) hw1 (fun lo m2 F2 H2 hw2 e2 hm2 => ?_) (hx.mono e1)
  refine gh.run hm2 (re.mono (e1.trans e2)) hw2 (fun hi m3 F3 H3 hw3 e3 hm3 => ?_) (hx.mono (e1.trans e2))
  have r3 := view_res hm3 (rep_mono (e2.trans e3) d r1)
  have hq3 := hq.mono ((e1.trans e2).trans e3)
  cases q : res m3 d <;> rw [q] at r3 hw3 <;> first
    | exact False.elim hw3
    | skip
  · exact .inr (.inr ⟨_, r3, hw3.1, qstr hm3 hq3 hw3.2⟩)
  · obtain ⟨a, vs, rfl, ha, ra⟩ := r3
    exact .inl ⟨a, vs, rfl, .inl (.inl ha), fun p hp => newK_ok hm3 hp (ra.cut lo hi) hw3 hq3⟩
  · obtain ⟨a, vs, rfl, ha, ra⟩ := r3
    exact .inr (.inl ⟨a, vs, rfl, ha, by rw [ra.len]; exact hw3.1, fun p hp => newT_ok hm3 hp (ra.cut lo hi) hw3.2 hq3⟩)
  · obtain ⟨a, vs, rfl, ha, ra⟩ := r3
    exact .inl ⟨a, vs, rfl, ha, fun p hp => newK_ok hm3 hp (ra.cut lo hi) hw3 hq3⟩
/-- xs[::-1] -/
def wRev (z : Bool) (a : WE) : WE := fun v m k kx => a v m (fun d m1 => match res m1 d with
  | .lst xs => newK z (.lst xs.reverse) m1 k
  | .frl xs => newK z (.lst xs.reverse) m1 k
  | _ => False) kx
theorem xe_rev {z : Bool} {w : WE} {j : Nat} {p1 p2 p3 : Pos} (h : Xe X W a w) : Xe X W (.Subscript a (.Slice none none (some (.UnaryOp .USub (.Constant (.int 1) j p1) p2)) p3) pos) (wRev z w) := by
  obtain ⟨t, p, g⟩ := h.ex
  refine ⟨_, pe_revL p, ⟨fun {B F v m σ H k kx Q} hm re hw hq hx => ?_⟩⟩
  refine g.run hm re hw (fun d m1 F1 H1 x hw1 e1 hm1 r1 => ?_) hx
  have r3 := view_res hm1 r1
  cases q : res m1 d <;> rw [q] at r3 hw1 <;> first
    | exact False.elim hw1
    | skip
  · obtain ⟨a, vs, rfl, ha, ra⟩ := r3
    exact ⟨a, vs, rfl, .inl (.inl ha), fun p hp => newK_ok hm1 hp ra.reverse hw1 (hq.mono e1)⟩
  · obtain ⟨a, vs, rfl, ha, ra⟩ := r3
    exact ⟨a, vs, rfl, ha, fun p hp => newK_ok hm1 hp ra.reverse hw1 (hq.mono e1)⟩

/-! ### calls of what the language has -/
abbrev OC := Mem → List D → KE → Prop
structure GC (K : PySem.W.Frag) (r : List V → Hp → VK → Prop) (o : OC) : Prop where
  run : ∀ {B : Bs} {F : Hp} {m : Mem} {H : Hp} {vs : List V} {ds : List D} {k : KE} {Q : VK}, HM K B F m H → ViewL K F H ds vs → o m ds k → QE K B F k Q → r vs H Q
structure XC (X : Cx) (f : Value) (o : OC) : Prop where
  ex : ∃ r, CallR X f r ∧ GC X.K r o
def wCB (o : OC) (w : WL) : WE := fun v m k kx => w v m (fun ds m1 => o m1 (ds.map (res m1)) k) kx
theorem ge_cb {K : PySem.W.Frag} {r : List V → Hp → VK → Prop} {o : OC} {t : TA} {w : WL} (g : GC K r o) (h : GL K W t w) : GE K W (tCB r t) (wCB o w) :=
  ⟨fun {B F v m σ H k kx Q} hm re hw hq hx => h.run hm re hw (fun ds m1 F1 H1 vs hw1 e1 hm1 r1 => g.run hm1 (viewL_res hm1 r1) hw1 (hq.mono e1)) hx⟩
theorem any_star : ∀ {es : List Expr} {pos : Pos} {env : PySem.Env}, es.any starred = false → (backTo pos (starEach es env)).any (·.1) = false
  | [], _, _, _ => rfl
  | e :: es, pos, env, h => by
    rw [List.any_cons, Bool.or_eq_false_iff] at h
    rw [star_eq h.1]
    show (false || (backTo pos (starEach es env)).any (·.1)) = false
    rw [any_star h.2]
    rfl
theorem xe_callB {x : Str} {id : String} {p : Pos} {o : OC} {w : WL} (h : XC X (.builtin id) o) (hg : Gl X x) (hm : X.mg x = none) (hv : bootBuiltins x = some (.builtin id)) (ha : Xl X W (e :: es) w)
    (hn : x ≠ "__name__") (hdb : (x == ("__debug__" : Str)) = false) (hs : (e :: es).any starred = false) : Xe X W (.Call (.Name x p) (e :: es) [] pos) (wCB o w) := by
  obtain ⟨r, pc, g⟩ := h.ex
  obtain ⟨t, p1, g1⟩ := ha.ex
  rw [List.any_cons, Bool.or_eq_false_iff] at hs
  exact ⟨_, pe_callB pc hg hm hv p1 hn hdb (star_eq hs.1 _) (any_star hs.2), ge_cb g g1⟩
theorem xe_callTy {x : Str} {T : String} {p : Pos} {o : OC} {w : WL} (h : XC X (.type T) o) (hg : Gl X x) (hm : X.mg x = none) (hv : bootBuiltins x = some (.type T)) (ha : Xl X W (e :: es) w)
    (hn : x ≠ "__name__") (hdb : (x == ("__debug__" : Str)) = false) (hs : (e :: es).any starred = false) : Xe X W (.Call (.Name x p) (e :: es) [] pos) (wCB o w) := by
  obtain ⟨r, pc, g⟩ := h.ex
  obtain ⟨t, p1, g1⟩ := ha.ex
  rw [List.any_cons, Bool.or_eq_false_iff] at hs
  exact ⟨_, pe_callTy pc hg hm hv p1 hn hdb (star_eq hs.1 _) (any_star hs.2), ge_cb g g1⟩
section
variable {K : PySem.W.Frag} {F H : Hp}
theorem vl1 {d : D} {vs : List V} (h : ViewL K F H [d] vs) : ∃ v, vs = [v] ∧ View K F H d v := by
  obtain ⟨v, r, rfl, h1, h2⟩ := h
  have h2' : r = [] := h2
  rw [h2']
  exact ⟨v, rfl, h1⟩
theorem vl2 {d e : D} {vs : List V} (h : ViewL K F H [d, e] vs) : ∃ v u, vs = [v, u] ∧ View K F H d v ∧ View K F H e u := by
  obtain ⟨v, r, rfl, h1, h2⟩ := h
  obtain ⟨u, rfl, h3⟩ := vl1 h2
  exact ⟨v, u, rfl, h1, h3⟩
end
def cInt : OC := fun m ds k => match ds with
  | [.int i] => k (.int i) m
  | [.bl b] => k (.int (if b then 1 else 0)) m
  | _ => False
theorem xc_int : XC X (.type "int") cInt := by
  refine ⟨_, call_int1, ⟨fun {B F m H vs ds k Q} hm vd h hq => ?_⟩⟩
  unfold cInt at h
  split at h
  · obtain ⟨v, rfl, h1⟩ := vl1 vd
    exact .inl ⟨_, by rw [show v = _ from h1], qint hm hq h⟩
  · obtain ⟨v, rfl, h1⟩ := vl1 vd
    exact .inr ⟨_, by rw [show v = _ from h1], qint hm hq h⟩
  · exact h.elim
def cAbs : OC := fun m ds k => match ds with
  | [.int i] => k (.int (if i < 0 then -i else i)) m
  | _ => False
theorem xc_abs : XC X (.builtin "abs") cAbs := by
  refine ⟨_, call_abs, ⟨fun {B F m H vs ds k Q} hm vd h hq => ?_⟩⟩
  unfold cAbs at h
  split at h
  · obtain ⟨v, rfl, h1⟩ := vl1 vd
    exact ⟨_, by rw [show v = _ from h1], qint hm hq h⟩
  · exact h.elim
def cLen : OC := fun m ds k => match ds with
  | [.lst xs] => k (.int xs.length) m
  | [.frl xs] => k (.int xs.length) m
  | [.tup xs] => k (.int xs.length) m
  | [.str x] => x.length ≤ sizeLine ∧ k (.int x.length) m
  | _ => False
theorem xc_len : XC X (.builtin "len") cLen := by
  refine ⟨_, call_len, ⟨fun {B F m H vs ds k Q} hm vd h hq => ?_⟩⟩
  unfold cLen at h
  split at h
  · obtain ⟨v, rfl, a, vs, rfl, ha, ra⟩ := vl1 vd
    exact ⟨_, _, rfl, .inl ⟨vs, .inl (.inl ha), rfl⟩, by rw [ra.len]; exact qint hm hq h⟩
  · obtain ⟨v, rfl, a, vs, rfl, ha, ra⟩ := vl1 vd
    exact ⟨_, _, rfl, .inl ⟨vs, ha, rfl⟩, by rw [ra.len]; exact qint hm hq h⟩
  · obtain ⟨v, rfl, a, vs, rfl, ha, ra⟩ := vl1 vd
    exact ⟨_, _, rfl, .inr ⟨vs, ha, rfl⟩, by rw [ra.len]; exact qint hm hq h⟩
  · obtain ⟨v, rfl, h1⟩ := vl1 vd
    cases h1
    exact ⟨_, _, rfl, ⟨h.1, rfl⟩, qint hm hq h.2⟩
  · exact h.elim
def cMax : OC := fun m ds k => match ds with
  | [.int i, .int j] => k (.int (if j > i then j else i)) m
  | _ => False
def cMin : OC := fun m ds k => match ds with
  | [.int i, .int j] => k (.int (if j < i then j else i)) m
  | _ => False
theorem xc_max (hc : X.calm = true) : XC X (.builtin "max") cMax := by
  refine ⟨_, call_max2 hc, ⟨fun {B F m H vs ds k Q} hm vd h hq => ?_⟩⟩
  unfold cMax at h
  split at h
  · obtain ⟨v, u, rfl, h1, h2⟩ := vl2 vd
    cases h1; cases h2
    exact ⟨_, _, rfl, qint hm hq h⟩
  · exact h.elim
theorem xc_min (hc : X.calm = true) : XC X (.builtin "min") cMin := by
  refine ⟨_, call_min2 hc, ⟨fun {B F m H vs ds k Q} hm vd h hq => ?_⟩⟩
  unfold cMin at h
  split at h
  · obtain ⟨v, u, rfl, h1, h2⟩ := vl2 vd
    cases h1; cases h2
    exact ⟨_, _, rfl, qint hm hq h⟩
  · exact h.elim
theorem ints_of {K : PySem.W.Frag} {F : Hp} {xs : List D} {vs : List V} {ns : List Int} (r : RepL K F xs vs) (e : xs = ns.map D.int) : vs = ns.map V.int := by
  subst e
  exact repL_ints.mp r
def cSum : OC := fun m ds k => match ds with
  | [.lst xs] => ∃ ns : List Int, xs = ns.map D.int ∧ k (.int ns.sum) m
  | [.frl xs] => ∃ ns : List Int, xs = ns.map D.int ∧ k (.int ns.sum) m
  | _ => False
theorem xc_sum (hc : X.calm = true) : XC X (.builtin "sum") cSum := by
  refine ⟨_, cr_sum hc, ⟨fun {B F m H vs ds k Q} hm vd h hq => ?_⟩⟩
  unfold cSum at h
  split at h
  · obtain ⟨v, rfl, a, vs, rfl, ha, ra⟩ := vl1 vd
    obtain ⟨ns, h1, h2⟩ := h
    refine ⟨a, ns, rfl, ?_, qint hm hq h2⟩
    rw [← ints_of ra h1]
    exact .inl (.inl ha)
  · obtain ⟨v, rfl, a, vs, rfl, ha, ra⟩ := vl1 vd
    obtain ⟨ns, h1, h2⟩ := h
    refine ⟨a, ns, rfl, ?_, qint hm hq h2⟩
    rw [← ints_of ra h1]
    exact ha
  · exact h.elim
def cDivmod : OC := fun m ds k => match ds with
  | [.int i, .int j] => (CDiv i j ∨ CDivP i j) ∧ k (.tup [.int (i / j), .int (i % j)]) m
  | _ => False
theorem xc_divmod : XC X (.builtin "divmod") cDivmod := by
  refine ⟨_, CallR.or call_divmod call_divmodW, ⟨fun {B F m H vs ds k Q} hm vd h hq => ?_⟩⟩
  unfold cDivmod at h
  split at h
  · obtain ⟨v, u, rfl, h1, h2⟩ := vl2 vd
    cases h1; cases h2
    obtain ⟨h3, h4⟩ := h
    rcases h3 with h3 | h3
    · exact .inl ⟨_, _, rfl, h3, fun p hp => newT_ok hm hp (RepL.cons rep_int (RepL.cons rep_int RepL.nil)) h4 hq⟩
    · exact .inr ⟨_, _, rfl, h3, fun p hp => newT_ok hm hp (RepL.cons rep_int (RepL.cons rep_int RepL.nil)) h4 hq⟩
  · exact h.elim
def cStr : OC := fun m ds k => match ds with
  | [.int i] => i.natAbs.log2 < 1920 ∧ k (.str (toString i)) m
  | [.str x] => k (.str x) m
  | _ => False
theorem xc_str : XC X (.type "str") cStr := by
  refine ⟨_, CallR.or call_str_int SkE.call_str_str, ⟨fun {B F m H vs ds k Q} hm vd h hq => ?_⟩⟩
  unfold cStr at h
  split at h
  · obtain ⟨v, rfl, h1⟩ := vl1 vd
    cases h1
    exact .inl ⟨_, rfl, h.1, qstr hm hq h.2⟩
  · obtain ⟨v, rfl, h1⟩ := vl1 vd
    cases h1
    exact .inr ⟨_, rfl, qstr hm hq h⟩
  · exact h.elim
def cList (z : Bool) : OC := fun m ds k => match ds with
  | [.lst xs] => newK z (.lst xs) m k
  | [.frl xs] => newK z (.lst xs) m k
  | [.tup xs] => newK z (.lst xs) m k
  | _ => False
theorem xc_list {z : Bool} : XC X (.type "list") (cList z) := by
  refine ⟨_, call_list_of, ⟨fun {B F m H vs ds k Q} hm vd h hq => ?_⟩⟩
  unfold cList at h
  split at h
  · obtain ⟨v, rfl, a, vs, rfl, ha, ra⟩ := vl1 vd
    exact ⟨a, vs, rfl, .inl (.inl (.inl ha)), fun p hp => newK_ok hm hp ra h hq⟩
  · obtain ⟨v, rfl, a, vs, rfl, ha, ra⟩ := vl1 vd
    exact ⟨a, vs, rfl, .inl ha, fun p hp => newK_ok hm hp ra h hq⟩
  · obtain ⟨v, rfl, a, vs, rfl, ha, ra⟩ := vl1 vd
    exact ⟨a, vs, rfl, .inr ha, fun p hp => newK_ok hm hp ra h hq⟩
  · exact h.elim
def cTuple : OC := fun m ds k => match ds with
  | [.lst xs] => k (.tup xs) m
  | [.frl xs] => k (.tup xs) m
  | _ => False
theorem xc_tuple : XC X (.type "tuple") cTuple := by
  refine ⟨_, call_tuple_of, ⟨fun {B F m H vs ds k Q} hm vd h hq => ?_⟩⟩
  unfold cTuple at h
  split at h
  · obtain ⟨v, rfl, a, vs, rfl, ha, ra⟩ := vl1 vd
    exact ⟨a, vs, rfl, .inl ⟨.inl (.inl ha), fun p hp => newT_ok hm hp ra h hq⟩⟩
  · obtain ⟨v, rfl, a, vs, rfl, ha, ra⟩ := vl1 vd
    exact ⟨a, vs, rfl, .inl ⟨ha, fun p hp => newT_ok hm hp ra h hq⟩⟩
  · exact h.elim
theorem bls_of {K : PySem.W.Frag} {F : Hp} : ∀ {bs : List Bool} {vs : List V}, RepL K F (bs.map D.bl) vs → vs = bs.map V.bl
  | [], _, r => repL_nil.mp r
  | b :: bs, _, r => by
    rw [List.map_cons, repL_cons] at r
    obtain ⟨v, t, rfl, r1, r2⟩ := r
    unfold Rep at r1
    rw [r1, bls_of r2]
    rfl
def cAny : OC := fun m ds k => match ds with
  | [.lst xs] => ∃ bs : List Bool, xs = bs.map D.bl ∧ k (.bl (bs.any id)) m
  | _ => False
def cAll : OC := fun m ds k => match ds with
  | [.lst xs] => ∃ bs : List Bool, xs = bs.map D.bl ∧ k (.bl (bs.all id)) m
  | _ => False
theorem xc_any (hc : X.calm = true) : XC X (.builtin "any") cAny := by
  refine ⟨_, cr_any hc, ⟨fun {B F m H vs ds k Q} hm vd h hq => ?_⟩⟩
  unfold cAny at h
  split at h
  · obtain ⟨v, rfl, a, vs, rfl, ha, ra⟩ := vl1 vd
    obtain ⟨bs, h1, h2⟩ := h
    subst h1
    refine ⟨a, bs, rfl, ?_, qbl hm hq h2⟩
    rw [← bls_of ra]
    exact .inl (.inl ha)
  · exact h.elim
theorem xc_all (hc : X.calm = true) : XC X (.builtin "all") cAll := by
  refine ⟨_, cr_all hc, ⟨fun {B F m H vs ds k Q} hm vd h hq => ?_⟩⟩
  unfold cAll at h
  split at h
  · obtain ⟨v, rfl, a, vs, rfl, ha, ra⟩ := vl1 vd
    obtain ⟨bs, h1, h2⟩ := h
    subst h1
    refine ⟨a, bs, rfl, ?_, qbl hm hq h2⟩
    rw [← bls_of ra]
    exact .inl (.inl ha)
  · exact h.elim
/-- isinstance of the types of the language -/
def tyD : D → Option String
  | .non => some "NoneType"
  | .bl _ => some "bool"
  | .int _ => some "int"
  | .str _ => some "str"
  | .lst _ => some "list"
  | .frl _ => some "list"
  | .tup _ => some "tuple"
  | .dct _ _ => some "dict"
  | _ => none
def isTy (a b : String) : Bool := a == b || (a == "bool" && b == "int")
def tyNames : List String := ["int", "bool", "str", "list", "tuple", "dict"]
theorem kit_ok : ∀ a ∈ "NoneType" :: tyNames, ∀ b ∈ tyNames, kitB a b = some (isTy a b) := by decide +kernel
def isiK (K : PySem.W.Frag) (d : D) (c : V) (k : Bool → Prop) : Prop := match c with
  | .ty b => ∃ a, tyD d = some a ∧ b ∈ tyNames ∧ k (isTy a b)
  | .ref C => (∃ a q, tyD d = some a ∧ PySem.W.kitOne K (.type a) (.ref C) = some q ∧ k q) ∨
    ∃ E ns xs q, d = .obj E ns xs ∧ Cls K (He.ga K E) ∧ PySem.W.findIn K (.ref (He.ga K E)) "__class__" = some (some (.builtin "object.__class__")) ∧ PySem.W.specialIn K (.builtin "object.__class__") "__get__" = some (some (.builtin "getset_descriptor.__get__")) ∧
      PySem.W.takesIn K (.builtin "object.__class__") = some true ∧ PySem.W.mroIn K (He.ga K E) (.type "object") = some true ∧ PySem.W.kitOne K (.ref (He.ga K E)) (.ref C) = some q ∧ k q
  | _ => False
def cIsi (K : PySem.W.Frag) : OC := fun m ds k => match ds with
  | [d, .raw c] => isiK K d c fun q => k (.bl q) m
  | _ => False
theorem tyD_mem {d : D} {a : String} (h : tyD d = some a) : a ∈ "NoneType" :: tyNames := by
  cases d <;> cases h <;> decide
theorem tyD_ok {K : PySem.W.Frag} {F H : Hp} {d : D} {v : V} {a : String} (r : View K F H d v) (h : tyD d = some a) : TyX K H v (.type a) := by
  cases d <;> cases h
  · cases r; exact .base .non
  · cases r; exact .base (.bl _)
  · cases r; exact .base (.int _)
  · cases r; exact .base (.str _)
  · obtain ⟨a, vs, rfl, ha, ra⟩ := r; exact .base (.lst ha)
  · obtain ⟨a, vs, rfl, ha, ra⟩ := r
    rcases ha with (ha | ha) | ha
    · exact .base (.tup ha)
    · obtain ⟨o, ha⟩ := ha
      exact .fTuple ha
    · obtain ⟨o, its, n, h1, h2, _⟩ := ha
      exact .kTuple h1 h2
  · obtain ⟨a, vs, rfl, ha, ra⟩ := r
    rcases ha with (ha | ha) | ha
    · exact .base (.lst ha)
    · obtain ⟨o, ha⟩ := ha
      exact .base (.frz ha)
    · obtain ⟨o, its, n, h1, h2, _⟩ := ha
      exact .kList h1 h2
  · obtain ⟨a, vs, rfl, ha, _⟩ := r
    rcases ha with ha | ⟨o, ha⟩
    · exact .base (.dK ha)
    · exact .fDict ha
theorem xc_isi : XC X (.builtin "isinstance") (cIsi X.K) := by
  refine ⟨_, call_isi, ⟨fun {B F m H vs ds k Q} hm vd h hq => ?_⟩⟩
  unfold cIsi at h
  split at h
  · obtain ⟨v, u, rfl, h1, h2⟩ := vl2 vd
    cases h2
    unfold isiK at h
    split at h
    · obtain ⟨a, q1, q2, q3⟩ := h
      exact ⟨v, _, _, _, _, rfl, .ty _, tyD_ok h1 q1, kit_ty (kit_ok a (tyD_mem q1) _ q2), qbl hm hq q3⟩
    · rcases h with ⟨a, q, q1, q2, q3⟩ | ⟨E, ns, xs, q, rfl, c1, c2, c3, c4, c5, c6, c7⟩
      · exact ⟨v, _, _, _, q, rfl, .own _, tyD_ok h1 q1, q2, qbl hm hq q3⟩
      · obtain ⟨a, dx, fs, rfl, ha, _⟩ := h1
        exact ⟨_, _, _, _, q, rfl, .own _, .base (.ins ha c1 c2 c3 c4 c5), c6, qbl hm hq c7⟩
    · exact h.elim
  · exact h.elim
/-- repr -/
def cRepr : OC := fun m ds k => match ds with
  | [d] => ∃ p, toP d = some p ∧ p.showable = true ∧ p.depth ≤ 60 ∧ p.shown.length ≤ sizeLine ∧ k (.str p.shown) m
  | _ => False
theorem noDict_dp {K : PySem.W.Frag} {H : Hp} : ∀ {v : V} {p : PyData}, Dp K H v p → p.hasDict = false := by
  intro v p h
  have key : ∀ n, (∀ v p, sizeOf p ≤ n → Dp K H v p → p.hasDict = false) ∧ (∀ vs ps, sizeOf ps ≤ n → DpAll K H vs ps → PyData.hasDictAll ps = false) := by
    intro n
    induction n with
    | zero =>
      refine ⟨fun v p hn => ?_, fun vs ps hn => ?_⟩
      · cases p <;> simp at hn
      · cases ps <;> simp at hn
    | succ n ih =>
      refine ⟨fun v p hn hd => ?_, fun vs ps hn hd => ?_⟩
      · cases hd with
        | non => rfl
        | bl b => rfl
        | int b => rfl
        | str b => rfl
        | lst h1 h2 => rw [PyData.hasDict]; exact ih.2 _ _ (by simp at hn; omega) h2
        | tup h1 h2 => rw [PyData.hasDict]; exact ih.2 _ _ (by simp at hn; omega) h2
      · cases hd with
        | nil => rfl
        | cons h1 h2 =>
          rw [PyData.hasDictAll, ih.1 _ _ (by simp at hn; omega) h1, ih.2 _ _ (by simp at hn; omega) h2]
          rfl
  exact (key _).1 v p (Nat.le_refl _) h
theorem call_repr (hg : X.A.guards = some []) (hu : X.A.units + 100 < cLine) : CallR X (.builtin "repr") (fun xs H Q => ∃ x p, xs = [x] ∧ Dp X.K H x p ∧ p.showable = true ∧ p.depth ≤ 60 ∧ p.shown.length ≤ sizeLine ∧ Q (.str p.shown) H) := by
  intro pins s σ H xs us Q I r h
  obtain ⟨x, p, rfl, hd, h1, h2, h3, q⟩ := h
  obtain ⟨u, rfl, rx⟩ := vals1 r
  have nd := noDict_dp hd
  obtain ⟨as, rd⟩ := Dp.reads I p x u hd rx
  have fin : ∀ a, u = .ref a → wpAny (model X.prog X.w) X.A (call (.builtin "repr") [u]) (EP X pins σ Q) X.xe s := fun a e => by
    subst e
    exact repr_of_reads' rd h1 (PyData.noDict_hsm nd) hg (by omega) (fun _ _ e => e) (fun h' u tk hk => ⟨.str _, H, I.kept (t' := tk) hk, ⟨_, rfl⟩, q⟩) h3
  cases hd with
  | non => cases rx; exact PySem.P.repr_of_none ⟨.str _, H, I.tok _, ⟨_, rfl⟩, q⟩
  | bl b => cases rx; exact PySem.P.repr_of_bool ⟨.str _, H, I.tok _, ⟨_, rfl⟩, q⟩
  | int i =>
    obtain ⟨t, rfl⟩ := rx
    exact PySem.P.repr_of_int (of_decide_eq_true h1) ⟨.str _, H, I.tok _, ⟨_, rfl⟩, q⟩
  | str z =>
    obtain ⟨t, rfl⟩ := rx
    exact PySem.P.repr_of_str ⟨.str _, H, I.tok _, ⟨_, rfl⟩, q⟩ h3
  | lst _ _ => exact fin _ rx
  | tup _ _ => exact fin _ rx
theorem xc_repr (hg : X.A.guards = some []) (hu : X.A.units + 100 < cLine) : XC X (.builtin "repr") cRepr := by
  refine ⟨_, call_repr hg hu, ⟨fun {B F m H vs ds k Q} hm vd h hq => ?_⟩⟩
  unfold cRepr at h
  split at h
  · obtain ⟨v, rfl, h1⟩ := vl1 vd
    obtain ⟨p, q1, q2, q3, q4, q5⟩ := h
    exact ⟨v, p, rfl, dp_view hm h1 q1, q2, q3, q4, qstr hm hq q5⟩
  · exact h.elim
end
end Ab
end

section
/-! Ab5: methods of lists and texts, calls of defs, comprehensions. -/
namespace Ab
open PySem PySem.Spec L2

/-! ### methods of lists and texts -/
abbrev OM := Mem → D → List D → KE → Prop
def isT (T : String) (d : D) : Prop := match d with
  | .lst _ => T = "list"
  | .frl _ => T = "list"
  | .str _ => T = "str"
  | _ => False
structure GM (K : PySem.W.Frag) (r : V → List V → Hp → VK → Prop) (o : OM) : Prop where
  run : ∀ {B : Bs} {F : Hp} {m : Mem} {H : Hp} {x : V} {vs : List V} {d : D} {ds : List D} {k : KE} {Q : VK}, HM K B F m H → Rep K F d x → RepL K F ds vs → o m d ds k → QE K B F k Q → r x vs H Q
structure XM (X : Cx) (id : String) (o : OM) : Prop where
  ex : ∃ r, MtR X id r ∧ GM X.K r o
def wMt (T : String) (o : OM) (a : WE) (w : WL) : WE := fun v m k kx => a v m (fun d m1 => isT T (res m1 d) ∧ w v m1 (fun ds m2 => o m2 d ds k) kx) kx
theorem isT_ok {K : PySem.W.Frag} {F H : Hp} {T : String} {d : D} {x : V} (r : View K F H d x) (h : isT T d) : tyV K T x H := by
  cases d with
  | lst xs => obtain ⟨a, vs, rfl, ha, _⟩ := r; exact .inl ⟨h, vs, .inl (.inl ha)⟩
  | frl xs => obtain ⟨a, vs, rfl, ha, _⟩ := r; exact .inl ⟨h, vs, ha⟩
  | str z => cases r; exact h
  | _ => exact h.elim
/-- the receiver's expression is no super() -/
def noSuper : Expr → Bool
  | .Call (.Name _ _) [] [] _ => false
  | _ => true
theorem base_ok {o : Expr} (h : noSuper o = true) (n : Str) (env : PySem.Env) : attributeBase o n env (eval o env) = eval o env := by
  unfold attributeBase
  split
  · cases h
  · rfl
theorem few_ok {es : List Expr} {cpos : Pos} {env : PySem.Env} (h : es.any starred = false) (hl : es.length < 29) :
    ((backTo cpos (starEach es env)).all (fun x => !x.1) && (backToKw cpos (keywordEach [] env)).all (fun x => x.1.isSome) && decide (es.length + ([] : List Keyword).length + (if ([] : List Keyword).isEmpty then 0 else 1) < 30)) = true := by
  have h1 : (backTo cpos (starEach es env)).all (fun x => !x.1) = true := by
    have := any_star (pos := cpos) (env := env) h
    rw [List.all_eq_not_any_not]
    simp only [Bool.not_not]
    rw [this]
    rfl
  rw [h1]
  show (true && true && decide (es.length + 0 + 0 < 30)) = true
  rw [decide_eq_true (by omega)]
  rfl
section
variable {X : Cx} {W : WX} {e a b c o : Expr} {es : List Expr} {pos apos cpos : Pos}
theorem xe_mt {T id : String} {name : Str} {om : OM} {wa : WE} {w : WL} (h : XM X id om) (pa : PlainAttrs T) (slot : Slot T name id) (hty : typeOf (.builtin id) = pure (.type "method_descriptor")) (ho : Xe X W o wa) (hl : Xl X W (e :: es) w)
    (hn : noSuper o = true) (hs : (e :: es).any starred = false) (hz : (e :: es).length < 29) (hline : (apos.endLine == cpos.line) = true) : Xe X W (.Call (.Attribute o name apos) (e :: es) [] cpos) (wMt T om wa w) := by
  obtain ⟨r, pm, g⟩ := h.ex
  obtain ⟨to, p1, g1⟩ := ho.ex
  obtain ⟨t, p2, g2⟩ := hl.ex
  have hs' := hs
  rw [List.any_cons, Bool.or_eq_false_iff] at hs'
  refine ⟨_, pe_bm pa slot hty pm p1 p2 (base_ok hn _ _) (few_ok hs hz) hline (star_eq hs'.1 _) (any_star hs'.2), ⟨fun {B F v m σ H k kx Q} hm re hw hq hx => ?_⟩⟩
  refine g1.run hm re hw (fun d m1 F1 H1 x hw1 e1 hm1 r1 => ⟨isT_ok (view_res hm1 r1) hw1.1, ?_⟩) hx
  refine g2.run hm1 (re.mono e1) hw1.2 (fun ds m2 F2 H2 vs hw2 e2 hm2 r2 => ?_) (hx.mono e1)
  exact g.run hm2 (rep_mono e2 d r1) r2 hw2 (hq.mono (e1.trans e2))
theorem xe_mt0 {T id : String} {name : Str} {om : OM} {wa : WE} (h : XM X id om) (pa : PlainAttrs T) (slot : Slot T name id) (hty : typeOf (.builtin id) = pure (.type "method_descriptor")) (ho : Xe X W o wa)
    (hn : noSuper o = true) (hline : (apos.endLine == cpos.line) = true) : Xe X W (.Call (.Attribute o name apos) [] [] cpos) (wMt T om wa wNil) := by
  obtain ⟨r, pm, g⟩ := h.ex
  obtain ⟨to, p1, g1⟩ := ho.ex
  refine ⟨_, pe_bm0 pa slot hty pm p1 (base_ok hn _ _) hline, ⟨fun {B F v m σ H k kx Q} hm re hw hq hx => ?_⟩⟩
  refine g1.run hm re hw (fun d m1 F1 H1 x hw1 e1 hm1 r1 => ⟨isT_ok (view_res hm1 r1) hw1.1, ?_⟩) hx
  exact g.run hm1 r1 RepL.nil hw1.2 (hq.mono e1)
/-- a list that may be changed -/
def mutL (m : Mem) (d : D) (k : Addr → List D → Prop) : Prop := match d with
  | .raw (.ref a) => (match m a with
    | some (.lst xs) => k a xs
    | _ => False)
  | _ => False
theorem mutL_ok {m : Mem} {d : D} {k : Addr → List D → Prop} (h : mutL m d k) : ∃ a xs, d = .raw (.ref a) ∧ m a = some (.lst xs) ∧ k a xs := by
  unfold mutL at h
  split at h
  · split at h
    · exact ⟨_, _, rfl, by assumption, h⟩
    · exact h.elim
  · exact h.elim
theorem HM.setL {K : PySem.W.Frag} {B : Bs} {F H : Hp} {m : Mem} (hm : HM K B F m H) {a : Addr} {d : D} {xs : List D} {vs : List V} (ha : m a = some d) (r : RepL K F xs vs) : HM K B F (setM m a (.lst xs)) (upd H a (.lst vs)) :=
  hm.set ha ⟨vs, upd_same, r⟩
def mAppend : OM := fun m d ds k => match ds with
  | [y] => mutL m d fun a xs => xs.length < sizeLine ∧ k .non (setM m a (.lst (xs ++ [y])))
  | _ => False
theorem xm_append : XM X "list.append" mAppend := by
  refine ⟨_, mt_append, ⟨fun {B F m H x vs d ds k Q} hm r rl h hq => ?_⟩⟩
  unfold mAppend at h
  split at h
  · obtain ⟨a, xs, rfl, ha, h1, h2⟩ := mutL_ok h
    obtain ⟨y, t, rfl, ry, rt⟩ := repL_cons.mp rl
    rw [repL_nil.mp rt]
    unfold Rep at r
    subst r
    obtain ⟨us, q1, q2⟩ := (hm.mem _ _ ha).2.1
    refine ⟨a, us, y, rfl, rfl, q1, by rw [q2.len]; exact h1, ?_⟩
    exact hq _ _ F _ _ h2 (Same.refl _) (hm.setL ha (q2.append (RepL.cons ry RepL.nil))) rep_non
  · exact h.elim
def mInsert : OM := fun m d ds k => match ds with
  | [.int i, y] => mutL m d fun a xs => xs.length < sizeLine ∧ 0 ≤ i ∧ i < 2 ^ 63 ∧ k .non (setM m a (.lst (xs.take i.toNat ++ [y] ++ xs.drop i.toNat)))
  | _ => False
theorem xm_insert : XM X "list.insert" mInsert := by
  refine ⟨_, mt_insert, ⟨fun {B F m H x vs d ds k Q} hm r rl h hq => ?_⟩⟩
  unfold mInsert at h
  split at h
  · obtain ⟨a, xs, rfl, ha, h1, h2, h3, h4⟩ := mutL_ok h
    obtain ⟨y, t, rfl, ry, rt⟩ := repL_cons.mp rl
    obtain ⟨z, t, rfl, rz, rt⟩ := repL_cons.mp rt
    rw [repL_nil.mp rt]
    unfold Rep at r ry
    subst r ry
    obtain ⟨us, q1, q2⟩ := (hm.mem _ _ ha).2.1
    refine ⟨a, us, _, z, rfl, rfl, q1, by rw [q2.len]; exact h1, h2, h3, ?_⟩
    exact hq _ _ F _ _ h4 (Same.refl _) (hm.setL ha (((q2.take _).append (RepL.cons rz RepL.nil)).append (q2.drop _))) rep_non
  · exact h.elim
def mExtend : OM := fun m d ds k => match ds with
  | [y] => mutL m d fun a xs => (match res m y with
    | .lst ys => xs.length + ys.length ≤ sizeLine ∧ k .non (setM m a (.lst (xs ++ ys)))
    | _ => False)
  | _ => False
theorem xm_extend : XM X "list.extend" mExtend := by
  refine ⟨_, mt_extend, ⟨fun {B F m H x vs d ds k Q} hm r rl h hq => ?_⟩⟩
  unfold mExtend at h
  split at h
  · obtain ⟨a, xs, rfl, ha, h⟩ := mutL_ok h
    obtain ⟨y, t, rfl, ry, rt⟩ := repL_cons.mp rl
    rw [repL_nil.mp rt]
    unfold Rep at r
    subst r
    obtain ⟨us, q1, q2⟩ := (hm.mem _ _ ha).2.1
    have vy := view_res hm ry
    split at h
    · rename_i e
      rw [e] at vy
      obtain ⟨b, ws, rfl, hb, rb⟩ := vy
      refine ⟨a, b, us, ws, rfl, rfl, q1, hb, by rw [q2.len, rb.len]; exact h.1, ?_⟩
      exact hq _ _ F _ _ h.2 (Same.refl _) (hm.setL ha (q2.append rb)) rep_non
    · exact h.elim
  · exact h.elim
def mPop : OM := fun m d ds k => match ds with
  | [] => mutL m d fun a xs => ∃ y, xs[xs.length - 1]? = some y ∧ k y (setM m a (.lst xs.dropLast))
  | _ => False
theorem RepL.dropLast {K : PySem.W.Frag} {F : Hp} {xs : List D} {vs : List V} (r : RepL K F xs vs) : RepL K F xs.dropLast vs.dropLast := by
  rw [List.dropLast_eq_take, List.dropLast_eq_take, r.len]
  exact r.take _
theorem xm_pop : XM X "list.pop" mPop := by
  refine ⟨_, mt_pop, ⟨fun {B F m H x vs d ds k Q} hm r rl h hq => ?_⟩⟩
  unfold mPop at h
  split at h
  · obtain ⟨a, xs, rfl, ha, y, h1, h2⟩ := mutL_ok h
    rw [repL_nil.mp rl]
    unfold Rep at r
    subst r
    obtain ⟨us, q1, q2⟩ := (hm.mem _ _ ha).2.1
    obtain ⟨z, g1, g2⟩ := q2.get h1
    refine ⟨a, us, z, rfl, rfl, q1, by rw [q2.len]; exact g1, ?_⟩
    exact hq _ _ F _ _ h2 (Same.refl _) (hm.setL ha q2.dropLast) g2
  · exact h.elim
theorem RepL.eraseIdx {K : PySem.W.Frag} {F : Hp} : ∀ {xs : List D} {vs : List V} (i : Nat), RepL K F xs vs → RepL K F (xs.eraseIdx i) (vs.eraseIdx i)
  | [], _, _, r => by rw [repL_nil.mp r]; exact RepL.nil
  | d :: ds, _, 0, r => by
    obtain ⟨v, t, rfl, _, h⟩ := repL_cons.mp r
    exact h
  | d :: ds, _, i + 1, r => by
    obtain ⟨v, t, rfl, h1, h⟩ := repL_cons.mp r
    exact RepL.cons h1 (RepL.eraseIdx i h)
def mPopAt : OM := fun m d ds k => match ds with
  | [.int i] => mutL m d fun a xs => ∃ j y, -(2 ^ 63) ≤ i ∧ i < 2 ^ 63 ∧ seqIndex? i xs.length = some j ∧ xs[j]? = some y ∧ k y (setM m a (.lst (xs.eraseIdx j)))
  | _ => False
theorem xm_popAt : XM X "list.pop" mPopAt := by
  refine ⟨_, mt_popAt, ⟨fun {B F m H x vs d ds k Q} hm r rl h hq => ?_⟩⟩
  unfold mPopAt at h
  split at h
  · obtain ⟨a, xs, rfl, ha, j, y, h1, h2, h3, h4, h5⟩ := mutL_ok h
    obtain ⟨i, t, rfl, ri, rt⟩ := repL_cons.mp rl
    rw [repL_nil.mp rt]
    unfold Rep at r ri
    subst r ri
    obtain ⟨us, q1, q2⟩ := (hm.mem _ _ ha).2.1
    obtain ⟨z, g1, g2⟩ := q2.get h4
    refine ⟨a, us, _, j, z, rfl, rfl, q1, h1, h2, by rw [q2.len]; exact h3, g1, ?_⟩
    exact hq _ _ F _ _ h5 (Same.refl _) (hm.setL ha (q2.eraseIdx j)) g2
  · exact h.elim
end

/-! ### defs -/
inductive ARes where
  | ret (d : D)
  | exc (x : Exn)
abbrev ASp := List D → Mem → (ARes → Mem → Prop) → Prop
def toSp (K : PySem.W.Frag) (n : Nat) (sp : ASp) : Sp := fun vs H Q E => ∃ F m ds R, RepL K F ds vs ∧ ds.length = n ∧ HM K ⟨H, F, m⟩ F m H ∧ sp ds m R ∧
  (∀ d m' F' H' v, R (.ret d) m' → HM K ⟨H, F, m⟩ F' m' H' → Rep K F' d v → Q v H') ∧
  (∀ x m' F' H' dd, R (.exc x) m' → HM K ⟨H, F, m⟩ F' m' H' → RX K F' x dd → E (.ref (He.ga K x.C)) (some dd) H')
/-- what surrounds a call -/
structure Rm (k : Nat) (A : Around) : Prop where
  room : Room k A
  gd : A.guards = some []
structure FnA (P : Program) (w : World) (K : PySem.W.Frag) (mg : Str → Option Value) (base : Heap) (k : Nat) (f : Addr) (fd : FuncData) (ps : List Str) (sp : Sp) : Prop where
  len : ∀ vs H Q E, sp vs H Q E → vs.length = ps.length
  run : ∀ (A : Around) (outer : List PySem.Env) (s : Shared) (H : Hp) (args : Args) (us : List Value) (vs : List V) (Q : VK) (E : XK), Rm k A → Env0 P w K mg base A outer s H → BindsTo s fd args (ps.zip us) → Vals vs us → sp vs H Q E →
    codeAny (model P w) A (.call (.ref f) args) (CR (L2.CX P w) outer P w H s Q E) s
/-- a name of the module that is a def -/
structure CalA (P : Program) (w : World) (K : PySem.W.Frag) (mg : Str → Option Value) (base : Heap) (k : Nat) (x : Str) (n : Nat) (sp : ASp) : Prop where
  ex : ∃ f fd ps, FnA P w K mg base k f fd ps (toSp K n sp) ∧ mg x = some (.ref f) ∧ PySem.W.keepIn K (.ref f) = true ∧ Binds K fd ps []
section
variable {X : Cx} {W : WX} {e a b c o : Expr} {es : List Expr} {pos apos cpos : Pos}
theorem run_fnA {k : Nat} {f : Addr} {fd : FuncData} {ps : List Str} {sp : Sp} {E : XK} {pins : List (Addr × Obj)} {σ : L2.St} {H : Hp} {s : Shared} {Q : VK} {us : List Value} {vs : List V} (F : FnA X.prog X.w X.K X.mg X.base k f fd ps sp) (hr : Rm k X.A) (hb : Binds X.K fd ps [])
    (hx : PassesAt (L2.CX X.prog X.w) X σ E) (I : Inv X pins σ H s) (r : Vals vs us) (h : sp vs H Q E) : wpAny (model X.prog X.w) X.A (call (.ref f) us) (EP X pins σ Q) X.xe s := by
  have hl : us.length = ps.length := r.length.symm.trans (F.len _ _ _ _ h)
  have bd := hb s us I.kIn ((congrArg List.length (List.append_nil us)).trans hl)
  rw [List.append_nil] at bd
  refine wpAny_call (codeAny_mono (F.run X.A X.stack s H _ us vs Q E hr I.env0 bd r h) fun ends s' q => ?_)
  match ends, q with
  | .error e, q => exact hx pins H s e s' I q
  | .ok (.ret u), q => exact I.after q
  | .ok .next, q => exact q.elim
  | .ok .brk, q => exact q.elim
  | .ok .cont, q => exact q.elim
def wCall (n : Nat) (sp : ASp) (w : WL) : WE := fun v m k kx => w v m (fun ds m1 => ds.length = n ∧ sp ds m1 fun r m2 => match r with
  | .ret d => k d m2
  | .exc x => kx x m2) kx
/-- the promise is used -/
theorem sp_use {K : PySem.W.Frag} {B : Bs} {F H : Hp} {m : Mem} {n : Nat} {sp : ASp} {ds : List D} {vs : List V} {k : KE} {kx : KX} {Q : VK} {σ : L2.St} (hm : HM K B F m H) (r : RepL K F ds vs) (hl : ds.length = n)
    (h : sp ds m fun r m2 => match r with
      | .ret d => k d m2
      | .exc x => kx x m2) (hq : QE K B F k Q) (hx : QX K W B F σ kx) : toSp K n sp vs H Q (L2.WE W σ) := by
  refine ⟨F, m, ds, _, r, hl, hm.start, h, fun d m' F' H' v hr g rv => ?_, fun x m' F' H' dd hr g rx => ?_⟩
  · exact hq d m' F' H' v hr g.f0 (hm.after g) rv
  · exact hx x m' F' H' dd hr g.f0 (hm.after g) rx
theorem xe_call {k n : Nat} {x : Str} {sp : ASp} {p : Pos} {w : WL} (C : CalA X.prog X.w X.K X.mg X.base k x n sp) (hr : Rm k X.A) (tk : Takes X W) (hg : Gl X x) (ha : Xl X W (e :: es) w)
    (hdb : (x == ("__debug__" : Str)) = false) (hs : (e :: es).any starred = false) : Xe X W (.Call (.Name x p) (e :: es) [] pos) (wCall n sp w) := by
  obtain ⟨f, fd, ps, F, hmg, hk, hb⟩ := C.ex
  obtain ⟨t, p1, g1⟩ := ha.ex
  rw [List.any_cons, Bool.or_eq_false_iff] at hs
  have pe : PE X (.Call (.Name x p) (e :: es) [] pos) (tCallS (toSp X.K n sp) (L2.WE W) t) := by
    refine ⟨fun pins s σ H Q I h => wpAny_Call_Name_kw (ld_glob I hg hmg ?_ hdb)⟩
    exact PySem.W.callWith_K (h₀ := X.base) I.ok.mod.kin hk (thn (p1.run pos pins s σ H _ I h) fun us s1 ⟨vs, H1, I1, r, q⟩ => ⟨I1.kIn, run_fnA F hr hb (passAt tk σ) I1 r q⟩) (star_eq hs.1 _) (any_star hs.2)
  refine ⟨_, pe, ⟨fun {B F v m σ H k kx Q} hm re hw hq hx => ?_⟩⟩
  exact g1.run hm re hw (fun ds m1 F1 H1 vs hw1 e1 hm1 r1 => sp_use hm1 r1 hw1.1 hw1.2 (hq.mono e1) (hx.mono e1)) hx
theorem xe_call0 {k n : Nat} {x : Str} {sp : ASp} {p : Pos} (C : CalA X.prog X.w X.K X.mg X.base k x n sp) (hr : Rm k X.A) (tk : Takes X W) (hg : Gl X x)
    (hdb : (x == ("__debug__" : Str)) = false) : Xe X W (.Call (.Name x p) [] [] pos) (wCall n sp wNil) := by
  obtain ⟨f, fd, ps, F, hmg, hk, hb⟩ := C.ex
  have pe : PE X (.Call (.Name x p) [] [] pos) (tCallS (toSp X.K n sp) (L2.WE W) tNil) := by
    refine ⟨fun pins s σ H Q I h => wpAny_Call_Name_kw (ld_glob I hg hmg ?_ hdb)⟩
    exact PySem.W.callWith_K0 I.kIn hk (run_fnA (us := []) F hr hb (passAt tk σ) I .nil h)
  refine ⟨_, pe, ⟨fun {B F v m σ H k kx Q} hm re hw hq hx => ?_⟩⟩
  exact sp_use hm RepL.nil hw.1 hw.2 hq hx
end
end Ab
end

section
/-! Ab6: targets, what is walked, statements. -/
namespace Ab
open PySem PySem.Spec L2

/-! ### steps that no code takes -/
def Gh (v : Env) (m : Mem) (v' : Env) (m' : Mem) : Prop := ∀ (K : PySem.W.Frag) (B : Bs) (F H : Hp) (σ : L2.St), HM K B F m H → REnv K F v σ → ∃ F', Same F F' ∧ HM K B F' m' H ∧ REnv K F' v' σ
theorem Gh.refl {v : Env} {m : Mem} : Gh v m v m := fun _ _ F _ _ h r => ⟨F, Same.refl _, h, r⟩
theorem Gh.trans {v v1 v2 : Env} {m m1 m2 : Mem} (a : Gh v m v1 m1) (b : Gh v1 m1 v2 m2) : Gh v m v2 m2 := fun K B F H σ h r => by
  obtain ⟨F1, e1, h1, r1⟩ := a K B F H σ h r
  obtain ⟨F2, e2, h2, r2⟩ := b K B F1 H σ h1 r1
  exact ⟨F2, e1.trans e2, h2, r2⟩
/-- the thing in slot i will not change any more -/
theorem Gh.freeze {v : Env} {m : Mem} (i : Nat) {a : Addr} {d : D} (hi : v[i]? = some (some (.raw (.ref a)))) (ha : m a = some d) : Gh v m (v.set i (some d)) (delM m a) := fun K B F H σ h r => by
  obtain ⟨o, ho, h1, r1, e1⟩ := h.freeze ha
  obtain ⟨x, q1, q2⟩ := r.get i _ hi
  unfold Rep at q2
  subst q2
  refine ⟨_, e1, h1, ?_⟩
  have z := (r.mono e1).set i r1
  refine ⟨?_, fun j d' hj => ?_⟩
  · rw [List.length_set]; exact r.len
  · obtain ⟨y, y1, y2⟩ := z.get j d' hj
    refine ⟨y, ?_, y2⟩
    by_cases hij : i = j
    · subst hij
      rw [List.getElem?_set_self (List.getElem?_eq_some_iff.mp q1).1] at y1
      rw [q1]; exact y1
    · rw [List.getElem?_set_ne hij] at y1; exact y1
/-- things are forgotten -/
theorem Gh.drop {v v' : Env} {m m' : Mem} (hl : v'.length = v.length) (hv : ∀ (i : Nat) d, v'[i]? = some (some d) → v[i]? = some (some d)) (hm : ∀ a d, m' a = some d → m a = some d) : Gh v m v' m' := fun K B F H σ h r => ⟨F, Same.refl _, h.drop hm, r.weak hl hv⟩
def GhD (d : D) (m : Mem) (d' : D) (m' : Mem) : Prop := ∀ (K : PySem.W.Frag) (B : Bs) (F H : Hp) (x : V), HM K B F m H → Rep K F d x → ∃ F', Same F F' ∧ HM K B F' m' H ∧ Rep K F' d' x
theorem GhD.refl {d : D} {m : Mem} : GhD d m d m := fun _ _ F _ _ h r => ⟨F, Same.refl _, h, r⟩
theorem GhD.trans {d d1 d2 : D} {m m1 m2 : Mem} (a : GhD d m d1 m1) (b : GhD d1 m1 d2 m2) : GhD d m d2 m2 := fun K B F H x h r => by
  obtain ⟨F1, e1, h1, r1⟩ := a K B F H x h r
  obtain ⟨F2, e2, h2, r2⟩ := b K B F1 H x h1 r1
  exact ⟨F2, e1.trans e2, h2, r2⟩
theorem GhD.drop {d : D} {m m' : Mem} (hm : ∀ a d, m' a = some d → m a = some d) : GhD d m d m' := fun K B F H x h r => ⟨F, Same.refl _, h.drop hm, r⟩
theorem GhD.freeze {a : Addr} {d : D} {m : Mem} (ha : m a = some d) : GhD (.raw (.ref a)) m d (delM m a) := fun K B F H x h r => by
  obtain ⟨o, ho, h1, r1, e1⟩ := h.freeze ha
  unfold Rep at r
  subst r
  exact ⟨_, e1, h1, r1⟩

/-! ### targets -/
abbrev WG := D → Env → Mem → (Env → Mem → Prop) → Prop
abbrev WGs := List D → Env → Mem → (Env → Mem → Prop) → Prop
section
variable (K : PySem.W.Frag)
def QG (B : Bs) (F : Hp) (k : Env → Mem → Prop) (Q : L2.St → Hp → Prop) : Prop := ∀ v m F' H σ, k v m → Same F F' → HM K B F' m H → REnv K F' v σ → Q σ H
structure GG (t : TG) (w : WG) : Prop where
  run : ∀ {B : Bs} {F : Hp} {v : Env} {m : Mem} {σ : L2.St} {H : Hp} {d : D} {x : V} {k : Env → Mem → Prop} {Q : L2.St → Hp → Prop}, HM K B F m H → REnv K F v σ → Rep K F d x → w d v m k → QG K B F k Q → t x σ H Q
structure GGs (t : TGs) (w : WGs) : Prop where
  run : ∀ {B : Bs} {F : Hp} {v : Env} {m : Mem} {σ : L2.St} {H : Hp} {ds : List D} {xs : List V} {k : Env → Mem → Prop} {Q : L2.St → Hp → Prop}, HM K B F m H → REnv K F v σ → RepL K F ds xs → w ds v m k → QG K B F k Q → t xs σ H Q
end
theorem QG.mono {K : PySem.W.Frag} {B : Bs} {F F1 : Hp} {k : Env → Mem → Prop} {Q : L2.St → Hp → Prop} (h : QG K B F k Q) (e : Same F F1) : QG K B F1 k Q := fun v m F' H σ a q c r => h v m F' H σ a (e.trans q) c r
structure Xg (X : Cx) (tg : Expr) (w : WG) : Prop where
  ex : ∃ t, PG X tg t ∧ GG X.K t w
structure Xgs (X : Cx) (tgs : List Expr) (w : WGs) : Prop where
  ex : ∃ t, PGs X tgs t ∧ GGs X.K t w
def gN (i : Nat) : WG := fun d v m k => k (v.set i (some d)) m
def gs0 : WGs := fun ds v m k => match ds with
  | [] => k v m
  | _ => False
def gs1 (g : WG) (r : WGs) : WGs := fun ds v m k => match ds with
  | d :: ds => g d v m fun v1 m1 => r ds v1 m1 k
  | _ => False
def gT (n : Nat) (r : WGs) : WG := fun d v m k => match res m d with
  | .tup ds => ds.length = n ∧ r ds v m k
  | _ => False
def kx0 : KX := fun _ _ => False
theorem qx0 {K : PySem.W.Frag} {W : WX} {B : Bs} {F : Hp} {σ : L2.St} : QX K W B F σ kx0 := fun _ _ _ _ _ h => h.elim
def gSubL (wo wi : WE) : WG := fun d v m k => wo v m (fun o m1 => wi v m1 (fun i m2 => mutL m2 o fun a xs => match i with
  | .int j => ∃ n, ixN xs.length j = some n ∧ k v (setM m2 a (.lst (xs.set n d)))
  | _ => False) kx0) kx0
section
variable {X : Cx} {W : WX} {e a b c o : Expr} {es : List Expr} {pos apos cpos : Pos}
theorem gg_name {K : PySem.W.Frag} {i : Nat} : GG K (gName i) (gN i) := ⟨fun {B F v m σ H d x k Q} hm re r hw hq => hq _ m F H _ hw (Same.refl _) hm (re.set i r)⟩
theorem xg_name {i : Nat} {x : Str} (hN : X.N.Nodup) (hi : X.N[i]? = some x) (hx : Loc X.env.scope x) (hf : X.fn x = true ∨ X.env.scope.names.lookup x = some .local) : Xg X (.Name x pos) (gN i) := ⟨_, pg_name hN hi hx hf, gg_name⟩
theorem xgs_nil : Xgs X [] gs0 := by
  refine ⟨_, pgs_nil, ⟨fun {B F v m σ H ds xs k Q} hm re r hw hq => ?_⟩⟩
  cases ds with
  | nil => exact ⟨repL_nil.mp r, hq v m F H σ hw (Same.refl _) hm re⟩
  | cons d ds => exact hw.elim
theorem assign_eq (h : starred e = false) (env : PySem.Env) : (assignEach (e :: es) env).map (·.2) = assign e env :: (assignEach es env).map (·.2) := by
  cases e <;> first
    | rfl
    | cases h
theorem xgs_cons {g : WG} {r : WGs} (h1 : Xg X e g) (h2 : Xgs X es r) (hs : starred e = false) : Xgs X (e :: es) (gs1 g r) := by
  obtain ⟨t, p, q⟩ := h1.ex
  obtain ⟨u, p2, q2⟩ := h2.ex
  refine ⟨_, pgs_cons p p2 (assign_eq hs _), ⟨fun {B F v m σ H ds xs k Q} hm re rl hw hq => ?_⟩⟩
  cases ds with
  | nil => exact hw.elim
  | cons d ds =>
    obtain ⟨x, xr, rfl, r1, r2⟩ := repL_cons.mp rl
    refine ⟨x, xr, rfl, q.run hm re r1 hw fun v1 m1 F1 H1 σ1 hw1 e1 hm1 re1 => ?_⟩
    exact q2.run hm1 re1 (repL_mono e1 _ r2) hw1 (hq.mono e1)
theorem assign_len : ∀ {es : List Expr} {env : PySem.Env}, (assignEach es env).length = es.length
  | [], _ => rfl
  | e :: es, env => by
    have h := assign_len (es := es) (env := env)
    cases e <;> (show (assignEach es env).length + 1 = es.length + 1; rw [h])
theorem assign_star : ∀ {es : List Expr} {env : PySem.Env}, es.any starred = false → (assignEach es env).findIdx? (·.1) = none
  | [], _, _ => rfl
  | e :: es, env, h => by
    rw [List.any_cons, Bool.or_eq_false_iff] at h
    have ih := assign_star (es := es) (env := env) h.2
    have q : ∃ t, assignEach (e :: es) env = (false, t) :: assignEach es env := by
      cases e <;> first
        | exact ⟨_, rfl⟩
        | exact absurd h.1 Bool.noConfusion
    obtain ⟨t, q⟩ := q
    rw [q, List.findIdx?_cons, ih]
    rfl
theorem xg_tup {j : Nat} {r : WGs} (hc : X.calm = true) (h : Xgs X es r) (hs : es.any starred = false) : Xg X (.Tuple es j pos) (gT es.length r) := by
  obtain ⟨t, p, q⟩ := h.ex
  refine ⟨_, pg_tup hc p assign_len (assign_star hs), ⟨fun {B F v m σ H d x k Q} hm re rl hw hq => ?_⟩⟩
  have vr := view_res hm rl
  unfold gT at hw
  split at hw
  · rename_i e
    rw [e] at vr
    obtain ⟨a, vs, rfl, ha, ra⟩ := vr
    have rs : RepL X.K F _ vs := ra
    exact ⟨a, vs, rfl, ha, by rw [ra.len]; exact hw.1, q.run hm re rs hw.2 hq⟩
  · exact hw.elim
theorem assign_sub (hs : isSlice b = false) (env : PySem.Env) (v : Value) : assign (.Subscript a b pos) env v = (do
      let ov ← holding [v] (eval a env)
      let iv ← holding [v, ov] (eval b env)
      standAt pos
      holding [v, ov, iv] (setItem ov iv v)
      release [v, ov, iv] []) := by
  cases b <;> first
    | rfl
    | cases hs
theorem xg_sub {wo wi : WE} (ho : Xe X (fun _ _ _ _ => False) a wo) (hi : Xe X (fun _ _ _ _ => False) b wi) (hs : isSlice b = false) : Xg X (.Subscript a b pos) (gSubL wo wi) := by
  obtain ⟨to, p1, g1⟩ := ho.ex
  obtain ⟨ti, p2, g2⟩ := hi.ex
  refine ⟨_, pg_sub p1 p2 set_list (assign_sub hs X.env), ⟨fun {B F v m σ H d x k Q} hm re rl hw hq => ?_⟩⟩
  refine g1.run hm re hw (fun o m1 F1 H1 vo hw1 e1 hm1 r1 => ?_) qx0
  refine g2.run hm1 (re.mono e1) hw1 (fun i m2 F2 H2 vi hw2 e2 hm2 r2 => ?_) qx0
  obtain ⟨p, xs, rfl, hp, hw3⟩ := mutL_ok hw2
  cases i with
  | int j =>
    obtain ⟨n, h1, h2⟩ := hw3
    unfold Rep at r1 r2
    subst r1 r2
    obtain ⟨us, q1, q2⟩ := (hm2.mem _ _ hp).2.1
    refine ⟨p, us, j, n, rfl, rfl, q1, by rw [q2.len]; exact h1, ?_⟩
    exact hq _ _ F2 _ _ h2 (e1.trans e2) (hm2.setL hp (q2.set n (rep_mono (e1.trans e2) d rl))) (re.mono (e1.trans e2))
  | _ => exact hw3.elim
end

/-! ### what is walked -/
abbrev WI := Env → Mem → KL → KX → Prop
/-- the walk yields these -/
def JOk (K : PySem.W.Frag) (J : It) (items : List D) (F : Hp) : Prop := ∀ i H F1, Same F F1 → Same F1 H → (i < items.length → J.go i H ∧ ∀ x H', J.yld i H x H' → ∃ d F2, items[i]? = some d ∧ Rep K F2 d x ∧
    ((F2 = F1 ∧ H' = H) ∨ ∃ p o, H p = none ∧ F2 = upd F1 p o ∧ H' = upd H p o)) ∧ (items.length ≤ i → J.stop i H)
structure GI (K : PySem.W.Frag) (W : WX) (t : TI) (w : WI) : Prop where
  run : ∀ {B : Bs} {F : Hp} {v : Env} {m : Mem} {σ : L2.St} {H : Hp} {k : KL} {kx : KX} {R : It → Hp → Prop}, HM K B F m H → REnv K F v σ → w v m k kx →
    (∀ J items m1 F1 H1, k items m1 → Same F F1 → HM K B F1 m1 H1 → JOk K J items F1 → R J H1) → QX K W B F σ kx → t σ H R
structure Xi (X : Cx) (W : WX) (tg it : Expr) (w : WI) : Prop where
  ex : ∃ t, PI X tg it t ∧ GI X.K W t w
/-- a list | a tuple as the walk finds it -/
def iSeqL (a : WE) : WI := fun v m k kx => a v m (fun d m1 => match d with
  | .lst xs => k xs m1
  | .frl xs => k xs m1
  | _ => False) kx
def iSeqT (a : WE) : WI := fun v m k kx => a v m (fun d m1 => match d with
  | .tup xs => k xs m1
  | _ => False) kx
theorem jok_list {K : PySem.W.Frag} {F : Hp} {a : Addr} {vs : List V} {xs : List D} (h : SqL K F a vs) (r : RepL K F xs vs) (inj : ∀ H, Same F H → ∀ ys, SqL K H a ys → True) : JOk K (Itl K a) xs F := by
  intro i H F1 e1 e2
  have hH := (e1.trans e2).seq h
  refine ⟨fun hi => ?_, fun hi => ⟨vs, hH, by rw [r.len]; exact hi⟩⟩
  obtain ⟨v, h1, h2⟩ := r.get (List.getElem?_eq_getElem hi)
  refine ⟨⟨vs, v, hH, h1⟩, fun x H' hy => ?_⟩
  obtain ⟨rfl, hy⟩ := hy
  have z := hy vs hH
  rw [h1] at z; cases z
  exact ⟨_, F1, List.getElem?_eq_getElem hi, rep_mono e1 _ h2, .inl ⟨rfl, rfl⟩⟩
theorem jok_tup {K : PySem.W.Frag} {F : Hp} {a : Addr} {vs : List V} {xs : List D} (h : SqT K F a vs) (r : RepL K F xs vs) : JOk K (Itt K a) xs F := by
  intro i H F1 e1 e2
  have hH := sqt_mono (e1.trans e2) h
  refine ⟨fun hi => ?_, fun hi => ⟨vs, hH, by rw [r.len]; exact hi⟩⟩
  obtain ⟨v, h1, h2⟩ := r.get (List.getElem?_eq_getElem hi)
  refine ⟨⟨vs, v, hH, h1⟩, fun x H' hy => ?_⟩
  obtain ⟨rfl, hy⟩ := hy
  have z := hy vs hH
  rw [h1] at z; cases z
  exact ⟨_, F1, List.getElem?_eq_getElem hi, rep_mono e1 _ h2, .inl ⟨rfl, rfl⟩⟩
section
variable {X : Cx} {W : WX} {e a b c o tg : Expr} {es : List Expr} {pos apos cpos : Pos}
theorem xi_list {wa : WE} (h : Xe X W a wa) : Xi X W tg a (iSeqL wa) := by
  obtain ⟨t, p, g⟩ := h.ex
  refine ⟨_, pi_list p, ⟨fun {B F v m σ H k kx R} hm re hw hr hx => ?_⟩⟩
  refine g.run hm re hw (fun d m1 F1 H1 x hw1 e1 hm1 r1 => ?_) hx
  cases d with
  | lst xs =>
    unfold Rep at r1
    obtain ⟨a, vs, rfl, h1, h2⟩ := r1
    exact ⟨a, rfl, ⟨vs, .inl (.inl (hm1.fr _ _ h1))⟩, hr _ xs m1 F1 H1 hw1 e1 hm1 (jok_list (.inl (.inl h1)) h2 fun _ _ _ _ => trivial)⟩
  | frl xs =>
    unfold Rep at r1
    obtain ⟨a, vs, rfl, h1, h2⟩ := r1
    exact ⟨a, rfl, ⟨vs, hm1.fr.seq h1⟩, hr _ xs m1 F1 H1 hw1 e1 hm1 (jok_list h1 h2 fun _ _ _ _ => trivial)⟩
  | _ => exact hw1.elim
theorem xi_tup {wa : WE} (h : Xe X W a wa) : Xi X W tg a (iSeqT wa) := by
  obtain ⟨t, p, g⟩ := h.ex
  refine ⟨_, pi_tup p, ⟨fun {B F v m σ H k kx R} hm re hw hr hx => ?_⟩⟩
  refine g.run hm re hw (fun d m1 F1 H1 x hw1 e1 hm1 r1 => ?_) hx
  cases d with
  | tup xs =>
    unfold Rep at r1
    obtain ⟨a, vs, rfl, h1, h2⟩ := r1
    exact ⟨a, rfl, ⟨vs, sqt_mono hm1.fr h1⟩, hr _ xs m1 F1 H1 hw1 e1 hm1 (jok_tup h1 h2)⟩
  | _ => exact hw1.elim
/-- range -/
def rngD (lo c : Int) (n : Nat) : List D := (List.range n).map fun i => .int (lo + (i : Nat) * c)
theorem rngD_len {lo c : Int} {n : Nat} : (rngD lo c n).length = n := by simp [rngD]
theorem rngD_get {lo c : Int} {n i : Nat} (h : i < n) : (rngD lo c n)[i]? = some (.int (lo + (i : Nat) * c)) := by
  unfold rngD
  rw [List.getElem?_map, List.getElem?_range h]
  rfl
def iR1 (a : WE) : WI := fun v m k kx => a v m (fun x m1 => match x with
  | .int j => -(2 ^ 62) ≤ j ∧ j < 2 ^ 62 ∧ k (rngD 0 1 j.toNat) m1
  | _ => False) kx
def iR2 (a b : WE) : WI := fun v m k kx => a v m (fun x m1 => b v m1 (fun y m2 => match x, y with
  | .int i, .int j => -(2 ^ 62) ≤ i ∧ i < 2 ^ 62 ∧ -(2 ^ 62) ≤ j ∧ j < 2 ^ 62 ∧ k (rngD i 1 (j - i).toNat) m2
  | _, _ => False) kx) kx
def iR3 (a b c : WE) : WI := fun v m k kx => a v m (fun x m1 => b v m1 (fun y m2 => c v m2 (fun z m3 => match x, y, z with
  | .int i, .int j, .int l => ∃ n, RgC i j l n ∧ k (rngD i l n) m3
  | _, _, _ => False) kx) kx) kx
theorem jok_rng {K : PySem.W.Frag} {F : Hp} {lo : Int} {n : Nat} : JOk K (Itr lo n) (rngD lo 1 n) F := by
  intro i H F1 e1 e2
  rw [rngD_len]
  refine ⟨fun hi => ⟨hi, fun x H' hy => ?_⟩, fun hi => hi⟩
  obtain ⟨rfl, rfl⟩ := hy
  exact ⟨_, F1, rngD_get hi, by rw [Int.mul_one]; exact rep_int, .inl ⟨rfl, rfl⟩⟩
theorem jok_rngC {K : PySem.W.Frag} {F : Hp} {lo c : Int} {n : Nat} : JOk K (Itc lo c n) (rngD lo c n) F := by
  intro i H F1 e1 e2
  rw [rngD_len]
  refine ⟨fun hi => ⟨hi, fun x H' hy => ?_⟩, fun hi => hi⟩
  obtain ⟨rfl, rfl⟩ := hy
  exact ⟨_, F1, rngD_get hi, rep_int, .inl ⟨rfl, rfl⟩⟩
theorem star1 (h : starred a = false) (env : PySem.Env) : starEach [a] env = [(false, eval a env)] := star_eq h env
theorem xi_range1 {p : Pos} {wa : WE} (hg : Gl X "range") (hm : X.mg "range" = none) (h : Xe X W a wa) (hs : starred a = false) : Xi X W tg (.Call (.Name "range" p) [a] [] pos) (iR1 wa) := by
  obtain ⟨t, p1, g⟩ := h.ex
  refine ⟨_, pi_range1 hg hm (pa_cons p1 pa_nil (star_eq hs _)) (star1 hs _), ⟨fun {B F v m σ H k kx R} hm re hw hr hx => ?_⟩⟩
  refine g.run hm re hw (fun x m1 F1 H1 vx hw1 e1 hm1 r1 => ?_) hx
  cases x with
  | int j =>
    unfold Rep at r1
    obtain ⟨h1, h2, h3⟩ := hw1
    exact ⟨j, by rw [r1], h1, h2, hr _ _ m1 F1 H1 h3 e1 hm1 jok_rng⟩
  | _ => exact hw1.elim
theorem xi_range2 {p : Pos} {wa wb : WE} (hg : Gl X "range") (hm : X.mg "range" = none) (h : Xe X W a wa) (h2 : Xe X W b wb) (hs : starred a = false) (hs2 : starred b = false) : Xi X W tg (.Call (.Name "range" p) [a, b] [] pos) (iR2 wa wb) := by
  obtain ⟨t, p1, g⟩ := h.ex
  obtain ⟨u, p2, g2⟩ := h2.ex
  refine ⟨_, pi_range2 hg hm (pa_cons p1 (pa_cons p2 pa_nil (star_eq hs2 _)) (star_eq hs _)) (by rw [star_eq hs, star1 hs2]) (star1 hs2 _), ⟨fun {B F v m σ H k kx R} hm re hw hr hx => ?_⟩⟩
  refine g.run hm re hw (fun x m1 F1 H1 vx hw1 e1 hm1 r1 => ?_) hx
  refine g2.run hm1 (re.mono e1) hw1 (fun y m2 F2 H2 vy hw2 e2 hm2 r2 => ?_) (hx.mono e1)
  cases x <;> cases y <;> first
    | exact False.elim hw2
    | skip
  unfold Rep at r1 r2
  obtain ⟨h1, h2, h3, h4, h5⟩ := hw2
  exact ⟨_, _, by rw [r1, r2], ⟨h1, h2, h3, h4⟩, hr _ _ m2 F2 H2 h5 (e1.trans e2) hm2 jok_rng⟩
theorem xi_range3 {p : Pos} {wa wb wc : WE} (hg : Gl X "range") (hm : X.mg "range" = none) (h : Xe X W a wa) (h2 : Xe X W b wb) (h3 : Xe X W c wc) (hs : starred a = false) (hs2 : starred b = false) (hs3 : starred c = false) :
    Xi X W tg (.Call (.Name "range" p) [a, b, c] [] pos) (iR3 wa wb wc) := by
  obtain ⟨t, p1, g⟩ := h.ex
  obtain ⟨u, p2, g2⟩ := h2.ex
  obtain ⟨u, p3, g3⟩ := h3.ex
  refine ⟨_, pi_range3 hg hm (pa_cons p1 (pa_cons p2 (pa_cons p3 pa_nil (star_eq hs3 _)) (star_eq hs2 _)) (star_eq hs _)) (star_eq hs _) (any_star (es := [b, c]) (by simp [hs2, hs3])), ⟨fun {B F v m σ H k kx R} hm re hw hr hx => ?_⟩⟩
  refine g.run hm re hw (fun x m1 F1 H1 vx hw1 e1 hm1 r1 => ?_) hx
  refine g2.run hm1 (re.mono e1) hw1 (fun y m2 F2 H2 vy hw2 e2 hm2 r2 => ?_) (hx.mono e1)
  refine g3.run hm2 (re.mono (e1.trans e2)) hw2 (fun z m3 F3 H3 vz hw3 e3 hm3 r3 => ?_) (hx.mono (e1.trans e2))
  cases x <;> cases y <;> cases z <;> first
    | exact False.elim hw3
    | skip
  unfold Rep at r1 r2 r3
  obtain ⟨n, h1, h2⟩ := hw3
  exact ⟨_, _, _, n, by rw [r1, r2, r3], h1, hr _ _ m3 F3 H3 h2 ((e1.trans e2).trans e3) hm3 jok_rngC⟩
/-- enumerate -/
def enumD (i : Nat) : List D → List D
  | [] => []
  | d :: ds => .tup [.int (i : Nat), d] :: enumD (i + 1) ds
theorem enumD_len : ∀ (ds : List D) (i : Nat), (enumD i ds).length = ds.length
  | [], _ => rfl
  | d :: ds, i => by simp [enumD, enumD_len ds]
theorem enumD_get : ∀ (ds : List D) (i j : Nat) (d : D), ds[j]? = some d → (enumD i ds)[j]? = some (.tup [.int ((i + j : Nat) : Int), d])
  | [], _, _, _, h => by simp at h
  | d :: ds, i, 0, e, h => by simp at h; subst h; rfl
  | d :: ds, i, j + 1, e, h => by
    have := enumD_get ds (i + 1) j e (by simpa using h)
    rw [show i + 1 + j = i + (j + 1) by omega] at this
    simpa [enumD] using this
def iEnumD (a : WE) : WI := fun v m k kx => a v m (fun d m1 => match d with
  | .lst xs => k (enumD 0 xs) m1
  | .frl xs => k (enumD 0 xs) m1
  | _ => False) kx
theorem jok_enum {K : PySem.W.Frag} {F : Hp} {a : Addr} {vs : List V} {xs : List D} (h : SqL K F a vs) (r : RepL K F xs vs) : JOk K (Ite K a) (enumD 0 xs) F := by
  intro i H F1 e1 e2
  have hH := (e1.trans e2).seq h
  rw [enumD_len]
  refine ⟨fun hi => ?_, fun hi => ⟨vs, hH, by rw [r.len]; exact hi⟩⟩
  obtain ⟨v, h1, h2⟩ := r.get (List.getElem?_eq_getElem hi)
  refine ⟨⟨vs, v, hH, h1⟩, fun x H' hy => ?_⟩
  obtain ⟨T, y, rfl, hT, rfl, hy⟩ := hy
  have z := hy vs hH
  rw [h1] at z; cases z
  have hF : F1 T = none := e2.free hT
  refine ⟨_, upd F1 T _, enumD_get xs 0 i _ (List.getElem?_eq_getElem hi), ?_, .inr ⟨T, _, hT, rfl, rfl⟩⟩
  unfold Rep
  exact ⟨T, _, rfl, .inl (.inl upd_same), RepL.cons (by rw [Nat.zero_add]; exact rep_int) (RepL.cons (rep_mono (e1.trans (same_new hF)) _ h2) RepL.nil)⟩
theorem xi_enum {p tpos : Pos} {elts : List Expr} {kk : Nat} {wa : WE} (hg : Gl X "enumerate") (hm : X.mg "enumerate" = none) (h : Xe X W a wa) (hs : starred a = false) : Xi X W (.Tuple elts kk tpos) (.Call (.Name "enumerate" p) [a] [] pos) (iEnumD wa) := by
  obtain ⟨t, p1, g⟩ := h.ex
  refine ⟨_, pi_enum hg hm (pa_cons p1 pa_nil (star_eq hs _)) (star1 hs _), ⟨fun {B F v m σ H k kx R} hm re hw hr hx => ?_⟩⟩
  refine g.run hm re hw (fun d m1 F1 H1 x hw1 e1 hm1 r1 => ?_) hx
  cases d with
  | lst xs =>
    unfold Rep at r1
    obtain ⟨a, vs, rfl, h1, h2⟩ := r1
    exact ⟨a, vs, rfl, .inl (.inl (hm1.fr _ _ h1)), hr _ _ m1 F1 H1 hw1 e1 hm1 (jok_enum (.inl (.inl h1)) h2)⟩
  | frl xs =>
    unfold Rep at r1
    obtain ⟨a, vs, rfl, h1, h2⟩ := r1
    exact ⟨a, vs, rfl, hm1.fr.seq h1, hr _ _ m1 F1 H1 hw1 e1 hm1 (jok_enum h1 h2)⟩
  | _ => exact hw1.elim
/-- zip of two lists -/
def zipD : List D → List D → List D
  | d :: ds, e :: es => .tup [d, e] :: zipD ds es
  | _, _ => []
theorem zipD_len : ∀ (ds es : List D), (zipD ds es).length = min ds.length es.length
  | [], es => by simp [zipD]
  | d :: ds, [] => by simp [zipD]
  | d :: ds, e :: es => by simp [zipD, zipD_len ds es]
theorem zipD_get : ∀ (ds es : List D) (j : Nat) (d e : D), ds[j]? = some d → es[j]? = some e → (zipD ds es)[j]? = some (.tup [d, e])
  | [], _, _, _, _, h, _ => by simp at h
  | _ :: _, [], _, _, _, _, h => by simp at h
  | d :: ds, e :: es, 0, _, _, h, h2 => by simp at h h2; subst h h2; rfl
  | d :: ds, e :: es, j + 1, _, _, h, h2 => by
    have := zipD_get ds es j _ _ (by simpa using h) (by simpa using h2)
    simpa [zipD] using this
def lstOf : D → Option (List D)
  | .lst xs => some xs
  | .frl xs => some xs
  | _ => none
theorem lstOf_ok {K : PySem.W.Frag} {F : Hp} {d : D} {x : V} {xs : List D} (r : Rep K F d x) (h : lstOf d = some xs) : ∃ a vs, x = .ref a ∧ SqL K F a vs ∧ RepL K F xs vs := by
  cases d with
  | lst ys => cases h; unfold Rep at r; obtain ⟨a, vs, h1, h2, h3⟩ := r; exact ⟨a, vs, h1, .inl (.inl h2), h3⟩
  | frl ys => cases h; unfold Rep at r; exact r
  | _ => cases h
def iZipD (a b : WE) : WI := fun v m k kx => a v m (fun d m1 => b v m1 (fun e m2 => ∃ xs ys, lstOf d = some xs ∧ lstOf e = some ys ∧ k (zipD xs ys) m2) kx) kx
theorem jok_zip {K : PySem.W.Frag} {F : Hp} {a b : Addr} {vs us : List V} {xs ys : List D} (h : SqL K F a vs) (r : RepL K F xs vs) (h2 : SqL K F b us) (r2 : RepL K F ys us) : JOk K (Itz K a b) (zipD xs ys) F := by
  intro i H F1 e1 e2
  have hH := (e1.trans e2).seq h
  have hH2 := (e1.trans e2).seq h2
  rw [zipD_len]
  refine ⟨fun hi => ?_, fun hi => ⟨vs, us, hH, hH2, by rw [r.len, r2.len]; omega⟩⟩
  obtain ⟨v, g1, g2⟩ := r.get (List.getElem?_eq_getElem (show i < xs.length by omega))
  obtain ⟨u, k1, k2⟩ := r2.get (List.getElem?_eq_getElem (show i < ys.length by omega))
  refine ⟨⟨vs, us, v, u, hH, hH2, g1, k1⟩, fun x H' hy => ?_⟩
  obtain ⟨T, y, z, rfl, hT, rfl, hy, hz⟩ := hy
  have q := hy vs hH
  have q2 := hz us hH2
  rw [g1] at q; cases q
  rw [k1] at q2; cases q2
  have hF : F1 T = none := e2.free hT
  refine ⟨_, upd F1 T _, zipD_get xs ys i _ _ (List.getElem?_eq_getElem (by omega)) (List.getElem?_eq_getElem (by omega)), ?_, .inr ⟨T, _, hT, rfl, rfl⟩⟩
  unfold Rep
  exact ⟨T, _, rfl, .inl (.inl upd_same), RepL.cons (rep_mono (e1.trans (same_new hF)) _ g2) (RepL.cons (rep_mono (e1.trans (same_new hF)) _ k2) RepL.nil)⟩
theorem xi_zip {p tpos : Pos} {elts : List Expr} {kk : Nat} {wa wb : WE} (hg : Gl X "zip") (hm : X.mg "zip" = none) (h : Xe X W a wa) (h2 : Xe X W b wb) (hs : starred a = false) (hs2 : starred b = false) : Xi X W (.Tuple elts kk tpos) (.Call (.Name "zip" p) [a, b] [] pos) (iZipD wa wb) := by
  obtain ⟨t, p1, g⟩ := h.ex
  obtain ⟨u, p2, g2⟩ := h2.ex
  refine ⟨_, pi_zip hg hm (pa_cons p1 (pa_cons p2 pa_nil (star_eq hs2 _)) (star_eq hs _)) (star_eq hs _) (any_star (es := [b]) (by simp [hs2])), ⟨fun {B F v m σ H k kx R} hm re hw hr hx => ?_⟩⟩
  refine g.run hm re hw (fun d m1 F1 H1 x hw1 e1 hm1 r1 => ?_) hx
  refine g2.run hm1 (re.mono e1) hw1 (fun e m2 F2 H2 y hw2 e2 hm2 r2 => ?_) (hx.mono e1)
  obtain ⟨xs, ys, q1, q2, hk⟩ := hw2
  obtain ⟨a, vs, rfl, a1, a2⟩ := lstOf_ok (rep_mono e2 d r1) q1
  obtain ⟨b, us, rfl, b1, b2⟩ := lstOf_ok r2 q2
  exact ⟨a, b, vs, us, rfl, hm2.fr.seq a1, hm2.fr.seq b1, hr _ _ m2 F2 H2 hk (e1.trans e2) hm2 (jok_zip a1 a2 b1 b2)⟩
end

/-! ### statements -/
structure SK where
  nx : Env → Mem → Prop
  rt : D → Mem → Prop
  bk : Env → Mem → Prop
  ct : Env → Mem → Prop
  ex : Exn → Env → Mem → Prop
abbrev WS := Env → Mem → SK → Prop
structure RL (K : PySem.W.Frag) (W : WX) (B : Bs) (F : Hp) (P : SK) (E : Ends) : Prop where
  nx : QG K B F P.nx E.nx
  rt : QE K B F P.rt E.rt
  bk : QG K B F P.bk E.bk
  ct : QG K B F P.ct E.ct
  ex : ∀ x v m F' σ H dd, P.ex x v m → Same F F' → HM K B F' m H → REnv K F' v σ → RX K F' x dd → W (.ref (He.ga K x.C)) (some dd) σ H
structure GS (K : PySem.W.Frag) (W : WX) (t : TS) (w : WS) : Prop where
  run : ∀ {B : Bs} {F : Hp} {v : Env} {m : Mem} {σ : L2.St} {H : Hp} {P : SK} {E : Ends}, HM K B F m H → REnv K F v σ → w v m P → RL K W B F P E → t E σ H
theorem RL.mono {K : PySem.W.Frag} {W : WX} {B : Bs} {F F1 : Hp} {P : SK} {E : Ends} (h : RL K W B F P E) (e : Same F F1) : RL K W B F1 P E :=
  ⟨h.nx.mono e, h.rt.mono e, h.bk.mono e, h.ct.mono e, fun x v m F' σ H dd a b => h.ex x v m F' σ H dd a (e.trans b)⟩
theorem RL.qx {K : PySem.W.Frag} {W : WX} {B : Bs} {F : Hp} {P : SK} {E : Ends} {v : Env} {σ : L2.St} (h : RL K W B F P E) (re : REnv K F v σ) : QX K W B F σ (fun x m => P.ex x v m) :=
  fun x m F' H dd a b c r => h.ex x v m F' σ H dd a b c (re.mono b) r
structure Xs (X : Cx) (W : WX) (st : Stmt) (w : WS) : Prop where
  ex : ∃ t, PS X st t ∧ GS X.K W t w
structure Xss (X : Cx) (W : WX) (sts : List Stmt) (w : WS) : Prop where
  ex : ∃ t, PSs X sts t ∧ GS X.K W t w
def sNil : WS := fun v m P => P.nx v m
def sSeq (a b : WS) : WS := fun v m P => a v m { P with nx := fun v1 m1 => ∃ v2 m2, Gh v1 m1 v2 m2 ∧ b v2 m2 P }
def sSet (i : Nat) (e : WE) : WS := fun v m P => e v m (fun d m1 => P.nx (v.set i (some d)) m1) fun x m => P.ex x v m
def sAsg (g : WG) (e : WE) : WS := fun v m P => e v m (fun d m1 => g d v m1 P.nx) fun x m => P.ex x v m
def sAug (i : Nat) (o : O2) (e : WE) : WS := fun v m P => match look v i with
  | some d => e v m (fun y m1 => o m1 (res m1 d) (res m1 y) fun z m2 => P.nx (v.set i (some z)) m2) fun x m => P.ex x v m
  | none => False
def sDrop (e : WE) : WS := fun v m P => e v m (fun _ m1 => P.nx v m1) fun x m => P.ex x v m
def sRet (e : WE) : WS := fun v m P => e v m (fun d m1 => ∃ d' m', GhD d m1 d' m' ∧ P.rt d' m') fun x m => P.ex x v m
def sRetN : WS := fun _ m P => ∃ m', (∀ a d, m' a = some d → m a = some d) ∧ P.rt .non m'
def sIf (c : WT) (a b : WS) : WS := fun v m P => c v m (fun q m1 => (q = true → a v m1 P) ∧ (q = false → b v m1 P)) fun x m => P.ex x v m
def sBrk : WS := fun v m P => ∃ v' m', Gh v m v' m' ∧ P.bk v' m'
def sCont : WS := fun v m P => P.ct v m
def sWhile (c : WT) (b : WS) : WS := fun v m P => ∃ I : Nat → Env → Mem → Prop, (∃ n, I n v m) ∧ ∀ n v m, I n v m → c v m (fun q m1 => (q = true → b v m1 { P with
    nx := fun v1 m1 => ∃ v2 m2 n', Gh v1 m1 v2 m2 ∧ n' < n ∧ I n' v2 m2
    ct := fun v1 m1 => ∃ v2 m2 n', Gh v1 m1 v2 m2 ∧ n' < n ∧ I n' v2 m2
    bk := P.nx }) ∧ (q = false → P.nx v m1)) fun x m => P.ex x v m
def sFor (it : WI) (g : WG) (b : WS) : WS := fun v m P => it v m (fun items m1 => ∃ I : Nat → Env → Mem → Prop, I 0 v m1 ∧
  (∀ i d v1 m2, items[i]? = some d → I i v1 m2 → g d v1 m2 fun v2 m3 => b v2 m3 { P with
    nx := fun v3 m4 => ∃ v4 m5, Gh v3 m4 v4 m5 ∧ I (i + 1) v4 m5
    ct := fun v3 m4 => ∃ v4 m5, Gh v3 m4 v4 m5 ∧ I (i + 1) v4 m5
    bk := P.nx }) ∧ ∀ v1 m2, I items.length v1 m2 → P.nx v1 m2) fun x m => P.ex x v m
def isComp : Expr → Bool
  | .ListComp .. => true
  | .SetComp .. => true
  | .DictComp .. => true
  | _ => false
section
variable {X : Cx} {W : WX} {e a b c o tg it : Expr} {es : List Expr} {pos apos cpos : Pos} {st : Stmt} {sts : List Stmt}
theorem swap_ok {t : Option Expr} {l : Nat} {env : PySem.Env} (h : isComp e = false) : swapsWith e t l env = pure false := by
  cases e <;> first
    | rfl
    | cases h
theorem xss_nil : Xss X W [] sNil := ⟨_, pss_nil, ⟨fun {B F v m σ H P E} hm re hw rl => rl.nx v m F H σ hw (Same.refl _) hm re⟩⟩
theorem gs_seq {K : PySem.W.Frag} {t u : TS} {wa wb : WS} (h1 : GS K W t wa) (h2 : GS K W u wb) : GS K W (tSeq t u) (sSeq wa wb) := by
  refine ⟨fun {B F v m σ H P E} hm re hw rl => ?_⟩
  refine h1.run hm re hw ⟨fun v1 m1 F1 H1 σ1 hw1 e1 hm1 re1 => ?_, rl.rt, rl.bk, rl.ct, rl.ex⟩
  obtain ⟨v2, m2, g, hw2⟩ := hw1
  obtain ⟨F2, e2, hm2, re2⟩ := g K B F1 H1 σ1 hm1 re1
  exact h2.run hm2 re2 hw2 (rl.mono (e1.trans e2))
theorem xss_cons {wa wb : WS} (h1 : Xs X W st wa) (h2 : Xss X W sts wb) : Xss X W (st :: sts) (sSeq wa wb) := by
  obtain ⟨t, p, g⟩ := h1.ex
  obtain ⟨u, p2, g2⟩ := h2.ex
  exact ⟨_, pss_cons p p2, gs_seq g g2⟩
theorem xss_one {wa : WS} (h1 : Xs X W st wa) : Xss X W [st] wa := by
  obtain ⟨t, p, g⟩ := h1.ex
  exact ⟨_, pss_one p, g⟩
theorem xs_set {i : Nat} {x : Str} {w : WE} {pos' : Pos} (hN : X.N.Nodup) (hi : X.N[i]? = some x) (hx : Loc X.env.scope x) (h : Xe X W e w) (hc : isComp e = false) (hf : X.fn x = true ∨ X.env.scope.names.lookup x = some .local) : Xs X W (.Assign [.Name x pos'] e pos) (sSet i w) := by
  obtain ⟨t, p, g⟩ := h.ex
  refine ⟨_, ps_set hN hi hx p (swap_ok hc) hf, ⟨fun {B F v m σ H P E} hm re hw rl => ?_⟩⟩
  exact g.run hm re hw (fun d m1 F1 H1 x hw1 e1 hm1 r1 => rl.nx _ m1 F1 H1 _ hw1 e1 hm1 ((re.mono e1).set i r1)) (rl.qx re)
theorem gs_asg {K : PySem.W.Frag} {te : TE} {tg : TG} {w : WE} {g : WG} (h1 : GE K W te w) (h2 : GG K tg g) : GS K W (tAsg te tg) (sAsg g w) := by
  refine ⟨fun {B F v m σ H P E} hm re hw rl => ?_⟩
  exact h1.run hm re hw (fun d m1 F1 H1 x hw1 e1 hm1 r1 => h2.run hm1 (re.mono e1) r1 hw1 (rl.nx.mono e1)) (rl.qx re)
theorem sole_ok (hc : isComp e = false) {l : Nat} {env : PySem.Env} : swapsWithSole [tg] e l env = pure false := by
  show swapsWith e _ l env = pure false
  exact swap_ok hc
theorem xs_asg {w : WE} {g : WG} (h : Xe X W e w) (hg : Xg X tg g) (hc : isComp e = false) (hw : swappedStores [tg] e X.env = pure none) (hs : starred tg = false) : Xs X W (.Assign [tg] e pos) (sAsg g w) := by
  obtain ⟨t, p, q⟩ := h.ex
  obtain ⟨u, p2, q2⟩ := hg.ex
  exact ⟨_, ps_asg p p2 (sole_ok hc) hw (assign_eq (es := []) hs _), gs_asg q q2⟩
theorem xs_aug {i : Nat} {x : Str} {op : Operator} {ob : O2} {w : WE} {pos' : Pos} (hN : X.N.Nodup) (hi : X.N[i]? = some x) (hx : Loc X.env.scope x) (h : Xe X W e w) (ho : XO X (inplaceOp op) ob) (hf : X.fn x = true ∨ X.env.scope.names.lookup x = some .local) : Xs X W (.AugAssign (.Name x pos') op e pos) (sAug i ob w) := by
  obtain ⟨t, p, g⟩ := h.ex
  obtain ⟨r, po, go⟩ := ho.ex
  refine ⟨_, ps_aug hN hi hx p po hf, ⟨fun {B F v m σ H P E} hm re hw rl => ?_⟩⟩
  unfold sAug at hw
  cases q : look v i with
  | none => rw [q] at hw; exact hw.elim
  | some d =>
    rw [q] at hw
    obtain ⟨y, h1, h2⟩ := re.get i d (look_some q)
    refine ⟨y, h1, g.run hm re hw (fun z m1 F1 H1 u hw1 e1 hm1 r1 => ?_) (rl.qx re)⟩
    refine go.run hm1 (view_res hm1 (rep_mono e1 d h2)) (view_res hm1 r1) hw1 fun w m2 F2 H2 q2 hk e2 hm2 r2 => ?_
    exact rl.nx _ m2 F2 H2 _ hk (e1.trans e2) hm2 ((re.mono (e1.trans e2)).set i r2)
theorem xs_drop {w : WE} (h : Xe X W e w) (hc : isComp e = false) : Xs X W (.Expr e pos) (sDrop w) := by
  obtain ⟨t, p, g⟩ := h.ex
  refine ⟨_, ps_expr p (swap_ok hc), ⟨fun {B F v m σ H P E} hm re hw rl => ?_⟩⟩
  exact g.run hm re hw (fun d m1 F1 H1 x hw1 e1 hm1 r1 => rl.nx _ m1 F1 H1 _ hw1 e1 hm1 (re.mono e1)) (rl.qx re)
theorem xs_ret {w : WE} (h : Xe X W e w) : Xs X W (.Return (some e) pos) (sRet w) := by
  obtain ⟨t, p, g⟩ := h.ex
  refine ⟨_, ps_ret p, ⟨fun {B F v m σ H P E} hm re hw rl => ?_⟩⟩
  refine g.run hm re hw (fun d m1 F1 H1 x hw1 e1 hm1 r1 => ?_) (rl.qx re)
  obtain ⟨d', m', gh, hk⟩ := hw1
  obtain ⟨F2, e2, hm2, r2⟩ := gh _ B F1 H1 x hm1 r1
  exact rl.rt d' m' F2 H1 x hk (e1.trans e2) hm2 r2
theorem xs_retN : Xs X W (.Return none pos) sRetN := by
  refine ⟨_, ps_retN, ⟨fun {B F v m σ H P E} hm re hw rl => ?_⟩⟩
  obtain ⟨m', hs, hk⟩ := hw
  exact rl.rt .non m' F H _ hk (Same.refl _) (hm.drop hs) rep_non
theorem xs_pass : Xs X W (.Pass pos) sNil := ⟨_, ps_pass, ⟨fun {B F v m σ H P E} hm re hw rl => rl.nx v m F H σ hw (Same.refl _) hm re⟩⟩
theorem xs_break : Xs X W (.Break pos) sBrk := ⟨_, ps_break, ⟨fun {B F v m σ H P E} hm re hw rl => by
  obtain ⟨v', m', g, hk⟩ := hw
  obtain ⟨F2, e2, hm2, re2⟩ := g _ B F H σ hm re
  exact rl.bk v' m' F2 H σ hk e2 hm2 re2⟩⟩
theorem xs_cont : Xs X W (.Continue pos) sCont := ⟨_, ps_continue, ⟨fun {B F v m σ H P E} hm re hw rl => rl.ct v m F H σ hw (Same.refl _) hm re⟩⟩
theorem xs_doc {x j pos'} : Xs X W (.Expr (.Constant (.str x) j pos') pos) sNil := ⟨_, ps_doc, ⟨fun {B F v m σ H P E} hm re hw rl => rl.nx v m F H σ hw (Same.refl _) hm re⟩⟩
theorem xs_if {wc : WT} {wa wb : WS} {sa sb : List Stmt} (hc : Xt X W c wc) (ha : Xss X W sa wa) (hb : Xss X W sb wb) : Xs X W (.If c sa sb pos) (sIf wc wa wb) := by
  obtain ⟨tc, pc, gc⟩ := hc.ex
  obtain ⟨ta, pa, ga⟩ := ha.ex
  obtain ⟨tb, pb, gb⟩ := hb.ex
  refine ⟨_, ps_if pc pa pb, ⟨fun {B F v m σ H P E} hm re hw rl => ?_⟩⟩
  refine gc.run hm re hw (fun q m1 F1 H1 hw1 e1 hm1 => ?_) (rl.qx re)
  cases q with
  | true => rw [if_pos rfl]; exact ga.run hm1 (re.mono e1) (hw1.1 rfl) (rl.mono e1)
  | false => rw [if_neg Bool.false_ne_true]; exact gb.run hm1 (re.mono e1) (hw1.2 rfl) (rl.mono e1)
theorem xs_while {wc : WT} {wb : WS} {sb : List Stmt} (hp : PassesOwn (model X.prog X.w) X.A X.env X.xe) (hc : Xt X W c wc) (hb : Xss X W sb wb) : Xs X W (.While c sb [] pos) (sWhile wc wb) := by
  obtain ⟨tc, pc, gc⟩ := hc.ex
  obtain ⟨tb, pb, gb⟩ := hb.ex
  refine ⟨_, ps_while hp pc pb, ⟨fun {B F v m σ H P E} hm re hw rl => ?_⟩⟩
  obtain ⟨I, ⟨n0, h0⟩, hI⟩ := hw
  refine ⟨fun n σ H => ∃ v m F', I n v m ∧ Same F F' ∧ HM X.K B F' m H ∧ REnv X.K F' v σ, ⟨n0, v, m, F, h0, Same.refl _, hm, re⟩, ?_⟩
  rintro n σ H ⟨v, m, F', hi, e', hm, re⟩
  have rl' := rl.mono e'
  refine gc.run hm re (hI n v m hi) (fun q m1 F1 H1 hw1 e1 hm1 => ?_) (rl'.qx re)
  cases q with
  | false => rw [if_neg Bool.false_ne_true]; exact rl'.nx v m1 F1 H1 σ (hw1.2 rfl) e1 hm1 (re.mono e1)
  | true =>
    rw [if_pos rfl]
    refine ⟨fun σ' H' => ∃ n', n' < n ∧ ∃ v m F', I n' v m ∧ Same F F' ∧ HM X.K B F' m H' ∧ REnv X.K F' v σ', fun σ' H' h => h, ?_⟩
    have back : ∀ v1 m1 F2 H2 σ2, (∃ v2 m2 n', Gh v1 m1 v2 m2 ∧ n' < n ∧ I n' v2 m2) → Same F1 F2 → HM X.K B F2 m1 H2 → REnv X.K F2 v1 σ2 → ∃ n', n' < n ∧ ∃ v m F', I n' v m ∧ Same F F' ∧ HM X.K B F' m H2 ∧ REnv X.K F' v σ2 := by
      rintro v1 m1 F2 H2 σ2 ⟨v2, m2, n', g, l, i2⟩ e2 hm2 re2
      obtain ⟨F3, e3, hm3, re3⟩ := g _ B F2 H2 σ2 hm2 re2
      exact ⟨n', l, v2, m2, F3, i2, ((e'.trans e1).trans e2).trans e3, hm3, re3⟩
    exact gb.run hm1 (re.mono e1) (hw1.1 rfl) ⟨fun v m F2 H2 σ2 a b c d => back v m F2 H2 σ2 a b c d, (rl'.mono e1).rt, (rl'.mono e1).nx, fun v m F2 H2 σ2 a b c d => back v m F2 H2 σ2 a b c d, (rl'.mono e1).ex⟩
theorem xs_for {wi : WI} {g : WG} {wb : WS} {sb : List Stmt} (hp : PassesOwn (model X.prog X.w) X.A X.env X.xe) (hc : X.calm = true) (hi : Xi X W tg it wi) (hg : Xg X tg g) (hb : Xss X W sb wb) (hs : ∀ x, foldedSetIterable it X.env x = pure x) : Xs X W (.For tg it sb [] pos) (sFor wi g wb) := by
  obtain ⟨ti, pi, gi⟩ := hi.ex
  obtain ⟨tg, pg, gg⟩ := hg.ex
  obtain ⟨tb, pb, gb⟩ := hb.ex
  refine ⟨_, ps_for hp hc pi pg pb hs, ⟨fun {B F v m σ H P E} hm re hw rl => ?_⟩⟩
  refine gi.run hm re hw (fun J items m1 F1 H1 hw1 e1 hm1 jo => ?_) (rl.qx re)
  obtain ⟨I, h0, hI, hE⟩ := hw1
  refine ⟨fun i n σ H => n = items.length - i ∧ i ≤ items.length ∧ ∃ v m F', I i v m ∧ Same F1 F' ∧ HM X.K B F' m H ∧ REnv X.K F' v σ, ⟨items.length, by simp, Nat.zero_le _, v, m1, F1, h0, Same.refl _, hm1, re.mono e1⟩, ?_⟩
  rintro i n σ H ⟨rfl, hil, v, m, F', hi, e', hm, re⟩
  have j := jo i H F' e' hm.fr
  by_cases hlt : i < items.length
  · obtain ⟨jg, jy⟩ := j.1 hlt
    refine .inr ⟨jg, fun σ' H' => ∃ v m F', I (i + 1) v m ∧ Same F1 F' ∧ HM X.K B F' m H' ∧ REnv X.K F' v σ', fun σ' H' h => ⟨items.length - (i + 1), by omega, rfl, hlt, h⟩, fun x H' y => ?_⟩
    obtain ⟨d, F2, hd, rd, hf⟩ := jy x H' y
    have big : ∃ e2 : Same F' F2, HM X.K B F2 m H' := by
      rcases hf with ⟨rfl, rfl⟩ | ⟨p, o, hp, rfl, rfl⟩
      · exact ⟨Same.refl _, hm⟩
      · exact ⟨same_new (hm.fn hp), hm.new hp o⟩
    obtain ⟨e2, hm2⟩ := big
    refine gg.run hm2 (re.mono e2) rd (hI i d v m hd hi) fun v3 m3 F3 H3 σ3 hw3 e3 hm3 re3 => ?_
    have eall := (e'.trans e2).trans e3
    have back : ∀ v1 m1 F4 H4 σ4, (∃ v2 m2, Gh v1 m1 v2 m2 ∧ I (i + 1) v2 m2) → Same F3 F4 → HM X.K B F4 m1 H4 → REnv X.K F4 v1 σ4 → ∃ v m F', I (i + 1) v m ∧ Same F1 F' ∧ HM X.K B F' m H4 ∧ REnv X.K F' v σ4 := by
      rintro v1 m1 F4 H4 σ4 ⟨v2, m2, g, i2⟩ e4 hm4 re4
      obtain ⟨F5, e5, hm5, re5⟩ := g _ B F4 H4 σ4 hm4 re4
      exact ⟨v2, m2, F5, i2, (eall.trans e4).trans e5, hm5, re5⟩
    have rl3 := rl.mono (e1.trans eall)
    exact gb.run hm3 re3 hw3 ⟨fun v m F2 H2 σ2 a b c d => back v m F2 H2 σ2 a b c d, rl3.rt, rl3.nx, fun v m F2 H2 σ2 a b c d => back v m F2 H2 σ2 a b c d, rl3.ex⟩
  · have el : i = items.length := by omega
    subst el
    exact .inl ⟨j.2 (Nat.le_refl _), rl.nx v m F' H σ (hE v m hi) (e1.trans e') hm re⟩
end
end Ab
end

section
/-! Ab7: comprehensions, raise, try, defs. -/
namespace Ab
open PySem PySem.Spec L2

abbrev W0 : WX := fun _ _ _ _ => False
/-! ### one reading for many contexts -/
theorem uni_e {ι : Type} {Xf : ι → Cx} {K : PySem.W.Frag} {W : WX} {e : Expr} {w : WE} (hK : ∀ i, (Xf i).K = K) (h : ∀ i, Xe (Xf i) W e w) : ∃ t, (∀ i, PE (Xf i) e t) ∧ GE K W t w := by
  have h' : ∀ i, ∃ t, PE (Xf i) e t ∧ GE K W t w := fun i => by
    obtain ⟨t, p, g⟩ := (h i).ex
    rw [hK i] at g
    exact ⟨t, p, g⟩
  refine ⟨fun σ H Q => ∀ i, Classical.choose (h' i) σ H Q, fun i => ⟨fun pins s σ H Q I hq => (Classical.choose_spec (h' i)).1.run pins s σ H Q I (hq i)⟩, ⟨fun {B F v m σ H k kx Q} hm re hw hq hx i => (Classical.choose_spec (h' i)).2.run hm re hw hq hx⟩⟩
/-! ### the tests of a comprehension -/
structure Xts (X : Cx) (W : WX) (ifs : List Expr) (w : WT) : Prop where
  ex : ∃ t, PTs X ifs t ∧ GT X.K W t w
def wYes : WT := fun _ m k _ => k true m
theorem xts_nil {X : Cx} {W : WX} : Xts X W [] wYes := ⟨_, pts_nil, ⟨fun {B F v m σ H k kx Q} hm re hw hq hx => hq true m F H hw (Same.refl _) hm⟩⟩
theorem xts_one {X : Cx} {W : WX} {e : Expr} {w : WT} (h : Xt X W e w) : Xts X W [e] w := by
  obtain ⟨t, p, g⟩ := h.ex
  exact ⟨t, pts_one p, g⟩
theorem uni_ts {ι : Type} {Xf : ι → Cx} {K : PySem.W.Frag} {W : WX} {e : List Expr} {w : WT} (hK : ∀ i, (Xf i).K = K) (h : ∀ i, Xts (Xf i) W e w) : ∃ t, (∀ i, PTs (Xf i) e t) ∧ GT K W t w := by
  have h' : ∀ i, ∃ t, PTs (Xf i) e t ∧ GT K W t w := fun i => by
    obtain ⟨t, p, g⟩ := (h i).ex
    rw [hK i] at g
    exact ⟨t, p, g⟩
  refine ⟨fun σ H Q => ∀ i, Classical.choose (h' i) σ H Q, fun i => ⟨fun pins s σ H Q I hq => (Classical.choose_spec (h' i)).1.run pins s σ H Q I (hq i)⟩, ⟨fun {B F v m σ H k kx Q} hm re hw hq hx i => (Classical.choose_spec (h' i)).2.run hm re hw hq hx⟩⟩
/-! ### the targets of a comprehension: names of its own -/
theorem wipe_get : ∀ (vs : List Nat) (σ : L2.St) (j : Nat), (wipe σ vs)[j]? = if j ∈ vs then (σ[j]?).map (fun _ => none) else σ[j]?
  | [], σ, j => by simp [wipe]
  | v :: vs, σ, j => by
    show ((wipe σ vs).set v none)[j]? = _
    by_cases h : v = j
    · subst h
      rw [if_pos List.mem_cons_self]
      by_cases hl : v < (wipe σ vs).length
      · rw [List.getElem?_set_self hl]
        rw [wipe_length] at hl
        rw [List.getElem?_eq_getElem hl]
        rfl
      · rw [List.getElem?_eq_none (by rw [List.length_set]; omega)]
        rw [wipe_length] at hl
        rw [List.getElem?_eq_none (by omega)]
        rfl
    · rw [List.getElem?_set_ne h, wipe_get vs σ j]
      have e : (j ∈ v :: vs) ↔ j ∈ vs := by simp [Ne.symm h]
      by_cases z : j ∈ vs
      · rw [if_pos z, if_pos (e.mpr z)]
      · rw [if_neg z, if_neg (fun q => z (e.mp q))]
theorem wipe_set {vs : List Nat} {σ : L2.St} {i : Nat} {x : Option V} (h : i ∈ vs) : wipe (σ.set i x) vs = wipe σ vs := by
  apply List.ext_getElem?
  intro j
  rw [wipe_get, wipe_get]
  by_cases e : i = j
  · subst e
    rw [if_pos h, if_pos h]
    by_cases hl : i < σ.length
    · rw [List.getElem?_set_self hl, List.getElem?_eq_getElem hl]; rfl
    · rw [List.getElem?_eq_none (by rw [List.length_set]; omega), List.getElem?_eq_none (by omega)]
  · rw [List.getElem?_set_ne e]
theorem wipe_wipe {vs : List Nat} {σ : L2.St} : wipe (wipe σ vs) vs = wipe σ vs := by
  apply List.ext_getElem?
  intro j
  rw [wipe_get, wipe_get]
  by_cases h : j ∈ vs
  · rw [if_pos h, if_pos h]
    cases σ[j]? <;> rfl
  · rw [if_neg h, if_neg h]
def wipeE (v : Env) : List Nat → Env
  | [] => v
  | i :: is => (wipeE v is).set i none
theorem REnv.wipes {K : PySem.W.Frag} {F : Hp} {v : Env} {σ : L2.St} (r : REnv K F v σ) : ∀ is : List Nat, REnv K F (wipeE v is) (L2.wipe σ is)
  | [] => r
  | i :: is => (r.wipes is).wipe i
structure GGo (K : PySem.W.Frag) (own : List Nat) (t : TG) (w : WG) : Prop where
  run : ∀ {B : Bs} {F : Hp} {v : Env} {m : Mem} {σ : L2.St} {H : Hp} {d : D} {x : V} {k : Env → Mem → Prop} {Q : L2.St → Hp → Prop}, HM K B F m H → REnv K F v σ → Rep K F d x → w d v m k →
    (∀ v' m' F' H' σ', k v' m' → Same F F' → HM K B F' m' H' → REnv K F' v' σ' → wipe σ' own = wipe σ own → Q σ' H') → t x σ H Q
structure GGso (K : PySem.W.Frag) (own : List Nat) (t : TGs) (w : WGs) : Prop where
  run : ∀ {B : Bs} {F : Hp} {v : Env} {m : Mem} {σ : L2.St} {H : Hp} {ds : List D} {xs : List V} {k : Env → Mem → Prop} {Q : L2.St → Hp → Prop}, HM K B F m H → REnv K F v σ → RepL K F ds xs → w ds v m k →
    (∀ v' m' F' H' σ', k v' m' → Same F F' → HM K B F' m' H' → REnv K F' v' σ' → wipe σ' own = wipe σ own → Q σ' H') → t xs σ H Q
structure Xgo (X : Cx) (own : List Nat) (tg : Expr) (w : WG) : Prop where
  ex : ∃ t, PG X tg t ∧ GGo X.K own t w
structure Xgso (X : Cx) (own : List Nat) (tgs : List Expr) (w : WGs) : Prop where
  ex : ∃ t, PGs X tgs t ∧ GGso X.K own t w
theorem uni_g {ι : Type} {Xf : ι → Cx} {K : PySem.W.Frag} {own : List Nat} {e : Expr} {w : WG} (hK : ∀ i, (Xf i).K = K) (h : ∀ i, Xgo (Xf i) own e w) : ∃ t, (∀ i, PG (Xf i) e t) ∧ GGo K own t w := by
  have h' : ∀ i, ∃ t, PG (Xf i) e t ∧ GGo K own t w := fun i => by
    obtain ⟨t, p, g⟩ := (h i).ex
    rw [hK i] at g
    exact ⟨t, p, g⟩
  refine ⟨fun x σ H Q => ∀ i, Classical.choose (h' i) x σ H Q, fun i => ⟨fun pins s σ H x u Q I r hq => (Classical.choose_spec (h' i)).1.run pins s σ H x u Q I r (hq i)⟩, ⟨fun {B F v m σ H d x k Q} hm re r hw hq i => (Classical.choose_spec (h' i)).2.run hm re r hw hq⟩⟩
section
variable {X : Cx} {W : WX} {e a b c o tg it elt : Expr} {es ifs : List Expr} {pos apos cpos : Pos} {own : List Nat}
theorem xgo_name {i : Nat} {x : Str} (hN : X.N.Nodup) (hi : X.N[i]? = some x) (hx : Loc X.env.scope x) (hf : X.fn x = true ∨ X.env.scope.names.lookup x = some .local) (ho : i ∈ own) : Xgo X own (.Name x pos) (gN i) :=
  ⟨_, pg_name hN hi hx hf, ⟨fun {B F v m σ H d x k Q} hm re r hw hq => hq _ m F H _ hw (Same.refl _) hm (re.set i r) (wipe_set ho)⟩⟩
theorem xgso_nil : Xgso X own [] gs0 := by
  refine ⟨_, pgs_nil, ⟨fun {B F v m σ H ds xs k Q} hm re r hw hq => ?_⟩⟩
  cases ds with
  | nil => exact ⟨repL_nil.mp r, hq v m F H σ hw (Same.refl _) hm re rfl⟩
  | cons d ds => exact hw.elim
theorem xgso_cons {g : WG} {r : WGs} (h1 : Xgo X own e g) (h2 : Xgso X own es r) (hs : starred e = false) : Xgso X own (e :: es) (gs1 g r) := by
  obtain ⟨t, p, q⟩ := h1.ex
  obtain ⟨u, p2, q2⟩ := h2.ex
  refine ⟨_, pgs_cons p p2 (assign_eq hs _), ⟨fun {B F v m σ H ds xs k Q} hm re rl hw hq => ?_⟩⟩
  cases ds with
  | nil => exact hw.elim
  | cons d ds =>
    obtain ⟨x, xr, rfl, r1, r2⟩ := repL_cons.mp rl
    refine ⟨x, xr, rfl, q.run hm re r1 hw fun v1 m1 F1 H1 σ1 hw1 e1 hm1 re1 z1 => ?_⟩
    exact q2.run hm1 re1 (repL_mono e1 _ r2) hw1 fun v2 m2 F2 H2 σ2 hw2 e2 hm2 re2 z2 => hq v2 m2 F2 H2 σ2 hw2 (e1.trans e2) hm2 re2 (z2.trans z1)
theorem xgo_tup {j : Nat} {r : WGs} (hc : X.calm = true) (h : Xgso X own es r) (hs : es.any starred = false) : Xgo X own (.Tuple es j pos) (gT es.length r) := by
  obtain ⟨t, p, q⟩ := h.ex
  refine ⟨_, pg_tup hc p assign_len (assign_star hs), ⟨fun {B F v m σ H d x k Q} hm re rl hw hq => ?_⟩⟩
  have vr := view_res hm rl
  unfold gT at hw
  split at hw
  · rename_i e
    rw [e] at vr
    obtain ⟨a, vs, rfl, ha, ra⟩ := vr
    have rs : RepL X.K F _ vs := ra
    exact ⟨a, vs, rfl, ha, by rw [ra.len]; exact hw.1, q.run hm re rs hw.2 hq⟩
  · exact hw.elim

/-! ### comprehensions -/
def wLc (z : Bool) (it : WI) (own : List Nat) (g : WG) (tt : WT) (te : WE) : WE := fun v m k kx => it v m (fun items m1 => ∃ I : Nat → List D → Mem → Prop, I 0 [] m1 ∧
  (∀ i d acc m2, items[i]? = some d → I i acc m2 → g d (wipeE v own) m2 fun v3 m3 => tt v3 m3 (fun q m4 =>
    (q = true → te v3 m4 (fun y m5 => acc.length < sizeLine ∧ I (i + 1) (acc ++ [y]) m5) kx0) ∧ (q = false → I (i + 1) acc m4)) kx0) ∧
  ∀ acc m2, I items.length acc m2 → newK z (.lst acc) m2 k) kx
/-- the same, of any statement that takes the list -/
theorem lc_ok {K : PySem.W.Frag} {wi : TI} {g : TG} {tt : TT} {te : TE} {w : WI} {wg : WG} {wt : WT} {we : WE} {z : Bool} (gi : GI K W wi w) (gg : GGo K own g wg) (gt : GT K W0 tt wt) (ge : GE K W0 te we) : GE K W (tLc wi g tt te own) (wLc z w own wg wt we) := by
  refine ⟨fun {B F v m σ H k kx Q} hm re hw hq hx => ?_⟩
  refine gi.run hm re hw (fun J items m1 F1 H1 hw1 e1 hm1 jo => ?_) hx
  obtain ⟨I, h0, hI, hE⟩ := hw1
  intro D hD
  have D0 : B.H0 D = none := hm1.h0 hD
  have re1 := (re.mono e1).wipes own
  refine ⟨fun i n H => n = items.length - i ∧ i ≤ items.length ∧ ∃ acc m F' vs, I i acc m ∧ Same F1 F' ∧ HM K B F' m H ∧ m D = none ∧ F' D = none ∧ H D = some (.lst vs) ∧ RepL K F' acc vs,
    ⟨items.length, by simp, Nat.zero_le _, [], m1, F1, [], h0, Same.refl _, hm1.aside hD _, hm1.mn hD, hm1.fn hD, upd_same, RepL.nil⟩, ?_⟩
  rintro i n H ⟨rfl, hil, acc, m, F', vs, hi, e', hm', dm, dF, hv, ra⟩
  have j := jo i H F' e' hm'.fr
  by_cases hlt : i < items.length
  · obtain ⟨jg, jy⟩ := j.1 hlt
    refine .inr ⟨jg, fun H' => ∃ acc m F' vs, I (i + 1) acc m ∧ Same F1 F' ∧ HM K B F' m H' ∧ m D = none ∧ F' D = none ∧ H' D = some (.lst vs) ∧ RepL K F' acc vs, fun H' h => ⟨items.length - (i + 1), by omega, rfl, hlt, h⟩, fun x H' y => ?_⟩
    obtain ⟨d, F2, hd, rd, hf⟩ := jy x H' y
    have big : Same F' F2 ∧ HM K B F2 m H' ∧ F2 D = none ∧ H' D = some (.lst vs) := by
      rcases hf with ⟨rfl, rfl⟩ | ⟨p, o, hp, rfl, rfl⟩
      · exact ⟨Same.refl _, hm', dF, hv⟩
      · have ne : D ≠ p := ne_of_none hv hp
        exact ⟨same_new (hm'.fn hp), hm'.new hp o, by rw [upd_ne ne]; exact dF, by rw [upd_ne ne]; exact hv⟩
    obtain ⟨e2, hm2, dF2, hv2⟩ := big
    -- the turn runs over a base of its own, so that the list that is made stays out of its sight
    have st := hm2.start
    have re2 := re1.mono (e'.trans e2)
    refine gg.run st re2 rd (hI i d acc m hd hi) fun v3 m3 F3 H3 σ3 hw3 e3 hm3 re3 z3 => ⟨z3.trans wipe_wipe, ?_⟩
    refine gt.run hm3 re3 hw3 (fun q m4 F4 H4 hw4 e4 hm4 => ?_) qx0
    cases q with
    | false =>
      rw [if_neg Bool.false_ne_true]
      obtain ⟨q1, q2, q3⟩ := hm4.hidden hv2 dm dF2
      exact ⟨acc, m4, F4, vs, hw4.2 rfl, (e'.trans e2).trans (e3.trans e4), hm2.after hm4, q2, q3, q1, repL_mono (e2.trans (e3.trans e4)) _ ra⟩
    | true =>
      rw [if_pos rfl]
      refine ge.run hm4 (re3.mono e4) (hw4.1 rfl) (fun y m5 F5 H5 u hw5 e5 hm5 r5 => ?_) qx0
      obtain ⟨q1, q2, q3⟩ := hm5.hidden hv2 dm dF2
      refine ⟨vs, q1, by rw [ra.len]; exact hw5.1, acc ++ [y], m5, F5, vs ++ [u], hw5.2, (e'.trans e2).trans ((e3.trans e4).trans e5), (hm2.after hm5).poke q2 q3 D0 _, q2, q3, upd_same, ?_⟩
      exact (repL_mono (e2.trans ((e3.trans e4).trans e5)) _ ra).append (RepL.cons r5 RepL.nil)
  · have el : i = items.length := by omega
    subst el
    refine .inl ⟨j.2 (Nat.le_refl _), ?_⟩
    have hk := hE acc m hi
    cases z with
    | true =>
      exact hq (.lst acc) m _ _ _ hk ((e1.trans e').trans (same_new dF)) (hm'.adopt dm dF D0 hv) (by unfold Rep; exact ⟨D, vs, rfl, upd_same, repL_mono (same_new dF) _ ra⟩)
    | false =>
      exact hq (.raw (.ref D)) _ _ _ _ (hk D dm) (e1.trans e') (hm'.adoptM dF D0 ⟨vs, hv, ra⟩) (by unfold Rep; rfl)
abbrev BI : Type := Shared × Hp × Addr × List (Str × Addr) × List Addr
abbrev blkOf (X : Cx) (scope : Scope) (i : BI) : Cx := X.blk i.1 i.2.1 scope (compEnvC scope i.2.2.2.1 i.2.2.1 X.env) i.2.2.2.2
theorem set_ok (h : ∀ z k p, it ≠ .Set z k p) (env : PySem.Env) : ∀ x, foldedSetIterable it env x = pure x := by
  intro x
  cases it <;> first
    | rfl
    | exact absurd rfl (h _ _ _)
theorem xe_lc {scope : Scope} {ow : List (Str × Nat)} {w : WI} {wg : WG} {wt : WT} {we : WE} {z : Bool} (hc : X.calm = true) (hN : X.N.Nodup) (hi : Xi X W tg it w) (ok : BlkOk X.N X.env.scope scope ow)
    (hg : ∀ i, Xgo (blkOf X scope i) (ow.map (·.2)) tg wg) (ht : ∀ i, Xts (blkOf X scope i) W0 ifs wt) (he : ∀ i, Xe (blkOf X scope i) W0 elt we) (hs : ∀ x, foldedSetIterable it X.env x = pure x) :
    Xe X W (.ListComp elt [⟨tg, it, ifs, 0⟩] scope pos) (wLc z w (ow.map (·.2)) wg wt we) := by
  obtain ⟨ti, p1, g1⟩ := hi.ex
  obtain ⟨tg', p2, g2⟩ := uni_g (Xf := fun i => blkOf X scope i) (K := X.K) (fun _ => rfl) hg
  obtain ⟨tt', p3, g3⟩ := uni_ts (Xf := fun i => blkOf X scope i) (K := X.K) (fun _ => rfl) ht
  obtain ⟨te', p4, g4⟩ := uni_e (Xf := fun i => blkOf X scope i) (K := X.K) (fun _ => rfl) he
  exact ⟨_, pe_lc hc hN p1 ok (fun s H C cl fp => p2 (s, H, C, cl, fp)) (fun s H C cl fp => p3 (s, H, C, cl, fp)) (fun s H C cl fp => p4 (s, H, C, cl, fp)) hs, lc_ok g1 g2 g3 g4⟩
theorem xs_setLc {i : Nat} {y : Str} {py spos : Pos} {scope : Scope} {ow : List (Str × Nat)} {w : WI} {wg : WG} {wt : WT} {we : WE} {z : Bool} (hc : X.calm = true) (hN : X.N.Nodup) (hy : X.N[i]? = some y) (hyl : X.env.scope.names.lookup y = some .local)
    (hsw : swapsWith (.ListComp elt [⟨tg, it, ifs, 0⟩] scope pos) (some (.Name y py)) spos.line X.env = pure true) (hi : Xi X W tg it w) (ok : BlkOk X.N X.env.scope scope ow)
    (hg : ∀ i, Xgo (blkOf X scope i) (ow.map (·.2)) tg wg) (ht : ∀ i, Xts (blkOf X scope i) W0 ifs wt) (he : ∀ i, Xe (blkOf X scope i) W0 elt we) (hs : ∀ x, foldedSetIterable it X.env x = pure x) :
    Xs X W (.Assign [.Name y py] (.ListComp elt [⟨tg, it, ifs, 0⟩] scope pos) spos) (sSet i (wLc z w (ow.map (·.2)) wg wt we)) := by
  obtain ⟨ti, p1, g1⟩ := hi.ex
  obtain ⟨tg', p2, g2⟩ := uni_g (Xf := fun i => blkOf X scope i) (K := X.K) (fun _ => rfl) hg
  obtain ⟨tt', p3, g3⟩ := uni_ts (Xf := fun i => blkOf X scope i) (K := X.K) (fun _ => rfl) ht
  obtain ⟨te', p4, g4⟩ := uni_e (Xf := fun i => blkOf X scope i) (K := X.K) (fun _ => rfl) he
  refine ⟨_, ps_setLc hc hN hy hyl hsw p1 ok (fun s H C cl fp => p2 (s, H, C, cl, fp)) (fun s H C cl fp => p3 (s, H, C, cl, fp)) (fun s H C cl fp => p4 (s, H, C, cl, fp)) hs, ?_⟩
  refine ⟨fun {B F v m σ H P E} hm re hw rl => ?_⟩
  exact (lc_ok (z := z) g1 g2 g3 g4).run hm re hw (fun d m1 F1 H1 x hw1 e1 hm1 r1 => rl.nx _ m1 F1 H1 _ hw1 e1 hm1 ((re.mono e1).set i r1)) (rl.qx re)

/-! ### own exceptions -/
/-- the promise of an own exception's __init__ whose parameters are its fields -/
def spXI (C : Addr) (n : Nat) (ps : List Str) : Sp := fun vs H Q _ => ∃ (a : Addr) (ys : List V), vs = .ref a :: ys ∧ ys.length = n ∧ ps.length = n ∧ H a = some (exo a C none) ∧ ∀ d, H d = none → d ≠ a → Q .non (upd (upd H d (exd d (ps.zip ys).reverse)) a (exo a C (some d)))
/-- what is known of an own exception class -/
structure XCls (P : Program) (w : World) (K : PySem.W.Frag) (mg : Str → Option Value) (base : Heap) (k : Nat) (C : Str) (ps : List Str) : Prop where
  oex : OexC K (He.ga K C)
  mg_ : mg C = some (.ref (He.ga K C))
  ini : ∃ fI fd pp, PySem.W.findIn K (.ref (He.ga K C)) "__init__" = some (some (.ref fI)) ∧ PySem.W.typeIn K (.ref fI) = some (.type "function") ∧ FnOk P w K mg base CX0 k fI fd pp (spXI (He.ga K C) ps.length ps) ∧ Binds K fd pp []
def sRaise (C : Str) (ps : List Str) (w : WL) : WS := fun v m P => w v m (fun ds m1 => ds.length = ps.length ∧ ds.length ≤ 1000 ∧ P.ex ⟨C, ps.reverse, ds.reverse⟩ v m1) fun x m => P.ex x v m
theorem zip_fst : ∀ (ps : List Str) (ys : List V), ys.length = ps.length → (ps.zip ys).map (·.1) = ps
  | [], _, _ => by simp
  | p :: ps, [], h => by simp at h
  | p :: ps, y :: ys, h => by
    rw [List.zip_cons_cons, List.map_cons, zip_fst ps ys (by simpa using h)]
theorem zip_snd : ∀ (ps : List Str) (ys : List V), ys.length = ps.length → (ps.zip ys).map (·.2) = ys
  | [], [], _ => rfl
  | [], y :: ys, h => by simp at h
  | p :: ps, [], h => by simp at h
  | p :: ps, y :: ys, h => by
    rw [List.zip_cons_cons, List.map_cons, zip_snd ps ys (by simpa using h)]
theorem xs_raise {k : Nat} {C : Str} {ps : List Str} {p pos2 : Pos} {w : WL} (hc : X.calm = true) (T : XCls X.prog X.w X.K X.mg X.base k C ps) (hr : Room (k + 1) X.A) (tk : Takes X W) (hg : Gl X C) (ha : Xl X W (e :: es) w)
    (hdb : (C == ("__debug__" : Str)) = false) (hs : (e :: es).any starred = false) : Xs X W (.Raise (some (.Call (.Name C p) (e :: es) [] pos)) none pos2) (sRaise C ps w) := by
  obtain ⟨fI, fd, pp, q1, q2, q3, q4⟩ := T.ini
  obtain ⟨t, p1, g1⟩ := ha.ex
  rw [List.any_cons, Bool.or_eq_false_iff] at hs
  have mk := pmk_oex (p := p) (pos := pos) T.oex q1 q2 q3 hr q4 .nil (fun _ _ _ _ _ _ _ h => h.elim) hg T.mg_ p1 hdb (star_eq hs.1 _) (any_star hs.2)
  refine ⟨_, ps_raise hc tk mk, ⟨fun {B F v m σ H P E} hm re hw rl => ?_⟩⟩
  refine g1.run hm re hw (fun ds m1 F1 H1 vs hw1 e1 hm1 r1 => ?_) (rl.qx re)
  obtain ⟨h1, h2, h3⟩ := hw1
  have hl := r1.len
  refine ⟨by rw [hl]; exact h2, fun a hna => ?_⟩
  refine ⟨a, vs ++ [], rfl, by simp [hl, h1], rfl, upd_same, fun d hd hda => ⟨rfl, d, (ps.zip (vs ++ [])).reverse, upd_same, ?_, ?_, ?_⟩⟩
  · rw [upd_ne hda, upd_same]
  · rw [upd_ne hda] at hd; exact hd
  · have hd1 : H1 d = none := by rw [upd_ne hda] at hd; exact hd
    rw [List.append_nil]
    have eqH : upd (del (upd (upd (upd H1 a (exo a (He.ga X.K C) none)) d (exd d (ps.zip vs).reverse)) a (exo a (He.ga X.K C) (some d))) a) d (.xd (ps.zip vs).reverse) = upd H1 d (.xd (ps.zip vs).reverse) := by
      funext b
      by_cases hb : b = d
      · rw [hb, upd_same, upd_same]
      · rw [upd_ne hb, upd_ne hb]
        by_cases hba : b = a
        · rw [hba, del_same, hna]
        · rw [del_ne hba, upd_ne hba, upd_ne hb, upd_ne hba]
    rw [eqH]
    have hz : vs.length = ps.length := by rw [hl, h1]
    refine rl.ex _ v m1 _ σ _ d h3 (e1.trans (same_new (hm1.fn hd1))) (hm1.new hd1 _) ((re.mono e1).mono (same_new (hm1.fn hd1))) ⟨(ps.zip vs).reverse, upd_same, ?_, ?_⟩
    · rw [List.map_reverse, zip_fst ps vs hz]
    · rw [List.map_reverse, zip_snd ps vs hz]
      exact repL_mono (same_new (hm1.fn hd1)) _ r1.reverse
end
end Ab
end

section
/-! Ab8: try with several clauses. -/
namespace Ab
open PySem PySem.Spec L2

/-! ### clauses with and without a name -/
abbrev Cl := Value × Option Nat × (Addr → Value → Option Addr → TS)
def bare (E : Ends) (i : Nat) : Ends where
  nx := fun σ H => E.nx (σ.set i none) H
  rt := E.rt
  bk := fun σ H => E.bk (σ.set i none) H
  ct := fun σ H => E.ct (σ.set i none) H
def wCl (K : PySem.W.Frag) (Wo : WX) (E : Ends) : List Cl → WX
  | [] => Wo
  | (c, some i, ts) :: r => fun cls d σ H => ∃ q, PySem.W.exmOne K cls c = some q ∧ (q = true → ∀ a, H a = none → ts a cls d (bare E i) (σ.set i (some (.ref a))) H) ∧ (q = false → wCl K Wo E r cls d σ H)
  | (c, none, ts) :: r => fun cls d σ H => ∃ q, PySem.W.exmOne K cls c = some q ∧ (q = true → ∀ a, H a = none → ts a cls d E σ H) ∧ (q = false → wCl K Wo E r cls d σ H)
inductive ClOk (X : Cx) : List ExceptHandler → List Cl → Prop
  | nil : ClOk X [] []
  | as {x n : Str} {i : Nat} {c : Value} {ts : Addr → Value → Option Addr → TS} {s0 : Stmt} {ss : List Stmt} {p p' : Pos} {hs : List ExceptHandler} {l : List Cl} (hi : X.N[i]? = some n) (hn : X.env.kindOf n = some .local) (hc : Names X x c)
      (hb : ∀ (a : Addr) (oe : Obj) (cls : Value) (d : Option Addr) (pn : List (Addr × Obj)), Zc cls d oe → (∃ us, oe.data = .fields us) → PSs (X.suite a ((a, oe) :: pn)) (s0 :: ss) (ts a cls d)) (r : ClOk X hs l) :
      ClOk X (.ExceptHandler (some (.Name x p)) (some n) (s0 :: ss) p' :: hs) ((c, some i, ts) :: l)
  | no {x : Str} {c : Value} {ts : Addr → Value → Option Addr → TS} {s0 : Stmt} {ss : List Stmt} {p p' : Pos} {hs : List ExceptHandler} {l : List Cl} (hc : Names X x c)
      (hb : ∀ (a : Addr) (oe : Obj) (cls : Value) (d : Option Addr) (pn : List (Addr × Obj)), Zc cls d oe → (∃ us, oe.data = .fields us) → PSs (X.suite a ((a, oe) :: pn)) (s0 :: ss) (ts a cls d)) (r : ClOk X hs l) :
      ClOk X (.ExceptHandler (some (.Name x p)) none (s0 :: ss) p' :: hs) ((c, none, ts) :: l)
section
variable {X : Cx} {body : List Stmt} {h0 : ExceptHandler} {hds : List ExceptHandler} {l : List Cl} {pos : Pos} {tb : WX → TS} {Wo : WX}
theorem ps_tryCl (hst : X.stack = X.env :: X.outer) (hfr : X.env.frame = some X.env.locals) (nd : X.N.Nodup) (tk : Takes X Wo)
    (hb : ∀ (V : WX) (pn : List (Addr × Obj)) (xe : Value → Shared → Prop), Takes (X.tr pn xe) V → PassesOwn (model X.prog X.w) X.A X.env xe → PSs (X.tr pn xe) body (tb V))
    (hc : ClOk X (h0 :: hds) l) : PS X (.Try body (h0 :: hds) [] [] pos) (fun E σ H => tb (wCl X.K Wo E l) E σ H) := by
  constructor
  intro pins st σ H E I hw
  have ok := I.ok
  have frm : X.A.frames = some (X.env :: X.outer) := ok.frames.trans (congrArg some hst)
  refine wpAny_Try_except (wpAny_mono ((hb (wCl X.K Wo E l) (X.pn ++ pins) _ (fun u s' z => ?ctch) PassesOwn.looking).run [] st σ H E (I.toTry _) hw) (fun f s1 q => ?thru) fun _ _ z => z)
  case thru =>
    cases f with
    | next =>
      obtain ⟨σ1, H1, J, q⟩ := q
      exact wpAny_execs_nil ⟨σ1, H1, J.ofTry ok, q⟩
    | brk =>
      obtain ⟨σ1, H1, J, q⟩ := q
      exact ⟨σ1, H1, J.ofTry ok, q⟩
    | cont =>
      obtain ⟨σ1, H1, J, q⟩ := q
      exact ⟨σ1, H1, J.ofTry ok, q⟩
    | ret u =>
      obtain ⟨v, σ1, H1, J, r, q⟩ := q
      exact ⟨v, σ1, H1, J.ofTry ok, r, q⟩
  case ctch =>
    obtain ⟨a, G, sI, pins2, σ1, H1, cls, d, rfl, J2, gb, up, sk, na, os, ag, w⟩ := z
    have J := J2.ofTry (pins := pins) ok
    have sk2 : Sky G (X.env :: X.outer) a (Zc cls d) X.env.locals s'.heap := hst ▸ sk
    refine Sky.land (A := X.A) (env := X.env) Zc.steady frm hfr sk2 fun h3 fl up3 => ?_
    have J3 := J.landed (s' := { s' with heap := h3 }) gb fl.1 (up.trans up3) os ag
    obtain ⟨o3, us3, g3, z3, d3⟩ := fl.there
    have out : a ∉ frs (X.env :: X.outer) := fun hm => by
      obtain ⟨_, o', e', nf⟩ := (fl.2.2.1).mem hm
      cases g3.symm.trans e'
      exact nf _ d3
    have nL : a ≠ X.env.locals := fun z => out (List.mem_filterMap.mpr ⟨_, List.mem_cons_self, hfr.trans (congrArg some z.symm)⟩)
    have nF : a ∉ X.fs := fun hm => out (by
      obtain ⟨en, hen, q⟩ := List.mem_filterMap.mp hm
      exact List.mem_filterMap.mpr ⟨en, List.mem_cons_of_mem _ hen, q⟩)
    have S3 := J3.suite g3 d3 na nL nF
    have LT : PySem.W.Looks (model X.prog X.w) h3 (typeOf (.ref a)) cls := fun A Q E s k q => wpAny_typeOf_ref (k _ _ g3) (by rw [z3.1]; exact q)
    have named : ∀ {x : Str} {c : Value} {p : Pos} {Q : Value → Shared → Prop} {E : Value → Shared → Prop}, Names X x c → Q c { s' with heap := h3 } →
        wpAny (model X.prog X.w) (X.A.mark (some (.ref a))) (eval (.Name x p) X.env) Q E { s' with heap := h3 } := fun {x c p Q E} nm q => by
      rcases nm with ⟨n1, n2, n3 | ⟨n3, n4, n5⟩⟩
      · exact ld_glob (X := X.suite a ((a, o3) :: (X.pn ++ pins))) S3 n1 n3 q n2
      · exact ld_blt (X := X.suite a ((a, o3) :: (X.pn ++ pins))) S3 n1 n3 n4 q n5 n2
    suffices go : ∀ {hs' : List ExceptHandler} {l' : List Cl}, ClOk X hs' l' → wCl X.K Wo E l' cls d σ1 H1 → wpAny (model X.prog X.w) X.A (handleBy (.ref a) X.env hs') (SP X pins E) X.xe { s' with heap := h3 } from go hc w
    intro hs' l' hk
    induction hk with
    | nil =>
      intro w
      refine wpAny_handleBy_nil ?_
      obtain ⟨_, _, _, oe, us, T, _, _, ge, _, de, u1, _⟩ := id fl
      unfold PySem.passOn
      refine wpAny_bind (wpAny_field ge de u1 ?_)
      rw [if_neg (by simp : ¬ ((Value.ref T == Value.none) = true))]
      have on : wpAny (model X.prog X.w) X.A (setFlight (.ref a) X.env.frame) (fun _ s4 => wpAny (model X.prog X.w) X.A (throw (.ref a) : Sem Flow) (SP X pins E) X.xe s4) X.xe { s' with heap := h3 } := by
        rw [hfr]
        refine HandSPX.setFlight_upZ fl fun h4 hh up4 => ?_
        refine wpAny_throw (tk _ _ ⟨a, G, sI, pins, σ1, H1, cls, d, rfl, J, gb, (up.trans up3).trans up4, .inr (.inr (by rw [hst]; exact hh)), na, os, ag, w⟩)
      first
        | exact wpAny_bind (wpAny_pure (wpAny_bind on))
        | exact wpAny_bind on
    | @as x n i c ts s0 ss p p' hs2 l2 hi hn hcx hbody r ih =>
      intro w
      obtain ⟨q, q1, yes, no⟩ := w
      refine wpAny_handleBy_cons (codeAny_handlers_test ?_) (by intro z; cases z)
      refine named hcx ((PySem.W.exm_one (M := model X.prog X.w) J3.kIn LT q1).here ?_)
      cases q with
      | false => exact ih (no rfl)
      | true =>
        refine codeAny_handlers_suite_as (HandSPX.lands_againZ fl fun h4 fl4 up4 => ?_)
        have J4 := J.landed (s' := { s' with heap := h4 }) gb fl4.1 ((up.trans up3).trans up4) os ag
        obtain ⟨o4, us4, g4, z4, d4⟩ := fl4.there
        have S4 := J4.suite g4 d4 na nL nF
        refine store_ok (X := X.suite a ((a, o4) :: (X.pn ++ pins))) (v := .ref a) S4 nd hi (.inl hn) rfl (fun s5 S5 => ?_) (.inr hn)
        refine wpAny_mono ((hbody a o4 cls d (X.pn ++ pins) z4 ⟨_, d4⟩).run [] s5 _ H1 _ S5 (yes rfl a na)) (fun f s6 hsp => ?_) (fun _ _ z => False.elim z)
        have gone : ∀ {σ6 : L2.St} {H6 : Hp} {Q : Shared → Prop}, Inv (X.suite a ((a, o4) :: (X.pn ++ pins))) [] σ6 H6 s6 → (∀ s7, Inv X pins (σ6.set i none) H6 s7 → Q s7) →
            wpAny (model X.prog X.w) X.A (do bindName X.env n .none; unbindBehindTheSuite X.env n p') (fun _ s7 => Q s7) X.xe s6 := fun S6 hq => gone_ok (S6.unsuite ok) nd hi hn hq
        cases f with
        | next =>
          obtain ⟨σ6, H6, S6, q6⟩ := hsp
          exact gone S6 fun s7 J7 => ⟨_, _, J7, q6⟩
        | brk =>
          obtain ⟨σ6, H6, S6, q6⟩ := hsp
          exact gone S6 fun s7 J7 => ⟨_, _, J7, q6⟩
        | cont =>
          obtain ⟨σ6, H6, S6, q6⟩ := hsp
          exact gone S6 fun s7 J7 => ⟨_, _, J7, q6⟩
        | ret u =>
          obtain ⟨v6, σ6, H6, S6, r6, q6⟩ := hsp
          exact gone S6 fun s7 J7 => ⟨_, _, _, J7, r6, q6⟩
    | @no x c ts s0 ss p p' hs2 l2 hcx hbody r ih =>
      intro w
      obtain ⟨q, q1, yes, no⟩ := w
      refine wpAny_handleBy_cons (codeAny_handlers_test ?_) (by intro z; cases z)
      refine named hcx ((PySem.W.exm_one (M := model X.prog X.w) J3.kIn LT q1).here ?_)
      cases q with
      | false => exact ih (no rfl)
      | true =>
        refine codeAny_handlers_suite (HandSPX.lands_againZ fl fun h4 fl4 up4 => ?_)
        have J4 := J.landed (s' := { s' with heap := h4 }) gb fl4.1 ((up.trans up3).trans up4) os ag
        obtain ⟨o4, us4, g4, z4, d4⟩ := fl4.there
        refine wpAny_mono ((hbody a o4 cls d (X.pn ++ pins) z4 ⟨_, d4⟩).run [] _ _ H1 _ (J4.suite g4 d4 na nL nF) (yes rfl a na)) (fun f s6 hsp => ?_) (fun _ _ z => False.elim z)
        cases f with
        | next =>
          obtain ⟨σ6, H6, S6, q6⟩ := hsp
          exact ⟨_, _, S6.unsuite ok, q6⟩
        | brk =>
          obtain ⟨σ6, H6, S6, q6⟩ := hsp
          exact ⟨_, _, S6.unsuite ok, q6⟩
        | cont =>
          obtain ⟨σ6, H6, S6, q6⟩ := hsp
          exact ⟨_, _, S6.unsuite ok, q6⟩
        | ret u =>
          obtain ⟨v6, σ6, H6, S6, r6, q6⟩ := hsp
          exact ⟨_, _, _, S6.unsuite ok, r6, q6⟩
end

/-! ### suites -/
inductive SuK where
  /-- return [s, e.f] -/
  | ret (s f : Str)
  /-- name = [k, e.f] -/
  | set (j : Nat) (k : Int) (f : Str)
  /-- return None -/
  | non
def fieldOf (x : Exn) (f : Str) : Option D := (x.ns.zip x.ds).lookup f
def suW (su : SuK) (i : Option Nat) (x : Exn) (v : Env) (m : Mem) (P : SK) : Prop := match su, i with
  | .ret s f, some i => i < v.length ∧ ∃ d, fieldOf x f = some d ∧ P.rt (.lst [.str s, d]) m
  | .set j k f, some i => i < v.length ∧ i ≠ j ∧ ∃ d, fieldOf x f = some d ∧ P.nx ((v.set j (some (.lst [.int k, d]))).set i none) m
  | .non, none => P.rt .non m
  | _, _ => False
/-- what is known of the exception classes -/
structure XF (K : PySem.W.Frag) (mg : Str → Option Value) (xs fs : List Str) : Prop where
  exm : ∀ x ∈ xs, ∀ y ∈ xs, PySem.W.exmOne K (.ref (He.ga K x)) (.ref (He.ga K y)) = some (decide (x = y))
  xfc : ∀ x ∈ xs, XfC K (He.ga K x)
  noat : ∀ x ∈ xs, ∀ f ∈ fs, PySem.W.findIn K (.ref (He.ga K x)) f = some none
  glo : ∀ x ∈ xs, mg x = some (.ref (He.ga K x))
abbrev Hnd := Str × Option Nat × SuK
def hands (xs fs : List Str) (P : SK) : List Hnd → Exn → Env → Mem → Prop
  | [], x, v, m => P.ex x v m
  | (n, i, su) :: r, x, v, m => x.C ∈ xs ∧ (x.C = n → suW su i x v m P) ∧ (x.C ≠ n → hands xs fs P r x v m)
def sTry (xs fs : List Str) (b : WS) (hs : List Hnd) : WS := fun v m P => b v m { P with ex := hands xs fs P hs }
theorem field_ok {K : PySem.W.Frag} {F : Hp} {x : Exn} {f : Str} {d : D} {vs : List (Str × V)} (h : fieldOf x f = some d) (hn : vs.map (·.1) = x.ns) (hr : RepL K F x.ds (vs.map (·.2))) : ∃ v, vs.lookup f = some v ∧ Rep K F d v := by
  unfold fieldOf at h
  obtain ⟨C, ns, ds⟩ := x
  simp only at hn hr h
  subst hn
  induction vs generalizing ds with
  | nil => simp at h
  | cons p vs ih =>
    obtain ⟨g, v⟩ := p
    cases ds with
    | nil =>
      rw [List.map_cons] at hr
      cases (repL_nil.mp hr)
    | cons e ds =>
      obtain ⟨u, t, q1, r1, r2⟩ := repL_cons.mp hr
      rw [List.map_cons] at q1
      have e1 := (List.cons.inj q1).1
      have e2 := (List.cons.inj q1).2
      rw [List.map_cons, List.zip_cons_cons] at h
      rw [lookup_put] at *
      by_cases z : f = g
      · subst z
        rw [if_pos rfl]
        have hh : some e = some d := by
          have := h
          simp [List.lookup] at this
          rw [this]
        cases hh
        exact ⟨v, rfl, by rw [show v = u from e1]; exact r1⟩
      · rw [if_neg z]
        have zz : (f == g) = false := by simpa using z
        have h' : ((vs.map (·.1)).zip ds).lookup f = some d := by
          have := h
          simp only [List.lookup, zz] at this
          exact this
        exact ih ds (by rw [show vs.map (·.2) = t from e2]; exact r2) h'
/-- the readings of the suites -/
def tSu (K : PySem.W.Frag) (C : Addr) (su : SuK) (i : Option Nat) (a : Addr) (cls : Value) (d : Option Addr) : TS := match su, i with
  | .ret s f, some i => tRet (tLst (tCons (tC (.str s)) (tCons (tXf a cls d C f (tVar i)) tNil)))
  | .set j k f, some i => tAsg (tLst (tCons (tC (.int k)) (tCons (tXf a cls d C f (tVar i)) tNil))) (gName j)
  | .non, none => tRet (tC .non)
  | _, _ => fun _ _ _ => False
theorem gs_su {K : PySem.W.Frag} {mg : Str → Option Value} {xs fs : List Str} {B : Bs} {F : Hp} {v : Env} {m : Mem} {σ : L2.St} {H : Hp} {P : SK} {E : Ends} {W : WX} {su : SuK} {x : Exn} {dd a : Addr} (hm : HM K B F m H) (re : REnv K F v σ) (rx : RX K F x dd) (rl : RL K W B F P E) (na : H a = none) :
    (∀ i, suW su (some i) x v m P → tSu K (He.ga K x.C) su (some i) a (.ref (He.ga K x.C)) (some dd) (bare E i) (σ.set i (some (.ref a))) H) ∧ (suW su none x v m P → tSu K (He.ga K x.C) su none a (.ref (He.ga K x.C)) (some dd) E σ H) := by
  obtain ⟨vs, x1, x2, x3⟩ := rx
  refine ⟨fun i hw => ?_, fun hw => ?_⟩
  · have get : i < v.length → (σ.set i (some (V.ref a)))[i]? = some (some (.ref a)) := fun hi => List.getElem?_set_self (by rw [re.len]; exact hi)
    cases su with
    | ret s f =>
      obtain ⟨hi, d, h1, h2⟩ := hw
      obtain ⟨y, y1, y2⟩ := field_ok h1 x2 x3
      refine ⟨_, get hi, rfl, rfl, dd, vs, y, rfl, hm.fr _ _ x1, y1, by show 2 ≤ sizeLine; decide, fun p hp => ?_⟩
      exact newK_ok (z := true) hm hp (RepL.cons rep_str (RepL.cons y2 RepL.nil)) h2 rl.rt
    | set j k f =>
      obtain ⟨hi, hij, d, h1, h2⟩ := hw
      obtain ⟨y, y1, y2⟩ := field_ok h1 x2 x3
      refine ⟨_, get hi, rfl, rfl, dd, vs, y, rfl, hm.fr _ _ x1, y1, by show 2 ≤ sizeLine; decide, fun p hp => ?_⟩
      show E.nx (((σ.set i (some (.ref a))).set j (some (.ref p))).set i none) _
      have e1 := same_new (o := .lst [V.int k, y]) (hm.fn hp)
      have r1 : REnv K (upd F p (.lst [V.int k, y])) ((v.set j (some (.lst [.int k, d]))).set i none) ((σ.set j (some (.ref p))).set i none) :=
        ((re.mono e1).set j (by unfold Rep; exact ⟨p, _, rfl, upd_same, RepL.cons rep_int (RepL.cons (rep_mono e1 _ y2) RepL.nil)⟩)).wipe i
      have eq : ((σ.set i (some (.ref a))).set j (some (.ref p))).set i none = (σ.set j (some (.ref p))).set i none := by
        rw [List.set_comm _ _ hij, List.set_set]
      rw [eq]
      exact rl.nx _ m _ _ _ h2 e1 (hm.new hp _) r1
    | non => exact hw.elim
  · cases su with
    | non => exact rl.rt .non m F H _ hw (Same.refl _) hm rep_non
    | _ => exact hw.elim
theorem hands_ok {K : PySem.W.Frag} {mg : Str → Option Value} {xs fs : List Str} {B : Bs} {F : Hp} {v : Env} {m : Mem} {σ : L2.St} {H : Hp} {P : SK} {E : Ends} {W : WX} {x : Exn} {dd : Addr} (T : XF K mg xs fs) (hm : HM K B F m H) (re : REnv K F v σ) (rx : RX K F x dd) (rl : RL K W B F P E) :
    ∀ {hs : List Hnd}, (∀ h ∈ hs, h.1 ∈ xs) → hands xs fs P hs x v m → wCl K W E (hs.map fun h => (.ref (He.ga K h.1), h.2.1, tSu K (He.ga K h.1) h.2.2 h.2.1)) (.ref (He.ga K x.C)) (some dd) σ H
  | [], _, hw => rl.ex x v m F σ H dd hw (Same.refl _) hm re rx
  | (n, i, su) :: r, hh, hw => by
    obtain ⟨h1, h2, h3⟩ := hw
    have hn := hh (n, i, su) List.mem_cons_self
    have ih := fun q => hands_ok T hm re rx rl (hs := r) (fun h z => hh h (List.mem_cons_of_mem _ z)) (h3 q)
    have ex := T.exm _ h1 _ hn
    cases i with
    | some i =>
      refine ⟨_, ex, fun q a na => ?_, fun q => ih (of_decide_eq_false q)⟩
      have e : x.C = n := of_decide_eq_true q
      subst e
      exact (gs_su (mg := mg) (xs := xs) (fs := fs) hm re rx rl na).1 i (h2 rfl)
    | none =>
      refine ⟨_, ex, fun q a na => ?_, fun q => ih (of_decide_eq_false q)⟩
      have e : x.C = n := of_decide_eq_true q
      subst e
      exact (gs_su (mg := mg) (xs := xs) (fs := fs) hm re rx rl na).2 (h2 rfl)
/-! ### the clauses of the text -/
inductive HCs (X : Cx) (xs fs : List Str) : List ExceptHandler → List Hnd → Prop
  | nil : HCs X xs fs [] []
  | ret {x n f s : Str} {i : Nat} {j : Nat} {p1 p2 p3 p4 p5 p6 p7 : Pos} {hs : List ExceptHandler} {l : List Hnd} (hi : X.N[i]? = some n) (hn : X.env.kindOf n = some .local) (hv : Vis X.env.scope n) (hd : (n == ("__debug__" : Str)) = false) (hcd : (n == ("__classdict__" : Str)) = false)
      (hg : Gl X x) (hdb : (x == ("__debug__" : Str)) = false) (hx : x ∈ xs) (hf : f ∈ fs) (r : HCs X xs fs hs l) :
      HCs X xs fs (.ExceptHandler (some (.Name x p1)) (some n) [.Return (some (.List [.Constant (.str s) j p2, .Attribute (.Name n p3) f p4] p5)) p6] p7 :: hs) ((x, some i, .ret s f) :: l)
  | set {x n f y : Str} {i ji : Nat} {k : Int} {j : Nat} {p1 p2 p3 p4 p5 p6 p7 p8 : Pos} {hs : List ExceptHandler} {l : List Hnd} (hi : X.N[i]? = some n) (hn : X.env.kindOf n = some .local) (hv : Vis X.env.scope n) (hd : (n == ("__debug__" : Str)) = false) (hcd : (n == ("__classdict__" : Str)) = false)
      (hN : X.N.Nodup) (hji : X.N[ji]? = some y) (hy : Loc X.env.scope y) (hyl : X.env.scope.names.lookup y = some .local)
      (hg : Gl X x) (hdb : (x == ("__debug__" : Str)) = false) (hx : x ∈ xs) (hf : f ∈ fs) (r : HCs X xs fs hs l) :
      HCs X xs fs (.ExceptHandler (some (.Name x p1)) (some n) [.Assign [.Name y p8] (.List [.Constant (.int k) j p2, .Attribute (.Name n p3) f p4] p5) p6] p7 :: hs) ((x, some i, .set ji k f) :: l)
  | non {x : Str} {j : Nat} {p1 p5 p6 p7 : Pos} {hs : List ExceptHandler} {l : List Hnd} (hg : Gl X x) (hdb : (x == ("__debug__" : Str)) = false) (hx : x ∈ xs) (r : HCs X xs fs hs l) :
      HCs X xs fs (.ExceptHandler (some (.Name x p1)) none [.Return (some (.Constant .none j p5)) p6] p7 :: hs) ((x, none, .non) :: l)
theorem hcs_ok {X : Cx} {xs fs : List Str} (T : XF X.K X.mg xs fs) : ∀ {hs : List ExceptHandler} {l : List Hnd}, HCs X xs fs hs l → ClOk X hs (l.map fun h => (.ref (He.ga X.K h.1), h.2.1, tSu X.K (He.ga X.K h.1) h.2.2 h.2.1)) := by
  intro hs l h
  induction h with
  | nil => exact .nil
  | ret hi hn hv hd hcd hg hdb hx hf r ih =>
    refine .as hi hn ⟨hg, hdb, .inl (T.glo _ hx)⟩ (fun a oe cls d pn z1 z2 => ?_) ih
    exact pss_one (ps_ret (pe_lst (pa_cons pe_str (pa_cons (pe_xf (T.xfc _ hx) (T.noat _ hx _ hf) z1 z2 (pe_var (X := X.suite a ((a, oe) :: pn)) hi hv hd hcd)) pa_nil))))
  | set hi hn hv hd hcd hN hji hy hyl hg hdb hx hf r ih =>
    refine .as hi hn ⟨hg, hdb, .inl (T.glo _ hx)⟩ (fun a oe cls d pn z1 z2 => ?_) ih
    exact pss_one (ps_set (X := X.suite a ((a, oe) :: pn)) hN hji hy (pe_lst (pa_cons pe_int (pa_cons (pe_xf (T.xfc _ hx) (T.noat _ hx _ hf) z1 z2 (pe_var (X := X.suite a ((a, oe) :: pn)) hi hv hd hcd)) pa_nil))) rfl (.inr hyl))
  | non hg hdb hx r ih =>
    refine .no ⟨hg, hdb, .inl (T.glo _ hx)⟩ (fun a oe cls d pn z1 z2 => ?_) ih
    exact pss_one (ps_ret pe_non)
theorem hcs_in {X : Cx} {xs fs : List Str} {hs : List ExceptHandler} {l : List Hnd} (h : HCs X xs fs hs l) : ∀ h ∈ l, h.1 ∈ xs := by
  induction h with
  | nil => intro h hh; cases hh
  | ret _ _ _ _ _ _ _ hx _ _ ih => intro h hh; cases hh with
    | head => exact hx
    | tail _ z => exact ih _ z
  | set _ _ _ _ _ _ _ _ _ _ _ hx _ _ ih => intro h hh; cases hh with
    | head => exact hx
    | tail _ z => exact ih _ z
  | non _ _ hx _ ih => intro h hh; cases hh with
    | head => exact hx
    | tail _ z => exact ih _ z
theorem xs_try {X : Cx} {W : WX} {xs fs : List Str} {body : List Stmt} {h0 : ExceptHandler} {hds : List ExceptHandler} {l : List Hnd} {pos : Pos} {wb : WS} (hst : X.stack = X.env :: X.outer) (hfr : X.env.frame = some X.env.locals) (nd : X.N.Nodup) (tk : Takes X W) (T : XF X.K X.mg xs fs)
    (hb : ∀ (V : WX) (pn : List (Addr × Obj)) (xe : Value → Shared → Prop), Takes (X.tr pn xe) V → PassesOwn (model X.prog X.w) X.A X.env xe → Xss (X.tr pn xe) V body wb) (hc : HCs X xs fs (h0 :: hds) l) : Xs X W (.Try body (h0 :: hds) [] [] pos) (sTry xs fs wb l) := by
  let I (V : WX) : Type := { q : List (Addr × Obj) × (Value → Shared → Prop) // Takes (X.tr q.1 q.2) V ∧ PassesOwn (model X.prog X.w) X.A X.env q.2 }
  have pick : ∀ (V : WX) (q : I V), ∃ t, PSs (X.tr q.1.1 q.1.2) body t ∧ GS X.K V t wb := fun V q => (hb V q.1.1 q.1.2 q.2.1 q.2.2).ex
  refine ⟨_, ps_tryCl (tb := fun V E σ H => ∀ q : I V, Classical.choose (pick V q) E σ H) hst hfr nd tk (fun V pn xe h1 h2 => ⟨fun pins s σ H E J h => ?_⟩) (hcs_ok T hc), ⟨fun {B F v m σ H P E} hm re hw rl q => ?_⟩⟩
  · exact (Classical.choose_spec (pick V ⟨(pn, xe), h1, h2⟩)).1.run pins s σ H E J (h ⟨(pn, xe), h1, h2⟩)
  · refine (Classical.choose_spec (pick _ q)).2.run hm re hw ⟨rl.nx, rl.rt, rl.bk, rl.ct, fun x v1 m1 F1 σ1 H1 dd hx e1 hm1 re1 rx => ?_⟩
    exact hands_ok T hm1 re1 rx (rl.mono e1) (hcs_in hc) hx
end Ab
end

section
/-! Ab9: from the text to what it comes to: expressions. -/
namespace Ab
open PySem PySem.Spec L2

/-! ### walks over a list or a tuple, names -/
def iSeq (a : WE) : WI := fun v m k kx => a v m (fun d m1 => match d with
  | .lst xs => k xs m1
  | .frl xs => k xs m1
  | .tup xs => k xs m1
  | _ => False) kx
def tISeq (K : PySem.W.Frag) (tl : TE) : TI := fun σ H R => tl σ H fun x H1 => ∃ a, x = .ref a ∧ (((∃ xs, SqL K H1 a xs) ∧ R (Itl K a) H1) ∨ ((∃ xs, SqT K H1 a xs) ∧ R (Itt K a) H1))
section
variable {X : Cx} {W : WX} {e a b c o tg : Expr} {es : List Expr} {pos apos cpos : Pos}
theorem pi_seq {tl : TE} (hl : PE X e tl) : PI X tg e (tISeq X.K tl) := by
  refine ⟨fun pins s σ H R I h => ?_⟩
  refine thn (hl.run pins s σ H _ I h) fun v s1 ⟨x, H1, I1, r1, q1⟩ => ?_
  obtain ⟨a, rfl, q1⟩ := q1
  cases r1
  have fresh : ∀ b ∈ [s1.heap.objs.size], FpOk X pins H1 b := fun b hb => by
    rw [List.mem_singleton.mp hb]
    exact I1.fpOk (Nat.le_refl _) (I1.hok.fresh (Nat.le_refl _))
  rcases q1 with ⟨⟨xs, hq⟩, q⟩ | ⟨⟨xs, hq⟩, q⟩
  · obtain ⟨its, rv, p, hz⟩ := I1.list hq
    exact wpAny_pyIter_list p.isList ⟨s1.heap.objs.size, _, _, _, H1, rfl, I1.kept (t' := s1.toks) fun b o e => Heap.get?_push_of_some _ e, turn_list a _, ⟨_, Heap.get?_push_size _ rfl, rfl, rfl⟩, fresh, q⟩
  · obtain ⟨its, rv, p, hz⟩ := I1.tuple hq
    exact wpAny_pyIter_tuple (show s1.heap.IsTuple a its.toArray from p) ⟨s1.heap.objs.size, _, _, _, H1, rfl, I1.kept (t' := s1.toks) fun b o e => Heap.get?_push_of_some _ e, turn_tuple a _, ⟨_, Heap.get?_push_size _ rfl, rfl, rfl⟩, fresh, q⟩
theorem xi_seq {wa : WE} (h : Xe X W a wa) : Xi X W tg a (iSeq wa) := by
  obtain ⟨t, p, g⟩ := h.ex
  refine ⟨_, pi_seq p, ⟨fun {B F v m σ H k kx R} hm re hw hr hx => ?_⟩⟩
  refine g.run hm re hw (fun d m1 F1 H1 x hw1 e1 hm1 r1 => ?_) hx
  cases d with
  | lst xs =>
    unfold Rep at r1
    obtain ⟨a, vs, rfl, h1, h2⟩ := r1
    exact ⟨a, rfl, .inl ⟨⟨vs, .inl (.inl (hm1.fr _ _ h1))⟩, hr _ xs m1 F1 H1 hw1 e1 hm1 (jok_list (.inl (.inl h1)) h2 fun _ _ _ _ => trivial)⟩⟩
  | frl xs =>
    unfold Rep at r1
    obtain ⟨a, vs, rfl, h1, h2⟩ := r1
    exact ⟨a, rfl, .inl ⟨⟨vs, hm1.fr.seq h1⟩, hr _ xs m1 F1 H1 hw1 e1 hm1 (jok_list h1 h2 fun _ _ _ _ => trivial)⟩⟩
  | tup xs =>
    unfold Rep at r1
    obtain ⟨a, vs, rfl, h1, h2⟩ := r1
    exact ⟨a, rfl, .inr ⟨⟨vs, sqt_mono hm1.fr h1⟩, hr _ xs m1 F1 H1 hw1 e1 hm1 (jok_tup h1 h2)⟩⟩
  | _ => exact hw1.elim
theorem xe_var {i : Nat} {x : Str} (hN : X.N[i]? = some x) (hv : Vis X.env.scope x) (hd : (x == ("__debug__" : Str)) = false) (hcd : (x == ("__classdict__" : Str)) = false) : Xe X W (.Name x pos) (wVar i) := ⟨_, pe_var hN hv hd hcd, ge_var⟩
theorem xe_glob {x : Str} {v : V} {u : Value} {d : D} (hg : Gl X x) (hm : X.mg x = some u) (r : RelV v u) (hd : (x == ("__debug__" : Str)) = false) (h : ∀ F, Rep X.K F d v) : Xe X W (.Name x pos) (wCon d) := ⟨_, pe_glob hg hm r hd, ge_con h⟩
theorem xe_ty {x : Str} {T : String} (hg : Gl X x) (hm : X.mg x = none) (hv : bootBuiltins x = some (.type T)) (hn : x ≠ "__name__") (hd : (x == ("__debug__" : Str)) = false) : Xe X W (.Name x pos) (wCon (.raw (.ty T))) :=
  ⟨_, pe_bltn (v := .ty T) hg hm hv rfl hn hd, ge_con fun F => by unfold Rep; rfl⟩
end

/-! ### what is known of the place -/
structure TC where
  K : PySem.W.Frag
  N : List Str
  sc : Scope
  muts : List Nat
  rmut : Bool
  fns : List (Str × Nat × ASp)
  cons : List (Str × D)
  excs : List (Str × List Str)
  xs : List Str
  fs : List Str
def bltNames : List Str := ["abs", "len", "max", "min", "sum", "divmod", "isinstance", "repr", "any", "all", "int", "str", "list", "tuple", "bool", "dict", "range", "enumerate", "zip"]
structure Cok (c : TC) (X : Cx) (W : WX) : Prop where
  K : X.K = c.K
  N : X.N = c.N
  nd : X.N.Nodup
  sc : X.env.scope = c.sc
  calm : X.calm = true
  gd : X.A.guards = some []
  un : X.A.units + 164 < cLine
  tk : Takes X W
  fns : ∀ x n sp, c.fns.lookup x = some (n, sp) → ∃ k, CalA X.prog X.w X.K X.mg X.base k x n sp ∧ Rm k X.A
  blt : ∀ x ∈ bltNames, X.mg x = none
  cons : ∀ x d, c.cons.lookup x = some d → ∃ v u, X.mg x = some u ∧ RelV v u ∧ ∀ F, Rep X.K F d v
  excs : ∀ x ps, c.excs.lookup x = some ps → ∃ k, XCls X.prog X.w X.K X.mg X.base k x ps ∧ Room (k + 1) X.A
  xf : XF X.K X.mg c.xs c.fs

def ixIn : List Str → Str → Option Nat
  | [], _ => none
  | y :: r, x => if y = x then some 0 else (ixIn r x).map (· + 1)
theorem ixIn_ok : ∀ {N : List Str} {x : Str} {i : Nat}, ixIn N x = some i → N[i]? = some x
  | [], _, _, h => by cases h
  | y :: r, x, i, h => by
    unfold ixIn at h
    split at h
    · cases h; subst_vars; rfl
    · obtain ⟨j, hj, rfl⟩ := Option.map_eq_some_iff.mp h
      rw [List.getElem?_cons_succ]
      exact ixIn_ok hj
def dunder (x : Str) : Bool := (x == ("__debug__" : Str)) || (x == ("__classdict__" : Str))
theorem dunder_ok {x : Str} (h : dunder x = false) : (x == ("__debug__" : Str)) = false ∧ (x == ("__classdict__" : Str)) = false := by
  unfold dunder at h
  rwa [Bool.or_eq_false_iff] at h
def isLoc (sc : Scope) (x : Str) : Bool := match sc.names.lookup x with
  | some .local => true
  | some .cell => true
  | _ => false
def isVis (sc : Scope) (x : Str) : Bool := match sc.names.lookup x with
  | some .local => true
  | some .cell => true
  | some .free => true
  | _ => false
def isGl (sc : Scope) (x : Str) : Bool := match sc.names.lookup x with
  | some .globalImplicit => true
  | _ => false
def isPl (sc : Scope) (x : Str) : Bool := match sc.names.lookup x with
  | some .local => true
  | _ => false
theorem isLoc_ok {sc : Scope} {x : Str} (h : isLoc sc x = true) : Loc sc x := by
  unfold isLoc at h
  split at h
  · exact .inl (by assumption)
  · exact .inr (by assumption)
  · cases h
theorem isVis_ok {sc : Scope} {x : Str} (h : isVis sc x = true) : Vis sc x := by
  unfold isVis at h
  split at h
  · exact .inl (by assumption)
  · exact .inr (.inl (by assumption))
  · exact .inr (.inr (by assumption))
  · cases h
theorem isPl_ok {sc : Scope} {x : Str} (h : isPl sc x = true) : sc.names.lookup x = some .local := by
  unfold isPl at h
  split at h
  · assumption
  · cases h
theorem isGl_ok {sc : Scope} {x : Str} (h : isGl sc x = true) : sc.names.lookup x = some .globalImplicit := by
  unfold isGl at h
  split at h
  · assumption
  · cases h
theorem Cok.gl {c : TC} {X : Cx} {W : WX} (h : Cok c X W) {x : Str} (g : isGl c.sc x = true) : Gl X x := by
  unfold Gl PySem.Env.kindOf
  rw [h.sc]
  exact isGl_ok g

/-! ### tables -/
def tyTab : List (Str × String) := [("int", "int"), ("str", "str"), ("list", "list"), ("tuple", "tuple"), ("bool", "bool"), ("dict", "dict")]
theorem tyTab_ok : ∀ p ∈ tyTab, bootBuiltins p.1 = some (.type p.2) ∧ p.1 ≠ "__name__" ∧ (p.1 == ("__debug__" : Str)) = false ∧ p.1 ∈ bltNames := by decide +kernel
def bltF (K : PySem.W.Frag) : List (Str × OC) := [("abs", cAbs), ("len", cLen), ("max", cMax), ("min", cMin), ("sum", cSum), ("divmod", cDivmod), ("isinstance", cIsi K), ("repr", cRepr), ("any", cAny), ("all", cAll)]
def bltT (z : Bool) : List (Str × OC) := [("int", cInt), ("str", cStr), ("list", cList z), ("tuple", cTuple)]
theorem lk_mem {β : Type} {x : Str} {y : β} : ∀ {l : List (Str × β)}, l.lookup x = some y → (x, y) ∈ l
  | [], h => by cases h
  | (k, v) :: r, h => by
    rw [List.lookup_cons] at h
    split at h
    · rename_i e
      cases h
      rw [eq_of_beq e]
      exact List.mem_cons_self
    · exact List.mem_cons_of_mem _ (lk_mem h)
section
variable {c : TC} {X : Cx} {W : WX}
def BltOk (X : Cx) (x : Str) (o : OC) : Prop := x ∈ bltNames ∧ x ≠ "__name__" ∧ ((∃ id, bootBuiltins x = some (.builtin id) ∧ XC X (.builtin id) o) ∨ ∃ T, bootBuiltins x = some (.type T) ∧ XC X (.type T) o)
theorem bltF_ok (h : Cok c X W) {x : Str} {o : OC} (hl : (bltF c.K).lookup x = some o) : BltOk X x o := by
  have hm := lk_mem hl
  have hu := h.un
  rw [← h.K] at hm
  unfold bltF at hm
  simp only [List.mem_cons, List.not_mem_nil, or_false, Prod.mk.injEq] at hm
  rcases hm with ⟨rfl, rfl⟩ | ⟨rfl, rfl⟩ | ⟨rfl, rfl⟩ | ⟨rfl, rfl⟩ | ⟨rfl, rfl⟩ | ⟨rfl, rfl⟩ | ⟨rfl, rfl⟩ | ⟨rfl, rfl⟩ | ⟨rfl, rfl⟩ | ⟨rfl, rfl⟩
  · exact ⟨by decide, by decide, .inl ⟨_, rfl, xc_abs⟩⟩
  · exact ⟨by decide, by decide, .inl ⟨_, rfl, xc_len⟩⟩
  · exact ⟨by decide, by decide, .inl ⟨_, rfl, xc_max h.calm⟩⟩
  · exact ⟨by decide, by decide, .inl ⟨_, rfl, xc_min h.calm⟩⟩
  · exact ⟨by decide, by decide, .inl ⟨_, rfl, xc_sum h.calm⟩⟩
  · exact ⟨by decide, by decide, .inl ⟨_, rfl, xc_divmod⟩⟩
  · exact ⟨by decide, by decide, .inl ⟨_, rfl, xc_isi⟩⟩
  · exact ⟨by decide, by decide, .inl ⟨_, rfl, xc_repr h.gd (by omega)⟩⟩
  · exact ⟨by decide, by decide, .inl ⟨_, rfl, xc_any h.calm⟩⟩
  · exact ⟨by decide, by decide, .inl ⟨_, rfl, xc_all h.calm⟩⟩
theorem bltT_ok {z : Bool} {x : Str} {o : OC} (hl : (bltT z).lookup x = some o) : BltOk X x o := by
  have hm := lk_mem hl
  unfold bltT at hm
  simp only [List.mem_cons, List.not_mem_nil, or_false, Prod.mk.injEq] at hm
  rcases hm with ⟨rfl, rfl⟩ | ⟨rfl, rfl⟩ | ⟨rfl, rfl⟩ | ⟨rfl, rfl⟩
  · exact ⟨by decide, by decide, .inr ⟨_, rfl, xc_int⟩⟩
  · exact ⟨by decide, by decide, .inr ⟨_, rfl, xc_str⟩⟩
  · exact ⟨by decide, by decide, .inr ⟨_, rfl, xc_list⟩⟩
  · exact ⟨by decide, by decide, .inr ⟨_, rfl, xc_tuple⟩⟩
end
def opB (z : Bool) : Operator → Option O2
  | .Add => some (oAdd z)
  | .Sub => some oSub
  | .Mult => some (oMul z)
  | .FloorDiv => some oDiv
  | .Mod => some oMod
  | .Pow => some oPow
  | .LShift => some oShl
  | .RShift => some oShr
  | .BitAnd => some oAnd
  | .BitOr => some oOr
  | .BitXor => some oXor
  | _ => none
theorem opB_ok {X : Cx} {z : Bool} {op : Operator} {o : O2} (h : opB z op = some o) : XO X (binaryOp op) o := by
  cases op <;> cases h
  · exact xo_add
  · exact xo_sub
  · exact xo_mul
  · exact xo_mod
  · exact xo_pow
  · exact xo_shl
  · exact xo_shr
  · exact xo_or
  · exact xo_xor
  · exact xo_and
  · exact xo_div
def opI : Operator → Option O2
  | .Add => some oIAdd
  | .Sub => some oSub
  | .Mult => some oIMul
  | _ => none
theorem opI_ok {X : Cx} {op : Operator} {o : O2} (h : opI op = some o) : XO X (inplaceOp op) o := by
  cases op <;> cases h
  · exact xo_iadd
  · exact xo_isub
  · exact xo_imul
def opC : CmpOp → Option O2
  | .Eq => some oEq
  | .NotEq => some oNe
  | .Lt => some oLt
  | .LtE => some oLe
  | .Gt => some oGt
  | .GtE => some oGe
  | .Is => some oIs
  | .IsNot => some oIsNot
  | _ => none
theorem opC_ok {X : Cx} (hu : X.A.units + 64 < cLine) {op : CmpOp} {o : O2} (h : opC op = some o) : XO X (compareOp op) o := by
  cases op <;> cases h
  · exact xo_eq hu
  · exact xo_ne hu
  · exact xo_lt
  · exact xo_le
  · exact xo_gt
  · exact xo_ge
  · exact xo_is
  · exact xo_isnot
theorem opC_mk {op : CmpOp} {o : O2} {b : Expr} (h : opC op = some o) : behindInMarks op b = false := by
  cases op <;> cases h <;> (cases b <;> first
    | rfl
    | simp [behindInMarks])
end Ab
end

section
/-! Ab10: the reading of an expression's text. -/
namespace Ab
open PySem PySem.Spec L2

structure Tr where
  e : TC → Bool → Expr → Option WE
  t : TC → Expr → Option WT
structure TrOk (r : Tr) : Prop where
  e : ∀ {c : TC} {X : Cx} {W : WX} {z : Bool} {e : Expr} {w : WE}, Cok c X W → r.e c z e = some w → Xe X W e w
  t : ∀ {c : TC} {X : Cx} {W : WX} {e : Expr} {w : WT}, Cok c X W → r.t c e = some w → Xt X W e w

def trL (f : Expr → Option WE) : List Expr → Option WL
  | [] => some wNil
  | e :: es => if starred e = true then none else (f e).bind fun a => (trL f es).map fun r => wCons a r
theorem trL_ok {X : Cx} {W : WX} {f : Expr → Option WE} (h : ∀ {e w}, f e = some w → Xe X W e w) : ∀ {es : List Expr} {w : WL}, trL f es = some w → Xl X W es w ∧ es.any starred = false
  | [], w, q => by cases q; exact ⟨xl_nil, rfl⟩
  | e :: es, w, q => by
    unfold trL at q
    split at q
    · cases q
    · rename_i hs
      obtain ⟨a, q1, q⟩ := Option.bind_eq_some_iff.mp q
      obtain ⟨r, q2, rfl⟩ := Option.map_eq_some_iff.mp q
      obtain ⟨i1, i2⟩ := trL_ok h q2
      have hs' : starred e = false := by simpa using hs
      exact ⟨xl_cons (h q1) i1 hs', by rw [List.any_cons, hs', i2]; rfl⟩

/-! ### names -/
def trN (c : TC) (x : Str) : Option WE :=
  if dunder x = true then none
  else if isVis c.sc x = true then (ixIn c.N x).map wVar
  else if isGl c.sc x = true then (match c.cons.lookup x with
    | some d => some (wCon d)
    | none => (tyTab.lookup x).map fun T => wCon (.raw (.ty T)))
  else none
theorem trN_ok {c : TC} {X : Cx} {W : WX} (h : Cok c X W) {x : Str} {w : WE} {pos : Pos} (q : trN c x = some w) : Xe X W (.Name x pos) w := by
  unfold trN at q
  split at q
  · cases q
  · rename_i hd
    obtain ⟨d1, d2⟩ := dunder_ok (by simpa using hd)
    split at q
    · rename_i hv
      obtain ⟨i, q1, rfl⟩ := Option.map_eq_some_iff.mp q
      exact xe_var (by rw [h.N]; exact ixIn_ok q1) (by rw [h.sc]; exact isVis_ok hv) d1 d2
    · split at q
      · rename_i hg
        have g := h.gl hg
        split at q
        · rename_i d q1
          cases q
          obtain ⟨v, u, m1, m2, m3⟩ := h.cons _ _ q1
          exact xe_glob g m1 m2 d1 m3
        · obtain ⟨T, q1, rfl⟩ := Option.map_eq_some_iff.mp q
          obtain ⟨k1, k2, k3, k4⟩ := tyTab_ok _ (lk_mem q1)
          exact xe_ty g (h.blt _ k4) k1 k2 k3
      · cases q
def trC : Const → Option WE
  | .int i => some (wCon (.int i))
  | .bool b => some (wCon (.bl b))
  | .none => some (wCon .non)
  | .str x => some (wCon (.str x))
  | _ => none
theorem trC_ok {X : Cx} {W : WX} {k : Const} {j : Nat} {pos : Pos} {w : WE} (q : trC k = some w) : Xe X W (.Constant k j pos) w := by
  cases k <;> cases q
  · exact xe_non
  · exact xe_bl
  · exact xe_int
  · exact xe_str

/-! ### and, or -/
def trV (f : Expr → Option WE) : BoolOp → List Expr → Option WE
  | _, [] => none
  | _, [a] => f a
  | .And, a :: es => (f a).bind fun x => (trV f .And es).map fun y => wAndV x y
  | .Or, a :: es => (f a).bind fun x => (trV f .Or es).map fun y => wOrV x y
theorem trV_ok {X : Cx} {W : WX} {f : Expr → Option WE} (h : ∀ {e w}, f e = some w → Xe X W e w) : ∀ {op : BoolOp} {es : List Expr} {w : WE}, trV f op es = some w → Xb X W op es w
  | .And, [], w, q => by cases q
  | .Or, [], w, q => by cases q
  | .And, [a], w, q => xb_one (h q)
  | .Or, [a], w, q => xb_one (h q)
  | .And, a :: b :: es, w, q => by
    obtain ⟨x, q1, q⟩ := Option.bind_eq_some_iff.mp (show (f a).bind _ = some w from q)
    obtain ⟨y, q2, rfl⟩ := Option.map_eq_some_iff.mp q
    exact xb_and (h q1) (trV_ok h q2)
  | .Or, a :: b :: es, w, q => by
    obtain ⟨x, q1, q⟩ := Option.bind_eq_some_iff.mp (show (f a).bind _ = some w from q)
    obtain ⟨y, q2, rfl⟩ := Option.map_eq_some_iff.mp q
    exact xb_or (h q1) (trV_ok h q2)
def trW (f : Expr → Option WT) : BoolOp → List Expr → Option WT
  | _, [] => none
  | _, [a] => f a
  | .And, a :: es => (f a).bind fun x => (trW f .And es).map fun y => wAnd x y
  | .Or, a :: es => (f a).bind fun x => (trW f .Or es).map fun y => wOr x y
theorem trW_ok {X : Cx} {W : WX} {f : Expr → Option WT} {pos : Pos} (h : ∀ {e w}, f e = some w → Xt X W e w) : ∀ {op : BoolOp} {es : List Expr} {w : WT}, trW f op es = some w → Xw X W (.BoolOp op es pos) w
  | .And, [], w, q => by cases q
  | .Or, [], w, q => by cases q
  | .And, [a], w, q => xw_and1 (h q)
  | .Or, [a], w, q => xw_or1 (h q)
  | .And, a :: b :: es, w, q => by
    obtain ⟨x, q1, q⟩ := Option.bind_eq_some_iff.mp (show (f a).bind _ = some w from q)
    obtain ⟨y, q2, rfl⟩ := Option.map_eq_some_iff.mp q
    exact xw_and (h q1) (trW_ok h q2)
  | .Or, a :: b :: es, w, q => by
    obtain ⟨x, q1, q⟩ := Option.bind_eq_some_iff.mp (show (f a).bind _ = some w from q)
    obtain ⟨y, q2, rfl⟩ := Option.map_eq_some_iff.mp q
    exact xw_or (h q1) (trW_ok h q2)

/-! ### comparisons, parts -/
def trCmp (f : Expr → Option WE) (a : Expr) : List CmpOp → List Expr → Option WE
  | [op], [b] => (opC op).bind fun o => (f a).bind fun x => (f b).map fun y => wOp o x y
  | [op, op'], [b, d] => (opC op).bind fun o => (opC op').bind fun o' => (f a).bind fun x => (f b).bind fun y => (f d).map fun u => wChain o o' x y u
  | _, _ => none
theorem trCmp_ok {X : Cx} {W : WX} {f : Expr → Option WE} (hu : X.A.units + 64 < cLine) (h : ∀ {e w}, f e = some w → Xe X W e w) {a : Expr} {ops : List CmpOp} {es : List Expr} {w : WE} {pos : Pos} (q : trCmp f a ops es = some w) :
    Xe X W (.Compare a ops es pos) w ∧ Xt X W (.Compare a ops es pos) (wIsB w) := by
  unfold trCmp at q
  split at q
  · obtain ⟨o, q1, q⟩ := Option.bind_eq_some_iff.mp q
    obtain ⟨x, q2, q⟩ := Option.bind_eq_some_iff.mp q
    obtain ⟨y, q3, rfl⟩ := Option.map_eq_some_iff.mp q
    exact ⟨xe_cmp (opC_ok hu q1) (h q2) (h q3) (opC_mk q1), xt_cmp (opC_ok hu q1) (h q2) (h q3) (opC_mk q1)⟩
  · obtain ⟨o, q1, q⟩ := Option.bind_eq_some_iff.mp q
    obtain ⟨o', q2, q⟩ := Option.bind_eq_some_iff.mp q
    obtain ⟨x, q3, q⟩ := Option.bind_eq_some_iff.mp q
    obtain ⟨y, q4, q⟩ := Option.bind_eq_some_iff.mp q
    obtain ⟨u, q5, rfl⟩ := Option.map_eq_some_iff.mp q
    exact ⟨xe_chain (opC_ok hu q1) (opC_ok hu q2) (h q3) (h q4) (h q5) (opC_mk q2), xt_chain (opC_ok hu q1) (opC_ok hu q2) (h q3) (h q4) (h q5) (opC_mk q2)⟩
  · cases q
def trP (f : Expr → Option WE) : Option Expr → Option WO
  | none => some wNoPart
  | some e => (f e).map wPart
theorem trP_ok {X : Cx} {W : WX} {f : Expr → Option WE} (h : ∀ {e w}, f e = some w → Xe X W e w) {e : Option Expr} {w : WO} (q : trP f e = some w) : Xo X W e w := by
  cases e with
  | none => cases q; exact xo_none
  | some e =>
    obtain ⟨x, q1, rfl⟩ := Option.map_eq_some_iff.mp q
    exact xo_some (h q1)
def trS (f : Expr → Option WE) (z : Bool) (a : Expr) : Expr → Option WE
  | .Slice lo hi none _ => (f a).bind fun x => (trP f lo).bind fun l => (trP f hi).map fun h => wSl z x l h
  | .Slice none none (some (.UnaryOp .USub (.Constant (.int 1) _ _) _)) _ => (f a).map fun x => wRev z x
  | b => if isSlice b = true then none else (f a).bind fun x => (f b).map fun y => wOp oIdx x y
theorem trS_ok {X : Cx} {W : WX} {f : Expr → Option WE} (h : ∀ {e w}, f e = some w → Xe X W e w) {z : Bool} {a b : Expr} {w : WE} {pos : Pos} (q : trS f z a b = some w) : Xe X W (.Subscript a b pos) w := by
  unfold trS at q
  split at q
  · obtain ⟨x, q1, q⟩ := Option.bind_eq_some_iff.mp q
    obtain ⟨l, q2, q⟩ := Option.bind_eq_some_iff.mp q
    obtain ⟨u, q3, rfl⟩ := Option.map_eq_some_iff.mp q
    exact xe_sl (h q1) (trP_ok h q2) (trP_ok h q3)
  · obtain ⟨x, q1, rfl⟩ := Option.map_eq_some_iff.mp q
    exact xe_rev (h q1)
  · split at q
    · cases q
    · rename_i hs
      obtain ⟨x, q1, q⟩ := Option.bind_eq_some_iff.mp q
      obtain ⟨y, q2, rfl⟩ := Option.map_eq_some_iff.mp q
      exact xe_idx (h q1) (h q2) (by simpa using hs)

/-! ### methods -/
def mtTab : List ((Str × Nat) × OM) := [(("append", 1), mAppend), (("insert", 2), mInsert), (("extend", 1), mExtend), (("pop", 1), mPopAt), (("pop", 0), mPop)]
def lk2 (x : Str) (n : Nat) : List ((Str × Nat) × OM) → Option OM
  | [] => none
  | ((y, k), o) :: r => if y = x ∧ k = n then some o else lk2 x n r
theorem lk2_mem {x : Str} {n : Nat} {o : OM} : ∀ {l : List ((Str × Nat) × OM)}, lk2 x n l = some o → ((x, n), o) ∈ l
  | [], h => by cases h
  | ((y, k), u) :: r, h => by
    unfold lk2 at h
    split at h
    · rename_i e
      cases h
      rw [e.1, e.2]
      exact List.mem_cons_self
    · exact List.mem_cons_of_mem _ (lk2_mem h)
/-- x.bit_length() -/
def wBits (a : WE) : WE := fun v m k kx => a v m (fun d m1 => match d with
  | .int i => k (.int (Builtin.Int.intBits i : Nat)) m1
  | _ => False) kx
theorem xe_bits {X : Cx} {W : WX} {o : Expr} {wa : WE} {apos cpos : Pos} (ho : Xe X W o wa) (hn : noSuper o = true) (hline : (apos.endLine == cpos.line) = true) : Xe X W (.Call (.Attribute o "bit_length" apos) [] [] cpos) (wBits wa) := by
  obtain ⟨to, p1, g1⟩ := ho.ex
  refine ⟨_, pe_bits p1 (base_ok hn _ _) hline, ⟨fun {B F v m σ H k kx Q} hm re hw hq hx => ?_⟩⟩
  refine g1.run hm re hw (fun d m1 F1 H1 x hw1 e1 hm1 r1 => ?_) hx
  cases d with
  | int i =>
    unfold Rep at r1
    exact ⟨i, r1, (hq.mono e1) _ m1 F1 H1 _ hw1 (Same.refl _) hm1 rep_int⟩
  | _ => exact hw1.elim
def trM (f : Expr → Option WE) (o : Expr) (name : Str) (l1 : Bool) (es : List Expr) : Option WE :=
  if name = "bit_length" then (if (noSuper o && l1 && es.isEmpty) = true then (f o).map wBits else none)
  else if (noSuper o && l1 && decide (es.length < 29)) = true then (lk2 name es.length mtTab).bind fun m => (f o).bind fun x => (trL f es).map fun w => wMt "list" m x w
  else none
theorem trM_ok {X : Cx} {W : WX} {f : Expr → Option WE} (h : ∀ {e w}, f e = some w → Xe X W e w) {o : Expr} {name : Str} {es : List Expr} {w : WE} {apos cpos : Pos} (q : trM f o name (apos.endLine == cpos.line) es = some w) :
    Xe X W (.Call (.Attribute o name apos) es [] cpos) w := by
  unfold trM at q
  split at q
  · rename_i hn
    subst hn
    split at q
    · rename_i hb
      rw [Bool.and_eq_true, Bool.and_eq_true, List.isEmpty_iff] at hb
      obtain ⟨⟨b1, b2⟩, rfl⟩ := hb
      obtain ⟨x, q1, rfl⟩ := Option.map_eq_some_iff.mp q
      exact xe_bits (h q1) b1 b2
    · cases q
  split at q
  · rename_i hb
    rw [Bool.and_eq_true, Bool.and_eq_true, decide_eq_true_eq] at hb
    obtain ⟨⟨b1, b2⟩, b3⟩ := hb
    obtain ⟨m, q1, q⟩ := Option.bind_eq_some_iff.mp q
    obtain ⟨x, q2, q⟩ := Option.bind_eq_some_iff.mp q
    obtain ⟨u, q3, rfl⟩ := Option.map_eq_some_iff.mp q
    obtain ⟨l1, l2⟩ := trL_ok h q3
    have hm := lk2_mem q1
    unfold mtTab at hm
    simp only [List.mem_cons, List.not_mem_nil, or_false, Prod.mk.injEq] at hm
    have ne : ∀ n, es.length = n + 1 → ∃ a r, es = a :: r := fun n hn => by
      cases es with
      | nil => cases hn
      | cons a r => exact ⟨a, r, rfl⟩
    rcases hm with ⟨⟨rfl, hn⟩, rfl⟩ | ⟨⟨rfl, hn⟩, rfl⟩ | ⟨⟨rfl, hn⟩, rfl⟩ | ⟨⟨rfl, hn⟩, rfl⟩ | ⟨⟨rfl, hn⟩, rfl⟩
    · obtain ⟨a, r, rfl⟩ := ne _ hn
      exact xe_mt xm_append PySem.F.plainAttrs_list PySem.F.slot_list_append PySem.F.type_list_append (h q2) l1 b1 l2 b3 b2
    · obtain ⟨a, r, rfl⟩ := ne _ hn
      exact xe_mt xm_insert PySem.F.plainAttrs_list PySem.F.slot_list_insert PySem.F.type_list_insert (h q2) l1 b1 l2 b3 b2
    · obtain ⟨a, r, rfl⟩ := ne _ hn
      exact xe_mt xm_extend PySem.F.plainAttrs_list PySem.F.slot_list_extend PySem.F.type_list_extend (h q2) l1 b1 l2 b3 b2
    · obtain ⟨a, r, rfl⟩ := ne _ hn
      exact xe_mt xm_popAt PySem.F.plainAttrs_list PySem.F.slot_list_pop PySem.F.type_list_pop (h q2) l1 b1 l2 b3 b2
    · obtain rfl := List.length_eq_zero_iff.mp hn
      cases q3
      exact xe_mt0 xm_pop PySem.F.plainAttrs_list PySem.F.slot_list_pop PySem.F.type_list_pop (h q2) b1 b2
  · cases q

/-! ### calls -/
def trCall (c : TC) (f : Expr → Option WE) (z : Bool) (x : Str) (es : List Expr) : Option WE :=
  if (isGl c.sc x && !dunder x) = true then (trL f es).bind fun w => (match c.fns.lookup x with
    | some (n, sp) => some (wCall n sp w)
    | none => if es.isEmpty = true then none else (match (bltF c.K).lookup x with
      | some o => some (wCB o w)
      | none => ((bltT z).lookup x).map fun o => wCB o w))
  else none
theorem blt_call {X : Cx} {W : WX} {x : Str} {o : OC} {e : Expr} {es : List Expr} {w : WL} {p pos : Pos} (h : BltOk X x o) (hb : ∀ x ∈ bltNames, X.mg x = none) (g : Gl X x) (hd : (x == ("__debug__" : Str)) = false) (ha : Xl X W (e :: es) w) (hs : (e :: es).any starred = false) :
    Xe X W (.Call (.Name x p) (e :: es) [] pos) (wCB o w) := by
  obtain ⟨h1, h2, ⟨id, h3, h4⟩ | ⟨T, h3, h4⟩⟩ := h
  · exact xe_callB h4 g (hb _ h1) h3 ha h2 hd hs
  · exact xe_callTy h4 g (hb _ h1) h3 ha h2 hd hs
theorem trCall_ok {c : TC} {X : Cx} {W : WX} (k : Cok c X W) {f : Expr → Option WE} (h : ∀ {e w}, f e = some w → Xe X W e w) {z : Bool} {x : Str} {es : List Expr} {w : WE} {p pos : Pos} (q : trCall c f z x es = some w) :
    Xe X W (.Call (.Name x p) es [] pos) w := by
  unfold trCall at q
  split at q
  · rename_i hb
    rw [Bool.and_eq_true, Bool.not_eq_true'] at hb
    have g := k.gl hb.1
    obtain ⟨d1, d2⟩ := dunder_ok hb.2
    obtain ⟨u, q1, q0⟩ := Option.bind_eq_some_iff.mp q
    clear q
    obtain ⟨l1, l2⟩ := trL_ok h q1
    split at q0
    · rename_i n sp q2
      cases q0
      obtain ⟨j, C, rm⟩ := k.fns _ _ _ q2
      cases es with
      | nil => cases q1; exact xe_call0 C rm k.tk g d1
      | cons e es => exact xe_call C rm k.tk g l1 d1 l2
    · split at q0
      · cases q0
      · rename_i he
        cases es with
        | nil => exact absurd rfl he
        | cons e es =>
          split at q0
          · rename_i o q2
            cases q0
            exact blt_call (bltF_ok k q2) k.blt g d1 l1 l2
          · obtain ⟨o, q2, rfl⟩ := Option.map_eq_some_iff.mp q0
            exact blt_call (bltT_ok q2) k.blt g d1 l1 l2
  · cases q
end Ab
end

section
/-! Ab11: the reading of an expression's text: comprehensions, the whole. -/
namespace Ab
open PySem PySem.Spec L2

/-! ### what is walked -/
def isTup : Expr → Bool
  | .Tuple .. => true
  | _ => false
theorem isTup_ok {e : Expr} (h : isTup e = true) : ∃ es j p, e = .Tuple es j p := by
  cases e <;> first
    | exact ⟨_, _, _, rfl⟩
    | cases h
def trI0 (f : Expr → Option WE) (tup : Bool) (x : Str) (es : List Expr) : Option WI :=
  if x = "range" then (match es with
    | [a] => if starred a = true then none else (f a).map iR1
    | [a, b] => if (starred a || starred b) = true then none else (f a).bind fun u => (f b).map fun v => iR2 u v
    | [a, b, d] => if (starred a || starred b || starred d) = true then none else (f a).bind fun u => (f b).bind fun v => (f d).map fun y => iR3 u v y
    | _ => none)
  else if x = "enumerate" then (match es with
    | [a] => if (starred a || !tup) = true then none else (f a).map iEnumD
    | _ => none)
  else if x = "zip" then (match es with
    | [a, b] => if (starred a || starred b || !tup) = true then none else (f a).bind fun u => (f b).map fun v => iZipD u v
    | _ => none)
  else none
def trI (c : TC) (f : Expr → Option WE) (tg : Expr) (it : Expr) : Option WI := match it with
  | .Call (.Name x _) es [] _ => if isGl c.sc x = true then (trI0 f (isTup tg) x es).or ((f it).map iSeq) else (f it).map iSeq
  | _ => (f it).map iSeq
theorem trI0_ok {c : TC} {X : Cx} {W : WX} (k : Cok c X W) {f : Expr → Option WE} (h : ∀ {e w}, f e = some w → Xe X W e w) {tg : Expr} {x : Str} {es : List Expr} {w : WI} {p pos : Pos} (g : Gl X x) (q : trI0 f (isTup tg) x es = some w) :
    Xi X W tg (.Call (.Name x p) es [] pos) w := by
  unfold trI0 at q
  split at q
  · subst_vars
    have hm : X.mg "range" = none := k.blt _ (by decide)
    split at q
    · split at q
      · cases q
      · rename_i s1
        obtain ⟨u, q1, rfl⟩ := Option.map_eq_some_iff.mp q
        exact xi_range1 g hm (h q1) (by simpa using s1)
    · split at q
      · cases q
      · rename_i s1
        obtain ⟨u, q1, q⟩ := Option.bind_eq_some_iff.mp q
        obtain ⟨v, q2, rfl⟩ := Option.map_eq_some_iff.mp q
        simp only [Bool.or_eq_true, not_or, Bool.not_eq_true] at s1
        exact xi_range2 g hm (h q1) (h q2) s1.1 s1.2
    · split at q
      · cases q
      · rename_i s1
        obtain ⟨u, q1, q⟩ := Option.bind_eq_some_iff.mp q
        obtain ⟨v, q2, q⟩ := Option.bind_eq_some_iff.mp q
        obtain ⟨y, q3, rfl⟩ := Option.map_eq_some_iff.mp q
        simp only [Bool.or_eq_true, not_or, Bool.not_eq_true] at s1
        exact xi_range3 g hm (h q1) (h q2) (h q3) s1.1.1 s1.1.2 s1.2
    · cases q
  · split at q
    · subst_vars
      have hm : X.mg "enumerate" = none := k.blt _ (by decide)
      split at q
      · split at q
        · cases q
        · rename_i s1
          obtain ⟨u, q1, rfl⟩ := Option.map_eq_some_iff.mp q
          simp only [Bool.or_eq_true, not_or, Bool.not_eq_true, Bool.not_eq_true', Bool.not_eq_false] at s1
          obtain ⟨a1, a2, a3, rfl⟩ := isTup_ok s1.2
          exact xi_enum g hm (h q1) s1.1
      · cases q
    · split at q
      · subst_vars
        have hm : X.mg "zip" = none := k.blt _ (by decide)
        split at q
        · split at q
          · cases q
          · rename_i s1
            obtain ⟨u, q1, q⟩ := Option.bind_eq_some_iff.mp q
            obtain ⟨v, q2, rfl⟩ := Option.map_eq_some_iff.mp q
            simp only [Bool.or_eq_true, not_or, Bool.not_eq_true, Bool.not_eq_true', Bool.not_eq_false] at s1
            obtain ⟨a1, a2, a3, rfl⟩ := isTup_ok s1.2
            exact xi_zip g hm (h q1) (h q2) s1.1.1 s1.1.2
        · cases q
      · cases q
theorem trI_ok {c : TC} {X : Cx} {W : WX} (k : Cok c X W) {f : Expr → Option WE} (h : ∀ {e w}, f e = some w → Xe X W e w) {tg it : Expr} {w : WI} (q : trI c f tg it = some w) : Xi X W tg it w := by
  unfold trI at q
  split at q
  · split at q
    · rename_i g
      rcases Option.or_eq_some_iff.mp q with q | ⟨_, q⟩
      · exact trI0_ok k h (k.gl g) q
      · obtain ⟨u, q1, rfl⟩ := Option.map_eq_some_iff.mp q
        exact xi_seq (h q1)
    · obtain ⟨u, q1, rfl⟩ := Option.map_eq_some_iff.mp q
      exact xi_seq (h q1)
  · obtain ⟨u, q1, rfl⟩ := Option.map_eq_some_iff.mp q
    exact xi_seq (h q1)

/-! ### targets of a comprehension -/
def trGo1 (c : TC) (own : List Nat) : Expr → Option WG
  | .Name x _ => if isPl c.sc x = true then (ixIn c.N x).bind fun i => if own.contains i = true then some (gN i) else none else none
  | _ => none
def trGos (c : TC) (own : List Nat) : List Expr → Option WGs
  | [] => some gs0
  | e :: es => (trGo1 c own e).bind fun g => (trGos c own es).map fun r => gs1 g r
def trGo (c : TC) (own : List Nat) : Expr → Option WG
  | .Tuple es _ _ => (trGos c own es).map fun r => gT es.length r
  | e => trGo1 c own e
theorem trGo1_ok {c : TC} {X : Cx} {own : List Nat} (hN : X.N = c.N) (nd : X.N.Nodup) (hs : X.env.scope = c.sc) {e : Expr} {g : WG} (q : trGo1 c own e = some g) : Xgo X own e g ∧ starred e = false := by
  unfold trGo1 at q
  split at q
  · split at q
    · rename_i hp
      obtain ⟨i, q1, q⟩ := Option.bind_eq_some_iff.mp q
      split at q
      · rename_i ho
        cases q
        have pl := isPl_ok hp
        rw [← hs] at pl
        exact ⟨xgo_name nd (by rw [hN]; exact ixIn_ok q1) (.inl pl) (.inr pl) (List.contains_iff_mem.mp ho), rfl⟩
      · cases q
    · cases q
  · cases q
theorem trGos_ok {c : TC} {X : Cx} {own : List Nat} (hN : X.N = c.N) (nd : X.N.Nodup) (hs : X.env.scope = c.sc) : ∀ {es : List Expr} {r : WGs}, trGos c own es = some r → Xgso X own es r ∧ es.any starred = false
  | [], r, q => by cases q; exact ⟨xgso_nil, rfl⟩
  | e :: es, r, q => by
    obtain ⟨g, q1, q⟩ := Option.bind_eq_some_iff.mp (show (trGo1 c own e).bind _ = some r from q)
    obtain ⟨u, q2, rfl⟩ := Option.map_eq_some_iff.mp q
    obtain ⟨a1, a2⟩ := trGo1_ok hN nd hs q1
    obtain ⟨b1, b2⟩ := trGos_ok hN nd hs q2
    exact ⟨xgso_cons a1 b1 a2, by rw [List.any_cons, a2, b2]; rfl⟩
theorem trGo_ok {c : TC} {X : Cx} {own : List Nat} (hN : X.N = c.N) (nd : X.N.Nodup) (hs : X.env.scope = c.sc) (hc : X.calm = true) {e : Expr} {g : WG} (q : trGo c own e = some g) : Xgo X own e g := by
  unfold trGo at q
  split at q
  · obtain ⟨r, q1, rfl⟩ := Option.map_eq_some_iff.mp q
    obtain ⟨b1, b2⟩ := trGos_ok hN nd hs q1
    exact xgo_tup hc b1 b2
  · exact (trGo1_ok hN nd hs q).1

/-! ### comprehensions -/
def ownOf (N : List Str) (scope : Scope) : List (Str × Nat) := scope.names.filterMap fun p => match p.2 with
  | .local => (ixIn N p.1).map fun i => (p.1, i)
  | .cell => (ixIn N p.1).map fun i => (p.1, i)
  | _ => none
def isSet : Expr → Bool
  | .Set .. => true
  | _ => false
theorem isSet_ok {it : Expr} (h : isSet it = false) (env : PySem.Env) : ∀ x, foldedSetIterable it env x = pure x := set_ok (fun z k p e => by subst e; cases h) env
def trIfs (t : Expr → Option WT) : List Expr → Option WT
  | [] => some wYes
  | [e] => t e
  | _ => none
theorem trIfs_ok {X : Cx} {W : WX} {t : Expr → Option WT} (h : ∀ {e w}, t e = some w → Xt X W e w) {es : List Expr} {w : WT} (q : trIfs t es = some w) : Xts X W es w := by
  unfold trIfs at q
  split at q
  · cases q; exact xts_nil
  · exact xts_one (h q)
  · cases q
def inner (c : TC) (scope : Scope) : TC := { c with sc := relS scope c.sc }
def trLc (r : Tr) (c : TC) (z : Bool) (elt : Expr) (scope : Scope) (tg it : Expr) (ifs : List Expr) : Option WE :=
  if (blkC c.N c.sc scope (ownOf c.N scope) && !isSet it) = true then
    (trI c (r.e c true) tg it).bind fun wi => (trGo (inner c scope) ((ownOf c.N scope).map (·.2)) tg).bind fun g => (trIfs (r.t (inner c scope)) ifs).bind fun t => (r.e (inner c scope) true elt).map fun e => wLc z wi ((ownOf c.N scope).map (·.2)) g t e
  else none
theorem Cok.inner {c : TC} {X : Cx} {W : WX} (k : Cok c X W) (scope : Scope) (i : BI) : Cok (inner c scope) (blkOf X scope i) W0 where
  K := k.K
  N := k.N
  nd := k.nd
  sc := by show relS scope X.env.scope = relS scope c.sc; rw [k.sc]
  calm := k.calm
  gd := k.gd
  un := k.un
  tk := fun u s' ⟨_, _, _, _, _, _, _, _, _, _, _, _, _, _, _, _, w⟩ => w.elim
  fns := k.fns
  blt := k.blt
  cons := k.cons
  excs := k.excs
  xf := k.xf
theorem trLc_ok {r : Tr} (R : TrOk r) {c : TC} {X : Cx} {W : WX} (k : Cok c X W) {z : Bool} {elt tg it : Expr} {scope : Scope} {ifs : List Expr} {w : WE} {pos : Pos} (q : trLc r c z elt scope tg it ifs = some w) : Xe X W (.ListComp elt [⟨tg, it, ifs, 0⟩] scope pos) w := by
  unfold trLc at q
  split at q
  · rename_i hb
    rw [Bool.and_eq_true, Bool.not_eq_true'] at hb
    obtain ⟨wi, q1, q⟩ := Option.bind_eq_some_iff.mp q
    obtain ⟨g, q2, q⟩ := Option.bind_eq_some_iff.mp q
    obtain ⟨t, q3, q⟩ := Option.bind_eq_some_iff.mp q
    obtain ⟨e, q4, rfl⟩ := Option.map_eq_some_iff.mp q
    refine xe_lc k.calm k.nd (trI_ok k (fun h => R.e k h) q1) (by rw [k.N, k.sc]; exact blkOk_by hb.1) (fun i => ?_) (fun i => ?_) (fun i => ?_) (isSet_ok hb.2 _)
    · exact trGo_ok (k.inner scope i).N (k.inner scope i).nd (k.inner scope i).sc (k.inner scope i).calm q2
    · exact trIfs_ok (fun h => R.t (k.inner scope i) h) q3
    · exact R.e (k.inner scope i) q4
  · cases q

/-! ### the whole -/
def stE (r : Tr) (c : TC) (z : Bool) : Expr → Option WE
  | .Constant k _ _ => trC k
  | .Name x _ => trN c x
  | .BinOp a op b _ => (opB z op).bind fun o => (r.e c true a).bind fun x => (r.e c true b).map fun y => wOp o x y
  | .UnaryOp .USub a _ => (r.e c true a).map wNeg
  | .UnaryOp .Not a _ => (r.e c true a).map wNotV
  | .BoolOp op es _ => trV (r.e c true) op es
  | .Compare a ops es _ => trCmp (r.e c true) a ops es
  | .IfExp t a b _ => (r.t c t).bind fun w => (r.e c z a).bind fun x => (r.e c z b).map fun y => wIf w x y
  | .Tuple es _ _ => (trL (r.e c true) es).map wTup
  | .List es _ => (trL (r.e c true) es).map (wLst z)
  | .Subscript a b _ => trS (r.e c true) z a b
  | .ListComp elt [⟨tg, it, ifs, 0⟩] scope _ => trLc r c z elt scope tg it ifs
  | .Call (.Name x _) es [] _ => trCall c (r.e c true) z x es
  | .Call (.Attribute o name apos) es [] cpos => trM (r.e c true) o name (apos.endLine == cpos.line) es
  | _ => none
def plain : Expr → Bool
  | .Name .. => true
  | .Call .. => true
  | .Subscript .. => true
  | .Constant .. => true
  | .BinOp .. => true
  | _ => false
def stT (r : Tr) (c : TC) : Expr → Option WT
  | .BoolOp op es _ => trW (r.t c) op es
  | .UnaryOp .Not a _ => (r.t c a).map wNot
  | .Compare a ops es _ => (trCmp (r.e c true) a ops es).map wIsB
  | e => if plain e = true then (r.e c true e).map wTru else none
/-- what has no reading: never to be reached -/
def wBad : WE := fun _ _ _ _ => False
def tBad : WT := fun _ _ _ _ => False
theorem xe_bad {X : Cx} {W : WX} {e : Expr} : Xe X W e wBad := ⟨fun _ _ _ => False, ⟨fun _ _ _ _ _ _ h => h.elim⟩, ⟨fun {_ _ _ _ _ _ _ _ _} _ _ h _ _ => h.elim⟩⟩
theorem xt_bad {X : Cx} {W : WX} {e : Expr} : Xt X W e tBad := ⟨fun _ _ _ => False, ⟨fun _ _ _ _ _ _ h => h.elim⟩, ⟨fun {_ _ _ _ _ _ _ _ _} _ _ h _ _ => h.elim⟩⟩
def step (r : Tr) : Tr := ⟨fun c z e => some ((stE r c z e).getD wBad), fun c e => some ((stT r c e).getD tBad)⟩
theorem step_ok {r : Tr} (R : TrOk r) : TrOk (step r) := by
  refine ⟨fun {c X W z e w} k q => ?_, fun {c X W e w} k q => ?_⟩
  · have q1 : (stE r c z e).getD wBad = w := Option.some.inj q
    clear q
    cases q0 : stE r c z e with
    | none =>
      rw [q0] at q1
      subst q1
      exact xe_bad
    | some w' =>
    rw [q0] at q1
    obtain rfl : w' = w := q1
    have hu : X.A.units + 64 < cLine := by have := k.un; omega
    unfold stE at q0
    split at q0
    · exact trC_ok q0
    · exact trN_ok k q0
    · obtain ⟨o, q1, q0⟩ := Option.bind_eq_some_iff.mp q0
      obtain ⟨x, q2, q0⟩ := Option.bind_eq_some_iff.mp q0
      obtain ⟨y, q3, rfl⟩ := Option.map_eq_some_iff.mp q0
      exact xe_op (opB_ok q1) (R.e k q2) (R.e k q3)
    · obtain ⟨x, q1, rfl⟩ := Option.map_eq_some_iff.mp q0
      exact xe_neg (R.e k q1)
    · obtain ⟨x, q1, rfl⟩ := Option.map_eq_some_iff.mp q0
      exact xe_notV (R.e k q1)
    · exact (trV_ok (fun h => R.e k h) q0).toXe
    · exact (trCmp_ok hu (fun h => R.e k h) q0).1
    · obtain ⟨o, q1, q0⟩ := Option.bind_eq_some_iff.mp q0
      obtain ⟨x, q2, q0⟩ := Option.bind_eq_some_iff.mp q0
      obtain ⟨y, q3, rfl⟩ := Option.map_eq_some_iff.mp q0
      exact xe_if (R.t k q1) (R.e k q2) (R.e k q3)
    · obtain ⟨x, q1, rfl⟩ := Option.map_eq_some_iff.mp q0
      exact xe_tup (trL_ok (fun h => R.e k h) q1).1
    · obtain ⟨x, q1, rfl⟩ := Option.map_eq_some_iff.mp q0
      exact xe_lst (trL_ok (fun h => R.e k h) q1).1
    · exact trS_ok (fun h => R.e k h) q0
    · exact trLc_ok R k q0
    · exact trCall_ok k (fun h => R.e k h) q0
    · exact trM_ok (fun h => R.e k h) q0
    · cases q0
  · have q1 : (stT r c e).getD tBad = w := Option.some.inj q
    clear q
    cases q0 : stT r c e with
    | none =>
      rw [q0] at q1
      subst q1
      exact xt_bad
    | some w' =>
    rw [q0] at q1
    obtain rfl : w' = w := q1
    have hu : X.A.units + 64 < cLine := by have := k.un; omega
    unfold stT at q0
    split at q0
    · exact (trW_ok (fun h => R.t k h) q0).t
    · obtain ⟨x, q1, rfl⟩ := Option.map_eq_some_iff.mp q0
      exact xt_not (R.t k q1)
    · obtain ⟨x, q1, rfl⟩ := Option.map_eq_some_iff.mp q0
      exact (trCmp_ok hu (fun h => R.e k h) q1).2
    · split at q0
      · rename_i hp
        obtain ⟨x, q1, rfl⟩ := Option.map_eq_some_iff.mp q0
        refine xt_tru (R.e k q1) fun whole => ?_
        cases e <;> first
          | rfl
          | cases hp
      · cases q0
def trZ : Tr := ⟨fun _ _ _ => none, fun _ _ => none⟩
def tr : Nat → Tr
  | 0 => trZ
  | n + 1 => step (tr n)
theorem tr_ok : ∀ n, TrOk (tr n)
  | 0 => by
    refine ⟨?_, ?_⟩
    · intro c X W z e w k h
      cases h
    · intro c X W e w k h
      cases h
  | n + 1 => step_ok (tr_ok n)
end Ab
end

section
/-! Ab11b: a, b = x, y. -/
namespace Ab
open PySem PySem.Spec L2
def swapB (a : List Expr) : Bool := !(a.any starred) && (!(a.all (foldedForSure 8)) && !(a.all (constantsAlone 8)))
theorem swap2 {env : PySem.Env} {x y : Str} {a b : Expr} {px py pt pt2 : Pos} {kt k2 : Nat} (hb : env.blockKind = .function) (hx : env.kindOf x = some .local) (hy : env.kindOf y = some .local) (hl : py.line = px.line) (hne : x ≠ y) (h : swapB [a, b] = true) :
    swappedStores [.Tuple [.Name x px, .Name y py] kt pt] (.Tuple [a, b] k2 pt2) env = pure (some [x, y]) := by
  unfold swapB at h
  simp only [Bool.and_eq_true, Bool.not_eq_true'] at h
  obtain ⟨h1, h2, h3⟩ := h
  unfold swappedStores
  simp [hb, hx, hy, hl, h2, h3, hne, Expr.pos, List.eraseDups]
  rw [if_neg, if_pos]
  · have n : (y == x) = false := by simpa using Ne.symm hne
    simp [List.eraseDupsBy, List.eraseDupsBy.loop, n]
  · simp only [List.any_cons, List.any_nil, Bool.or_false, Bool.or_eq_false_iff] at h1
    rintro (z | z)
    · have q := h1.1
      cases a <;> first
        | (cases z; done)
        | cases q
    · have q := h1.2
      cases b <;> first
        | (cases z; done)
        | cases q
theorem swap3 {env : PySem.Env} {x y z : Str} {a b c : Expr} {px py pz pt pt2 : Pos} {kt k2 : Nat} (hb : env.blockKind = .function) (hx : env.kindOf x = some .local) (hy : env.kindOf y = some .local) (hz : env.kindOf z = some .local) (hl : py.line = px.line) (hl2 : pz.line = px.line) (n1 : x ≠ y) (n2 : x ≠ z) (n3 : y ≠ z) (h : swapB [a, b, c] = true) :
    swappedStores [.Tuple [.Name x px, .Name y py, .Name z pz] kt pt] (.Tuple [a, b, c] k2 pt2) env = pure (some [x, y, z]) := by
  unfold swapB at h
  simp only [Bool.and_eq_true, Bool.not_eq_true'] at h
  obtain ⟨h1, h2, h3⟩ := h
  unfold swappedStores
  simp [hb, hx, hy, hz, hl, hl2, h2, h3, Expr.pos, List.eraseDups]
  rw [if_neg, if_pos]
  · have m1 : (y == x) = false := by simpa using Ne.symm n1
    have m2 : (z == x) = false := by simpa using Ne.symm n2
    have m3 : (z == y) = false := by simpa using Ne.symm n3
    simp [List.eraseDupsBy, List.eraseDupsBy.loop, m1, m2, m3]
  · simp only [List.any_cons, List.any_nil, Bool.or_false, Bool.or_eq_false_iff] at h1
    rintro (q | q | q)
    · have w := h1.1
      cases a <;> first
        | (cases q; done)
        | cases w
    · have w := h1.2.1
      cases b <;> first
        | (cases q; done)
        | cases w
    · have w := h1.2.2
      cases c <;> first
        | (cases q; done)
        | cases w
/-- the stores, side by side -/
def putAll : Ab.Env → List Nat → List D → Ab.Env
  | v, i :: is, d :: ds => putAll (v.set i (some d)) is ds
  | v, _, _ => v
def sPar (is : List Nat) (w : WL) : WS := fun v m P => w v m (fun ds m1 => ds.length = is.length ∧ P.nx (putAll v is ds) m1) fun x m => P.ex x v m
theorem xs_par2 {X : Cx} {W : WX} {i j : Nat} {x y : Str} {a b : Expr} {px py pt pt2 pos : Pos} {kt k2 : Nat} {w : WL} (hc : X.calm = true) (hN : X.N.Nodup) (hi : X.N[i]? = some x) (hj : X.N[j]? = some y) (hij : i ≠ j) (hx : X.env.scope.names.lookup x = some .local) (hy : X.env.scope.names.lookup y = some .local) (ha : Xl X W [a, b] w)
    (hb : X.env.blockKind = .function) (hl : py.line = px.line) (h : swapB [a, b] = true) : Xs X W (.Assign [.Tuple [.Name x px, .Name y py] kt pt] (.Tuple [a, b] k2 pt2) pos) (sPar [i, j] w) := by
  obtain ⟨t, p, g⟩ := ha.ex
  have hne : x ≠ y := by
    rintro rfl
    obtain ⟨q1, e1⟩ := List.getElem?_eq_some_iff.mp hi
    obtain ⟨q2, e2⟩ := List.getElem?_eq_some_iff.mp hj
    exact hij ((List.getElem_inj hN).mp (e1.trans e2.symm))
  refine ⟨_, ps_par hc hN hi hj hij hx hy p (swap2 hb hx hy hl hne h), ⟨fun {B F v m σ H P E} hm re hw rl => ?_⟩⟩
  refine g.run hm re hw (fun ds m1 F1 H1 vs hw1 e1 hm1 r1 => ?_) (rl.qx re)
  obtain ⟨hl, hk⟩ := hw1
  match ds, hl with
  | [d, e], _ =>
    obtain ⟨u, t, rfl, r2, r3⟩ := repL_cons.mp r1
    obtain ⟨u2, t, rfl, r4, r5⟩ := repL_cons.mp r3
    rw [repL_nil.mp r5]
    exact ⟨u, u2, rfl, rl.nx _ m1 F1 H1 _ hk e1 hm1 (((re.mono e1).set i r2).set j r4)⟩
theorem xs_par3 {X : Cx} {W : WX} {i j l : Nat} {x y z : Str} {a b c : Expr} {px py pz pt pt2 pos : Pos} {kt k2 : Nat} {w : WL} (hc : X.calm = true) (hN : X.N.Nodup) (hi : X.N[i]? = some x) (hj : X.N[j]? = some y) (hl : X.N[l]? = some z) (hij : i ≠ j) (hil : i ≠ l) (hjl : j ≠ l)
    (hx : X.env.scope.names.lookup x = some .local) (hy : X.env.scope.names.lookup y = some .local) (hz : X.env.scope.names.lookup z = some .local) (ha : Xl X W [a, b, c] w)
    (hb : X.env.blockKind = .function) (hl1 : py.line = px.line) (hl2 : pz.line = px.line) (h : swapB [a, b, c] = true) : Xs X W (.Assign [.Tuple [.Name x px, .Name y py, .Name z pz] kt pt] (.Tuple [a, b, c] k2 pt2) pos) (sPar [i, j, l] w) := by
  obtain ⟨t, p, g⟩ := ha.ex
  have ne : ∀ {i j : Nat} {x y : Str}, X.N[i]? = some x → X.N[j]? = some y → i ≠ j → x ≠ y := fun hi hj hij => by
    rintro rfl
    obtain ⟨q1, e1⟩ := List.getElem?_eq_some_iff.mp hi
    obtain ⟨q2, e2⟩ := List.getElem?_eq_some_iff.mp hj
    exact hij ((List.getElem_inj hN).mp (e1.trans e2.symm))
  refine ⟨_, ps_par3 hc hN hi hj hl hij hil hjl hx hy hz p (swap3 hb hx hy hz hl1 hl2 (ne hi hj hij) (ne hi hl hil) (ne hj hl hjl) h), ⟨fun {B F v m σ H P E} hm re hw rl => ?_⟩⟩
  refine g.run hm re hw (fun ds m1 F1 H1 vs hw1 e1 hm1 r1 => ?_) (rl.qx re)
  obtain ⟨hl, hk⟩ := hw1
  match ds, hl with
  | [d, e, f], _ =>
    obtain ⟨u, t, rfl, r2, r3⟩ := repL_cons.mp r1
    obtain ⟨u2, t, rfl, r4, r5⟩ := repL_cons.mp r3
    obtain ⟨u3, t, rfl, r6, r7⟩ := repL_cons.mp r5
    rw [repL_nil.mp r7]
    exact ⟨u, u2, u3, rfl, rl.nx _ m1 F1 H1 _ hk e1 hm1 ((((re.mono e1).set i r2).set j r4).set l r6)⟩
end Ab
end

section
/-! Ab12: the reading of a body's text. -/
namespace Ab
open PySem PySem.Spec L2

structure Sok (c : TC) (X : Cx) (W : WX) : Prop where
  k : Cok c X W
  po : PassesOwn (model X.prog X.w) X.A X.env X.xe
  st : X.stack = X.env :: X.outer
  fr : X.env.frame = some X.env.locals
  fn : ∀ x, X.fn x = true
  bk : X.env.blockKind = .function
theorem Cok.w0 {c : TC} {X : Cx} {W : WX} (k : Cok c X W) : Cok c X W0 := ⟨k.K, k.N, k.nd, k.sc, k.calm, k.gd, k.un, fun u s' ⟨_, _, _, _, _, _, _, _, _, _, _, _, _, _, _, _, w⟩ => w.elim, k.fns, k.blt, k.cons, k.excs, k.xf⟩
theorem Sok.tr {c : TC} {X : Cx} {W V : WX} (k : Sok c X W) {pn : List (Addr × Obj)} {xe : Value → Shared → Prop} (h1 : Takes (X.tr pn xe) V) (h2 : PassesOwn (model X.prog X.w) X.A X.env xe) : Sok c (X.tr pn xe) V where
  k := ⟨k.k.K, k.k.N, k.k.nd, k.k.sc, k.k.calm, k.k.gd, k.k.un, h1, k.k.fns, k.k.blt, k.k.cons, k.k.excs, k.k.xf⟩
  po := h2
  st := k.st
  fr := k.fr
  fn := k.fn
  bk := k.bk

/-! ### targets -/
def trG1 (E : Tr) (c : TC) : Expr → Option WG
  | .Name x _ => if isLoc c.sc x = true then (ixIn c.N x).map gN else none
  | .Subscript a b _ => if isSlice b = true then none else (E.e c true a).bind fun x => (E.e c true b).map fun y => gSubL x y
  | _ => none
def trGs (E : Tr) (c : TC) : List Expr → Option WGs
  | [] => some gs0
  | e :: es => (trG1 E c e).bind fun g => (trGs E c es).map fun r => gs1 g r
def trG (E : Tr) (c : TC) : Expr → Option WG
  | .Tuple es _ _ => (trGs E c es).map fun r => gT es.length r
  | e => trG1 E c e
section
variable {c : TC} {X : Cx} {W : WX} {E : Tr}
theorem trG1_ok (R : TrOk E) (k : Cok c X W) (fn : ∀ x, X.fn x = true) {e : Expr} {g : WG} (q : trG1 E c e = some g) : Xg X e g ∧ starred e = false := by
  unfold trG1 at q
  split at q
  · split at q
    · rename_i hl
      obtain ⟨i, q1, rfl⟩ := Option.map_eq_some_iff.mp q
      exact ⟨xg_name k.nd (by rw [k.N]; exact ixIn_ok q1) (by rw [k.sc]; exact isLoc_ok hl) (.inl (fn _)), rfl⟩
    · cases q
  · split at q
    · cases q
    · rename_i hs
      obtain ⟨x, q1, q⟩ := Option.bind_eq_some_iff.mp q
      obtain ⟨y, q2, rfl⟩ := Option.map_eq_some_iff.mp q
      exact ⟨xg_sub (R.e k.w0 q1) (R.e k.w0 q2) (by simpa using hs), rfl⟩
  · cases q
theorem trGs_ok (R : TrOk E) (k : Cok c X W) (fn : ∀ x, X.fn x = true) : ∀ {es : List Expr} {r : WGs}, trGs E c es = some r → Xgs X es r ∧ es.any starred = false
  | [], r, q => by cases q; exact ⟨xgs_nil, rfl⟩
  | e :: es, r, q => by
    obtain ⟨g, q1, q⟩ := Option.bind_eq_some_iff.mp (show (trG1 E c e).bind _ = some r from q)
    obtain ⟨u, q2, rfl⟩ := Option.map_eq_some_iff.mp q
    obtain ⟨a1, a2⟩ := trG1_ok R k fn q1
    obtain ⟨b1, b2⟩ := trGs_ok R k fn q2
    exact ⟨xgs_cons a1 b1 a2, by rw [List.any_cons, a2, b2]; rfl⟩
theorem trG_ok (R : TrOk E) (k : Cok c X W) (fn : ∀ x, X.fn x = true) {e : Expr} {g : WG} (q : trG E c e = some g) : Xg X e g ∧ starred e = false := by
  unfold trG at q
  split at q
  · obtain ⟨r, q1, rfl⟩ := Option.map_eq_some_iff.mp q
    obtain ⟨b1, b2⟩ := trGs_ok R k fn q1
    exact ⟨xg_tup k.calm b1 b2, rfl⟩
  · exact trG1_ok R k fn q
end

/-! ### clauses -/
def trH1 (c : TC) : ExceptHandler → Option Hnd
  | .ExceptHandler (some (.Name x _)) (some n) [.Return (some (.List [.Constant (.str s) _ _, .Attribute (.Name n' _) f _] _)) _] _ =>
    if (decide (n' = n) && isPl c.sc n && !dunder n && isGl c.sc x && !dunder x && c.xs.contains x && c.fs.contains f) = true then (ixIn c.N n).map fun i => (x, some i, .ret s f) else none
  | .ExceptHandler (some (.Name x _)) (some n) [.Assign [.Name y _] (.List [.Constant (.int k) _ _, .Attribute (.Name n' _) f _] _) _] _ =>
    if (decide (n' = n) && isPl c.sc n && !dunder n && isGl c.sc x && !dunder x && c.xs.contains x && c.fs.contains f && isPl c.sc y) = true then (ixIn c.N n).bind fun i => (ixIn c.N y).map fun j => (x, some i, .set j k f) else none
  | .ExceptHandler (some (.Name x _)) none [.Return (some (.Constant .none _ _)) _] _ =>
    if (isGl c.sc x && !dunder x && c.xs.contains x) = true then some (x, none, .non) else none
  | _ => none
def trHs (c : TC) : List ExceptHandler → Option (List Hnd)
  | [] => some []
  | h :: hs => (trH1 c h).bind fun x => (trHs c hs).map fun r => x :: r
theorem trHs_ok {c : TC} {X : Cx} {W : WX} (k : Cok c X W) : ∀ {hs : List ExceptHandler} {l : List Hnd}, trHs c hs = some l → HCs X c.xs c.fs hs l
  | [], l, q => by cases q; exact .nil
  | h :: hs, l, q => by
    obtain ⟨x, q1, q0⟩ := Option.bind_eq_some_iff.mp (show (trH1 c h).bind _ = some l from q)
    clear q
    obtain ⟨r, q2, rfl⟩ := Option.map_eq_some_iff.mp q0
    have ih := trHs_ok k q2
    have pl : ∀ {n : Str}, isPl c.sc n = true → X.env.scope.names.lookup n = some .local := fun h => by rw [k.sc]; exact isPl_ok h
    unfold trH1 at q1
    split at q1
    · split at q1
      · rename_i hb
        simp only [Bool.and_eq_true, decide_eq_true_eq, Bool.not_eq_true', List.contains_iff_mem] at hb
        obtain ⟨⟨⟨⟨⟨⟨rfl, b2⟩, b3⟩, b4⟩, b5⟩, b6⟩, b7⟩ := hb
        obtain ⟨i, q3, rfl⟩ := Option.map_eq_some_iff.mp q1
        exact .ret (by rw [k.N]; exact ixIn_ok q3) (pl b2) (.inl (pl b2)) (dunder_ok b3).1 (dunder_ok b3).2 (k.gl b4) (dunder_ok b5).1 b6 b7 ih
      · cases q1
    · split at q1
      · rename_i hb
        simp only [Bool.and_eq_true, decide_eq_true_eq, Bool.not_eq_true', List.contains_iff_mem] at hb
        obtain ⟨⟨⟨⟨⟨⟨⟨rfl, b2⟩, b3⟩, b4⟩, b5⟩, b6⟩, b7⟩, b8⟩ := hb
        obtain ⟨i, q3, q4⟩ := Option.bind_eq_some_iff.mp q1
        obtain ⟨j, q5, rfl⟩ := Option.map_eq_some_iff.mp q4
        exact .set (by rw [k.N]; exact ixIn_ok q3) (pl b2) (.inl (pl b2)) (dunder_ok b3).1 (dunder_ok b3).2 k.nd (by rw [k.N]; exact ixIn_ok q5) (.inl (pl b8)) (pl b8) (k.gl b4) (dunder_ok b5).1 b6 b7 ih
      · cases q1
    · split at q1
      · rename_i hb
        simp only [Bool.and_eq_true, Bool.not_eq_true', List.contains_iff_mem] at hb
        obtain ⟨⟨b4, b5⟩, b6⟩ := hb
        cases q1
        exact .non (k.gl b4) (dunder_ok b5).1 b6 ih
      · cases q1
    · cases q1

/-! ### statements -/
structure TS' where
  s : TC → Stmt → Option WS
structure TSOk (r : TS') : Prop where
  s : ∀ {c : TC} {X : Cx} {W : WX} {st : Stmt} {w : WS}, Sok c X W → r.s c st = some w → Xs X W st w
def trSs (f : Stmt → Option WS) : List Stmt → Option WS
  | [] => some sNil
  | [s] => f s
  | s :: r => (f s).bind fun a => (trSs f r).map fun b => sSeq a b
theorem trSs_ok {X : Cx} {W : WX} {f : Stmt → Option WS} (h : ∀ {s w}, f s = some w → Xs X W s w) : ∀ {ss : List Stmt} {w : WS}, trSs f ss = some w → Xss X W ss w
  | [], w, q => by cases q; exact xss_nil
  | [s], w, q => xss_one (h q)
  | s :: u :: r, w, q => by
    obtain ⟨a, q1, q0⟩ := Option.bind_eq_some_iff.mp (show (f s).bind _ = some w from q)
    clear q
    obtain ⟨b, q2, rfl⟩ := Option.map_eq_some_iff.mp q0
    exact xss_cons (h q1) (trSs_ok h q2)
def noPair : Expr → Expr → Bool
  | .Tuple .., .Tuple .. => false
  | .Tuple .., _ => true
  | .Subscript .., _ => true
  | _, _ => false
theorem noPair_ok {tg e : Expr} {env : PySem.Env} (h : noPair tg e = true) : swappedStores [tg] e env = pure none := by
  cases tg <;> first
    | (cases h; done)
    | rfl
    | (cases e <;> first
      | rfl
      | (cases h; done))
def trLz (f : Bool → Expr → Option WE) : List Bool → List Expr → Option WL
  | _, [] => some wNil
  | z :: zs, e :: es => if starred e = true then none else (f z e).bind fun a => (trLz f zs es).map fun r => wCons a r
  | [], _ :: _ => none
theorem trLz_ok {X : Cx} {W : WX} {f : Bool → Expr → Option WE} (h : ∀ {z e w}, f z e = some w → Xe X W e w) : ∀ {zs : List Bool} {es : List Expr} {w : WL}, trLz f zs es = some w → Xl X W es w
  | _, [], w, q => by
    have q0 : some wNil = some w := by
      unfold trLz at q
      exact q
    cases q0
    exact xl_nil
  | z :: zs, e :: es, w, q => by
    unfold trLz at q
    split at q
    · cases q
    · rename_i hs
      obtain ⟨a, q1, q0⟩ := Option.bind_eq_some_iff.mp q
      obtain ⟨r, q2, rfl⟩ := Option.map_eq_some_iff.mp q0
      exact xl_cons (h q1) (trLz_ok h q2) (by simpa using hs)
  | [], _ :: _, w, q => by cases q
/-- x = [.. for ..] -/
def lcB (c : TC) (x : Str) (px cpos : Pos) (scope : Scope) : Bool := isPl c.sc x && decide (px.line = cpos.line) && !(scope.names.any fun (n, k) => n == x && (k == .local || k == .cell))
theorem lc_swap {env : PySem.Env} {elt : Expr} {gs : List Comprehension} {scope : Scope} {cpos px : Pos} {x : Str} {l : Nat} (hb : env.blockKind = .function) (hx : env.kindOf x = some .local) (hl : px.line = cpos.line) (hn : (scope.names.any fun (n, k) => n == x && (k == .local || k == .cell)) = false) :
    swapsWith (.ListComp elt gs scope cpos) (some (.Name x px)) l env = pure true := by
  unfold swapsWith
  simp [hb, hx, hl, Expr.pos]
  have hn' : (scope.names.any fun p => p.1 == x && (p.2 == .local || p.2 == .cell)) = false := hn
  rw [hn']
  rfl
theorem trLcS_ok {E : Tr} (R : TrOk E) {c : TC} {X : Cx} {W : WX} (K : Sok c X W) {z : Bool} {elt tg it : Expr} {scope : Scope} {ifs : List Expr} {w : WE} {pos px spos : Pos} {x : Str} {i : Nat} (hb : lcB c x px pos scope = true) (hi : ixIn c.N x = some i) (q : trLc E c z elt scope tg it ifs = some w) :
    Xs X W (.Assign [.Name x px] (.ListComp elt [⟨tg, it, ifs, 0⟩] scope pos) spos) (sSet i w) := by
  have k := K.k
  unfold lcB at hb
  simp only [Bool.and_eq_true, decide_eq_true_eq, Bool.not_eq_true'] at hb
  obtain ⟨⟨b1, b2⟩, b3⟩ := hb
  have pl : X.env.scope.names.lookup x = some .local := by rw [k.sc]; exact isPl_ok b1
  unfold trLc at q
  split at q
  · rename_i hb
    rw [Bool.and_eq_true, Bool.not_eq_true'] at hb
    obtain ⟨wi, q1, q⟩ := Option.bind_eq_some_iff.mp q
    obtain ⟨g, q2, q⟩ := Option.bind_eq_some_iff.mp q
    obtain ⟨t, q3, q⟩ := Option.bind_eq_some_iff.mp q
    obtain ⟨e, q4, rfl⟩ := Option.map_eq_some_iff.mp q
    refine xs_setLc k.calm k.nd (by rw [k.N]; exact ixIn_ok hi) pl (lc_swap K.bk pl b2 b3) (trI_ok k (fun h => R.e k h) q1) (by rw [k.N, k.sc]; exact blkOk_by hb.1) (fun i => ?_) (fun i => ?_) (fun i => ?_) (isSet_ok hb.2 _)
    · exact trGo_ok (k.inner scope i).N (k.inner scope i).nd (k.inner scope i).sc (k.inner scope i).calm q2
    · exact trIfs_ok (fun h => R.t (k.inner scope i) h) q3
    · exact R.e (k.inner scope i) q4
  · cases q
def sBad : WS := fun _ _ _ => False
theorem xs_bad {X : Cx} {W : WX} {st : Stmt} : Xs X W st sBad := ⟨fun _ _ _ => False, ⟨fun _ _ _ _ _ _ h => h.elim⟩, ⟨fun {_ _ _ _ _ _ _ _} _ _ h _ => h.elim⟩⟩
def stS (E : Tr) (r : TS') (c : TC) : Stmt → Option WS
  | .Assign [.Name x px] (.ListComp elt [⟨tg, it, ifs, 0⟩] scope cpos) _ => if lcB c x px cpos scope = true then (ixIn c.N x).bind fun i => (trLc E c (!c.muts.contains i) elt scope tg it ifs).map fun w => sSet i w else none
  | .Assign [.Name x _] e _ => if (isLoc c.sc x && !isComp e) = true then (ixIn c.N x).bind fun i => (E.e c (!c.muts.contains i) e).map fun w => sSet i w else none
  | .Assign [.Tuple [.Name x px, .Name y py] _ _] (.Tuple [a, b] _ _) _ => if (isPl c.sc x && isPl c.sc y && decide (py.line = px.line) && swapB [a, b]) = true then (ixIn c.N x).bind fun i => (ixIn c.N y).bind fun j => if i = j then none else (trLz (E.e c) [!c.muts.contains i, !c.muts.contains j] [a, b]).map fun w => sPar [i, j] w else none
  | .Assign [.Tuple [.Name x px, .Name y py, .Name u pu] _ _] (.Tuple [a, b, d] _ _) _ => if (isPl c.sc x && isPl c.sc y && isPl c.sc u && decide (py.line = px.line) && decide (pu.line = px.line) && swapB [a, b, d]) = true then (ixIn c.N x).bind fun i => (ixIn c.N y).bind fun j => (ixIn c.N u).bind fun l => if i = j ∨ i = l ∨ j = l then none else (trLz (E.e c) [!c.muts.contains i, !c.muts.contains j, !c.muts.contains l] [a, b, d]).map fun w => sPar [i, j, l] w else none
  | .Assign [tg] e _ => if (!isComp e && noPair tg e) = true then (trG E c tg).bind fun g => (E.e c true e).map fun w => sAsg g w else none
  | .AugAssign (.Name x _) op e _ => if isLoc c.sc x = true then (ixIn c.N x).bind fun i => (opI op).bind fun o => (E.e c true e).map fun w => sAug i o w else none
  | .Expr (.Constant (.str _) _ _) _ => some sNil
  | .Expr e _ => if isComp e = true then none else (E.e c true e).map sDrop
  | .Return none _ => some sRetN
  | .Return (some e) _ => (E.e c (!c.rmut) e).map sRet
  | .If t a b _ => (E.t c t).bind fun w => (trSs (r.s c) a).bind fun x => (trSs (r.s c) b).map fun y => sIf w x y
  | .While t b [] _ => (E.t c t).bind fun w => (trSs (r.s c) b).map fun x => sWhile w x
  | .For tg it b [] _ => if isSet it = true then none else (trI c (E.e c true) tg it).bind fun wi => (trG E c tg).bind fun g => (trSs (r.s c) b).map fun x => sFor wi g x
  | .Pass _ => some sNil
  | .Break _ => some sBrk
  | .Continue _ => some sCont
  | .Raise (some (.Call (.Name C _) (e :: es) [] _)) none _ => if (isGl c.sc C && !dunder C) = true then (c.excs.lookup C).bind fun ps => (trL (E.e c true) (e :: es)).map fun w => sRaise C ps w else none
  | .Try b (h0 :: hs) [] [] _ => (trHs c (h0 :: hs)).bind fun l => (trSs (r.s c) b).map fun w => sTry c.xs c.fs w l
  | _ => none
theorem stS_ok {E : Tr} (R : TrOk E) {r : TS'} (Q : TSOk r) : TSOk ⟨stS E r⟩ := by
  refine ⟨fun {c X W st w} k q => ?_⟩
  have q0 : stS E r c st = some w := q
  clear q
  have kk := k.k
  have nm : ∀ {x : Str} {i : Nat}, ixIn c.N x = some i → X.N[i]? = some x := fun h => by rw [kk.N]; exact ixIn_ok h
  have lc : ∀ {x : Str}, isLoc c.sc x = true → Loc X.env.scope x := fun h => by rw [kk.sc]; exact isLoc_ok h
  have ss : ∀ {b : List Stmt} {u : WS}, trSs (r.s c) b = some u → Xss X W b u := fun h => trSs_ok (fun h => Q.s k h) h
  unfold stS at q0
  split at q0
  · split at q0
    · rename_i hb
      obtain ⟨i, q1, q0⟩ := Option.bind_eq_some_iff.mp q0
      obtain ⟨u, q2, rfl⟩ := Option.map_eq_some_iff.mp q0
      exact trLcS_ok R k hb q1 q2
    · cases q0
  · split at q0
    · rename_i hb
      rw [Bool.and_eq_true, Bool.not_eq_true'] at hb
      obtain ⟨i, q1, q0⟩ := Option.bind_eq_some_iff.mp q0
      obtain ⟨u, q2, rfl⟩ := Option.map_eq_some_iff.mp q0
      exact xs_set kk.nd (nm q1) (lc hb.1) (R.e kk q2) hb.2 (.inl (k.fn _))
    · cases q0
  · split at q0
    · rename_i hb
      simp only [Bool.and_eq_true, decide_eq_true_eq] at hb
      obtain ⟨⟨⟨b1, b2⟩, b3⟩, b4⟩ := hb
      obtain ⟨i, q1, q0⟩ := Option.bind_eq_some_iff.mp q0
      obtain ⟨j, q2, q0⟩ := Option.bind_eq_some_iff.mp q0
      split at q0
      · cases q0
      · rename_i hij
        obtain ⟨u, q3, rfl⟩ := Option.map_eq_some_iff.mp q0
        exact xs_par2 kk.calm kk.nd (nm q1) (nm q2) hij (by rw [kk.sc]; exact isPl_ok b1) (by rw [kk.sc]; exact isPl_ok b2) (trLz_ok (fun h => R.e kk h) q3) k.bk b3 b4
    · cases q0
  · split at q0
    · rename_i hb
      simp only [Bool.and_eq_true, decide_eq_true_eq] at hb
      obtain ⟨⟨⟨⟨⟨b1, b2⟩, b3⟩, b4⟩, b5⟩, b6⟩ := hb
      obtain ⟨i, q1, q0⟩ := Option.bind_eq_some_iff.mp q0
      obtain ⟨j, q2, q0⟩ := Option.bind_eq_some_iff.mp q0
      obtain ⟨l, q3, q0⟩ := Option.bind_eq_some_iff.mp q0
      split at q0
      · cases q0
      · rename_i hn
        simp only [not_or] at hn
        obtain ⟨u, q4, rfl⟩ := Option.map_eq_some_iff.mp q0
        exact xs_par3 kk.calm kk.nd (nm q1) (nm q2) (nm q3) hn.1 hn.2.1 hn.2.2 (by rw [kk.sc]; exact isPl_ok b1) (by rw [kk.sc]; exact isPl_ok b2) (by rw [kk.sc]; exact isPl_ok b3) (trLz_ok (fun h => R.e kk h) q4) k.bk b4 b5 b6
    · cases q0
  · split at q0
    · rename_i hb
      rw [Bool.and_eq_true, Bool.not_eq_true'] at hb
      obtain ⟨g, q1, q0⟩ := Option.bind_eq_some_iff.mp q0
      obtain ⟨u, q2, rfl⟩ := Option.map_eq_some_iff.mp q0
      obtain ⟨g1, g2⟩ := trG_ok R kk k.fn q1
      exact xs_asg (R.e kk q2) g1 hb.1 (noPair_ok hb.2) g2
    · cases q0
  · split at q0
    · rename_i hb
      obtain ⟨i, q1, q0⟩ := Option.bind_eq_some_iff.mp q0
      obtain ⟨o, q2, q0⟩ := Option.bind_eq_some_iff.mp q0
      obtain ⟨u, q3, rfl⟩ := Option.map_eq_some_iff.mp q0
      exact xs_aug kk.nd (nm q1) (lc hb) (R.e kk q3) (opI_ok q2) (.inl (k.fn _))
    · cases q0
  · cases q0
    exact xs_doc
  · split at q0
    · cases q0
    · rename_i hb
      obtain ⟨u, q1, rfl⟩ := Option.map_eq_some_iff.mp q0
      exact xs_drop (R.e kk q1) (by simpa using hb)
  · cases q0
    exact xs_retN
  · obtain ⟨u, q1, rfl⟩ := Option.map_eq_some_iff.mp q0
    exact xs_ret (R.e kk q1)
  · obtain ⟨u, q1, q0⟩ := Option.bind_eq_some_iff.mp q0
    obtain ⟨x, q2, q0⟩ := Option.bind_eq_some_iff.mp q0
    obtain ⟨y, q3, rfl⟩ := Option.map_eq_some_iff.mp q0
    exact xs_if (R.t kk q1) (ss q2) (ss q3)
  · obtain ⟨u, q1, q0⟩ := Option.bind_eq_some_iff.mp q0
    obtain ⟨x, q2, rfl⟩ := Option.map_eq_some_iff.mp q0
    exact xs_while k.po (R.t kk q1) (ss q2)
  · split at q0
    · cases q0
    · rename_i hb
      obtain ⟨wi, q1, q0⟩ := Option.bind_eq_some_iff.mp q0
      obtain ⟨g, q2, q0⟩ := Option.bind_eq_some_iff.mp q0
      obtain ⟨x, q3, rfl⟩ := Option.map_eq_some_iff.mp q0
      exact xs_for k.po kk.calm (trI_ok kk (fun h => R.e kk h) q1) (trG_ok R kk k.fn q2).1 (ss q3) (isSet_ok (by simpa using hb) _)
  · cases q0
    exact xs_pass
  · cases q0
    exact xs_break
  · cases q0
    exact xs_cont
  · split at q0
    · rename_i hb
      rw [Bool.and_eq_true, Bool.not_eq_true'] at hb
      obtain ⟨ps, q1, q0⟩ := Option.bind_eq_some_iff.mp q0
      obtain ⟨u, q2, rfl⟩ := Option.map_eq_some_iff.mp q0
      obtain ⟨j, T, rm⟩ := kk.excs _ _ q1
      obtain ⟨l1, l2⟩ := trL_ok (fun h => R.e kk h) q2
      exact xs_raise kk.calm T rm kk.tk (kk.gl hb.1) l1 (dunder_ok hb.2).1 l2
    · cases q0
  · obtain ⟨l, q1, q0⟩ := Option.bind_eq_some_iff.mp q0
    obtain ⟨u, q2, rfl⟩ := Option.map_eq_some_iff.mp q0
    exact xs_try k.st k.fr kk.nd kk.tk kk.xf (fun V pn xe h1 h2 => trSs_ok (fun h => Q.s (k.tr h1 h2) h) q2) (trHs_ok kk q1)
  · cases q0
def trT (E : Tr) : Nat → TS'
  | 0 => ⟨fun _ _ => none⟩
  | n + 1 => ⟨fun c st => some ((stS E (trT E n) c st).getD sBad)⟩
theorem bad_ok {r : TS'} (Q : TSOk r) : TSOk ⟨fun c st => some ((r.s c st).getD sBad)⟩ := by
  refine ⟨fun {c X W st w} k q => ?_⟩
  have q1 : (r.s c st).getD sBad = w := Option.some.inj q
  cases q0 : r.s c st with
  | none =>
    rw [q0] at q1
    subst q1
    exact xs_bad
  | some w' =>
    rw [q0] at q1
    obtain rfl : w' = w := q1
    exact Q.s k q0
theorem trT_ok {E : Tr} (R : TrOk E) : ∀ n, TSOk (trT E n)
  | 0 => by
    refine ⟨?_⟩
    intro c X W st w k h
    cases h
  | n + 1 => bad_ok (r := ⟨stS E (trT E n)⟩) (stS_ok R (trT_ok R n))
/-- a body -/
def trB (c : TC) (b : List Stmt) : Option WS := trSs ((trT (tr 40) 20).s c) b
theorem trB_ok {c : TC} {X : Cx} {W : WX} {b : List Stmt} {w : WS} (k : Sok c X W) (q : trB c b = some w) : Xss X W b w := trSs_ok (fun h => (trT_ok (tr_ok 40) 20).s k h) q
end Ab
end

section
/-! Ab13: a def keeps the promise that its text is. -/
namespace Ab
open PySem PySem.Spec PyProof.Rows L2

/-- the entry's slots -/
def entry (n : Nat) (ds : List D) : Env := ds.map some ++ List.replicate (n - ds.length) none
/-- the promise: what the text comes to -/
def spOf (n : Nat) (w : WS) : ASp := fun ds m R => w (entry n ds) m ⟨fun _ m => R (.ret .non) m, fun d m => R (.ret d) m, fun _ _ => False, fun _ _ => False, fun x _ m => R (.exc x) m⟩
theorem Rm.deeper {k : Nat} {A : Around} (r : Rm (k + 1) A) (env : PySem.Env) : Rm k (A.deeper env) := ⟨r.room.deeper env, r.gd⟩
theorem Rm.mono {j k : Nat} {A : Around} (r : Rm k A) (h : j ≤ k) : Rm j A := ⟨r.room.mono h, r.gd⟩
/-- what is known of the names that a body calls -/
structure Tab (P : Program) (w : World) (K : PySem.W.Frag) (mg : Str → Option Value) (base : Heap) (k : Nat) (c : TC) : Prop where
  fns : ∀ x n sp, c.fns.lookup x = some (n, sp) → ∃ j, j ≤ k ∧ CalA P w K mg base j x n sp
  blt : ∀ x ∈ bltNames, mg x = none
  cons : ∀ x d, c.cons.lookup x = some d → ∃ v u, mg x = some u ∧ RelV v u ∧ ∀ F, Rep K F d v
  excs : ∀ x ps, c.excs.lookup x = some ps → ∃ j, j + 1 ≤ k ∧ XCls P w K mg base j x ps
  xf : XF K mg c.xs c.fs
section
variable {P : Program} {w : World} {K : PySem.W.Frag} {mg : Str → Option Value} {base : Heap} {k : Nat} {c : TC}
theorem sok_of {qual : Str} {scope : Scope} {f : Addr} {cd : Value} {A : Around} {outer : List PySem.Env} {s : Shared} {H : Hp} {E : XK} {ps : List Str} (M : Tab P w K mg base k c) (hK : c.K = K) (hS : c.sc = scope) (S : FnScope c.N ps scope) (hr : Rm k (A.deeper (envOfC qual scope s.heap.objs.size f cd))) :
    Sok c (cxOf (L2.CX P w) P w K mg base c.N qual scope f cd A outer s H E) (fun cls d _ H => E cls d H) where
  k := {
    K := hK.symm
    N := rfl
    nd := S.nd
    sc := hS.symm
    calm := rfl
    gd := hr.gd
    un := by have := hr.room.un; show (A.deeper _).units + 164 < cLine; omega
    tk := takes_of (X := cxOf (L2.CX P w) P w K mg base c.N qual scope f cd A outer s H E) (E := E) rfl rfl rfl rfl
    fns := fun x n sp h => by
      obtain ⟨j, hj, C⟩ := M.fns x n sp h
      exact ⟨j, C, hr.mono hj⟩
    blt := M.blt
    cons := M.cons
    excs := fun x ps h => by
      obtain ⟨j, hj, T⟩ := M.excs x ps h
      exact ⟨j, T, hr.room.mono hj⟩
    xf := M.xf }
  po := passes_of (X := cxOf (L2.CX P w) P w K mg base c.N qual scope f cd A outer s H E) rfl
  st := rfl
  fr := rfl
  fn := fun _ => rfl
  bk := by
    show (if scope.kind.isAnnotationScope = true then ScopeKind.function else scope.kind) = .function
    rw [S.kind]
    rfl
theorem renv_entry {F : Hp} {N : List Str} : ∀ {ds : List D} {vs : List V}, RepL K F ds vs → REnv K F (entry N.length ds) (L2.start N vs) := by
  intro ds vs r
  have hl := r.len
  refine ⟨by unfold entry L2.start; simp [hl], fun i d h => ?_⟩
  unfold entry at h
  have hi : i < ds.length := by
    by_cases hi : i < ds.length
    · exact hi
    · rw [List.getElem?_append_right (by simpa using hi), List.getElem?_replicate] at h
      split at h <;> cases h
  rw [List.getElem?_append_left (by simpa using hi), List.getElem?_map] at h
  cases e : ds[i]? with
  | none => rw [e] at h; cases h
  | some d' =>
    rw [e] at h
    cases h
    obtain ⟨v, q1, q2⟩ := r.get e
    refine ⟨v, ?_, q2⟩
    unfold L2.start
    rw [List.getElem?_append_left (by rw [List.length_map, hl]; exact hi), List.getElem?_map, q1]
    rfl
theorem fnA_of {f : Addr} {name qual : Str} {params : Arguments} {body : List Stmt} {scope : Scope} {dV kV doc pm cdv ct oc : Value} {an od : Option Addr} {osl : Array (Option Value)} {ps : List Str} {ww : WS} (M : Tab P w K mg base k c) (hK : c.K = K) (hS : c.sc = scope) (S : FnScope c.N ps scope)
    (lk : K.lookup f = some ⟨oc, od, .func (PySem.W.fnOf name qual params body scope dV kV doc pm an cdv ct), osl⟩) (hcd : PySem.W.codeIn K cdv qual = true) (q : trB c body = some ww) :
    FnA P w K mg base (k + 1) f (PySem.W.fnOf name qual params body scope dV kV doc pm an cdv ct) ps (toSp K ps.length (spOf c.N.length ww)) := by
  have len : ∀ vs H Q E, toSp K ps.length (spOf c.N.length ww) vs H Q E → vs.length = ps.length := fun vs H Q E ⟨F, m, ds, R, r, hl, _⟩ => by rw [r.len]; exact hl
  refine ⟨len, ?_⟩
  intro A outer s H args us vs Q E hr e0 hb rv hsp
  have inK : K.In s.heap := e0.mod.kin.keeps fun b o e => (e0.bs b o e).1
  refine codeAny_call_function hr.room.depth (inK _ _ lk) rfl S.co S.gen rfl (PySem.W.codeRec_of inK hcd) (hb _ _ _ _ (wpAny_newFunctionEnv_cells S.kind (fun y hy => ?_) fun env he s1 x => ?_))
  · rcases S.par y.1 (List.of_mem_zip (show (y.1, y.2) ∈ ps.zip us from hy)).1 with z | z
    · exact .inl z
    · exact .inr ⟨z, PySem.W.cellsFrom_some _ _ _ (.inl z)⟩
  · subst he
    have lim : s.heap.NoLimit := e0.mod.nolimit.keeps fun b o e => (e0.bs b o e).1
    refine ⟨lim.keeps x.toInCall.keep, codeAny_func ?_⟩
    obtain ⟨t, pt, gt⟩ := (trB_ok (sok_of (A := A) (outer := outer) (s := s) (H := H) (E := E) (qual := qual) (f := f) (cd := cdv) M hK hS S (hr.deeper _)) q).ex
    obtain ⟨F, m, ds, R, r1, r2, hm, hw, hR, hX⟩ := hsp
    have J0 := inv_start (CX := L2.CX P w) (E := E) S hr.room.hd e0 (len vs H Q E ⟨F, m, ds, R, r1, r2, hm, hw, hR, hX⟩) rv x
    have go := gt.run (P := ⟨fun _ m => R (.ret .non) m, fun d m => R (.ret d) m, fun _ _ => False, fun _ _ => False, fun x _ m => R (.exc x) m⟩) (E := { nx := fun _ H' => Q .non H', rt := Q }) hm (renv_entry (N := c.N) r1) hw ⟨fun v1 m1 F1 H1 σ1 a b d e => hR .non m1 F1 H1 _ a d rep_non, fun d1 m1 F1 H1 v1 a b d e => hR d1 m1 F1 H1 v1 a d e, fun v1 m1 F1 H1 σ1 a b d e => a, fun v1 m1 F1 H1 σ1 a b d e => a, fun x1 v1 m1 F1 σ1 H1 dd a b d e g => hX x1 m1 F1 H1 dd a d g⟩
    refine wpAny_mono (pt.run [] s1 _ H _ J0 go) (fun fl s' hs => ?_) fun _ _ z => z
    cases fl with
    | ret u =>
      obtain ⟨v, σ1, H1, J, r, h⟩ := hs
      exact ⟨v, H1, J.os, J.bare, J.base, J.hok, r, h⟩
    | next =>
      obtain ⟨σ1, H1, J, h⟩ := hs
      exact ⟨V.non, H1, J.os, J.bare, J.base, J.hok, (rfl : RelV V.non Value.none), h⟩
    | brk =>
      obtain ⟨_, _, _, h⟩ := hs
      cases h
    | cont =>
      obtain ⟨_, _, _, h⟩ := hs
      cases h
theorem calA_of {f : Addr} {name qual : Str} {params : Arguments} {body : List Stmt} {scope : Scope} {dV kV doc pm cdv ct oc : Value} {an od : Option Addr} {osl : Array (Option Value)} {ps : List Str} {ww : WS} {x : Str} (M : Tab P w K mg base k c) (hK : c.K = K) (hS : c.sc = scope) (S : FnScope c.N ps scope)
    (lk : K.lookup f = some ⟨oc, od, .func (PySem.W.fnOf name qual params body scope dV kV doc pm an cdv ct), osl⟩) (hcd : PySem.W.codeIn K cdv qual = true) (q : trB c body = some ww) (hm : mg x = some (.ref f)) (hk : PySem.W.keepIn K (.ref f) = true) (hb : Binds K (PySem.W.fnOf name qual params body scope dV kV doc pm an cdv ct) ps []) :
    CalA P w K mg base (k + 1) x ps.length (spOf c.N.length ww) := ⟨f, _, ps, fnA_of M hK hS S lk hcd q, hm, hk, hb⟩
theorem CalA.mono {x : Str} {n j : Nat} {sp : ASp} (C : CalA P w K mg base j x n sp) (h : j ≤ k) : CalA P w K mg base k x n sp := by
  obtain ⟨f, fd, ps, F, a, b, d⟩ := C.ex
  exact ⟨f, fd, ps, ⟨F.len, fun A outer s H args us vs Q E hr => F.run A outer s H args us vs Q E (hr.mono h)⟩, a, b, d⟩
end
end Ab
end

section
/-! Ab14: own exceptions' making; what the head tells; the law's end. -/
namespace Ab
open PySem PySem.Spec PyProof.Rows L2

/-! ### Base.__init__(self, ..), Base an own class that has ValueError's -/
structure BaseC (K : PySem.W.Frag) (C : Addr) : Prop where
  sp : PySem.W.specialIn K (.ref C) "__getattribute__" = some (some (.builtin "type.__getattribute__"))
  rd : PySem.W.readsIn K C (.type "type") = true
  fi : PySem.W.findCls K (.ref C) (.type "type") "__init__" = some (.val (.builtin "ValueError.__init__"))
def baseB (K : PySem.W.Frag) (C : Addr) : Bool := decide (PySem.W.specialIn K (.ref C) "__getattribute__" = some (some (.builtin "type.__getattribute__"))) && (PySem.W.readsIn K C (.type "type") && (match PySem.W.findCls K (.ref C) (.type "type") "__init__" with
  | some (.val v) => decide (v = .builtin "ValueError.__init__")
  | _ => false))
theorem baseB_ok {K : PySem.W.Frag} {C : Addr} (h : baseB K C = true) : BaseC K C := by
  obtain ⟨h1, h⟩ := Bool.and_eq_true_iff.mp h
  obtain ⟨h2, h⟩ := Bool.and_eq_true_iff.mp h
  refine ⟨of_decide_eq_true h1, h2, ?_⟩
  cases e : PySem.W.findCls K (.ref C) (.type "type") "__init__" with
  | none => rw [e] at h; cases h
  | some r =>
    rw [e] at h
    cases r with
    | val v => rw [show v = _ from of_decide_eq_true h]
    | get => cases h
section
variable {X : Cx} {o e : Expr} {es : List Expr} {ta : TA} {p p' p1 p2 pos : Pos}
theorem pe_binit {x : Str} {C : Addr} {pl : Sem Bool} (B : BaseC X.K C) (hg : Gl X x) (hm : X.mg x = some (.ref C)) (hd : (x == ("__debug__" : Str)) = false) (ha : PA X (e :: es) ta)
    (hc : eval (.Call (.Attribute (.Name x p1) "__init__" p2) (e :: es) [] pos) X.env = (do
      let ov ← eval (.Name x p1) X.env
      standAt p2.atName
      let (f, first) ← holding [ov] (getMethod ov "__init__" pl)
      callWith pos f first (backTo pos (starEach (e :: es) X.env)) (backToKw pos (keywordEach [] X.env))) := by rfl)
    (he : starEach (e :: es) X.env = (false, eval e X.env) :: starEach es X.env) (hpl : (backTo pos (starEach es X.env)).any (·.1) = false) :
    PE X (.Call (.Attribute (.Name x p1) "__init__" p2) (e :: es) [] pos) (tVeI X.K ta) := by
  refine ⟨fun pins s σ H Q I h => ?_⟩
  refine PySem.W.methodCall_KW (ld_glob I hg hm (PySem.W.method_cls I.kIn B.sp (PySem.W.cls_value I.kIn B.rd B.fi (by decide +kernel) ?_)) hd) hc
  show wpAny _ _ (callWith pos (Value.builtin "ValueError.__init__") [] (backTo pos (starEach (e :: es) X.env)) []) _ _ _
  refine callWith_method1 (thn (ha.run pos pins _ σ H _ (I.tok _) h) fun us s1 ⟨vs, H1, I1, r1, q0⟩ => ?_) he hpl
  obtain ⟨a, C', ws, rfl, hl, T, ea, q⟩ := q0
  obtain ⟨u0, ur, rfl, ra, rw'⟩ : ∃ u0 ur, us = u0 :: ur ∧ RelV (.ref a) u0 ∧ Vals ws ur := by
    cases r1 with
    | cons ra rw' => exact ⟨_, _, rfl, ra, rw'⟩
  obtain rfl : u0 = Value.ref a := ra
  exact oinit_ok T I1 ea (by rw [← Paired.length rw', sizeLine_eq]; omega) fun s' J => ⟨.non, H1, J, rfl, q⟩
end
theorem mcall_eq {x n y : Str} {k : Const} {j : Nat} {p1 p2 p3 p4 pos : Pos} {env : PySem.Env} (hl : (p2.endLine == pos.line) = true) : eval (.Call (.Attribute (.Name x p1) n p2) [.Name y p3, .Constant k j p4] [] pos) env = (do
      let ov ← eval (.Name x p1) env
      standAt p2.atName
      let (f, first) ← holding [ov] (getMethod ov n (do return (← importBound (.Name x p1) env).getD true))
      callWith pos f first (backTo pos (starEach [.Name y p3, .Constant k j p4] env)) (backToKw pos (keywordEach [] env))) := by
  have e : methodCallPos true (.Name x p1) env p2 pos = pure pos := by
    unfold methodCallPos
    rw [hl]
    rfl
  show (do
      let ov ← eval (.Name x p1) env
      standAt p2.atName
      let (f, first) ← holding [ov] (getMethod ov n (do return (← importBound (.Name x p1) env).getD true))
      let cp ← methodCallPos true (.Name x p1) env p2 pos
      callWith cp f first (backTo pos (starEach [.Name y p3, .Constant k j p4] env)) (backToKw pos (keywordEach [] env))) = _
  rw [e]
  rfl
/-- the text of such an __init__: one field -/
def iniB : List Stmt → Option (Str × Str)
  | [.Expr (.Call (.Attribute (.Name b _) i p2) [.Name s _, .Constant (.str _) _ _] [] pos) _, .Assign [.Attribute (.Name s' _) f _] (.Name f' _) _] => if i = "__init__" ∧ s = "self" ∧ s' = "self" ∧ f' = f ∧ (p2.endLine == pos.line) = true then some (b, f) else none
  | _ => none
theorem ok_ini {P : Program} {w : World} {K : PySem.W.Frag} {mg : Str → Option Value} {base : Heap} {qual : Str} {params : Arguments} {body : List Stmt} {scope : Scope} {f : Addr} {fd : FuncData} {b fld : Str} {C CB : Addr} (F : FunD K "__init__" qual params body scope [] [] f fd) (hb : iniB body = some (b, fld))
    (S : FnScope ["self", fld] ["self", fld] scope) (hs : isPl scope "self" = true) (hf : isPl scope fld = true) (hg : isGl scope b = true) (h2 : dunder fld = false) (h3 : dunder b = false) (B : BaseC K CB) (hm : mg b = some (.ref CB)) (T : OexC K C) (no : PySem.W.findIn K (.ref C) fld = some none) :
    FnOk P w K mg base CX0 1 f fd ["self", fld] (spXI C 1 [fld]) := by
  refine F.ok S (fun vs H Q E h => ?_) (fun cdv A outer s H vs Q E hr h => ?_)
  · obtain ⟨a, ys, rfl, h1, _⟩ := h
    simp [h1]
  · unfold iniB at hb
    split at hb
    · split at hb
      · rename_i hh
        obtain ⟨rfl, rfl, rfl, rfl, hl⟩ := hh
        cases hb
        have v0 : ∀ {p : Pos}, PE (cxOf CX0 P w K mg base ["self", fld] qual scope f cdv A outer s H E) (.Name "self" p) (tVar 0) := pe_var rfl (.inl (isPl_ok hs)) (by decide) (by decide)
        have v1 : ∀ {p : Pos}, PE (cxOf CX0 P w K mg base ["self", fld] qual scope f cdv A outer s H E) (.Name fld p) (tVar 1) := pe_var rfl (.inl (isPl_ok hf)) (dunder_ok h2).1 (dunder_ok h2).2
        refine ⟨_, pss_cons (ps_expr (pe_binit B (isGl_ok hg) hm (dunder_ok h3).1 (pa_cons v0 (pa_cons pe_str pa_nil)) (mcall_eq hl) rfl rfl)) (pss_one (ps_ost v0 v1)), ?_⟩
        obtain ⟨a, ys, rfl, h1, _, ha, k⟩ := h
        obtain ⟨y, rfl⟩ : ∃ y, ys = [y] := List.length_eq_one_iff.mp h1
        refine ⟨_, rfl, a, C, [V.str _], rfl, by show 1 ≤ 1000; decide, T, ha, _, rfl, _, rfl, a, C, rfl, T, no, .inl ⟨ha, fun dx n ne => ?_⟩⟩
        exact k dx n ne
      · cases hb
    · cases hb

/-! ### Bool facts of the exception classes -/
def oexB (K : PySem.W.Frag) (C : Addr) : Bool := (match K.lookup C with
  | some ⟨.type t, _, .cls cd, sl⟩ => (match cd.mro, sl.toList with
    | .ref C' :: bm, [_, _, _, _, some (.builtin n), _] => decide (t = "type") && (decide (C' = C) && (decide (n = "ValueError.__new__") && (!cd.hasDel && (cd.hasDict && PySem.HandSPX.refsVE bm))))
    | _, _ => false)
  | _ => false) && (He.eqO (PySem.W.findIn K (.ref C) "__setattr__") (some (some (.builtin "object.__setattr__"))) && (decide (PySem.W.subIn K (.ref C) (.type "BaseException") = some true) && (decide (PySem.W.typeIn K (.ref C) = some (.type "type")) && PySem.W.keepIn K (.ref C))))
theorem oexB_ok {K : PySem.W.Frag} {C : Addr} (h : oexB K C = true) : OexC K C := by
  obtain ⟨q, h⟩ := Bool.and_eq_true_iff.mp h
  obtain ⟨h2, h⟩ := Bool.and_eq_true_iff.mp h
  obtain ⟨h3, h⟩ := Bool.and_eq_true_iff.mp h
  obtain ⟨h4, h5⟩ := Bool.and_eq_true_iff.mp h
  refine ⟨?_, He.eqO_ok h2, of_decide_eq_true h3, of_decide_eq_true h4, h5⟩
  split at q
  · rename_i t dd cd sl ho
    split at q
    · rename_i C' bm k0 k1 k2 k3 n k5 hm hs
      simp only [Bool.and_eq_true, decide_eq_true_eq, Bool.not_eq_true'] at q
      obtain ⟨rfl, rfl, rfl, q1, q2, q3⟩ := q
      obtain ⟨nm, bs, mro, ns, qn, hd, sn, sub, ab, col, del⟩ := cd
      dsimp only at hm q1 q2
      subst hm q1 q2
      have esl : sl = #[k0, k1, k2, k3, some (.builtin "ValueError.__new__"), k5] := by
        cases sl
        simpa using hs
      subst esl
      exact ⟨nm, qn, ns, bs, bm, sn, sub, ab, col, dd, k0, k1, k2, k3, k5, ho, q3⟩
    · cases q
  · cases q
/-- one own exception class: its fields -/
def excB (K : PySem.W.Frag) (x : Str) (fs : List Str) : Bool := oexB K (He.ga K x) && (xfB K (He.ga K x) && ((Fa.ok' K x) && fs.all fun f => He.eqO (PySem.W.findIn K (.ref (He.ga K x)) f) (some none)))
where Fa.ok' (K : PySem.W.Frag) (x : Str) : Bool := He.eqO (PySem.W.findIn K (.ref (He.ga K x)) "__init__") (some (some (.ref (He.ma K (He.ga K x) "__init__")))) && decide (PySem.W.typeIn K (.ref (He.ma K (He.ga K x) "__init__")) = some (.type "function"))
structure ExcF (K : PySem.W.Frag) (x : Str) (fs : List Str) : Prop where
  oex : OexC K (He.ga K x)
  xfc : XfC K (He.ga K x)
  ini : PySem.W.findIn K (.ref (He.ga K x)) "__init__" = some (some (.ref (He.ma K (He.ga K x) "__init__")))
  fun_ : PySem.W.typeIn K (.ref (He.ma K (He.ga K x) "__init__")) = some (.type "function")
  no : ∀ f ∈ fs, PySem.W.findIn K (.ref (He.ga K x)) f = some none
theorem excB_ok {K : PySem.W.Frag} {x : Str} {fs : List Str} (h : excB K x fs = true) : ExcF K x fs := by
  obtain ⟨h1, h⟩ := Bool.and_eq_true_iff.mp h
  obtain ⟨h2, h⟩ := Bool.and_eq_true_iff.mp h
  obtain ⟨h3, h4⟩ := Bool.and_eq_true_iff.mp h
  obtain ⟨h5, h6⟩ := Bool.and_eq_true_iff.mp h3
  exact ⟨oexB_ok h1, xfB_ok h2, He.eqO_ok h5, of_decide_eq_true h6, fun f hf => He.eqO_ok (List.all_eq_true.mp h4 f hf)⟩
def xfAll (K : PySem.W.Frag) (xs fs : List Str) : Bool := xs.all fun x => excB K x fs && (He.eqO (PySem.W.nsIn K mainGlobals x) (some (some (.ref (He.ga K x)))) && xs.all fun y => decide (PySem.W.exmOne K (.ref (He.ga K x)) (.ref (He.ga K y)) = some (decide (x = y))))
theorem xfAll_ok {K : PySem.W.Frag} {h : Heap} {mg : Str → Option Value} (X : K.In h) (G : h.Ns mainGlobals mg) {xs fs : List Str} (q : xfAll K xs fs = true) : XF K mg xs fs ∧ ∀ x ∈ xs, ExcF K x fs := by
  have q1 := fun x hx => Bool.and_eq_true_iff.mp (List.all_eq_true.mp q x hx)
  have q2 := fun x hx => Bool.and_eq_true_iff.mp (q1 x hx).2
  refine ⟨⟨fun x hx y hy => of_decide_eq_true (List.all_eq_true.mp (q2 x hx).2 y hy), fun x hx => (excB_ok (q1 x hx).1).xfc, fun x hx f hf => (excB_ok (q1 x hx).1).no f hf, fun x hx => PySem.W.mg_of X G (He.eqO_ok (q2 x hx).1)⟩, fun x hx => excB_ok (q1 x hx).1⟩

/-! ### the hook -/
abbrev AlX : Type := He.AlD × Bool
def obsX (fa : List He.Fa) (fn : List He.DefD) (b : PySem.W.Frag → Bool) (K : PySem.W.Frag) : AlX := ⟨He.obsD fa fn K, b K⟩
def valX (fn : List He.DefD) : AlX := ⟨He.valD fn, true⟩
def SaysX (fa : List He.Fa) (fn : List He.DefD) (b : PySem.W.Frag → Bool) (K : PySem.W.Frag) : Prop := obsX fa fn b K = valX fn
def obsXG (n : Nat) (fa : List He.Fa) (fn : List He.DefD) (b : PySem.W.Frag → Bool) (g : Addr → Option Obj) : AlX := obsX fa fn b (He.frG g (cStatics :: He.asD g n))
def hookX (n : Nat) (fa : List He.Fa) (fn : List He.DefD) (b : PySem.W.Frag → Bool) : PySem.W.Hook := ⟨AlX, fun s => obsXG n fa fn b s.heap.get?, fun _ => valX fn, fun _ h => ∃ K : PySem.W.Frag, K.In h ∧ SaysX fa fn b K, fun _ _ e => ⟨_, He.frG_in, e⟩, fun _ _ _ ⟨K, hK, c⟩ k => ⟨K, hK.keeps k, c⟩⟩
theorem obsXG_eq {n : Nat} {fa : List He.Fa} {fn : List He.DefD} {b : PySem.W.Frag → Bool} {g : Addr → Option Obj} {s : Shared} (h : ∀ a, g a = s.heap.get? a) : obsXG n fa fn b g = (hookX n fa fn b).obs s := by
  obtain rfl : g = s.heap.get? := funext h
  rfl
theorem SaysX.d {fa : List He.Fa} {fn : List He.DefD} {b : PySem.W.Frag → Bool} {K : PySem.W.Frag} (c : SaysX fa fn b K) : He.SaysD fa fn K := congrArg Prod.fst c
theorem SaysX.b {fa : List He.Fa} {fn : List He.DefD} {b : PySem.W.Frag → Bool} {K : PySem.W.Frag} (c : SaysX fa fn b K) : b K = true := congrArg Prod.snd c
end Ab
end

section
/-! Ab15: the law's end. -/
namespace Ab
open PySem PySem.Spec PyProof.Rows L2

theorem callerA_rm {k : Nat} (h : Room k callerA) : Rm k callerA := ⟨h, rfl⟩
/-- what is asked of the law's text: whatever the script is, True -/
def LawSp (n : Nat) (sp : ASp) : Prop := ∀ ns : List Int, ns.length ≤ n → (∀ k ∈ ns, Builtin.Int.intBits k ≤ 1048576) → sp [.frl (ns.map D.int)] m0 (fun r _ => match r with
  | .ret (.bl true) => True
  | _ => False)
section
variable {P : Program} {w : World} {K : PySem.W.Frag} {mg mb : Str → Option Value} {k : Nat} {fa a : Addr} {fd : FuncData} {x : Str} {sp : ASp} {s1 : Shared} {vs : List Value} {ns : List Int}
/-- over one abstract heap -/
theorem end_at {H : Hp} (hO : Only H) (hS : SqL K H a (ns.map V.int)) (hok : HOk P w H s1.heap) (only : ∀ b, H b ≠ none → b = a) (hK : H a ≠ none → K.lookup a = none) (KX : K.In s1.heap) (hns : s1.heap.Ns mainGlobals mg) (hb : s1.heap.Ns builtinsNs mb)
    (hbb : ∀ y : Str, y ≠ "__name__" → mb y = bootBuiltins y) (hlim : s1.heap.NoLimit) (hg : s1.gens = #[]) (ha : s1.heap.get? a = some { cls := .type "list", data := .seq vs.toArray }) (hr : Rm k callerA)
    (F : ∀ base : Heap, K.In base → base.Ns mainGlobals mg → FnA P w K mg base k fa fd [x] (toSp K 1 sp)) (hbind : ∀ (s : Shared) (u : Value), BindsTo s fd ⟨[u], []⟩ [(x, u)])
    (hsp : sp [.frl (ns.map D.int)] m0 (fun r _ => match r with
      | .ret (.bl true) => True
      | _ => False)) :
    codeAny (model P w) callerA (.call (.ref fa) ⟨[.ref a], []⟩) (fun r s' => r = .ok (.ret (.bool true)) ∧ OldK s1.heap s'.heap ∧ s'.os = s1.os ∧ AllBare s'.gens) s1 := by
  have free_of : ∀ {b : Addr}, b ≠ a → H b = none := fun {b} n => by
    cases q : H b with
    | none => rfl
    | some u => exact absurd (only b (by rw [q]; exact fun z => nomatch z)) n
  have dict_free : ∀ {b : Addr} {o : Obj} {es : Array DictEntry} {ep : Nat}, s1.heap.get? b = some o → o.data = .dict es ep → H b = none := fun {b o es ep} e d => free_of (by
    rintro rfl
    rw [ha] at e
    cases e
    cases (show Data.seq vs.toArray _ = Data.dict es ep from d))
  have ns_of : ∀ {b : Addr} {m : Str → Option Value}, s1.heap.Ns b m → (hidT s1.heap H).Ns b m := fun ⟨o, es, ep, e, d, r⟩ => ⟨o, es, ep, hidT_get e (dict_free e d), d, r⟩
  have kin : K.In (hidT s1.heap H) := fun b o e => hidT_get (KX b o e) (by
    by_cases hb : b = a
    · subst hb
      cases q : H b with
      | none => rfl
      | some u =>
        rw [hK (by rw [q]; exact fun z => nomatch z)] at e
        cases e
    · exact free_of hb)
  obtain ⟨mc, l1, l2⟩ := hlim
  have md : Mod K mg (hidT s1.heap H) := ⟨kin, ns_of hns, ⟨mb, ns_of hb, hbb⟩, ⟨mc, ns_of l1, l2⟩⟩
  have noF : ∀ b : Addr, b ∉ frs ([] : List PySem.Env) := fun b z => nomatch z
  have env : Env0 P w K mg (hidT s1.heap H) callerA [] s1 H := {
    frames := rfl
    mod := md
    bs := fun b o e => of_hidT e
    bsz := Nat.le_of_eq (hidT_size _ _)
    funs := trivial
    frf := fun b z => absurd z (noF b)
    hok := hok
    bare := .of_eq hg }
  have start : HM K ⟨H, H, m0⟩ H m0 H := ⟨Same.refl _, Same.refl _, fun _ _ q => .inl q, fun _ _ q _ => q, fun _ _ q => (by cases q), fun _ q => q⟩
  have rep : RepL K H [.frl (ns.map D.int)] [.ref a] := RepL.cons (by unfold Rep; exact ⟨a, _, rfl, hS, repL_ints.mpr rfl⟩) RepL.nil
  have promise : toSp K 1 sp [.ref a] H (fun v _ => v = .bl true) (fun _ _ _ => False) := by
    refine ⟨H, m0, _, _, rep, rfl, start, hsp, fun d m' F' H' v hR _ rv => ?_, fun y m' F' H' dd hR _ _ => ?_⟩
    · split at hR
      · rename_i e
        cases e
        unfold Rep at rv
        exact rv
      · exact hR.elim
    · exact hR.elim
  refine codeAny_mono ((F _ kin (ns_of hns)).run callerA [] s1 H ⟨[.ref a], []⟩ [.ref a] [.ref a] _ _ hr env (hbind s1 (.ref a)) (.cons rfl .nil) promise) fun r s' h => ?_
  match r, h with
  | .error e, h =>
    obtain ⟨_, _, _, _, _, _, _, _, _, _, _, _, q⟩ := h
    exact q.elim
  | .ok (.ret u), h =>
    obtain ⟨v, H', os, bare, un, hok', rv, q⟩ := h
    obtain rfl : v = V.bl true := q
    obtain rfl : u = Value.bool true := rv
    refine ⟨rfl, OldK.of_keep fun b o e => ?_, os, bare⟩
    rcases hO b with z | ⟨ob, xs, z⟩
    · exact un.keep b o e z (noF b) (fun y => nomatch y)
    · obtain ⟨e1, _⟩ := hok b _ z
      obtain ⟨e2, _⟩ := hok' b _ (un.frzs b ob _ z)
      exact e2.trans (e1.symm.trans e)
  | .ok .next, h => exact h.elim
  | .ok .brk, h => exact h.elim
  | .ok .cont, h => exact h.elim
theorem end_call (KX : K.In s1.heap) (hns : s1.heap.Ns mainGlobals mg) (hb : s1.heap.Ns builtinsNs mb) (hbb : ∀ y : Str, y ≠ "__name__" → mb y = bootBuiltins y) (hlim : s1.heap.NoLimit) (hg : s1.gens = #[])
    (ha : s1.heap.get? a = some { cls := .type "list", data := .seq vs.toArray }) (hi : IntsAre vs ns) (hl : ns.length ≤ sizeLine) (hr : Rm k callerA)
    (F : ∀ base : Heap, K.In base → base.Ns mainGlobals mg → FnA P w K mg base k fa fd [x] (toSp K 1 sp)) (hbind : ∀ (s : Shared) (u : Value), BindsTo s fd ⟨[u], []⟩ [(x, u)])
    (hsp : sp [.frl (ns.map D.int)] m0 (fun r _ => match r with
      | .ret (.bl true) => True
      | _ => False)) :
    codeAny (model P w) callerA (.call (.ref fa) ⟨[.ref a], []⟩) (fun r s' => r = .ok (.ret (.bool true)) ∧ OldK s1.heap s'.heap ∧ s'.os = s1.os ∧ AllBare s'.gens) s1 := by
  have rv := vals_ints hi
  have lv := hi.length
  cases hk : K.lookup a with
  | some o =>
    have e := (KX a o hk).symm.trans ha
    cases e
    exact end_at (H := fun _ => none) (fun _ => .inl rfl) (.inr ⟨_, vs.toArray, _, hk, rfl, rfl, rfl, by rw [List.size_toArray, lv]; exact hl, by simpa using rv⟩) (fun b u z => by cases z) (fun b z => absurd rfl z) (fun z => absurd rfl z) KX hns hb hbb hlim hg ha hr F hbind hsp
  | none =>
    let H1 : Hp := upd (fun _ => none) a (.frz { cls := .type "list", data := .seq vs.toArray } (.lst (ns.map V.int)))
    have h1 : ∀ {b}, b ≠ a → H1 b = none := fun n => upd_ne n
    have h2 : H1 a = some (.frz { cls := .type "list", data := .seq vs.toArray } (.lst (ns.map V.int))) := upd_same
    refine end_at (H := H1) (fun b => ?_) (.inl (.inr ⟨_, h2⟩)) (fun b u z => ?_) (fun b z => ?_) (fun _ => hk) KX hns hb hbb hlim hg ha hr F hbind hsp
    · by_cases hb : b = a
      · subst hb
        exact .inr ⟨_, _, h2⟩
      · exact .inl (h1 hb)
    · by_cases hb : b = a
      · subst hb
        cases h2.symm.trans z
        exact ⟨ha, by rw [List.length_map]; exact hl, vs, _, rv, ha⟩
      · cases (h1 hb).symm.trans z
    · by_cases hb : b = a
      · exact hb
      · exact absurd (h1 hb) z
end
theorem walkA {l : PySem.W.OpenLaw} {n k : Nat} {q : Program} {loose : List Str} {XP : (Str → Option Value) → Heap → Prop} {YP : World → Heap → Prop} {d : DefRec} {x : Str} (hn : l.most = some n) (hn2 : n ≤ sizeLine) (hdf : d.params.defaults = []) (hr : Room k callerA)
    (F : ∀ (w : World) (mg : Str → Option Value) (fa : Addr) (h : Heap), YP w h → h.Ns mainGlobals mg → mg d.name = some (.ref fa) → ∃ (K : PySem.W.Frag) (fd : FuncData) (sp : ASp), K.In h ∧ (∀ (s : Shared) (u : Value), BindsTo s fd ⟨[u], []⟩ [(x, u)]) ∧
      LawSp n sp ∧ ∀ base : Heap, K.In base → base.Ns mainGlobals mg → FnA l.prog w K mg base k fa fd [x] (toSp K 1 sp)) : PySem.W.WalkO q loose XP YP l.row.toRowW d [] (fun f vs => PySem.call f vs) := by
  refine Att.attach_callB hn hdf fun w s0 s1 mg mb fa o pm cd doc a vs ns G Y _ _ _ hmg hobj hints hlen hbits hg => ?_
  obtain ⟨K, fd, sp, KX, hb, hsp, hF⟩ := F w mg fa _ Y G.T.g hmg
  exact end_call KX G.T.g G.T.b G.T.builtins G.T.nolimit hg hobj hints (Nat.le_trans hlen hn2) (callerA_rm hr) hF hb (hsp ns hlen hbits)
end Ab
end

section
/-! Ab16: a law's defs, one after the other. -/
namespace Ab
open PySem PySem.Spec PyProof.Rows L2

def sFalse : WS := fun _ _ _ => False
def argsOf : Stmt → Arguments
  | .FunctionDef (args := a) .. => a
  | _ => ⟨[], [], none, [], [], none, []⟩
def bodyOf : Stmt → List Stmt
  | .FunctionDef (body := b) .. => b
  | _ => []
def scopeOf : Stmt → Scope
  | .FunctionDef (scope := s) .. => s
  | _ => ⟨.module, [], false, false, []⟩
def inCls : Stmt → Nat → Stmt
  | .ClassDef (body := b) .., i => b.getD i (.Pass ⟨0, 0, 0, 0⟩)
  | _, _ => .Pass ⟨0, 0, 0, 0⟩
/-- one def of the module -/
structure DF (K : PySem.W.Frag) (mg : Str → Option Value) (x : Str) (st : Stmt) : Prop where
  ex : ∃ f fd, FunD K x x (argsOf st) (bodyOf st) (scopeOf st) [] [] f fd ∧ mg x = some (.ref f)
def BindsN (x : Str) (st : Stmt) (ps : List Str) : Prop := ∀ (kV doc pm : Value) (an : Option Addr) (cdv ct : Value) (us : List Value), us.length = ps.length → bindArgs (PySem.W.fnOf x x (argsOf st) (bodyOf st) (scopeOf st) .none kV doc pm an cdv ct) ⟨us, []⟩ = pure (ps.zip us)
section
variable {P : Program} {w : World} {K : PySem.W.Frag} {mg : Str → Option Value} {base : Heap} {k : Nat} {c : TC} {x : Str} {st : Stmt} {ps : List Str} {ww : WS}
theorem cal_of (D : DF K mg x st) (M : Tab P w K mg base k c) (hK : c.K = K) (hS : c.sc = scopeOf st) (S : FnScope c.N ps (scopeOf st)) (hb : BindsN x st ps) (q : trB c (bodyOf st) = some ww) : CalA P w K mg base (k + 1) x ps.length (spOf c.N.length ww) := by
  obtain ⟨f, fd, F, hm⟩ := D.ex
  have b := FunD.bindsN F hb
  obtain ⟨oc, od, dV, kV, doc, pm, an, cdv, ct, osl, rfl, lk, hcd, _, _⟩ := F.ex
  exact calA_of M hK hS S lk hcd q hm F.kp b
/-- the law's def -/
theorem law_of (D : DF K mg x st) (M : Tab P w K mg base k c) (hK : c.K = K) (hS : c.sc = scopeOf st) (S : FnScope c.N ps (scopeOf st)) (q : trB c (bodyOf st) = some ww) {f : Addr} {fd : FuncData} (F : FunD K x x (argsOf st) (bodyOf st) (scopeOf st) [] [] f fd) :
    FnA P w K mg base (k + 1) f fd ps (toSp K ps.length (spOf c.N.length ww)) := by
  obtain ⟨oc, od, dV, kV, doc, pm, an, cdv, ct, osl, rfl, lk, hcd, _, _⟩ := F.ex
  exact fnA_of M hK hS S lk hcd q
/-- a promise that promises nothing -/
theorem cal_none (D : DF K mg x st) (hb : BindsN x st ps) : CalA P w K mg base k x ps.length (fun _ _ _ => False) := by
  obtain ⟨f, fd, F, hm⟩ := D.ex
  exact ⟨f, fd, ps, ⟨fun vs H Q E ⟨_, _, _, _, _, _, _, q, _⟩ => q.elim, fun _ _ _ _ _ _ _ _ _ _ _ _ _ ⟨_, _, _, _, _, _, _, q, _⟩ => q.elim⟩, hm, F.kp, FunD.bindsN F hb⟩

/-! ### tables -/
inductive Fns (P : Program) (w : World) (K : PySem.W.Frag) (mg : Str → Option Value) (base : Heap) (k : Nat) : List (Str × Nat × ASp) → Prop
  | nil : Fns P w K mg base k []
  | cons {j n : Nat} {x : Str} {sp : ASp} {l : List (Str × Nat × ASp)} (C : CalA P w K mg base j x n sp) (h : j ≤ k) (r : Fns P w K mg base k l) : Fns P w K mg base k ((x, n, sp) :: l)
theorem Fns.get {l : List (Str × Nat × ASp)} (h : Fns P w K mg base k l) : ∀ x n sp, l.lookup x = some (n, sp) → ∃ j, j ≤ k ∧ CalA P w K mg base j x n sp := by
  induction h with
  | nil => intro x n sp e; cases e
  | cons C h r ih =>
    intro y n sp e
    rw [List.lookup_cons] at e
    split at e
    · rename_i q
      cases e
      rw [eq_of_beq q]
      exact ⟨_, h, C⟩
    · exact ih y n sp e
/-- what does not change from def to def -/
structure Gen (P : Program) (w : World) (K : PySem.W.Frag) (mg : Str → Option Value) (base : Heap) (cons : List (Str × D)) (excs : List (Str × List Str)) (xs fs : List Str) : Prop where
  blt : ∀ x ∈ bltNames, mg x = none
  cons : ∀ x d, cons.lookup x = some d → ∃ v u, mg x = some u ∧ RelV v u ∧ ∀ F, Rep K F d v
  excs : ∀ x ps, excs.lookup x = some ps → XCls P w K mg base 1 x ps
  xf : XF K mg xs fs
theorem Gen.tab {xs fs : List Str} {cons : List (Str × D)} {excs : List (Str × List Str)} (G : Gen P w K mg base cons excs xs fs) (h1 : c.cons = cons) (h2 : c.excs = excs) (h3 : c.xs = xs) (h4 : c.fs = fs) (hk : 2 ≤ k) (F : Fns P w K mg base k c.fns) : Tab P w K mg base k c := by
  subst h1 h2 h3 h4
  exact ⟨F.get, G.blt, G.cons, fun x ps h => ⟨1, hk, G.excs x ps h⟩, G.xf⟩

/-! ### from the head -/
inductive ConOk (K : PySem.W.Frag) (mg : Str → Option Value) : List (Str × D) → Prop
  | nil : ConOk K mg []
  | cons {x : Str} {d : D} {l : List (Str × D)} (h : ∃ v u, mg x = some u ∧ RelV v u ∧ ∀ F, Rep K F d v) (r : ConOk K mg l) : ConOk K mg ((x, d) :: l)
theorem ConOk.get {l : List (Str × D)} (h : ConOk K mg l) : ∀ x d, l.lookup x = some d → ∃ v u, mg x = some u ∧ RelV v u ∧ ∀ F, Rep K F d v := by
  induction h with
  | nil => intro x d e; cases e
  | cons h r ih =>
    intro y d e
    rw [List.lookup_cons] at e
    split at e
    · rename_i q
      cases e
      rw [eq_of_beq q]
      exact h
    · exact ih y d e
theorem con_int {i : Int} (h : ∃ t, mg x = some (.int i t)) : ∃ v u, mg x = some u ∧ RelV v u ∧ ∀ F, Rep K F (.int i) v := by
  obtain ⟨t, h⟩ := h
  exact ⟨.int i, _, h, ⟨t, rfl⟩, fun F => rep_int⟩
theorem con_str {z : Str} (h : ∃ t, mg x = some (.str z t)) : ∃ v u, mg x = some u ∧ RelV v u ∧ ∀ F, Rep K F (.str z) v := by
  obtain ⟨t, h⟩ := h
  exact ⟨.str z, _, h, ⟨t, rfl⟩, fun F => rep_str⟩
theorem con_lst {vs : List He.Dv} {ds : List D} (h : mg x = some (.ref (He.ga K x))) (hl : He.lstB K x vs = true) (hd : ∀ F, RepL K F ds (vs.map (He.Dv.v K))) : ∃ v u, mg x = some u ∧ RelV v u ∧ ∀ F, Rep K F (.frl ds) v :=
  ⟨.ref _, _, h, rfl, fun F => by unfold Rep; exact ⟨_, _, rfl, He.lstB_ok hl F, hd F⟩⟩
theorem con_tup {vs : List He.Dv} {ds : List D} (h : mg x = some (.ref (He.ga K x))) (hl : He.tupB K x vs = true) (hd : ∀ F, RepL K F ds (vs.map (He.Dv.v K))) : ∃ v u, mg x = some u ∧ RelV v u ∧ ∀ F, Rep K F (.tup ds) v :=
  ⟨.ref _, _, h, rfl, fun F => by unfold Rep; exact ⟨_, _, rfl, He.tupB_ok hl F, hd F⟩⟩
inductive ExOk (P : Program) (w : World) (K : PySem.W.Frag) (mg : Str → Option Value) (base : Heap) : List (Str × List Str) → Prop
  | nil : ExOk P w K mg base []
  | cons {x : Str} {ps : List Str} {l : List (Str × List Str)} (h : XCls P w K mg base 1 x ps) (r : ExOk P w K mg base l) : ExOk P w K mg base ((x, ps) :: l)
theorem ExOk.get {l : List (Str × List Str)} (h : ExOk P w K mg base l) : ∀ x ps, l.lookup x = some ps → XCls P w K mg base 1 x ps := by
  induction h with
  | nil => intro x d e; cases e
  | cons h r ih =>
    intro y d e
    rw [List.lookup_cons] at e
    split at e
    · rename_i q
      cases e
      rw [eq_of_beq q]
      exact h
    · exact ih y d e
/-- an own exception class of one field, by its __init__ -/
theorem xcls_one {qual : Str} {fs : List Str} {fld b : Str} {fd : FuncData} (E : ExcF K x fs) (hf : fld ∈ fs) (g : mg x = some (.ref (He.ga K x))) (F : FunD K "__init__" qual (argsOf st) (bodyOf st) (scopeOf st) [] [] (He.ma K (He.ga K x) "__init__") fd) (hb : iniB (bodyOf st) = some (b, fld))
    (S : FnScope ["self", fld] ["self", fld] (scopeOf st)) (hs : isPl (scopeOf st) "self" = true) (hl : isPl (scopeOf st) fld = true) (hg : isGl (scopeOf st) b = true) (h2 : dunder fld = false) (h3 : dunder b = false) (B : BaseC K (He.ga K b)) (hm : mg b = some (.ref (He.ga K b)))
    (bn : ∀ (kV doc pm : Value) (an : Option Addr) (cdv ct : Value) (us : List Value), us.length = 2 → bindArgs (PySem.W.fnOf "__init__" qual (argsOf st) (bodyOf st) (scopeOf st) .none kV doc pm an cdv ct) ⟨us, []⟩ = pure ((["self", fld] : List Str).zip us)) : XCls P w K mg base 1 x [fld] :=
  ⟨E.oex, g, ⟨_, fd, ["self", fld], E.ini, E.fun_, ok_ini F hb S hs hl hg h2 h3 B hm E.oex (E.no _ hf), FunD.bindsN F bn⟩⟩
theorem free_all {h : Heap} {fa : List He.Fa} {fn : List He.DefD} (X : K.In h) (G : h.Ns mainGlobals mg) (c : He.SaysD fa fn K) (n : Nat) (hf : ∀ i : Nat, ∀ y, bltNames[i]? = some y → fa[n + i]? = some (.free y)) : ∀ y ∈ bltNames, mg y = none := fun y hy => by
  obtain ⟨i, hi⟩ := List.mem_iff_getElem?.mp hy
  exact He.free_ok X G (c.fact (n + i) (hf i y hi))
end
end Ab
end

section
/-! Ab17: working with readings. -/
namespace Ab
open PySem PySem.Spec PyProof.Rows L2

/-- between two statements -/
def Nx (b : WS) (P : SK) (v : Env) (m : Mem) : Prop := ∃ v2 m2, Gh v m v2 m2 ∧ b v2 m2 P
theorem nx_go {b : WS} {P : SK} {v : Env} {m : Mem} (h : b v m P) : Nx b P v m := ⟨v, m, Gh.refl, h⟩
theorem sSeq_eq {a b : WS} {v : Env} {m : Mem} {P : SK} : sSeq a b v m P = a v m ⟨Nx b P, P.rt, P.bk, P.ct, P.ex⟩ := rfl
theorem look0 {o : Option D} {v : Env} : look (o :: v) 0 = o := by
  show (some o).join = o
  cases o <;> rfl
theorem lookS {o : Option D} {v : Env} {i : Nat} : look (o :: v) (i + 1) = look v i := rfl
theorem res_int {m : Mem} {i : Int} : res m (.int i) = .int i := rfl
theorem res_bl {m : Mem} {i : Bool} : res m (.bl i) = .bl i := rfl
theorem res_str {m : Mem} {i : Str} : res m (.str i) = .str i := rfl
theorem res_non {m : Mem} : res m .non = .non := rfl
theorem res_lst {m : Mem} {i : List D} : res m (.lst i) = .lst i := rfl
theorem res_frl {m : Mem} {i : List D} : res m (.frl i) = .frl i := rfl
theorem res_tup {m : Mem} {i : List D} : res m (.tup i) = .tup i := rfl
theorem res_ty {m : Mem} {i : String} : res m (.raw (.ty i)) = .raw (.ty i) := rfl
theorem res_set {m : Mem} {a : Addr} {d : D} : res (setM m a d) (.raw (.ref a)) = d := res_some setM_same
theorem newK_t {d : D} {m : Mem} {k : KE} : newK true d m k = k d m := rfl
theorem newK_f {d : D} {m : Mem} {k : KE} : newK false d m k = ∀ a, m a = none → k (.raw (.ref a)) (setM m a d) := rfl
theorem mutL_some {m : Mem} {a : Addr} {xs : List D} {k : Addr → List D → Prop} (h : m a = some (.lst xs)) : mutL m (.raw (.ref a)) k = k a xs := by
  show (match m a with
    | some (.lst xs) => k a xs
    | _ => False) = k a xs
  rw [h]
theorem mutL_set {m : Mem} {a : Addr} {xs : List D} {k : Addr → List D → Prop} : mutL (setM m a (.lst xs)) (.raw (.ref a)) k = k a xs := mutL_some setM_same
theorem tru_int {m : Mem} {i : Int} {k : Bool → Prop} : tru m (.int i) k = k (i != 0) := rfl
theorem tru_bl {m : Mem} {i : Bool} {k : Bool → Prop} : tru m (.bl i) k = k i := rfl
theorem tru_non {m : Mem} {k : Bool → Prop} : tru m .non k = k false := rfl
theorem isB_bl {b : Bool} {k : Bool → Prop} : isB (.bl b) k = k b := rfl
theorem isi_ty {K : PySem.W.Frag} {d : D} {b : String} {k : Bool → Prop} : isiK K d (.ty b) k = ∃ a, tyD d = some a ∧ b ∈ tyNames ∧ k (isTy a b) := rfl
theorem ex_some {α : Type} {d : α} {k : α → Prop} : (∃ e, some d = some e ∧ k e) = k d := by
  apply propext
  exact ⟨fun ⟨e, h1, h2⟩ => by cases h1; exact h2, fun h => ⟨d, rfl, h⟩⟩
theorem at0 {α : Type} {x : α} {r : List α} : atI (x :: r) 0 = some x := by
  unfold atI ixN
  rw [if_pos (by omega), if_pos (by rw [List.length_cons]; omega)]
  rfl
theorem at1 {α : Type} {x y : α} {r : List α} : atI (x :: y :: r) 1 = some y := by
  unfold atI ixN
  rw [if_pos (by omega), if_pos (by rw [List.length_cons, List.length_cons]; omega)]
  rfl
theorem at2 {α : Type} {x y z : α} {r : List α} : atI (x :: y :: z :: r) 2 = some z := by
  unfold atI ixN
  rw [if_pos (by omega), if_pos (by rw [List.length_cons, List.length_cons, List.length_cons]; omega)]
  rfl
theorem at3 {α : Type} {x y z u : α} {r : List α} : atI (x :: y :: z :: u :: r) 3 = some u := by
  unfold atI ixN
  rw [if_pos (by omega), if_pos (by rw [List.length_cons, List.length_cons, List.length_cons, List.length_cons]; omega)]
  rfl
theorem ix40 {α : Type} {a b c d : α} : ixN [a, b, c, d].length 0 = some 0 := rfl
theorem ix43 {α : Type} {a b c d : α} : ixN [a, b, c, d].length 3 = some 3 := rfl
theorem setM_self {m : Mem} {a : Addr} {d : D} (h : m a = some d) : m = setM m a d := by
  funext b
  unfold setM
  split
  · rename_i e; rw [e, h]
  · rfl
theorem at_nat {α : Type} {xs : List α} {k : Int} {d : α} (h0 : 0 ≤ k) (h : xs[k.toNat]? = some d) : atI xs k = some d := by
  have hl := (List.getElem?_eq_some_iff.mp h).1
  unfold atI ixN
  rw [if_pos h0, if_pos (by omega)]
  exact h
theorem tn1 : ("int" ∈ tyNames) = True := eq_true (by decide)
theorem tn2 : ("bool" ∈ tyNames) = True := eq_true (by decide)
theorem tn3 : ("str" ∈ tyNames) = True := eq_true (by decide)
theorem tn4 : ("list" ∈ tyNames) = True := eq_true (by decide)
theorem tn5 : ("tuple" ∈ tyNames) = True := eq_true (by decide)
theorem tn6 : ("dict" ∈ tyNames) = True := eq_true (by decide)
theorem ity_NoneType_bool : isTy "NoneType" "bool" = false := by decide
theorem ity_NoneType_int : isTy "NoneType" "int" = false := by decide
theorem ity_NoneType_str : isTy "NoneType" "str" = false := by decide
theorem ity_NoneType_list : isTy "NoneType" "list" = false := by decide
theorem ity_NoneType_tuple : isTy "NoneType" "tuple" = false := by decide
theorem ity_bool_bool : isTy "bool" "bool" = true := by decide
theorem ity_bool_int : isTy "bool" "int" = true := by decide
theorem ity_bool_str : isTy "bool" "str" = false := by decide
theorem ity_bool_list : isTy "bool" "list" = false := by decide
theorem ity_bool_tuple : isTy "bool" "tuple" = false := by decide
theorem ity_int_bool : isTy "int" "bool" = false := by decide
theorem ity_int_int : isTy "int" "int" = true := by decide
theorem ity_int_str : isTy "int" "str" = false := by decide
theorem ity_int_list : isTy "int" "list" = false := by decide
theorem ity_int_tuple : isTy "int" "tuple" = false := by decide
theorem ity_str_bool : isTy "str" "bool" = false := by decide
theorem ity_str_int : isTy "str" "int" = false := by decide
theorem ity_str_str : isTy "str" "str" = true := by decide
theorem ity_str_list : isTy "str" "list" = false := by decide
theorem ity_str_tuple : isTy "str" "tuple" = false := by decide
theorem ity_list_bool : isTy "list" "bool" = false := by decide
theorem ity_list_int : isTy "list" "int" = false := by decide
theorem ity_list_str : isTy "list" "str" = false := by decide
theorem ity_list_list : isTy "list" "list" = true := by decide
theorem ity_list_tuple : isTy "list" "tuple" = false := by decide
theorem ity_tuple_bool : isTy "tuple" "bool" = false := by decide
theorem ity_tuple_int : isTy "tuple" "int" = false := by decide
theorem ity_tuple_str : isTy "tuple" "str" = false := by decide
theorem ity_tuple_list : isTy "tuple" "list" = false := by decide
theorem ity_tuple_tuple : isTy "tuple" "tuple" = true := by decide
theorem rng_at {lo c : Int} {n i : Nat} {d : D} (h : (rngD lo c n)[i]? = some d) : i < n ∧ d = .int (lo + (i : Int) * c) := by
  have hi : i < n := by
    have := (List.getElem?_eq_some_iff.mp h).1
    rwa [rngD_len] at this
  rw [rngD_get hi] at h
  cases h
  exact ⟨hi, rfl⟩
theorem eqD_nil {m : Mem} {k : Bool → Prop} (h : k true) : eqD m (.lst []) (.lst []) k := ⟨.list [], .list [], rfl, rfl, rfl, rfl, h⟩
theorem size_line {n : Nat} (h : n ≤ 16000000) : n ≤ sizeLine := by
  rw [sizeLine_eq]
  omega
/-- a test by cases -/
theorem if_t {a b : Prop} {q : Bool} (h : q = true) (x : a) : (q = true → a) ∧ (q = false → b) := ⟨fun _ => x, fun e => by rw [h] at e; cases e⟩
theorem if_f {a b : Prop} {q : Bool} (h : q = false) (x : b) : (q = true → a) ∧ (q = false → b) := ⟨fun e => absurd (h.symm.trans e) Bool.false_ne_true, fun _ => x⟩

local macro_rules | `(tactic| walk_at "ab") => `(tactic| simp only [sSeq_eq, sSet, sAsg, sAug, sDrop, sRet, sRetN, sIf, sNil, sRaise, gN, gT, gs0, gs1, gSubL, wVar, wCon, wNil, wCons, wOp, wTru, wIsB, isB_bl, wAnd, wOr, wNot, wIf, wOfT, wAndV, wOrV, wNotV, wTup, wLst, wNeg, wCB, wSl, wPart, wNoPart, newK_t, newK_f, look0, lookS, List.set_cons_zero, List.set_cons_succ, res_int, res_bl, res_str, res_non, res_lst, res_frl, res_tup, res_ty, res_set, mutL_set, tru_int, tru_bl, tru_non, List.map_cons, List.map_nil, oAdd, oSub, oMul, oDiv, oMod, oPow, oShl, oShr, oAnd, oOr, oXor, oIAdd, oIMul, oEq, oNe, oLt, oLe, oGt, oGe, oIs, oIsNot, oIdx, oSl, cInt, cAbs, cLen, cMax, cMin, cSum, cDivmod, cStr, cList, cTuple, cIsi, isi_ty, wMt, isT, mAppend, at0, at1, at2, at3, ex_some, ix40, ix43, setM_setM, tn1, tn2, tn3, tn4, tn5, tn6, true_and, isNonD, tyD, true_implies, false_implies, Bool.true_eq_false, Bool.false_eq_true, and_true, decide_true, decide_false, Bool.not_true, Bool.not_false, wipeE, iR1, iR2, ity_NoneType_bool, ity_NoneType_int, ity_NoneType_str, ity_NoneType_list, ity_NoneType_tuple, ity_bool_bool, ity_bool_int, ity_bool_str, ity_bool_list, ity_bool_tuple, ity_int_bool, ity_int_int, ity_int_str, ity_int_list, ity_int_tuple, ity_str_bool, ity_str_int, ity_str_str, ity_str_list, ity_str_tuple, ity_list_bool, ity_list_int, ity_list_str, ity_list_list, ity_list_tuple, ity_tuple_bool, ity_tuple_int, ity_tuple_str, ity_tuple_list, ity_tuple_tuple])

/-! ### the law's own helpers -/
def w_law_box (K : PySem.W.Frag) : WS :=
  (sRet (wLst false (wCons (wCB cAbs (wCons (wVar 0) wNil)) (wCons (wOp oGe (wCB cAbs (wCons (wVar 0) wNil)) (wOp oPow (wCon (.int 10)) (wCon (.int 18)))) (wCons (wOp oMod (wCB cInt (wCons (wCB cAbs (wCons (wVar 0) wNil)) wNil)) (wCon (.int 2147483629))) (wCons (wCon (.int 0)) wNil))))))
/-- a box: never more than n numbers asked of it -/
def BoxV (n : Nat) (b0 : Int) (b1 : Bool) (b2 b3 : Int) : Prop := 0 ≤ b0 ∧ 0 ≤ b2 ∧ b2 < 2147483629 ∧ 0 ≤ b3 ∧ b3 ≤ n
def Box (m : Mem) (a : Addr) (n : Nat) : Prop := ∃ b0 b1 b2 b3, m a = some (.lst [.int b0, .bl b1, .int b2, .int b3]) ∧ BoxV n b0 b1 b2 b3
theorem cpow_lit {i j : Int} (h1 : 0 ≤ j) (h2 : j ≤ 1000000) (h3 : i.natAbs < 2 ^ 64) : CPow i j := ⟨h1, h2, h3⟩
theorem p_law_box {K : PySem.W.Frag} {g : Int} {m : Mem} {R : ARes → Mem → Prop} (h : ∀ a m', m a = none → (∀ b, b ≠ a → m' b = m b) → Box m' a 0 → R (.ret (.raw (.ref a))) m') : spOf 1 (w_law_box K) [.int g] m R := by
  show w_law_box K [some (.int g)] m _
  unfold w_law_box
  walk_at "ab"
  refine ⟨⟨by omega, by omega, by decide⟩, by omega, by show 4 ≤ sizeLine; decide, fun a ha => ⟨_, _, GhD.refl, h a _ ha (fun b hb => setM_ne hb) ?_⟩⟩
  refine ⟨_, _, _, _, setM_same, ?_, ?_, ?_, ?_, ?_⟩ <;> (try split) <;> omega
def w_law_cell (K : PySem.W.Frag) : WS :=
  (sRet (wIf (wIsB (wOp oLt (wVar 1) (wCB cLen (wCons (wVar 0) wNil)))) (wOp oIdx (wVar 0) (wVar 1)) (wOp (oAdd true) (wOp (oMul true) (wCon (.int 7919)) (wVar 1)) (wOp oMod (wCB cInt (wCons (wCB cSum (wCons (wSl true (wVar 0) wNoPart (wPart (wCon (.int 1)))) wNil)) wNil)) (wCon (.int 1000003))))))
theorem p_law_cell {K : PySem.W.Frag} {ns : List Int} {k : Int} {m : Mem} {R : ARes → Mem → Prop} (hk : 0 ≤ k) (h : ∀ c : Int, R (.ret (.int c)) m) : spOf 2 (w_law_cell K) [.frl (ns.map D.int), .int k] m R := by
  show w_law_cell K [some (.frl (ns.map D.int)), some (.int k)] m _
  unfold w_law_cell
  walk_at "ab"
  by_cases hl : k < ((ns.map D.int).length : Int)
  · refine if_t (decide_eq_true hl) ?_
    have hi : k.toNat < ns.length := by rw [List.length_map] at hl; omega
    exact ⟨.int ns[k.toNat], at_nat hk (by rw [List.getElem?_map, List.getElem?_eq_getElem hi]; rfl), _, m, GhD.refl, h _⟩
  · refine if_f (decide_eq_false hl) ⟨.inl (.inl (by omega)), (ns.drop (HT.sIx (ns.map D.int).length 0 none)).take (HT.sIx (ns.map D.int).length (ns.map D.int).length (some 1) - HT.sIx (ns.map D.int).length 0 none), ?_, by omega, _, m, GhD.refl, h _⟩
    unfold cutD
    rw [List.map_take, List.map_drop]
def w_law_take_1 (K : PySem.W.Frag) : WS :=
  (sRet (wOp oMod (wCB cInt (wCons (wVar 4) wNil)) (wVar 1)))
def w_law_take_2 (K : PySem.W.Frag) : WS :=
  (sSeq (sAsg (gSubL (wVar 0) (wCon (.int 3))) (wOp (oAdd true) (wOp oIdx (wVar 0) (wCon (.int 3))) (wCon (.int 1))))
  (sSeq (sSet 3 (wOp oMod (wCB cInt (wCons (wOp oPow (wOp (oAdd true) (wOp (oAdd true) (wOp oIdx (wVar 0) (wCon (.int 2))) (wOp (oMul true) (wCon (.int 15485867)) (wOp oIdx (wVar 0) (wCon (.int 3))))) (wCon (.int 179425033))) (wCon (.int 5))) wNil)) (wCon (.int 2147483647))))
  (sSeq (sSet 4 (wOp oDiv (wOp oMod (wCB cInt (wCons (wOp oPow (wOp (oAdd true) (wOp (oMul true) (wVar 3) (wCon (.int 48271))) (wOp (oMul true) (wCon (.int 7919)) (wOp oIdx (wVar 0) (wCon (.int 3))))) (wCon (.int 3))) wNil)) (wCon (.int 2147483587))) (wCon (.int 64))))
  (sSeq (sIf (wIsB (wOp oGt (wVar 1) (wOp oPow (wCon (.int 10)) (wCon (.int 6))))) (sSet 4 (wOp (oAdd true) (wOp (oMul true) (wVar 4) (wCon (.int 2147483587))) (wOp oMod (wCB cInt (wCons (wOp oPow (wOp (oAdd true) (wOp (oMul true) (wVar 3) (wCon (.int 69621))) (wOp (oMul true) (wCon (.int 104729)) (wOp oIdx (wVar 0) (wCon (.int 3))))) (wCon (.int 3))) wNil)) (wCon (.int 2147483563))))) sNil)
  (w_law_take_1 K)))))
def w_law_take (K : PySem.W.Frag) : WS :=
  (sSeq (sIf (wAnd (wTru (wOp oIdx (wVar 0) (wCon (.int 1)))) (wIsB (wOp oGt (wOp oIdx (wVar 0) (wCon (.int 0))) (wCon (.int 0))))) (sSeq (sSet 2 (wOp oMod (wCB cInt (wCons (wOp oIdx (wVar 0) (wCon (.int 0))) wNil)) (wVar 1)))
  (sSeq (sAsg (gSubL (wVar 0) (wCon (.int 0))) (wOp oDiv (wOp oIdx (wVar 0) (wCon (.int 0))) (wVar 1)))
  (sRet (wVar 2)))) sNil)
  (w_law_take_2 K))
theorem p_law_take {K : PySem.W.Frag} {a : Addr} {n : Nat} {many : Int} {m : Mem} {R : ARes → Mem → Prop} (hb : Box m a n) (hn : n < 2 ^ 38) (h0 : 0 < many) (hd : DivOk many)
    (h : ∀ d m', 0 ≤ d → d < many → (∀ b, b ≠ a → m' b = m b) → Box m' a (n + 1) → R (.ret (.int d)) m') : spOf 5 (w_law_take K) [.raw (.ref a), .int many] m R := by
  obtain ⟨b0, b1, b2, b3, e, v0, v2, v3, v4, v5⟩ := hb
  have hn' : (n : Int) < 274877906944 := by omega
  show w_law_take K [some (.raw (.ref a)), some (.int many), none, none, none] m _
  rw [setM_self e]
  unfold w_law_take
  walk_at "ab"
  have rest : ∀ v, v = [some (.raw (.ref a)), some (D.int many), none, none, none] → ∀ P : SK, (∀ d m', P.rt d m' = R (.ret d) m') → Nx (w_law_take_2 K) P v (setM m a (.lst [.int b0, .bl b1, .int b2, .int b3])) := by
    rintro _ rfl P hP
    refine nx_go ?_
    unfold w_law_take_2
    walk_at "ab"
    refine nx_go ?_
    walk_at "ab"
    refine ⟨.inl (.inl (by omega)), ⟨by omega, by omega, by omega⟩, by omega, nx_go ?_⟩
    walk_at "ab"
    have hx := Int.emod_nonneg ((b2 + 15485867 * (b3 + 1) + 179425033) ^ (5 : Int).toNat) (by omega : (2147483647 : Int) ≠ 0)
    have hy := Int.emod_lt_of_pos ((b2 + 15485867 * (b3 + 1) + 179425033) ^ (5 : Int).toNat) (by omega : (0 : Int) < 2147483647)
    generalize (b2 + 15485867 * (b3 + 1) + 179425033) ^ (5 : Int).toNat % 2147483647 = mixed at hx hy ⊢
    refine ⟨.inl (.inr (by omega)), .inl (.inl (by omega)), ⟨by omega, by omega, by omega⟩, by omega, ⟨by omega, .inl (by omega)⟩, nx_go ?_⟩
    have hz := Int.emod_nonneg ((mixed * 48271 + 7919 * (b3 + 1)) ^ (3 : Int).toNat) (by omega : (2147483587 : Int) ≠ 0)
    have hw := Int.emod_lt_of_pos ((mixed * 48271 + 7919 * (b3 + 1)) ^ (3 : Int).toNat) (by omega : (0 : Int) < 2147483587)
    generalize (mixed * 48271 + 7919 * (b3 + 1)) ^ (3 : Int).toNat % 2147483587 = num at hz hw ⊢
    walk_at "ab"
    have fin : ∀ (x : Int) v, v = [some (.raw (.ref a)), some (D.int many), none, some (.int mixed), some (.int x)] → Nx (w_law_take_1 K) P v (setM m a (.lst [.int b0, .bl b1, .int b2, .int (b3 + 1)])) := by
      rintro x _ rfl
      refine nx_go ?_
      unfold w_law_take_1
      walk_at "ab"
      refine ⟨h0, _, _, GhD.refl, ?_⟩
      rw [hP]
      exact h _ _ (Int.emod_nonneg _ (by omega)) (Int.emod_lt_of_pos _ h0) (fun b hb => setM_ne hb) ⟨b0, b1, b2, b3 + 1, setM_same, v0, v2, v3, by omega, by omega⟩
    refine ⟨⟨by omega, by omega, by decide⟩, fun _ => ?_, fun _ => fin _ _ rfl⟩
    exact ⟨.inl (.inr (by omega)), .inl (.inr (by omega)), .inl (.inl (by omega)), ⟨by omega, by omega, by omega⟩, by omega, fin _ _ rfl⟩
  refine ⟨fun hb1 => ⟨fun hp => ?_, fun hp => rest _ rfl _ fun _ _ => rfl⟩, fun hb1 => rest _ rfl _ fun _ _ => rfl⟩
  have pos := of_decide_eq_true hp
  refine ⟨h0, nx_go ?_⟩
  walk_at "ab"
  refine ⟨hd, nx_go ?_⟩
  walk_at "ab"
  refine ⟨_, _, GhD.refl, h _ _ (Int.emod_nonneg _ (by omega)) (Int.emod_lt_of_pos _ h0) (fun b hb => setM_ne hb) ⟨b0 / many, b1, b2, b3, setM_same, Int.ediv_nonneg (by omega) (by omega), v2, v3, v4, by omega⟩⟩
end Ab
end

section
/-! Ab18: _law_same. -/
namespace Ab
open PySem PySem.Spec PyProof.Rows L2
local macro_rules | `(tactic| walk_at "ab") => `(tactic| simp only [sSeq_eq, sSet, sAsg, sAug, sDrop, sRet, sRetN, sIf, sNil, sRaise, gN, gT, gs0, gs1, gSubL, wVar, wCon, wNil, wCons, wOp, wTru, wIsB, isB_bl, wAnd, wOr, wNot, wIf, wOfT, wAndV, wOrV, wNotV, wTup, wLst, wNeg, wCB, wSl, wPart, wNoPart, newK_t, newK_f, look0, lookS, List.set_cons_zero, List.set_cons_succ, res_int, res_bl, res_str, res_non, res_lst, res_frl, res_tup, res_ty, res_set, mutL_set, tru_int, tru_bl, tru_non, List.map_cons, List.map_nil, oAdd, oSub, oMul, oDiv, oMod, oPow, oShl, oShr, oAnd, oOr, oXor, oIAdd, oIMul, oEq, oNe, oLt, oLe, oGt, oGe, oIs, oIsNot, oIdx, oSl, cInt, cAbs, cLen, cMax, cMin, cSum, cDivmod, cStr, cList, cTuple, cIsi, isi_ty, wMt, isT, mAppend, at0, at1, at2, at3, ex_some, ix40, ix43, setM_setM, tn1, tn2, tn3, tn4, tn5, tn6, true_and, isNonD, tyD, true_implies, false_implies, Bool.true_eq_false, Bool.false_eq_true, and_true, decide_true, decide_false, Bool.not_true, Bool.not_false, wipeE, iR1, iR2, ity_NoneType_bool, ity_NoneType_int, ity_NoneType_str, ity_NoneType_list, ity_NoneType_tuple, ity_bool_bool, ity_bool_int, ity_bool_str, ity_bool_list, ity_bool_tuple, ity_int_bool, ity_int_int, ity_int_str, ity_int_list, ity_int_tuple, ity_str_bool, ity_str_int, ity_str_str, ity_str_list, ity_str_tuple, ity_list_bool, ity_list_int, ity_list_str, ity_list_list, ity_list_tuple, ity_tuple_bool, ity_tuple_int, ity_tuple_str, ity_tuple_list, ity_tuple_tuple])
def w_law_same_1 (K : PySem.W.Frag) (sp : ASp) : WS :=
  (sRet (wAndV (wOp oEq (wCB cLen (wCons (wVar 0) wNil)) (wCB cLen (wCons (wVar 1) wNil))) (wOp oEq (wLc true (iR1 (wCB cLen (wCons (wVar 1) wNil))) [2] (gN 2) (wNot (wTru (wCall 2 sp (wCons (wOp oIdx (wVar 0) (wVar 2)) (wCons (wOp oIdx (wVar 1) (wVar 2)) wNil))))) (wVar 2)) (wLst true wNil))))
def w_law_same_2 (K : PySem.W.Frag) (sp : ASp) : WS :=
  (sSeq (sIf (wOr (wIsB (wOp oNe (wCB (cIsi K) (wCons (wVar 0) (wCons (wCon (.raw (.ty "list"))) wNil))) (wCB (cIsi K) (wCons (wVar 1) (wCons (wCon (.raw (.ty "list"))) wNil))))) (wIsB (wOp oNe (wCB (cIsi K) (wCons (wVar 0) (wCons (wCon (.raw (.ty "tuple"))) wNil))) (wCB (cIsi K) (wCons (wVar 1) (wCons (wCon (.raw (.ty "tuple"))) wNil)))))) (sRet (wCon (.bl false))) sNil)
  (w_law_same_1 K sp))
def w_law_same_3 (K : PySem.W.Frag) (sp : ASp) : WS :=
  (sSeq (sIf (wTru (wCB (cIsi K) (wCons (wVar 1) (wCons (wCon (.raw (.ty "str"))) wNil)))) (sRet (wAndV (wCB (cIsi K) (wCons (wVar 0) (wCons (wCon (.raw (.ty "str"))) wNil))) (wAndV (wOp oEq (wCB cLen (wCons (wVar 0) wNil)) (wCB cLen (wCons (wVar 1) wNil))) (wOp oEq (wLc true (iR1 (wCB cLen (wCons (wVar 1) wNil))) [2] (gN 2) (wIsB (wOp oNe (wSl true (wVar 0) (wPart (wVar 2)) (wPart (wOp (oAdd true) (wVar 2) (wCon (.int 1))))) (wOp oIdx (wVar 1) (wVar 2)))) (wVar 2)) (wLst true wNil))))) sNil)
  (w_law_same_2 K sp))
def w_law_same_4 (K : PySem.W.Frag) (sp : ASp) : WS :=
  (sSeq (sIf (wTru (wCB (cIsi K) (wCons (wVar 1) (wCons (wCon (.raw (.ty "int"))) wNil)))) (sRet (wAndV (wCB (cIsi K) (wCons (wVar 0) (wCons (wCon (.raw (.ty "int"))) wNil))) (wAndV (wNotV (wCB (cIsi K) (wCons (wVar 0) (wCons (wCon (.raw (.ty "bool"))) wNil)))) (wOp oEq (wOp oSub (wCB cInt (wCons (wVar 0) wNil)) (wVar 1)) (wCon (.int 0)))))) sNil)
  (w_law_same_3 K sp))
def w_law_same (K : PySem.W.Frag) (sp : ASp) : WS :=
  (sSeq (sIf (wOr (wIsB (wOp oIs (wVar 1) (wCon .non))) (wTru (wCB (cIsi K) (wCons (wVar 1) (wCons (wCon (.raw (.ty "bool"))) wNil))))) (sRet (wIf (wIsB (wOp oIs (wVar 1) (wCon .non))) (wOp oIs (wVar 0) (wCon .non)) (wAndV (wCB (cIsi K) (wCons (wVar 0) (wCons (wCon (.raw (.ty "bool"))) wNil))) (wOp oEq (wOp oIs (wVar 0) (wCon (.bl true))) (wOp oIs (wVar 1) (wCon (.bl true))))))) sNil)
  (w_law_same_4 K sp))

def sr_law_same (K : PySem.W.Frag) : Nat → ASp
  | 0 => fun _ _ _ => False
  | n + 1 => spOf 3 (w_law_same K (sr_law_same K n))
/-- alike: of one kind, part by part -/
inductive Sm : Nat → D → D → Prop
  | non {n : Nat} : Sm (n + 1) .non .non
  | bl {n : Nat} {b : Bool} : Sm (n + 1) (.bl b) (.bl b)
  | int {n : Nat} {i : Int} : Sm (n + 1) (.int i) (.int i)
  | str {n : Nat} {x : Str} (h : x.length ≤ 1000000) : Sm (n + 1) (.str x) (.str x)
  | seq {n : Nat} {d e : D} {xs ys : List D} {T : String} (hT : T = "list" ∨ T = "tuple") (hd : tyD d = some T) (he : tyD e = some T) (hdx : lstOf d = some xs ∨ d = .tup xs) (hey : lstOf e = some ys ∨ e = .tup ys) (hl : xs.length = ys.length) (hz : ys.length ≤ 1000000)
      (h : ∀ (i : Nat) x y, xs[i]? = some x → ys[i]? = some y → Sm n x y) : Sm (n + 1) d e
theorem chr_at {x : Str} {i : Nat} (hi : i < x.length) : cutS x (some (i : Int)) (some ((i : Int) + 1)) = ⟨#[x.cps.toList[i]'(by rw [Array.length_toList]; exact hi)]⟩ := by
  have hi2 : i < x.cps.toList.length := by rw [Array.length_toList]; exact hi
  unfold cutS
  rw [show ((i : Int) + 1) = ((i + 1 : Nat) : Int) by omega, HT.sIx_nat, HT.sIx_nat, Nat.min_eq_left (by omega), Nat.min_eq_left (by omega), Nat.add_sub_cancel_left]
  congr 1
  rw [List.drop_eq_getElem_cons hi2]
  rfl
/-- the last look: all parts alike -/
theorem same_parts {K : PySem.W.Frag} {d e : D} {xs ys : List D} {m : Mem} {P : SK} {R : ARes → Mem → Prop} (hP : ∀ d m, P.rt d m = R (.ret d) m) (hdx : lstOf d = some xs ∨ d = .tup xs) (hey : lstOf e = some ys ∨ e = .tup ys) (hl : xs.length = ys.length) (hz : ys.length ≤ 1000000)
    {sp : ASp} (h : ∀ (i : Nat) x y, xs[i]? = some x → ys[i]? = some y → ∀ Q : ARes → Mem → Prop, Q (.ret (.bl true)) m → sp [x, y] m Q) (hR : R (.ret (.bl true)) m) : w_law_same_1 K sp [some d, some e, none] m P := by
  have fd : (∀ m, res m d = d) ∧ (∀ m k, cLen m [d] k = k (.int xs.length) m) ∧ (∀ m i k, oIdx m d (.int i) k = ∃ y, atI xs i = some y ∧ k y m) := by
    rcases hdx with q | rfl
    · cases d <;> cases q <;> exact ⟨fun _ => rfl, fun _ _ => rfl, fun _ _ _ => rfl⟩
    · exact ⟨fun _ => rfl, fun _ _ => rfl, fun _ _ _ => rfl⟩
  have fe : (∀ m, res m e = e) ∧ (∀ m k, cLen m [e] k = k (.int ys.length) m) ∧ (∀ m i k, oIdx m e (.int i) k = ∃ y, atI ys i = some y ∧ k y m) := by
    rcases hey with q | rfl
    · cases e <;> cases q <;> exact ⟨fun _ => rfl, fun _ _ => rfl, fun _ _ _ => rfl⟩
    · exact ⟨fun _ => rfl, fun _ _ => rfl, fun _ _ _ => rfl⟩
  unfold w_law_same_1
  simp only [sRet, wAndV, wOp, wCB, wCons, wNil, wVar, look0, lookS, List.map_cons, List.map_nil, fd.1, fe.1, fd.2.1, fe.2.1, res_int, oEq, tru_bl, hl, decide_true, true_implies, Bool.true_eq_false, false_implies, and_true, wLc, iR1]
  refine ⟨by omega, by omega, fun i acc m2 => acc = [] ∧ m2 = m, ⟨rfl, rfl⟩, ?_, ?_⟩
  · rintro i z acc m2 hi ⟨rfl, rfl⟩
    obtain ⟨hi, rfl⟩ := rng_at hi
    have hy : i < ys.length := by omega
    have hx : i < xs.length := by omega
    have nat : ((0 : Int) + (i : Int) * 1).toNat = i := by omega
    simp only [gN, wipeE, List.set_cons_zero, List.set_cons_succ, wNot, wTru, wCall, wCons, wNil, wOp, wVar, look0, lookS, fd.1, fe.1, res_int, fd.2.2, fe.2.2]
    refine ⟨xs[i], at_nat (by omega) (by rw [nat]; exact List.getElem?_eq_getElem hx), ys[i], at_nat (by omega) (by rw [nat]; exact List.getElem?_eq_getElem hy), rfl, ?_⟩
    refine h i _ _ (List.getElem?_eq_getElem hx) (List.getElem?_eq_getElem hy) _ ?_
    simp [tru_bl]
  · rintro acc m2 ⟨rfl, rfl⟩
    simp only [newK_t, wLst, wNil, res_lst]
    refine ⟨size_line (Nat.zero_le _), eqD_nil ?_⟩
    refine ⟨_, _, GhD.refl, ?_⟩
    rw [hP]
    exact hR
theorem p_law_same {K : PySem.W.Frag} : ∀ {n : Nat} {d e : D} {m : Mem} {R : ARes → Mem → Prop}, Sm n d e → R (.ret (.bl true)) m → sr_law_same K n [d, e] m R
  | 0, _, _, _, _, hs, _ => by cases hs
  | n + 1, d, e, m, R, hs, hR => by
    show w_law_same K (sr_law_same K n) [some d, some e, none] m _
    unfold w_law_same
    cases hs with
    | non =>
      walk_at "ab"
      exact ⟨_, _, GhD.refl, hR⟩
    | @bl _ b =>
      walk_at "ab"
      refine ⟨_, rfl, _, rfl, _, _, GhD.refl, ?_⟩
      rw [decide_eq_true rfl]
      exact hR
    | @int _ i =>
      walk_at "ab"
      refine nx_go ?_
      unfold w_law_same_4
      walk_at "ab"
      refine ⟨_, _, GhD.refl, ?_⟩
      rw [Int.sub_self, decide_eq_true rfl]
      exact hR
    | @str _ x hx =>
      walk_at "ab"
      refine nx_go ?_
      unfold w_law_same_4
      walk_at "ab"
      refine nx_go ?_
      unfold w_law_same_3
      walk_at "ab"
      refine ⟨size_line (by omega), size_line (by omega), ?_⟩
      unfold wLc
      walk_at "ab"
      refine ⟨size_line (by omega), by omega, by omega, fun i acc m2 => acc = [] ∧ m2 = m, ⟨rfl, rfl⟩, ?_, ?_⟩
      · rintro i z acc m2 hi ⟨rfl, rfl⟩
        obtain ⟨hi, rfl⟩ := rng_at hi
        have hi' : i < x.length := by omega
        have hi2 : i < x.cps.toList.length := by rw [Array.length_toList]; exact hi'
        have nat : ((0 : Int) + (i : Int) * 1) = i := by omega
        walk_at "ab"
        rw [nat]
        refine ⟨size_line (by omega), size_line (by omega), x.cps.toList[i], at_nat (by omega) (by rw [Int.toNat_natCast]; exact List.getElem?_eq_getElem hi2), ?_⟩
        rw [chr_at hi']
        walk_at "ab"
      · rintro acc m2 ⟨rfl, rfl⟩
        refine ⟨size_line (Nat.zero_le _), eqD_nil ?_⟩
        exact ⟨_, _, GhD.refl, hR⟩
    | seq hT hd he hdx hey hl hz h =>
      have fin := same_parts (K := K) (m := m) (R := R) (P := ⟨fun _ m => R (.ret .non) m, fun d m => R (.ret d) m, fun _ _ => False, fun _ _ => False, fun x _ m => R (.exc x) m⟩) (sp := sr_law_same K n) (fun _ _ => rfl) hdx hey hl hz (fun i x y q1 q2 Q hQ => p_law_same (h i x y q1 q2) hQ) hR
      rcases hT with rfl | rfl <;> rcases hdx with q | rfl <;> rcases hey with q' | rfl <;> (first | cases d | skip) <;> (first | cases e | skip) <;> (first | (cases q; done) | (cases q'; done) | (cases hd; done) | (cases he; done) | exact absurd (show some "list" = some "tuple" from hd) (by decide) | exact absurd (show some "tuple" = some "list" from hd) (by decide) | exact absurd (show some "list" = some "tuple" from he) (by decide) | exact absurd (show some "tuple" = some "list" from he) (by decide) | skip)
      all_goals
        walk_at "ab"
        refine nx_go ?_
        unfold w_law_same_4
        walk_at "ab"
        refine nx_go ?_
        unfold w_law_same_3
        walk_at "ab"
        refine nx_go ?_
        unfold w_law_same_2
        walk_at "ab"
        exact nx_go fin
end Ab
end

section
/-! Ab19: more words for readings. -/
namespace Ab
open PySem PySem.Spec PyProof.Rows L2
def seqK (d : D) (k : List D → Prop) : Prop := match d with
  | .lst xs => k xs
  | .frl xs => k xs
  | .tup xs => k xs
  | _ => False
theorem iSeq_eq {a : WE} {v : Env} {m : Mem} {k : KL} {kx : KX} : iSeq a v m k kx = a v m (fun d m1 => seqK d fun xs => k xs m1) kx := rfl
theorem seqK_lst {xs : List D} {k : List D → Prop} : seqK (.lst xs) k = k xs := rfl
theorem seqK_frl {xs : List D} {k : List D → Prop} : seqK (.frl xs) k = k xs := rfl
theorem seqK_tup {xs : List D} {k : List D → Prop} : seqK (.tup xs) k = k xs := rfl
/-- the turns of a for -/
def Turns (g : WG) (b : WS) (P : SK) (items : List D) (v : Env) (m : Mem) : Prop := ∃ I : Nat → Env → Mem → Prop, I 0 v m ∧
  (∀ i d v1 m2, items[i]? = some d → I i v1 m2 → g d v1 m2 fun v2 m3 => b v2 m3 ⟨fun v3 m4 => ∃ v4 m5, Gh v3 m4 v4 m5 ∧ I (i + 1) v4 m5, P.rt, P.nx, fun v3 m4 => ∃ v4 m5, Gh v3 m4 v4 m5 ∧ I (i + 1) v4 m5, P.ex⟩) ∧ ∀ v1 m2, I items.length v1 m2 → P.nx v1 m2
theorem for_eq {it : WI} {g : WG} {b : WS} {v : Env} {m : Mem} {P : SK} : sFor it g b v m P = it v m (fun items m1 => Turns g b P items v m1) fun x m => P.ex x v m := rfl
theorem turns {g : WG} {b : WS} {P : SK} {items : List D} {v : Env} {m : Mem} (I : Nat → Env → Mem → Prop) (h0 : I 0 v m)
    (h1 : ∀ i d v1 m2, items[i]? = some d → I i v1 m2 → g d v1 m2 fun v2 m3 => b v2 m3 ⟨fun v3 m4 => ∃ v4 m5, Gh v3 m4 v4 m5 ∧ I (i + 1) v4 m5, P.rt, P.nx, fun v3 m4 => ∃ v4 m5, Gh v3 m4 v4 m5 ∧ I (i + 1) v4 m5, P.ex⟩) (h2 : ∀ v1 m2, I items.length v1 m2 → P.nx v1 m2) : Turns g b P items v m := ⟨I, h0, h1, h2⟩
theorem seq_go {a b : WS} {v : Env} {m : Mem} {P : SK} (h : a v m ⟨Nx b P, P.rt, P.bk, P.ct, P.ex⟩) : sSeq a b v m P := h
theorem call_go {n : Nat} {sp : ASp} {w : WL} {v : Env} {m : Mem} {k : KE} {kx : KX} (h : w v m (fun ds m1 => ds.length = n ∧ sp ds m1 fun r m2 => match r with
  | .ret d => k d m2
  | .exc x => kx x m2) kx) : wCall n sp w v m k kx := h

/-! ### one step at a time -/
section
variable {v : Env} {m : Mem} {k : KE} {kx : KX} {kl : KL} {P : SK} {d : D} {i : Nat} {e a b : WE} {w r : WL} {g : WG} {z q : Bool} {x y : Int}
theorem cons_go (h : a v m (fun d m1 => r v m1 (fun ds m2 => kl (d :: ds) m2) kx) kx) : wCons a r v m kl kx := h
theorem nil_go (h : kl [] m) : wNil v m kl kx := h
theorem var_go (h : look v i = some d) (h2 : k d m) : wVar i v m k kx := by
  unfold wVar
  rw [h]
  exact h2
theorem con_go (h : k d m) : wCon d v m k kx := h
theorem op_go {o : O2} (h : a v m (fun x m1 => b v m1 (fun y m2 => o m2 (res m2 x) (res m2 y) k) kx) kx) : wOp o a b v m k kx := h
theorem set_go (h : e v m (fun d m1 => P.nx (v.set i (some d)) m1) fun x m => P.ex x v m) : sSet i e v m P := h
theorem asg_go (h : e v m (fun d m1 => g d v m1 P.nx) fun x m => P.ex x v m) : sAsg g e v m P := h
theorem ret_go (h : e v m (fun d m1 => ∃ d' m', GhD d m1 d' m' ∧ P.rt d' m') fun x m => P.ex x v m) : sRet e v m P := h
theorem tup_go (h : w v m (fun ds m1 => ds.length ≤ sizeLine ∧ k (.tup ds) m1) kx) : wTup w v m k kx := h
theorem cb_go {o : OC} (h : w v m (fun ds m1 => o m1 (ds.map (res m1)) k) kx) : wCB o w v m k kx := h
theorem isB_go {k : KB} (h : a v m (fun d m1 => isB d fun b => k b m1) kx) : wIsB a v m k kx := h
theorem add_go (h : k (.int (x + y)) m) : oAdd z m (res m (.int x)) (res m (.int y)) k := h
theorem sub_go (h : k (.int (x - y)) m) : oSub m (res m (.int x)) (res m (.int y)) k := h
theorem lt_go (h : k (.bl (decide (x < y))) m) : oLt m (res m (.int x)) (res m (.int y)) k := h
theorem gt_go (h : k (.bl (decide (y < x))) m) : oGt m (res m (.int x)) (res m (.int y)) k := h
theorem ge_go (h : k (.bl (decide (y ≤ x))) m) : oGe m (res m (.int x)) (res m (.int y)) k := h
theorem eq_go (h : k (.bl (decide (x = y))) m) : oEq m (res m (.int x)) (res m (.int y)) k := h
theorem int_go (h : k (.int (if q = true then 1 else 0)) m) : cInt m ([D.bl q].map (res m)) k := h
theorem inti_go (h : k (.int x) m) : cInt m ([D.int x].map (res m)) k := h
theorem idx0_go {r : List D} (h : k d m) : oIdx m (res m (.tup (d :: r))) (res m (.int 0)) k := ⟨d, at0, h⟩
theorem ok_go {P : D → Mem → Prop} {X : Exn → Mem → Prop} (h : P d m) : (match ARes.ret d, m with
  | .ret d, m2 => P d m2
  | .exc x, m2 => X x m2) := h
theorem two_go {e f : D} {i j : Nat} {k : Env → Mem → Prop} (h : k ((v.set i (some e)).set j (some f)) m) : gT 2 (gs1 (gN i) (gs1 (gN j) gs0)) (.tup [e, f]) v m k := ⟨rfl, h⟩
theorem drop_go (h : e v m (fun _ m1 => P.nx v m1) fun x m => P.ex x v m) : sDrop e v m P := h
theorem nil_s (h : P.nx v m) : sNil v m P := h
theorem lst_go (h : w v m (fun ds m1 => ds.length ≤ sizeLine ∧ k (.lst ds) m1) kx) : wLst true w v m k kx := h
theorem raise_go {C : Str} {ps : List Str} (h : w v m (fun ds m1 => ds.length = ps.length ∧ ds.length ≤ 1000 ∧ P.ex ⟨C, ps.reverse, ds.reverse⟩ v m1) fun x m => P.ex x v m) : sRaise C ps w v m P := h
theorem tru_go {k : KB} (h : a v m (fun d m1 => tru m1 d fun b => k b m1) kx) : wTru a v m k kx := h
theorem trub_go {k : Bool → Prop} (h : k q) : tru m (.bl q) k := h
theorem not_go {t : WT} {k : KB} (h : t v m (fun q m1 => k (!q) m1) kx) : wNot t v m k kx := h
theorem or_go {t u : WT} {k : KB} (h : t v m (fun q m1 => (q = true → k true m1) ∧ (q = false → u v m1 k kx)) kx) : wOr t u v m k kx := h
theorem and_go {t u : WT} {k : KB} (h : t v m (fun q m1 => (q = true → u v m1 k kx) ∧ (q = false → k false m1)) kx) : wAnd t u v m k kx := h
theorem try_go {xs fs : List Str} {A : WS} {hs : List Hnd} (h : A v m { P with ex := hands xs fs P hs }) : sTry xs fs A hs v m P := h
theorem mul_go (h : MulOk x y ∧ k (.int (x * y)) m) : oMul z m (res m (.int x)) (res m (.int y)) k := h
theorem div_go (h : DivOk y ∧ k (.int (x / y)) m) : oDiv m (res m (.int x)) (res m (.int y)) k := h
theorem mod_go (h : 0 < y ∧ k (.int (x % y)) m) : oMod m (res m (.int x)) (res m (.int y)) k := h
theorem shl_go (h : ShlOk x y ∧ k (.int (x * 2 ^ y.toNat)) m) : oShl m (res m (.int x)) (res m (.int y)) k := h
theorem shr_go (h : 0 ≤ y ∧ k (.int (x / 2 ^ y.toNat)) m) : oShr m (res m (.int x)) (res m (.int y)) k := h
theorem if_go {c : WT} {A B : WS} (h : c v m (fun q m1 => (q = true → A v m1 P) ∧ (q = false → B v m1 P)) fun x m => P.ex x v m) : sIf c A B v m P := h
end
end Ab
end

section
/-! Ab20: steps for readings, more of them. -/
namespace Ab
open PySem PySem.Spec PyProof.Rows L2
section
variable {v : Ab.Env} {m : Mem} {k : KE} {kx : KX} {kl : KL} {P : SK} {d : D} {i : Nat} {e a b : WE} {w r : WL} {g : WG} {z q : Bool} {x y : Int} {sp : ASp}
/-! ### tests -/
theorem if_dec {p A B : Prop} [Decidable p] (h1 : p → A) (h2 : ¬ p → B) : (decide p = true → A) ∧ (decide p = false → B) := ⟨fun h => h1 (of_decide_eq_true h), fun h => h2 (of_decide_eq_false h)⟩
theorem if_D {p A B : Prop} [Decidable p] (h : p) (h1 : A) : (decide p = true → A) ∧ (decide p = false → B) := if_t (decide_eq_true h) h1
theorem if_N {p A B : Prop} [Decidable p] (h : ¬ p) (h1 : B) : (decide p = true → A) ∧ (decide p = false → B) := if_f (decide_eq_false h) h1
theorem if_T {A B : Prop} (h1 : A) : (true = true → A) ∧ (true = false → B) := if_t rfl h1
theorem if_F {A B : Prop} (h1 : B) : (false = true → A) ∧ (false = false → B) := if_f rfl h1
theorem if_n {q : Bool} {A B : Prop} (h : (q = true → B) ∧ (q = false → A)) : ((!q) = true → A) ∧ ((!q) = false → B) := by
  cases q
  · exact ⟨fun _ => h.2 rfl, fun e => by cases e⟩
  · exact ⟨fun e => by (cases e), fun _ => h.1 rfl⟩
theorem if_b {q : Bool} {A B : Prop} (h1 : q = true → A) (h2 : q = false → B) : (q = true → A) ∧ (q = false → B) := ⟨h1, h2⟩
theorem isbl_go {k : Bool → Prop} (h : k q) : isB (.bl q) k := h
theorem tri_go {k : Bool → Prop} (h : k (decide (x ≠ 0))) : tru m (.int x) k := by
  have e : (x != 0) = decide (x ≠ 0) := by
    by_cases c : x = 0
    · subst c; rfl
    · rw [decide_eq_true c]; simpa using c
  rw [tru_int, e]
  exact h
theorem le_go (h : k (.bl (decide (x ≤ y))) m) : oLe m (res m (.int x)) (res m (.int y)) k := h
theorem ne_go (h : k (.bl (!decide (x = y))) m) : oNe m (res m (.int x)) (res m (.int y)) k := h
theorem eqs_go {s t : Str} (h : k (.bl (decide (s = t))) m) : oEq m (res m (.str s)) (res m (.str t)) k := h
theorem nes_go {s t : Str} (h : k (.bl (!decide (s = t))) m) : oNe m (res m (.str s)) (res m (.str t)) k := h
theorem eqb_go {s t : Bool} (h : k (.bl (decide (s = t))) m) : oEq m (res m (.bl s)) (res m (.bl t)) k := h
theorem neb_go {s t : Bool} (h : k (.bl (!decide (s = t))) m) : oNe m (res m (.bl s)) (res m (.bl t)) k := h
theorem and_go' {h1 h2 : Prop} (a : h1) (b : h2) : h1 ∧ h2 := ⟨a, b⟩
theorem chain_go {o o' : O2} {a b c : WE} (h : a v m (fun x m1 => b v m1 (fun y m2 => o m2 (res m2 x) (res m2 y) fun u m3 => isB u fun q => (q = true → c v m3 (fun z m4 => o' m4 (res m4 y) (res m4 z) k) kx) ∧ (q = false → k (.bl false) m3)) kx) kx) : wChain o o' a b c v m k kx := h
theorem iff_go {c : WT} {a b : WE} (h : c v m (fun q m1 => (q = true → a v m1 k kx) ∧ (q = false → b v m1 k kx)) kx) : wIf c a b v m k kx := h
theorem andv_go (h : a v m (fun d m1 => tru m1 d fun q => (q = true → b v m1 k kx) ∧ (q = false → k d m1)) kx) : wAndV a b v m k kx := h
theorem orv_go (h : a v m (fun d m1 => tru m1 d fun q => (q = true → k d m1) ∧ (q = false → b v m1 k kx)) kx) : wOrV a b v m k kx := h
theorem notv_go (h : a v m (fun d m1 => tru m1 d fun q => k (.bl (!q)) m1) kx) : wNotV a v m k kx := h

/-! ### arithmetic -/
theorem neg_go (h : a v m (fun d m1 => match d with
  | .int i => k (.int (-i)) m1
  | _ => False) kx) : wNeg a v m k kx := h
theorem bits_go (h : a v m (fun d m1 => match d with
  | .int i => k (.int (Builtin.Int.intBits i : Nat)) m1
  | _ => False) kx) : wBits a v m k kx := h
theorem mint_go {f : Int → D} (h : k (f x) m) : (match D.int x with
  | .int i => k (f i) m
  | _ => False) := h
theorem mulg (h1 : MulOk x y) (h : k (.int (x * y)) m) : oMul z m (res m (.int x)) (res m (.int y)) k := ⟨h1, h⟩
theorem divg (h1 : DivOk y) (h : k (.int (x / y)) m) : oDiv m (res m (.int x)) (res m (.int y)) k := ⟨h1, h⟩
theorem modg (h1 : 0 < y) (h : k (.int (x % y)) m) : oMod m (res m (.int x)) (res m (.int y)) k := ⟨h1, h⟩
theorem shlg (h1 : ShlOk x y) (h : k (.int (x * 2 ^ y.toNat)) m) : oShl m (res m (.int x)) (res m (.int y)) k := ⟨h1, h⟩
theorem shl1g {n : Nat} (h1 : n ≤ 1000000) (h : k (.int (2 ^ n)) m) : oShl m (res m (.int 1)) (res m (.int (n : Nat))) k := by
  refine ⟨.inl ⟨by omega, by omega, by decide⟩, ?_⟩
  rw [Int.toNat_natCast, Int.one_mul]
  exact h
theorem shlng {n : Nat} (h1 : ShlOk x n) (h : k (.int (x * 2 ^ n)) m) : oShl m (res m (.int x)) (res m (.int (n : Nat))) k := ⟨h1, by rw [Int.toNat_natCast]; exact h⟩
theorem shrg (h1 : 0 ≤ y) (h : k (.int (x / 2 ^ y.toNat)) m) : oShr m (res m (.int x)) (res m (.int y)) k := ⟨h1, h⟩
theorem shrng {n : Nat} (h : k (.int (x / 2 ^ n)) m) : oShr m (res m (.int x)) (res m (.int (n : Nat))) k := ⟨by omega, by rw [Int.toNat_natCast]; exact h⟩
theorem pow_g (h1 : CPow x y) (h : k (.int (x ^ y.toNat)) m) : oPow m (res m (.int x)) (res m (.int y)) k := ⟨h1, h⟩
theorem band_go (h : k (.int (Builtin.bitAnd x y)) m) : oAnd m (res m (.int x)) (res m (.int y)) k := h
theorem bor_go (h : k (.int (Builtin.bitOr x y)) m) : oOr m (res m (.int x)) (res m (.int y)) k := h
theorem iadd_go (h : k (.int (x + y)) m) : oIAdd m (res m (.int x)) (res m (.int y)) k := h
theorem abs_go (h : k (.int (if x < 0 then -x else x)) m) : cAbs m ([D.int x].map (res m)) k := h
theorem min_go (h : k (.int (if y < x then y else x)) m) : cMin m ([D.int x, D.int y].map (res m)) k := h
theorem max_go (h : k (.int (if y > x then y else x)) m) : cMax m ([D.int x, D.int y].map (res m)) k := h
theorem aug_go {o : O2} (hi : look v i = some d) (h : e v m (fun d2 m1 => o m1 (res m1 d) (res m1 d2) fun d3 m2 => P.nx (v.set i (some d3)) m2) fun x m => P.ex x v m) : sAug i o e v m P := by
  unfold sAug
  rw [hi]
  exact h
/-! ### lists, tuples -/
theorem lenl_go {xs : List D} (h : k (.int xs.length) m) : cLen m ([D.lst xs].map (res m)) k := h
theorem lenf_go {xs : List D} (h : k (.int xs.length) m) : cLen m ([D.frl xs].map (res m)) k := h
theorem lent_go {xs : List D} (h : k (.int xs.length) m) : cLen m ([D.tup xs].map (res m)) k := h
theorem lenr_go {p : Addr} {xs : List D} (h : k (.int xs.length) (setM m p (.lst xs))) : cLen (setM m p (.lst xs)) ([D.raw (.ref p)].map (res (setM m p (.lst xs)))) k := by
  show cLen _ [res _ _] k
  rw [res_set]
  exact h
theorem idxl_go {xs : List D} (h : atI xs x = some d) (hk : k d m) : oIdx m (res m (.lst xs)) (res m (.int x)) k := ⟨d, h, hk⟩
theorem idxt_go {xs : List D} (h : atI xs x = some d) (hk : k d m) : oIdx m (res m (.tup xs)) (res m (.int x)) k := ⟨d, h, hk⟩
theorem idxf_go {xs : List D} (h : atI xs x = some d) (hk : k d m) : oIdx m (res m (.frl xs)) (res m (.int x)) k := ⟨d, h, hk⟩
theorem idxr_go {p : Addr} {xs : List D} {dd : D} (hr : res m dd = .lst xs) (h : atI xs x = some d) (hk : k d m) : oIdx m (res m dd) (res m (.int x)) k := by
  rw [hr]
  exact ⟨d, h, hk⟩
theorem at4 {α : Type} {x y z u w : α} {r : List α} : atI (x :: y :: z :: u :: w :: r) 4 = some w := by
  unfold atI ixN
  rw [if_pos (by omega), if_pos (by simp only [List.length_cons]; omega)]
  rfl
theorem at5 {α : Type} {x y z u w t : α} {r : List α} : atI (x :: y :: z :: u :: w :: t :: r) 5 = some t := by
  unfold atI ixN
  rw [if_pos (by omega), if_pos (by simp only [List.length_cons]; omega)]
  rfl
theorem at_last {α : Type} {xs : List α} {y : α} : atI (xs ++ [y]) (-1) = some y := by
  unfold atI ixN
  rw [if_neg (by omega), if_pos (by simp only [List.length_append, List.length_cons, List.length_nil]; omega)]
  show (xs ++ [y])[((xs ++ [y]).length + (-1 : Int)).toNat]? = some y
  rw [show ((xs ++ [y]).length + (-1 : Int)).toNat = xs.length by simp only [List.length_append, List.length_cons, List.length_nil]; omega]
  simp
theorem sz_go {ds : List D} {Q : Prop} (hl : ds.length ≤ 1000) (h : Q) : ds.length ≤ sizeLine ∧ Q := ⟨size_line (by omega), h⟩
theorem lstk_go (h : w v m (fun ds m1 => ds.length ≤ sizeLine ∧ newK z (.lst ds) m1 k) kx) : wLst z w v m k kx := h
theorem newt_go (h : k d m) : newK true d m k := h
theorem newf_go (h : ∀ a, m a = none → k (.raw (.ref a)) (setM m a d)) : newK false d m k := h
theorem listg (hr : ∃ xs, (res m d = .lst xs ∨ res m d = .frl xs ∨ res m d = .tup xs) ∧ newK z (.lst xs) m k) : cList z m ([d].map (res m)) k := by
  obtain ⟨xs, h, hk⟩ := hr
  show cList z m [res m d] k
  rcases h with h | h | h <;> rw [h] <;> exact hk
theorem listl_go {xs : List D} (h : newK z (.lst xs) m k) : cList z m ([D.lst xs].map (res m)) k := h
theorem listf_go {xs : List D} (h : newK z (.lst xs) m k) : cList z m ([D.frl xs].map (res m)) k := h
theorem sl_go {l h : WO} (q : a v m (fun d m1 => l v m1 (fun lo m2 => h v m2 (fun hi m3 => oSl z m3 (res m3 d) lo hi k) kx) kx) kx) : wSl z a l h v m k kx := q
theorem nopart_go {ko : Option Int → Mem → Prop} (h : ko none m) : wNoPart v m ko kx := h
theorem part_go {ko : Option Int → Mem → Prop} (h : a v m (fun d m1 => match d with
  | .int i => ko (some i) m1
  | _ => False) kx) : wPart a v m ko kx := h
theorem mopt_go {ko : Option Int → Mem → Prop} (h : ko (some x) m) : (match D.int x with
  | .int i => ko (some i) m
  | _ => False) := h
theorem sll_go {xs : List D} {lo hi : Option Int} (h : newK z (.lst (cutD xs lo hi)) m k) : oSl z m (res m (.lst xs)) lo hi k := h
theorem rev_go (h : a v m (fun d m1 => match res m1 d with
  | .lst xs => newK z (.lst xs.reverse) m1 k
  | .frl xs => newK z (.lst xs.reverse) m1 k
  | _ => False) kx) : wRev z a v m k kx := h
theorem mt_go {T : String} {o : OM} (q : a v m (fun d m1 => isT T (res m1 d) ∧ w v m1 (fun ds m2 => o m2 d ds k) kx) kx) : wMt T o a w v m k kx := q
theorem ist_set {p : Addr} {xs : List D} {Q : Prop} (h : Q) : isT "list" (res (setM m p (.lst xs)) (.raw (.ref p))) ∧ Q := ⟨by rw [res_set]; rfl, h⟩
theorem ist_at {p : Addr} {xs : List D} {Q : Prop} (hp : m p = some (.lst xs)) (h : Q) : isT "list" (res m (.raw (.ref p))) ∧ Q := ⟨by rw [res_some hp]; rfl, h⟩
theorem app_set {p : Addr} {xs : List D} (hl : xs.length < 16000000) (h : k .non (setM m p (.lst (xs ++ [d])))) : mAppend (setM m p (.lst xs)) (.raw (.ref p)) [d] k := by
  simp only [mAppend]
  rw [mutL_set, setM_setM]
  exact ⟨by rw [sizeLine_eq]; omega, h⟩
theorem app_at {p : Addr} {xs : List D} (hp : m p = some (.lst xs)) (hl : xs.length < 16000000) (h : k .non (setM m p (.lst (xs ++ [d])))) : mAppend m (.raw (.ref p)) [d] k := by
  simp only [mAppend]
  rw [mutL_some hp]
  exact ⟨by rw [sizeLine_eq]; omega, h⟩
theorem ins_at {p : Addr} {xs : List D} (hp : m p = some (.lst xs)) (hl : xs.length < 16000000) (h0 : 0 ≤ x) (h1 : x < 2 ^ 63) (h : k .non (setM m p (.lst (xs.take x.toNat ++ [d] ++ xs.drop x.toNat)))) : mInsert m (.raw (.ref p)) [.int x, d] k := by
  simp only [mInsert]
  rw [mutL_some hp]
  exact ⟨by rw [sizeLine_eq]; omega, h0, h1, h⟩
/-! ### calls -/
theorem l1_go {a : D} {Q : Prop} (h : Q) : [a].length = 1 ∧ Q := ⟨rfl, h⟩
theorem l2_go {a b : D} {Q : Prop} (h : Q) : [a, b].length = 2 ∧ Q := ⟨rfl, h⟩
theorem l3_go {a b c : D} {Q : Prop} (h : Q) : [a, b, c].length = 3 ∧ Q := ⟨rfl, h⟩
theorem l4_go {a b c d : D} {Q : Prop} (h : Q) : [a, b, c, d].length = 4 ∧ Q := ⟨rfl, h⟩
theorem l5_go {a b c d e : D} {Q : Prop} (h : Q) : [a, b, c, d, e].length = 5 ∧ Q := ⟨rfl, h⟩
theorem l6_go {a b c d e f : D} {Q : Prop} (h : Q) : [a, b, c, d, e, f].length = 6 ∧ Q := ⟨rfl, h⟩
theorem ex_go {P : D → Mem → Prop} {X : Exn → Mem → Prop} {xx : Exn} (h : X xx m) : (match ARes.exc xx, m with
  | .ret d, m2 => P d m2
  | .exc x, m2 => X x m2) := h
theorem rz1_go {a : D} {p : Str} {Q : Prop} (h : Q) : [a].length = [p].length ∧ [a].length ≤ 1000 ∧ Q := ⟨rfl, Nat.le_of_ble_eq_true rfl, h⟩
/-! ### returns -/
section
variable {Q : D → Mem → Prop}
theorem rt_int (h : Q (.int x) m) : ∃ d' m', GhD (.int x) m d' m' ∧ Q d' m' := ⟨_, _, GhD.refl, h⟩
theorem rt_bl (h : Q (.bl q) m) : ∃ d' m', GhD (.bl q) m d' m' ∧ Q d' m' := ⟨_, _, GhD.refl, h⟩
theorem rt_non (h : Q .non m) : ∃ d' m', GhD .non m d' m' ∧ Q d' m' := ⟨_, _, GhD.refl, h⟩
theorem rt_str {s : Str} (h : Q (.str s) m) : ∃ d' m', GhD (.str s) m d' m' ∧ Q d' m' := ⟨_, _, GhD.refl, h⟩
theorem rt_tup {ds : List D} (h : Q (.tup ds) m) : ∃ d' m', GhD (.tup ds) m d' m' ∧ Q d' m' := ⟨_, _, GhD.refl, h⟩
theorem rt_lst {ds : List D} (h : Q (.lst ds) m) : ∃ d' m', GhD (.lst ds) m d' m' ∧ Q d' m' := ⟨_, _, GhD.refl, h⟩
theorem rt_any {d : D} (h : Q d m) : ∃ d' m', GhD d m d' m' ∧ Q d' m' := ⟨_, _, GhD.refl, h⟩
theorem rt_at {p : Addr} {d : D} (hp : m p = some d) (h : Q d (delM m p)) : ∃ d' m', GhD (.raw (.ref p)) m d' m' ∧ Q d' m' := ⟨_, _, GhD.freeze hp, h⟩
theorem rt_set {p : Addr} {d : D} (hp : m p = none) (h : Q d m) : ∃ d' m', GhD (.raw (.ref p)) (setM m p d) d' m' ∧ Q d' m' := ⟨_, _, GhD.freeze setM_same, by rw [delM_setM hp]; exact h⟩
theorem rt_new {d : D} (h : Q d m) : newK false d m (fun d m1 => ∃ d' m', GhD d m1 d' m' ∧ Q d' m') := fun a ha => rt_set ha h
end
/-! ### loops -/
theorem for_go {it : WI} {b : WS} (h : it v m (fun items m1 => Turns g b P items v m1) fun x m => P.ex x v m) : sFor it g b v m P := h
theorem iseq_go {kl : KL} (h : a v m (fun d m1 => seqK d fun xs => kl xs m1) kx) : iSeq a v m kl kx := h
theorem skl_go {xs : List D} {k : List D → Prop} (h : k xs) : seqK (.lst xs) k := h
theorem skf_go {xs : List D} {k : List D → Prop} (h : k xs) : seqK (.frl xs) k := h
theorem skt_go {xs : List D} {k : List D → Prop} (h : k xs) : seqK (.tup xs) k := h
theorem ir1_go {kl : KL} (h : a v m (fun x m1 => match x with
  | .int i => -(2 ^ 62) ≤ i ∧ i < 2 ^ 62 ∧ kl (rngD 0 1 i.toNat) m1
  | _ => False) kx) : iR1 a v m kl kx := h
theorem rng_turns {g : WG} {b : WS} {P : SK} {lo : Int} {n : Nat} {v : Ab.Env} {m : Mem} (I : Nat → Ab.Env → Mem → Prop) (h0 : I 0 v m)
    (h1 : ∀ i v1 m2, i < n → I i v1 m2 → g (.int (lo + (i : Int))) v1 m2 fun v2 m3 => b v2 m3 ⟨fun v3 m4 => ∃ v4 m5, Gh v3 m4 v4 m5 ∧ I (i + 1) v4 m5, P.rt, P.nx, fun v3 m4 => ∃ v4 m5, Gh v3 m4 v4 m5 ∧ I (i + 1) v4 m5, P.ex⟩) (h2 : ∀ v1 m2, I n v1 m2 → P.nx v1 m2) : Turns g b P (rngD lo 1 n) v m := by
  refine turns I h0 (fun i d v1 m2 hi hI => ?_) (fun v1 m2 h => h2 v1 m2 (by rwa [rngD_len] at h))
  obtain ⟨hi', rfl⟩ := rng_at hi
  rw [Int.mul_one]
  exact h1 i v1 m2 hi' hI
theorem lst_turns {α : Type} {f : α → D} {g : WG} {b : WS} {P : SK} {xs : List α} {v : Ab.Env} {m : Mem} (I : Nat → Ab.Env → Mem → Prop) (h0 : I 0 v m)
    (h1 : ∀ i (hi : i < xs.length) v1 m2, I i v1 m2 → g (f xs[i]) v1 m2 fun v2 m3 => b v2 m3 ⟨fun v3 m4 => ∃ v4 m5, Gh v3 m4 v4 m5 ∧ I (i + 1) v4 m5, P.rt, P.nx, fun v3 m4 => ∃ v4 m5, Gh v3 m4 v4 m5 ∧ I (i + 1) v4 m5, P.ex⟩) (h2 : ∀ v1 m2, I xs.length v1 m2 → P.nx v1 m2) : Turns g b P (xs.map f) v m := by
  refine turns I h0 (fun i d v1 m2 hi hI => ?_) (fun v1 m2 h => h2 v1 m2 (by rwa [List.length_map] at h))
  have hl : i < xs.length := by
    have := (List.getElem?_eq_some_iff.mp hi).1
    rwa [List.length_map] at this
  rw [List.getElem?_map, List.getElem?_eq_getElem hl] at hi
  cases hi
  exact h1 i hl v1 m2 hI
/-- a for over a list: the rest of the items -/
theorem rest_turns {α : Type} {f : α → D} {g : WG} {b : WS} {P : SK} {xs : List α} {v : Ab.Env} {m : Mem} (I : List α → List α → Ab.Env → Mem → Prop) (h0 : I [] xs v m)
    (h1 : ∀ pre x r v1 m2, pre ++ x :: r = xs → I pre (x :: r) v1 m2 → g (f x) v1 m2 fun v2 m3 => b v2 m3 ⟨fun v3 m4 => ∃ v4 m5, Gh v3 m4 v4 m5 ∧ I (pre ++ [x]) r v4 m5, P.rt, P.nx, fun v3 m4 => ∃ v4 m5, Gh v3 m4 v4 m5 ∧ I (pre ++ [x]) r v4 m5, P.ex⟩) (h2 : ∀ v1 m2, I xs [] v1 m2 → P.nx v1 m2) : Turns g b P (xs.map f) v m := by
  refine lst_turns (fun i v m => I (xs.take i) (xs.drop i) v m) (by simpa using h0) (fun i hi v1 m2 hI => ?_) (fun v1 m2 h => h2 v1 m2 (by simpa using h))
  rw [List.drop_eq_getElem_cons hi] at hI
  have e : xs.take (i + 1) = xs.take i ++ [xs[i]] := by simp [List.take_append_getElem]
  have := h1 (xs.take i) xs[i] (xs.drop (i + 1)) v1 m2 (by rw [← List.drop_eq_getElem_cons hi]; exact List.take_append_drop i xs) hI
  rw [e]
  exact this
theorem while_go {c : WT} {b : WS} (I : Nat → Ab.Env → Mem → Prop) (h0 : ∃ n, I n v m) (h1 : ∀ n v m, I n v m → c v m (fun q m1 => (q = true → b v m1 { P with
    nx := fun v1 m1 => ∃ v2 m2 n', Gh v1 m1 v2 m2 ∧ n' < n ∧ I n' v2 m2
    ct := fun v1 m1 => ∃ v2 m2 n', Gh v1 m1 v2 m2 ∧ n' < n ∧ I n' v2 m2
    bk := P.nx }) ∧ (q = false → P.nx v m1)) fun x m => P.ex x v m) : sWhile c b v m P := ⟨I, h0, h1⟩
end
theorem dn_turns {g : WG} {b : WS} {P : SK} {n : Nat} {v : Ab.Env} {m : Mem} (I : Nat → Ab.Env → Mem → Prop) (h0 : I n v m)
    (h1 : ∀ r v1 m2, r < n → I (r + 1) v1 m2 → g (.int (r : Int)) v1 m2 fun v2 m3 => b v2 m3 ⟨fun v3 m4 => ∃ v4 m5, Gh v3 m4 v4 m5 ∧ I r v4 m5, P.rt, P.nx, fun v3 m4 => ∃ v4 m5, Gh v3 m4 v4 m5 ∧ I r v4 m5, P.ex⟩) (h2 : ∀ v1 m2, I 0 v1 m2 → P.nx v1 m2) : Turns g b P (rngD ((n : Int) - 1) (-1) n) v m := by
  refine turns (fun i v m => i ≤ n ∧ I (n - i) v m) ⟨Nat.zero_le _, by rw [Nat.sub_zero]; exact h0⟩ (fun i d v1 m2 hi hI => ?_) (fun v1 m2 h => h2 v1 m2 (by rw [rngD_len] at h; rw [Nat.sub_self] at h; exact h.2))
  obtain ⟨hi', rfl⟩ := rng_at hi
  obtain ⟨r, hr⟩ : ∃ r, n - i = r + 1 := ⟨n - i - 1, by omega⟩
  have e : ((n : Int) - 1 + (i : Int) * -1) = (r : Int) := by omega
  rw [e]
  have hI2 := hI.2
  rw [hr] at hI2
  have q := h1 r v1 m2 (by omega) hI2
  have e2 : n - (i + 1) = r := by omega
  rw [e2]
  have e3 : (fun v3 m4 => ∃ v4 m5, Gh v3 m4 v4 m5 ∧ i + 1 ≤ n ∧ I r v4 m5) = (fun v3 m4 => ∃ v4 m5, Gh v3 m4 v4 m5 ∧ I r v4 m5) := by
    funext v3 m4
    apply propext
    exact ⟨fun ⟨a, b, c, _, d⟩ => ⟨a, b, c, d⟩, fun ⟨a, b, c, d⟩ => ⟨a, b, c, by omega, d⟩⟩
  rw [e3]
  exact q
theorem rg_down {n : Nat} {Q : Nat → Prop} (hn : n ≤ 1000000000) (h : Q n) : ∃ l, RgC ((n : Int) - 1) (-1) (-1) l ∧ Q l := by
  have := RgC.neg (i := (n : Int) - 1) (j := -1) (by omega) (by omega) (by omega) (by omega)
  rw [show ((n : Int) - 1 - -1).toNat = n by omega] at this
  exact ⟨n, this, h⟩
theorem ir2_go {a b : WE} {v : Ab.Env} {m : Mem} {kl : KL} {kx : KX} (h : a v m (fun x m1 => b v m1 (fun y m2 => match x, y with
  | .int i, .int j => -(2 ^ 62) ≤ i ∧ i < 2 ^ 62 ∧ -(2 ^ 62) ≤ j ∧ j < 2 ^ 62 ∧ kl (rngD i 1 (j - i).toNat) m2
  | _, _ => False) kx) kx) : iR2 a b v m kl kx := h
theorem ir3_go {a b c : WE} {v : Ab.Env} {m : Mem} {kl : KL} {kx : KX} (h : a v m (fun x m1 => b v m1 (fun y m2 => c v m2 (fun z m3 => match x, y, z with
  | .int i, .int j, .int l => ∃ n, RgC i j l n ∧ kl (rngD i l n) m3
  | _, _, _ => False) kx) kx) kx) : iR3 a b c v m kl kx := h
theorem ienum_go {a : WE} {v : Ab.Env} {m : Mem} {kl : KL} {kx : KX} (h : a v m (fun d m1 => match d with
  | .lst xs => kl (enumD 0 xs) m1
  | .frl xs => kl (enumD 0 xs) m1
  | _ => False) kx) : iEnumD a v m kl kx := h
theorem par_go {is : List Nat} {w : WL} {v : Ab.Env} {m : Mem} {P : SK} (h : w v m (fun ds m1 => ds.length = is.length ∧ P.nx (putAll v is ds) m1) fun x m => P.ex x v m) : sPar is w v m P := h
theorem par2_go {i j : Nat} {w : WL} {v : Ab.Env} {m : Mem} {P : SK} (h : w v m (fun ds m1 => match ds with
  | [d, e] => P.nx ((v.set i (some d)).set j (some e)) m1
  | _ => False) fun x m => P.ex x v m) : sPar [i, j] w v m P := by
  unfold sPar
  have e : (fun (ds : List D) (m1 : Mem) => ds.length = [i, j].length ∧ P.nx (putAll v [i, j] ds) m1) = fun ds m1 => match ds with
    | [d, e] => P.nx ((v.set i (some d)).set j (some e)) m1
    | _ => False := by
    funext ds m1
    apply propext
    match ds with
    | [] => exact ⟨fun h => (by cases h.1), fun h => False.elim h⟩
    | [a] => exact ⟨fun h => (by cases h.1), fun h => False.elim h⟩
    | [a, b] => exact ⟨fun h => h.2, fun h => ⟨rfl, h⟩⟩
    | a :: b :: c :: r => exact ⟨fun h => (by cases h.1), fun h => False.elim h⟩
  rw [e]
  exact h
theorem par3_go {i j l : Nat} {w : WL} {v : Ab.Env} {m : Mem} {P : SK} (h : w v m (fun ds m1 => match ds with
  | [d, e, f] => P.nx (((v.set i (some d)).set j (some e)).set l (some f)) m1
  | _ => False) fun x m => P.ex x v m) : sPar [i, j, l] w v m P := by
  unfold sPar
  have e : (fun (ds : List D) (m1 : Mem) => ds.length = [i, j, l].length ∧ P.nx (putAll v [i, j, l] ds) m1) = fun ds m1 => match ds with
    | [d, e, f] => P.nx (((v.set i (some d)).set j (some e)).set l (some f)) m1
    | _ => False := by
    funext ds m1
    apply propext
    match ds with
    | [] => exact ⟨fun h => (by cases h.1), fun h => False.elim h⟩
    | [a] => exact ⟨fun h => (by cases h.1), fun h => False.elim h⟩
    | [a, b] => exact ⟨fun h => (by cases h.1), fun h => False.elim h⟩
    | [a, b, c] => exact ⟨fun h => h.2, fun h => ⟨rfl, h⟩⟩
    | a :: b :: c :: d :: r => exact ⟨fun h => (by cases h.1), fun h => False.elim h⟩
  rw [e]
  exact h
/-- a comprehension that changes nothing and keeps all -/
theorem lc_map {α : Type} {f : α → D} {g : WG} {te : WE} {z : Bool} {own : List Nat} {xs : List α} {v : Ab.Env} {m : Mem} {k : KE} (r : α → D) (hl : xs.length ≤ 16000000)
    (h1 : ∀ i (hi : i < xs.length) (kk : KE) (Z : Mem → Prop), kk (r xs[i]) m → g (f xs[i]) (wipeE v own) m fun v3 m3 => wYes v3 m3 (fun q m4 => (q = true → te v3 m4 kk kx0) ∧ (q = false → Z m4)) kx0) (h2 : newK z (.lst (xs.map r)) m k) :
    (∃ I : Nat → List D → Mem → Prop, I 0 [] m ∧
  (∀ i d acc m2, (xs.map f)[i]? = some d → I i acc m2 → g d (wipeE v own) m2 fun v3 m3 => wYes v3 m3 (fun q m4 =>
    (q = true → te v3 m4 (fun y m5 => acc.length < sizeLine ∧ I (i + 1) (acc ++ [y]) m5) kx0) ∧ (q = false → I (i + 1) acc m4)) kx0) ∧
  ∀ acc m2, I (xs.map f).length acc m2 → newK z (.lst acc) m2 k) := by
  refine ⟨fun i acc m' => m' = m ∧ acc = (xs.take i).map r, ⟨rfl, by simp⟩, ?_, ?_⟩
  · rintro i d acc m2 hi ⟨rfl, rfl⟩
    have hl : i < xs.length := by
      have := (List.getElem?_eq_some_iff.mp hi).1
      rwa [List.length_map] at this
    rw [List.getElem?_map, List.getElem?_eq_getElem hl] at hi
    cases hi
    have := h1 i hl (fun y m5 => ((xs.take i).map r).length < sizeLine ∧ (m5 = m2 ∧ (xs.take i).map r ++ [y] = (xs.take (i + 1)).map r)) (fun m4 => m4 = m2 ∧ (xs.take i).map r = (xs.take (i + 1)).map r) ⟨by rw [List.length_map, List.length_take, sizeLine_eq]; omega, rfl, by rw [← List.take_append_getElem hl, List.map_append]; rfl⟩
    exact this
  · rintro acc m2 ⟨rfl, rfl⟩
    rw [List.length_map, List.take_length]
    exact h2
def sp_law_box (K : PySem.W.Frag) : ASp := spOf 1 (w_law_box K)
def sp_law_cell (K : PySem.W.Frag) : ASp := spOf 2 (w_law_cell K)
def sp_law_take (K : PySem.W.Frag) : ASp := spOf 5 (w_law_take K)
theorem nx_frz {b : WS} {P : SK} {v : Ab.Env} {m : Mem} {a : Addr} {d : D} (i : Nat) (hi : v[i]? = some (some (.raw (.ref a)))) (ha : m a = none) (h : b (v.set i (some d)) m P) : Nx b P v (setM m a d) :=
  ⟨_, _, Gh.freeze i hi setM_same, by rw [delM_setM ha]; exact h⟩
theorem res_dct {m : Mem} {ks : List Key} {xs : List D} : res m (.dct ks xs) = .dct ks xs := rfl
/-- is it of this type -/
def isiQ (d : D) (T : String) : Option Bool := match tyD d with
  | some a => if T ∈ tyNames then some (isTy a T) else none
  | none => none
theorem isiQ_ok {K : PySem.W.Frag} {m : Mem} {d : D} {T : String} {q : Bool} {k : KE} (h : isiQ d T = some q) (hk : k (.bl q) m) (hr : res m d = d) : cIsi K m ([d, .raw (.ty T)].map (res m)) k := by
  show cIsi K m [res m d, .raw (.ty T)] k
  rw [hr]
  unfold isiQ at h
  split at h
  · rename_i a e
    split at h
    · rename_i hm
      cases h
      exact ⟨a, e, hm, hk⟩
    · cases h
  · cases h
theorem isi_T {K : PySem.W.Frag} {m : Mem} {d : D} {T : String} {k : KE} (hr : res m d = d) (h : isiQ d T = some true) (hk : k (.bl true) m) : cIsi K m ([d, .raw (.ty T)].map (res m)) k := isiQ_ok h hk hr
theorem isi_F {K : PySem.W.Frag} {m : Mem} {d : D} {T : String} {k : KE} (hr : res m d = d) (h : isiQ d T = some false) (hk : k (.bl false) m) : cIsi K m ([d, .raw (.ty T)].map (res m)) k := isiQ_ok h hk hr
end Ab
end

section
/-! Lm: longs as lists of whole numbers. -/
namespace Lm
theorem divmod_of {n d q r : Int} (h : n = q * d + r) (h0 : 0 ≤ r) (h1 : r < d) : n / d = q ∧ n % d = r := by
  have hd : 0 < d := by omega
  have e : n = r + d * q := by grind
  rw [e]
  rw [Int.add_mul_ediv_left _ _ (by omega), Int.add_mul_emod_self_left, Int.ediv_eq_zero_of_lt h0 h1, Int.emod_eq_of_lt h0 h1]
  exact ⟨by omega, rfl⟩
/-- the number of words -/
def num (B : Int) : List Int → Int
  | [] => 0
  | w :: r => w + B * num B r
/-- words -/
def Wok (B : Int) (ws : List Int) : Prop := ∀ w ∈ ws, 0 ≤ w ∧ w < B
theorem Wok.nil {B : Int} : Wok B [] := fun _ h => by cases h
theorem wok_cons {B w : Int} {r : List Int} : Wok B (w :: r) ↔ (0 ≤ w ∧ w < B) ∧ Wok B r := by
  constructor
  · intro h
    exact ⟨h w (by simp), fun x hx => h x (by simp [hx])⟩
  · rintro ⟨h1, h2⟩ x hx
    rcases List.mem_cons.mp hx with rfl | hx
    · exact h1
    · exact h2 x hx
theorem wok_append {B : Int} {a b : List Int} : Wok B (a ++ b) ↔ Wok B a ∧ Wok B b := by
  constructor
  · intro h
    exact ⟨fun x hx => h x (by simp [hx]), fun x hx => h x (by simp [hx])⟩
  · rintro ⟨h1, h2⟩ x hx
    rcases List.mem_append.mp hx with hx | hx
    · exact h1 x hx
    · exact h2 x hx
theorem num_append {B : Int} : ∀ {a b : List Int}, num B (a ++ b) = num B a + B ^ a.length * num B b
  | [], b => by simp [num]
  | w :: r, b => by
    show w + B * num B (r ++ b) = w + B * num B r + B ^ (r.length + 1) * num B b
    rw [num_append, Int.pow_succ]
    grind
theorem num_nonneg {B : Int} (hB : 0 < B) : ∀ {ws : List Int}, Wok B ws → 0 ≤ num B ws
  | [], _ => by simp [num]
  | w :: r, h => by
    obtain ⟨h1, h2⟩ := wok_cons.mp h
    have := num_nonneg hB h2
    have : 0 ≤ B * num B r := Int.mul_nonneg (by omega) this
    show 0 ≤ w + B * num B r
    omega
theorem num_lt {B : Int} (hB : 0 < B) : ∀ {ws : List Int}, Wok B ws → num B ws < B ^ ws.length
  | [], _ => by simp [num]
  | w :: r, h => by
    obtain ⟨h1, h2⟩ := wok_cons.mp h
    have ih := num_lt hB h2
    show w + B * num B r < B ^ (r.length + 1)
    rw [Int.pow_succ]
    have : B * (num B r + 1) ≤ B * B ^ r.length := Int.mul_le_mul_of_nonneg_left (by omega) (by omega)
    have e : B * (num B r + 1) = B * num B r + B := by grind
    have e2 : B * B ^ r.length = B ^ r.length * B := by grind
    omega
/-- without the noughts at the top -/
def trim : List Int → List Int
  | [] => []
  | w :: r => if trim r = [] ∧ w = 0 then [] else w :: trim r
theorem num_trim {B : Int} : ∀ {ws : List Int}, num B (trim ws) = num B ws
  | [] => rfl
  | w :: r => by
    have ih := num_trim (B := B) (ws := r)
    unfold trim
    split
    · rename_i h
      rw [h.1] at ih
      show 0 = w + B * num B r
      rw [← ih, h.2]
      simp [num]
    · show w + B * num B (trim r) = w + B * num B r
      rw [ih]
theorem wok_trim {B : Int} : ∀ {ws : List Int}, Wok B ws → Wok B (trim ws)
  | [], h => h
  | w :: r, h => by
    obtain ⟨h1, h2⟩ := wok_cons.mp h
    unfold trim
    split
    · exact Wok.nil
    · exact wok_cons.mpr ⟨h1, wok_trim h2⟩
theorem trim_trim : ∀ {ws : List Int}, trim (trim ws) = trim ws
  | [] => rfl
  | w :: r => by
    have ih := trim_trim (ws := r)
    by_cases c : trim r = [] ∧ w = 0
    · have : trim (w :: r) = [] := by rw [trim, if_pos c]
      rw [this]; rfl
    · have : trim (w :: r) = w :: trim r := by rw [trim, if_neg c]
      rw [this, trim, ih, if_neg c]
theorem trim_len : ∀ {ws : List Int}, (trim ws).length ≤ ws.length
  | [] => Nat.le_refl _
  | w :: r => by
    unfold trim
    have := trim_len (ws := r)
    split <;> simp <;> omega
theorem num_pos {B : Int} (hB : 0 < B) : ∀ {ws : List Int}, Wok B ws → trim ws = ws → ws ≠ [] → 0 < num B ws
  | [], _, _, h => absurd rfl h
  | w :: r, h, ht, _ => by
    obtain ⟨h1, h2⟩ := wok_cons.mp h
    unfold trim at ht
    split at ht
    · cases ht
    · rename_i c
      have e : trim r = r := by injection ht
      have n0 := num_nonneg hB h2
      show 0 < w + B * num B r
      have m0 : 0 ≤ B * num B r := Int.mul_nonneg (by omega) n0
      by_cases hr : r = []
      · subst hr
        have : w ≠ 0 := fun z => c ⟨rfl, z⟩
        omega
      · have p := num_pos hB h2 e hr
        have : 0 < B * num B r := Int.mul_pos hB p
        omega
/-- longs are told by their numbers -/
theorem can_inj {B : Int} (hB : 1 < B) : ∀ {a b : List Int}, Wok B a → Wok B b → trim a = a → trim b = b → num B a = num B b → a = b
  | [], [], _, _, _, _, _ => rfl
  | [], b :: s, _, hb, _, tb, e => by
    have := num_pos (by omega) hb tb (by simp)
    rw [← e] at this
    simp [num] at this
  | a :: r, [], ha, _, ta, _, e => by
    have := num_pos (by omega) ha ta (by simp)
    rw [e] at this
    simp [num] at this
  | a :: r, b :: s, ha, hb, ta, tb, e => by
    obtain ⟨a1, a2⟩ := wok_cons.mp ha
    obtain ⟨b1, b2⟩ := wok_cons.mp hb
    have ea : trim r = r := by
      unfold trim at ta
      split at ta
      · cases ta
      · injection ta
    have eb : trim s = s := by
      unfold trim at tb
      split at tb
      · cases tb
      · injection tb
    have e' : a + B * num B r = b + B * num B s := e
    have q1 := (divmod_of (n := a + B * num B r) (d := B) (q := num B r) (r := a) (by grind) a1.1 a1.2)
    have q2 := (divmod_of (n := b + B * num B s) (d := B) (q := num B s) (r := b) (by grind) b1.1 b1.2)
    rw [e'] at q1
    have : a = b := q1.2.symm.trans q2.2
    have n : num B r = num B s := q1.1.symm.trans q2.1
    rw [this, can_inj hB a2 b2 ea eb n]
/-- the words of a number -/
def lw (B : Int) : Nat → Int → List Int
  | 0, _ => []
  | f + 1, n => if 0 < n then n % B :: lw B f (n / B) else []
theorem lw_wok {B : Int} (hB : 0 < B) : ∀ {f : Nat} {n : Int}, Wok B (lw B f n)
  | 0, _ => Wok.nil
  | f + 1, n => by
    unfold lw
    split
    · exact wok_cons.mpr ⟨⟨Int.emod_nonneg _ (by omega), Int.emod_lt_of_pos _ hB⟩, lw_wok hB⟩
    · exact Wok.nil
theorem lw_num {B : Int} (hB : 1 < B) : ∀ {f : Nat} {n : Int}, 0 ≤ n → n < B ^ f → num B (lw B f n) = n
  | 0, n, h0, h1 => by
    have : n < 1 := by simpa using h1
    simp [lw, num]; omega
  | f + 1, n, h0, h1 => by
    unfold lw
    split
    · show n % B + B * num B (lw B f (n / B)) = n
      rw [lw_num hB (Int.ediv_nonneg h0 (by omega)) (by
        rw [Int.pow_succ] at h1
        exact Int.ediv_lt_of_lt_mul (by omega) h1)]
      exact Int.emod_add_mul_ediv n B
    · simp [num]; omega
theorem lw_can {B : Int} (hB : 1 < B) : ∀ {f : Nat} {n : Int}, n < B ^ f → trim (lw B f n) = lw B f n
  | 0, _, _ => rfl
  | f + 1, n, h1 => by
    unfold lw
    split
    · rename_i hn
      have h2 : n / B < B ^ f := by
        rw [Int.pow_succ] at h1
        exact Int.ediv_lt_of_lt_mul (by omega) h1
      unfold trim
      rw [lw_can hB h2]
      rw [if_neg]
      rintro ⟨e1, e2⟩
      have h3 := lw_num hB (f := f) (n := n / B) (Int.ediv_nonneg (by omega) (by omega)) h2
      rw [e1] at h3
      have h4 : n / B = 0 := by simpa [num] using h3.symm
      have := Int.emod_add_mul_ediv n B
      rw [h4, e2] at this
      simp at this
      omega
    · rfl
theorem trim_lw {B : Int} (hB : 1 < B) {f : Nat} {ws : List Int} (h : Wok B ws) (hn : num B ws < B ^ f) : trim ws = lw B f (num B ws) := by
  have h0 := num_nonneg (by omega) h
  exact can_inj hB (wok_trim h) (lw_wok (by omega)) trim_trim (lw_can hB hn) (by rw [num_trim, lw_num hB h0 hn])
theorem lw_of {B : Int} (hB : 1 < B) {f : Nat} {ws : List Int} (h : Wok B ws) (ht : trim ws = ws) (hn : num B ws < B ^ f) : lw B f (num B ws) = ws := by
  rw [← trim_lw hB h hn, ht]
theorem pow_mono {B : Int} (hB : 1 ≤ B) {a b : Nat} (h : a ≤ b) : B ^ a ≤ B ^ b := by
  obtain ⟨k, rfl⟩ := Nat.le.dest h
  rw [Int.pow_add]
  have : (0 : Int) < B ^ a := Int.pow_pos (by omega)
  have h0 : (0 : Int) < B ^ k := Int.pow_pos (by omega)
  have h1 : (1 : Int) ≤ B ^ k := by omega
  have := Int.mul_le_mul_of_nonneg_left h1 (Int.le_of_lt this)
  omega
theorem lw_of_len {B : Int} (hB : 1 < B) {f : Nat} {ws : List Int} (h : Wok B ws) (ht : trim ws = ws) (hn : ws.length ≤ f) : lw B f (num B ws) = ws :=
  lw_of hB h ht (Int.lt_of_lt_of_le (num_lt (by omega) h) (pow_mono (by omega) hn))
theorem trim_lw_len {B : Int} (hB : 1 < B) {f : Nat} {ws : List Int} (h : Wok B ws) (hn : ws.length ≤ f) : trim ws = lw B f (num B ws) :=
  trim_lw hB h (Int.lt_of_lt_of_le (num_lt (by omega) h) (pow_mono (by omega) hn))
theorem lw_len {B : Int} (hB : 1 < B) : ∀ {f k : Nat} {n : Int}, n < B ^ k → (lw B f n).length ≤ k
  | 0, _, _, _ => Nat.zero_le _
  | f + 1, 0, n, h => by
    have : n < 1 := by simpa using h
    unfold lw
    rw [if_neg (by omega)]
    exact Nat.le_refl _
  | f + 1, k + 1, n, h => by
    unfold lw
    split
    · rw [Int.pow_succ] at h
      have := lw_len hB (f := f) (k := k) (n := n / B) (Int.ediv_lt_of_lt_mul (by omega) h)
      simp; omega
    · simp
/-- trimmed: nothing or a last word that is not 0 -/
theorem trim_snoc {ws : List Int} {w : Int} (h : w ≠ 0) : trim (ws ++ [w]) = ws ++ [w] := by
  induction ws with
  | nil => simp [trim, h]
  | cons a r ih =>
    show trim (a :: (r ++ [w])) = a :: (r ++ [w])
    rw [trim, ih, if_neg]
    rintro ⟨z, _⟩
    simp at z
theorem trim_snoc0 {ws : List Int} : trim (ws ++ [0]) = trim ws := by
  induction ws with
  | nil => simp [trim]
  | cons a r ih =>
    show trim (a :: (r ++ [0])) = trim (a :: r)
    rw [trim, ih, trim]
theorem last_ne {ws : List Int} {w : Int} (h : trim (ws ++ [w]) = ws ++ [w]) : w ≠ 0 := by
  rintro rfl
  rw [trim_snoc0] at h
  have := trim_len (ws := ws)
  rw [h] at this
  simp at this
  omega
theorem trim_snoc_iff {ws : List Int} {w : Int} : trim (ws ++ [w]) = ws ++ [w] ↔ w ≠ 0 := ⟨last_ne, trim_snoc⟩
theorem trim_replicate {ws : List Int} : ∀ {k : Nat}, trim (ws ++ List.replicate k 0) = trim ws
  | 0 => by simp
  | k + 1 => by
    rw [List.replicate_succ', ← List.append_assoc, trim_snoc0, trim_replicate]

/-! ### from the low end -/
/-- the rows of words divided by an odd word -/
def lowR (B d by' : Int) : Int → List Int → List (Int × Int)
  | _, [] => []
  | c, w :: r =>
    let g := (w - c) * by' % B
    let c' := g * d / B + (if w < c then 1 else 0)
    (g, c') :: lowR B d by' c' r
def lastC (c : Int) (rows : List (Int × Int)) : Int := (rows.map (·.2)).getLastD c
theorem lowR_len {B d by' : Int} : ∀ {ws : List Int} {c : Int}, (lowR B d by' c ws).length = ws.length
  | [], _ => rfl
  | w :: r, c => by simp [lowR, lowR_len]
theorem lastC_cons {c : Int} {p : Int × Int} {r : List (Int × Int)} : lastC c (p :: r) = lastC p.2 r := by
  unfold lastC
  cases r with
  | nil => rfl
  | cons q s => simp [List.getLastD]
theorem inv_mod {B d by' x : Int} (hB : 0 < B) (hi : by' * d % B = 1 % B) : x * by' % B * d % B = x % B := by
  rw [Int.mul_emod, Int.emod_emod, ← Int.mul_emod, Int.mul_assoc, Int.mul_emod, hi, ← Int.mul_emod, Int.mul_one]
theorem low_step {B d by' w c : Int} (hB : 1 < B) (hd : 0 < d) (hi : by' * d % B = 1 % B) (w0 : 0 ≤ w) (w1 : w < B) (c0 : 0 ≤ c) (c1 : c < d) (cB : d ≤ B) :
    (w - c) * by' % B * d = ((w - c) * by' % B * d / B + (if w < c then 1 else 0)) * B + w - c ∧ 0 ≤ (w - c) * by' % B * d / B + (if w < c then 1 else 0) ∧ (w - c) * by' % B * d / B + (if w < c then 1 else 0) < d := by
  have g0 := Int.emod_nonneg ((w - c) * by') (show B ≠ 0 by omega)
  have g1 := Int.emod_lt_of_pos ((w - c) * by') (show 0 < B by omega)
  have e := inv_mod (x := w - c) (by omega) hi
  generalize (w - c) * by' % B = g at *
  have dm := Int.emod_add_mul_ediv (g * d) B
  rw [e] at dm
  have q0 : 0 ≤ g * d / B := Int.ediv_nonneg (Int.mul_nonneg g0 (by omega)) (by omega)
  have key : g * d = (g * d / B + (if w < c then 1 else 0)) * B + w - c := by
    by_cases h : w < c
    · rw [if_pos h]
      have : (w - c) % B = w - c + B := by
        have := (divmod_of (n := w - c) (d := B) (q := -1) (r := w - c + B) (by omega) (by omega) (by omega)).2
        exact this
      rw [this] at dm
      grind
    · rw [if_neg h]
      rw [Int.emod_eq_of_lt (by omega) (by omega)] at dm
      grind
  refine ⟨key, by split <;> omega, ?_⟩
  generalize g * d / B + (if w < c then 1 else 0) = c' at key
  have : g * d ≤ (B - 1) * d := Int.mul_le_mul_of_nonneg_right (by omega) (by omega)
  have e2 : (B - 1) * d = B * d - d := by grind
  have : c' * B < d * B := by
    have e3 : d * B = B * d := by grind
    omega
  exact Int.lt_of_mul_lt_mul_right this (by omega)
theorem low_num {B d by' : Int} (hB : 1 < B) (hd : 0 < d) (cB : d ≤ B) (hi : by' * d % B = 1 % B) : ∀ {ws : List Int} {c : Int}, Wok B ws → 0 ≤ c → c < d →
    num B ((lowR B d by' c ws).map (·.1)) * d + c = num B ws + lastC c (lowR B d by' c ws) * B ^ ws.length ∧ 0 ≤ lastC c (lowR B d by' c ws) ∧ lastC c (lowR B d by' c ws) < d ∧ (∀ p ∈ lowR B d by' c ws, (0 ≤ p.1 ∧ p.1 < B) ∧ 0 ≤ p.2 ∧ p.2 < d)
  | [], c, _, c0, c1 => ⟨by simp [lowR, num, lastC], by simpa [lowR, lastC] using c0, by simpa [lowR, lastC] using c1, by simp [lowR]⟩
  | w :: r, c, h, c0, c1 => by
    obtain ⟨h1, h2⟩ := wok_cons.mp h
    obtain ⟨k1, k2, k3⟩ := low_step hB hd hi h1.1 h1.2 c0 c1 cB
    have g0 := Int.emod_nonneg ((w - c) * by') (show B ≠ 0 by omega)
    have g1 := Int.emod_lt_of_pos ((w - c) * by') (show 0 < B by omega)
    show num B (((_, _) :: lowR B d by' _ r : List (Int × Int)).map (·.1)) * d + c = num B (w :: r) + lastC c ((_, _) :: lowR B d by' _ r) * B ^ (r.length + 1) ∧ 0 ≤ lastC c ((_, _) :: lowR B d by' _ r) ∧ lastC c ((_, _) :: lowR B d by' _ r) < d ∧ _
    rw [lastC_cons]
    obtain ⟨i1, i2, i3, i4⟩ := low_num hB hd cB hi (c := (w - c) * by' % B * d / B + (if w < c then 1 else 0)) h2 k2 k3
    refine ⟨?_, i2, i3, ?_⟩
    · simp only [List.map_cons, num]
      rw [Int.pow_succ]
      generalize num B (List.map (fun x => x.fst) (lowR B d by' _ r)) = D at *
      generalize lastC _ (lowR B d by' _ r) = L at *
      generalize (w - c) * by' % B = g at *
      generalize num B r = N at *
      generalize B ^ r.length = P at *
      grind
    · intro p hp
      rcases List.mem_cons.mp hp with rfl | hp
      · exact ⟨⟨g0, g1⟩, k2, k3⟩
      · exact i4 p hp
/-- an odd number divides a product by a power of two only if it divides -/
theorem odd_dvd2 {d x : Int} (ho : d % 2 = 1) : ∀ {k : Nat}, d ∣ x * 2 ^ k → d ∣ x
  | 0, h => by simpa using h
  | k + 1, h => by
    obtain ⟨t, ht⟩ := h
    have he : x * 2 ^ (k + 1) = 2 * (x * 2 ^ k) := by rw [Int.pow_succ]; grind
    rw [he] at ht
    have t2 : t % 2 = 0 := by
      have h1 : (d * t) % 2 = 0 := by rw [← ht]; omega
      rw [Int.mul_emod, ho] at h1
      omega
    obtain ⟨s, rfl⟩ : ∃ s, t = 2 * s := ⟨t / 2, by omega⟩
    refine odd_dvd2 ho (k := k) ⟨s, ?_⟩
    have : 2 * (x * 2 ^ k) = 2 * (d * s) := by rw [ht]; grind
    omega
theorem low_zero {B d by' : Int} {W : Nat} (hW : B = 2 ^ W) (hB : 1 < B) (hd : 0 < d) (ho : d % 2 = 1) (cB : d ≤ B) (hi : by' * d % B = 1 % B) {ws : List Int} (h : Wok B ws) :
    lastC 0 (lowR B d by' 0 ws) = 0 ↔ num B ws % d = 0 := by
  obtain ⟨h1, h2, h3, _⟩ := low_num hB hd cB hi h (Int.le_refl 0) hd
  generalize lastC 0 (lowR B d by' 0 ws) = L at *
  generalize num B ((lowR B d by' 0 ws).map (·.1)) = D at *
  constructor
  · rintro rfl
    have : num B ws = D * d := by omega
    rw [this]
    exact Int.mul_emod_left _ _
  · intro hz
    have dv : d ∣ L * 2 ^ (W * ws.length) := by
      have e : L * 2 ^ (W * ws.length) = D * d - num B ws := by
        rw [Int.pow_mul, ← hW]
        omega
      rw [e]
      exact Int.dvd_sub (Int.dvd_mul_left _ _) (Int.dvd_of_emod_eq_zero hz)
    have := odd_dvd2 ho dv
    obtain ⟨t, rfl⟩ := this
    have ht : t = 0 := by
      have t0 : 0 ≤ t := by
        by_cases c : 0 ≤ t
        · exact c
        · exfalso
          have : d * t ≤ d * (-1) := Int.mul_le_mul_of_nonneg_left (by omega) (by omega)
          omega
      by_cases c : t = 0
      · exact c
      · exfalso
        have : d * 1 ≤ d * t := Int.mul_le_mul_of_nonneg_left (by omega) (by omega)
        omega
    rw [ht]; simp
/-! ### inverses -/
theorem newton {d x : Int} {a : Nat} (h : (2 : Int) ^ a ∣ 1 - x * d) : (2 : Int) ^ (2 * a) ∣ 1 - x * (2 - d * x) * d := by
  obtain ⟨t, ht⟩ := h
  refine ⟨t * t, ?_⟩
  have : 1 - x * (2 - d * x) * d = (1 - x * d) * (1 - x * d) := by grind
  rw [this, ht, Nat.two_mul, Int.pow_add]
  grind
theorem dvd_pow_le {x : Int} {a b : Nat} (h : a ≤ b) (hd : (2 : Int) ^ b ∣ x) : (2 : Int) ^ a ∣ x := by
  obtain ⟨k, rfl⟩ := Nat.le.dest h
  rw [Int.pow_add] at hd
  exact Int.dvd_trans (Int.dvd_mul_right _ _) hd
theorem dvd_mod {x y : Int} {a W : Nat} (h : a ≤ W) (hd : (2 : Int) ^ a ∣ y - x * z) : (2 : Int) ^ a ∣ y - x % 2 ^ W * z := by
  have e : y - x % 2 ^ W * z = y - x * z + 2 ^ W * (x / 2 ^ W) * z := by
    have := Int.emod_add_mul_ediv x (2 ^ W)
    grind
  rw [e]
  refine Int.dvd_add hd ?_
  rw [Int.mul_assoc]
  exact Int.dvd_trans (dvd_pow_le h (Int.dvd_refl _)) (Int.dvd_mul_right _ _)
theorem inv_of_dvd {d x : Int} {W : Nat} (h : (2 : Int) ^ W ∣ 1 - x * d) : x * d % 2 ^ W = 1 % 2 ^ W := by
  have := Int.emod_eq_emod_iff_emod_sub_eq_zero (n := 2 ^ W) (m := 1) (k := x * d)
  exact (this.mpr (Int.emod_eq_zero_of_dvd h)).symm
theorem dvd_of_inv {d x : Int} {W : Nat} (h : x * d % 2 ^ W = 1 % 2 ^ W) : (2 : Int) ^ W ∣ 1 - x * d :=
  Int.dvd_of_emod_eq_zero (Int.emod_eq_emod_iff_emod_sub_eq_zero.mp h.symm)
theorem inv_uniq {d x y B : Int} (hB : 0 < B) (hx : x * d % B = 1 % B) (hy : y * d % B = 1 % B) (x0 : 0 ≤ x) (x1 : x < B) (y0 : 0 ≤ y) (y1 : y < B) : x = y := by
  have a := inv_mod (x := x) hB hy
  have b : x * d % B * y % B = y % B := by
    rw [hx, Int.mul_emod, Int.emod_emod, ← Int.mul_emod, Int.one_mul]
  have c : x * y % B * d % B = x * d % B * y % B := by
    rw [Int.mul_emod, Int.emod_emod, ← Int.mul_emod]
    conv => rhs; rw [Int.mul_emod, Int.emod_emod, ← Int.mul_emod]
    congr 1
    grind
  rw [a, b, Int.emod_eq_of_lt x0 x1, Int.emod_eq_of_lt y0 y1] at c
  exact c
end Lm
end

section
namespace Lm
theorem num_ge {B : Int} (hB : 1 < B) {ws : List Int} {w : Int} (h : Wok B (ws ++ [w])) (hw : w ≠ 0) : B ^ ws.length ≤ num B (ws ++ [w]) := by
  obtain ⟨h1, h2⟩ := wok_append.mp h
  have := (wok_cons.mp h2).1
  have n0 := num_nonneg (by omega) h1
  rw [num_append]
  simp only [num]
  have p : (0 : Int) < B ^ ws.length := Int.pow_pos (by omega)
  have : B ^ ws.length * 1 ≤ B ^ ws.length * (w + B * 0) := Int.mul_le_mul_of_nonneg_left (by omega) (by omega)
  omega
theorem num_shorter {B : Int} (hB : 1 < B) {a b : List Int} (ha : Wok B a) (hb : Wok B b) (cb : trim b = b) (h : a.length < b.length) : num B a < num B b := by
  have hne : b ≠ [] := by rintro rfl; simp at h
  obtain ⟨vs, w, rfl⟩ : ∃ vs w, b = vs ++ [w] := ⟨b.dropLast, b.getLast hne, (List.dropLast_concat_getLast hne).symm⟩
  have h1 := num_lt (by omega) ha
  have h2 := num_ge hB hb (last_ne cb)
  have h3 : B ^ a.length ≤ B ^ vs.length := pow_mono (by omega) (by simp at h; omega)
  omega
theorem num_at {B : Int} (hB : 1 < B) {a b : List Int} {p : Nat} (ha : Wok B a) (hb : Wok B b) (pa : p < a.length) (pb : p < b.length) (e : a.drop (p + 1) = b.drop (p + 1)) (h : a[p] < b[p]) : num B a < num B b := by
  have ea : a = a.take p ++ (a[p] :: a.drop (p + 1)) := by rw [← List.drop_eq_getElem_cons pa, List.take_append_drop]
  have eb : b = b.take p ++ (b[p] :: b.drop (p + 1)) := by rw [← List.drop_eq_getElem_cons pb, List.take_append_drop]
  have ta : Wok B (a.take p) := fun x hx => ha x (List.mem_of_mem_take hx)
  have tb : Wok B (b.take p) := fun x hx => hb x (List.mem_of_mem_take hx)
  have l1 := num_lt (by omega) ta
  have n2 := num_nonneg (by omega) tb
  have la : (a.take p).length = p := by rw [List.length_take]; omega
  have lb : (b.take p).length = p := by rw [List.length_take]; omega
  have fa : num B a = num B (a.take p) + B ^ p * (a[p] + B * num B (a.drop (p + 1))) := by
    conv => lhs; rw [ea]
    rw [num_append, la]; rfl
  have fb : num B b = num B (b.take p) + B ^ p * (b[p] + B * num B (b.drop (p + 1))) := by
    conv => lhs; rw [eb]
    rw [num_append, lb]; rfl
  rw [fa, fb, e]
  rw [la] at l1
  have pp : (0 : Int) < B ^ p := Int.pow_pos (by omega)
  have : B ^ p * (a[p] + B * num B (b.drop (p + 1)) + 1) ≤ B ^ p * (b[p] + B * num B (b.drop (p + 1))) := Int.mul_le_mul_of_nonneg_left (by omega) (by omega)
  have e2 : B ^ p * (a[p] + B * num B (b.drop (p + 1)) + 1) = B ^ p * (a[p] + B * num B (b.drop (p + 1))) + B ^ p := by grind
  omega
/-- a number from 1 on is a power of two times an odd one -/
theorem twos_ex : ∀ (n : Nat) {d : Int}, 0 < d → d ≤ n → ∃ (t : Nat) (e : Int), d = 2 ^ t * e ∧ e % 2 = 1
  | 0, d, h, h2 => by omega
  | n + 1, d, h, h2 => by
    by_cases c : d % 2 = 1
    · exact ⟨0, d, by simp, c⟩
    · obtain ⟨t, e, h3, h4⟩ := twos_ex n (d := d / 2) (by omega) (by omega)
      refine ⟨t + 1, e, ?_, h4⟩
      have : d = 2 * (d / 2) := by omega
      rw [this, h3, Int.pow_succ]
      grind
theorem twos_at {d e : Int} {t k : Nat} (h : d = 2 ^ t * e) (ho : e % 2 = 1) (hk : k ≤ t) : (d / 2 ^ k % 2 = 0 ↔ k < t) := by
  obtain ⟨j, rfl⟩ := Nat.le.dest hk
  have hp : (0 : Int) < 2 ^ k := Int.pow_pos (by omega)
  have e1 : d / 2 ^ k = 2 ^ j * e := by
    rw [h, Int.pow_add, Int.mul_assoc]
    exact Int.mul_ediv_cancel_left _ (by omega)
  rw [e1]
  cases j with
  | zero => simp; omega
  | succ j =>
    have : 2 ^ (j + 1) * e = 2 * (2 ^ j * e) := by rw [Int.pow_succ]; grind
    rw [this]
    omega
theorem newton_step {d x : Int} {a W : Nat} (ha : 2 * a ≥ b) (hb : b ≤ W) (h : (2 : Int) ^ a ∣ 1 - x * d) : (2 : Int) ^ b ∣ 1 - (x * ((2 - x * d % 2 ^ W) % 2 ^ W)) % 2 ^ W * d := by
  refine dvd_mod hb ?_
  have e1 : 1 - x * ((2 - x * d % 2 ^ W) % 2 ^ W) * d = 1 - (2 - x * d % 2 ^ W) % 2 ^ W * (x * d) := by grind
  rw [e1]
  refine dvd_mod hb ?_
  have dm := Int.emod_add_mul_ediv (x * d) (2 ^ W)
  generalize x * d / 2 ^ W = q at dm
  generalize x * d % 2 ^ W = p at dm
  have e2 : 1 - (2 - p) * (x * d) = (1 - x * d) * (1 - x * d) - 2 ^ W * (q * (x * d)) := by
    have : p = x * d - 2 ^ W * q := by omega
    rw [this]
    grind
  rw [e2]
  refine Int.dvd_sub ?_ (Int.dvd_trans (dvd_pow_le hb (Int.dvd_refl _)) (Int.dvd_mul_right _ _))
  obtain ⟨t, ht⟩ := h
  refine dvd_pow_le ha ⟨t * t, ?_⟩
  rw [ht, Nat.two_mul, Int.pow_add]
  grind
theorem odd_sq {d : Int} (h : d % 2 = 1) : (2 : Int) ^ 1 ∣ 1 - d * d := by
  obtain ⟨k, rfl⟩ : ∃ k, d = 2 * k + 1 := ⟨d / 2, by omega⟩
  exact ⟨-(2 * k * k + 2 * k), by grind⟩
end Lm
end

section
namespace Lm
/-- moved right by less than a word -/
def shr (B p : Int) : List Int → List Int
  | [] => []
  | w :: r => (r.headD 0 * B + w) / p % B :: shr B p r
theorem shr_len {B p : Int} : ∀ {ws : List Int}, (shr B p ws).length = ws.length
  | [] => rfl
  | w :: r => by simp [shr, shr_len]
theorem shr_wok {B p : Int} (hB : 0 < B) : ∀ {ws : List Int}, Wok B (shr B p ws)
  | [] => Wok.nil
  | w :: r => wok_cons.mpr ⟨⟨Int.emod_nonneg _ (by omega), Int.emod_lt_of_pos _ hB⟩, shr_wok hB⟩
theorem head_mod {B p c : Int} (hB : B = p * c) (hp : 0 < p) (hc : 0 < c) : ∀ {r : List Int}, Wok B r → r.headD 0 % p = num B r % p
  | [], _ => by simp [num]
  | w :: r, _ => by
    show w % p = (w + B * num B r) % p
    rw [hB, Int.mul_assoc, Int.add_mul_emod_self_left]
theorem shr_num {B p c : Int} (hB : B = p * c) (hp : 0 < p) (hc : 0 < c) : ∀ {ws : List Int}, Wok B ws → num B (shr B p ws) = num B ws / p
  | [], _ => by simp [shr, num]
  | w :: r, h => by
    obtain ⟨h1, h2⟩ := wok_cons.mp h
    have ih := shr_num hB hp hc h2
    have hm := head_mod hB hp hc h2
    show (r.headD 0 * B + w) / p % B + B * num B (shr B p r) = (w + B * num B r) / p
    rw [ih]
    have hh := Int.emod_add_mul_ediv (r.headD 0) p
    have hn := Int.emod_add_mul_ediv (num B r) p
    have m0 := Int.emod_nonneg (r.headD 0) (show p ≠ 0 by omega)
    have m1 := Int.emod_lt_of_pos (r.headD 0) hp
    rw [← hm] at hn
    generalize r.headD 0 % p = t at *
    generalize r.headD 0 / p = u at *
    generalize num B r / p = v at *
    generalize num B r = N at *
    generalize r.headD 0 = z at *
    have w0 : 0 ≤ w / p := Int.ediv_nonneg h1.1 (by omega)
    have w1 : w / p < c := Int.ediv_lt_of_lt_mul hp (by rw [Int.mul_comm]; omega)
    have e1 : (z * B + w) / p = z * c + w / p := by
      rw [hB, show z * (p * c) + w = w + p * (z * c) by grind, Int.add_mul_ediv_left _ _ (by omega)]
      omega
    have e2 : (w + B * N) / p = w / p + c * N := by
      rw [hB, Int.mul_assoc, Int.add_mul_ediv_left _ _ (by omega)]
    rw [e1, e2]
    have b1 : 0 ≤ t * c := Int.mul_nonneg m0 (by omega)
    have b2 : (t + 1) * c ≤ p * c := Int.mul_le_mul_of_nonneg_right (by omega) (by omega)
    have b3 : (t + 1) * c = t * c + c := by grind
    have e3 : (z * c + w / p) % B = t * c + w / p := by
      refine (divmod_of (q := u) ?_ (by omega) (by omega)).2
      rw [hB, ← hh]
      grind
    rw [e3, hB, ← hn]
    grind
theorem num_low {B p c : Int} (hB : B = p * c) {ws : List Int} : num B ws % p = ws.getD 0 0 % p := by
  cases ws with
  | nil => simp [num]
  | cons w r =>
    show (w + B * num B r) % p = w % p
    rw [hB, Int.mul_assoc, Int.add_mul_emod_self_left]
end Lm
end

section
namespace Lm
/-- the words of a gap -/
def sub (B : Int) : Int → List Int → List Int → List Int
  | _, [], _ => []
  | b, w :: r, ss => ((w - ss.headD 0) % B - b) % B :: sub B ((if w < ss.headD 0 then 1 else 0) + (if (w - ss.headD 0) % B < b then 1 else 0)) r ss.tail
theorem sub_len {B : Int} : ∀ {ws ss : List Int} {b : Int}, (sub B b ws ss).length = ws.length
  | [], _, _ => rfl
  | w :: r, ss, b => by simp [sub, sub_len]
theorem sub_wok {B : Int} (hB : 0 < B) : ∀ {ws ss : List Int} {b : Int}, Wok B (sub B b ws ss)
  | [], _, _ => Wok.nil
  | w :: r, ss, b => wok_cons.mpr ⟨⟨Int.emod_nonneg _ (by omega), Int.emod_lt_of_pos _ hB⟩, sub_wok hB⟩
theorem sub_step {B w s b : Int} (hB : 1 < B) (w0 : 0 ≤ w) (w1 : w < B) (s0 : 0 ≤ s) (s1 : s < B) (b0 : 0 ≤ b) (b1 : b ≤ 1) :
    ((w - s) % B - b) % B = w - s - b + B * ((if w < s then 1 else 0) + (if (w - s) % B < b then 1 else 0)) ∧ 0 ≤ (if w < s then (1 : Int) else 0) + (if (w - s) % B < b then 1 else 0) ∧ (if w < s then (1 : Int) else 0) + (if (w - s) % B < b then 1 else 0) ≤ 1 := by
  have e1 : (w - s) % B = if w < s then w - s + B else w - s := by
    split
    · exact (divmod_of (q := -1) (by omega) (by omega) (by omega)).2
    · exact Int.emod_eq_of_lt (by omega) (by omega)
  have e2 : ((w - s) % B - b) % B = if (w - s) % B < b then (w - s) % B - b + B else (w - s) % B - b := by
    have p0 := Int.emod_nonneg (w - s) (show B ≠ 0 by omega)
    have p1 := Int.emod_lt_of_pos (w - s) (show 0 < B by omega)
    split
    · exact (divmod_of (q := -1) (by omega) (by omega) (by omega)).2
    · exact Int.emod_eq_of_lt (by omega) (by omega)
  rw [e2, e1]
  by_cases c : w < s
  · simp only [if_pos c]
    by_cases c2 : w - s + B < b
    · simp only [if_pos c2]; omega
    · simp only [if_neg c2]; omega
  · simp only [if_neg c]
    by_cases c2 : w - s < b
    · simp only [if_pos c2]; omega
    · simp only [if_neg c2]; omega
theorem sub_num {B : Int} (hB : 1 < B) : ∀ {ws ss : List Int} {b : Int}, Wok B ws → Wok B ss → ss.length ≤ ws.length → 0 ≤ b → b ≤ 1 → ∃ f, 0 ≤ f ∧ f ≤ 1 ∧ num B (sub B b ws ss) = num B ws - num B ss - b + B ^ ws.length * f
  | [], ss, b, _, _, hl, b0, b1 => by
    have : ss = [] := List.length_eq_zero_iff.mp (by simpa using hl)
    subst this
    exact ⟨b, b0, b1, by simp [sub, num]; omega⟩
  | w :: r, ss, b, hw, hs, hl, b0, b1 => by
    obtain ⟨h1, h2⟩ := wok_cons.mp hw
    have sh : (0 ≤ ss.headD 0 ∧ ss.headD 0 < B) ∧ Wok B ss.tail ∧ ss.tail.length ≤ r.length ∧ num B ss = ss.headD 0 + B * num B ss.tail := by
      cases ss with
      | nil => exact ⟨⟨Int.le_refl 0, by show (0 : Int) < B; omega⟩, Wok.nil, Nat.zero_le _, by simp [num]⟩
      | cons s t =>
        obtain ⟨q1, q2⟩ := wok_cons.mp hs
        exact ⟨q1, q2, by simpa using hl, rfl⟩
    obtain ⟨s1, s2, s3, s4⟩ := sh
    obtain ⟨k1, k2, k3⟩ := sub_step (b := b) hB h1.1 h1.2 s1.1 s1.2 b0 b1
    obtain ⟨f, f0, f1, e⟩ := sub_num hB (ws := r) (ss := ss.tail) h2 s2 s3 k2 k3
    refine ⟨f, f0, f1, ?_⟩
    show ((w - ss.headD 0) % B - b) % B + B * num B (sub B _ r ss.tail) = w + B * num B r - num B ss - b + B ^ (r.length + 1) * f
    rw [e, k1, s4, Int.pow_succ]
    generalize (if w < ss.headD 0 then (1 : Int) else 0) + (if (w - ss.headD 0) % B < b then 1 else 0) = z
    generalize B ^ r.length = P
    grind
theorem sub_eq {B : Int} (hB : 1 < B) {ws ss : List Int} (hw : Wok B ws) (hs : Wok B ss) (hl : ss.length ≤ ws.length) (h : num B ss ≤ num B ws) : num B (sub B 0 ws ss) = num B ws - num B ss := by
  obtain ⟨f, f0, f1, e⟩ := sub_num hB hw hs hl (Int.le_refl 0) (by omega : (0 : Int) ≤ 1)
  have l1 := num_lt (by omega) (sub_wok (B := B) (by omega) (ws := ws) (ss := ss) (b := 0))
  rw [sub_len] at l1
  have hf : f = 0 := by
    by_cases c : f = 0
    · exact c
    · exfalso
      have : f = 1 := by omega
      subst this
      omega
  rw [e, hf]
  omega
end Lm
end

section
/-! Ar: a word divided by its reciprocal, in whole numbers. -/
namespace Ar
theorem mg_key {b d v u1 u0 k q1 q0 : Int} (hk : (b + v) * d = b * b - k) (hw : v * u1 + u1 * b + u0 = q1 * b + q0) : b * (u1 * b + u0 - (q1 + 1) * d) = u0 * (b - d) + k * u1 + q0 * d - b * d := by grind
theorem lt_of_mul {b x y : Int} (hb : 0 < b) (h : b * x < b * y) : x < y := Int.lt_of_mul_lt_mul_left h (by omega)
theorem le_of_mul {b x y : Int} (hb : 0 < b) (h : b * x ≤ b * y) : x ≤ y := Int.le_of_mul_le_mul_left h hb
theorem mg_bounds {b d v u1 u0 k q1 q0 : Int} (hb : 0 < b) (hd : 0 < d) (hd2 : d < b) (hk : (b + v) * d = b * b - k) (k1 : 1 ≤ k) (k2 : k ≤ d) (h1 : 0 ≤ u1) (h2 : u1 < d) (h3 : 0 ≤ u0) (h4 : u0 < b) (q2 : 0 ≤ q0) (q3 : q0 < b) (hw : v * u1 + u1 * b + u0 = q1 * b + q0) :
    -d ≤ u1 * b + u0 - (q1 + 1) * d ∧ q0 + 1 - b ≤ u1 * b + u0 - (q1 + 1) * d ∧ (u1 * b + u0 - (q1 + 1) * d < b - d ∨ u1 * b + u0 - (q1 + 1) * d < q0) := by
  have e := mg_key hk hw
  generalize u1 * b + u0 - (q1 + 1) * d = r at e ⊢
  have p1 : 0 ≤ u0 * (b - d) := Int.mul_nonneg h3 (by omega)
  have p2 : 0 ≤ k * u1 := Int.mul_nonneg (by omega) h1
  have p3 : 0 ≤ q0 * d := Int.mul_nonneg q2 (by omega)
  refine ⟨le_of_mul hb ?_, ?_, ?_⟩
  · have : b * -d = -(b * d) := by grind
    omega
  · have : q0 - b < r := by
      refine lt_of_mul hb ?_
      have p4 : 0 < (b - d) * (b - q0) := Int.mul_pos (by omega) (by omega)
      have : b * (q0 - b) = q0 * d - b * d - (b - d) * (b - q0) := by grind
      omega
    omega
  · have p5 : 0 ≤ (b - 1 - u0) * (b - d) := Int.mul_nonneg (by omega) (by omega)
    have p6 : 0 ≤ (d - k) * u1 := Int.mul_nonneg (by omega) h1
    have p7 : 0 ≤ d * (d - 1 - u1) := Int.mul_nonneg (by omega) (by omega)
    have up : b * r ≤ (b - 1) * (b - d) + d * (d - 1) + q0 * d - b * d := by grind
    by_cases c : q0 ≤ b - d
    · left
      refine lt_of_mul hb ?_
      have p8 : 0 ≤ (b - d - q0) * d := Int.mul_nonneg (by omega) (by omega)
      have : b * (b - d) = (b - 1) * (b - d) + d * (d - 1) + q0 * d - b * d + (b - d - q0) * d + b := by grind
      omega
    · right
      refine lt_of_mul hb ?_
      have p8 : 0 ≤ (q0 - (b - d)) * (b - d) := Int.mul_nonneg (by omega) (by omega)
      have : b * q0 = (b - 1) * (b - d) + d * (d - 1) + q0 * d - b * d + (q0 - (b - d)) * (b - d) + b := by grind
      omega
theorem divmod_of {n d q r : Int} (h : n = q * d + r) (h0 : 0 ≤ r) (h1 : r < d) : n / d = q ∧ n % d = r := by
  have hd : 0 < d := by omega
  have e : n = r + d * q := by grind
  rw [e]
  rw [Int.add_mul_ediv_left _ _ (by omega), Int.add_mul_emod_self_left, Int.ediv_eq_zero_of_lt h0 h1, Int.emod_eq_of_lt h0 h1]
  exact ⟨by omega, rfl⟩
/-- the five figures of one step -/
def guess (b v u1 u0 : Int) : Int := ((v * u1 + u1 * b + u0) / b + 1) % b
def r1 (b d v u1 u0 : Int) : Int := (u0 - guess b v u1 u0 * d) % b
def back (b d v u1 u0 : Int) : Int := if (v * u1 + u1 * b + u0) % b < r1 b d v u1 u0 then 1 else 0
def r2 (b d v u1 u0 : Int) : Int := (r1 b d v u1 u0 + back b d v u1 u0 * d) % b
def up (b d v u1 u0 : Int) : Int := if d ≤ r2 b d v u1 u0 then 1 else 0
def digit (b d v u1 u0 : Int) : Int := (guess b v u1 u0 - back b d v u1 u0 + up b d v u1 u0) % b
def rest (b d v u1 u0 : Int) : Int := r2 b d v u1 u0 - up b d v u1 u0 * d
theorem mg {b d v u1 u0 : Int} (hb : 0 < b) (hd : b ≤ 2 * d) (hd2 : d < b) (hv : v = (b * b - 1) / d - b) (h1 : 0 ≤ u1) (h2 : u1 < d) (h3 : 0 ≤ u0) (h4 : u0 < b) : digit b d v u1 u0 = (u1 * b + u0) / d ∧ rest b d v u1 u0 = (u1 * b + u0) % d := by
  have hd0 : 0 < d := by omega
  have dm := Int.mul_ediv_add_emod (b * b - 1) d
  have m0 := Int.emod_nonneg (b * b - 1) (show d ≠ 0 by omega)
  have m1 := Int.emod_lt_of_pos (b * b - 1) hd0
  have hk : (b + v) * d = b * b - ((b * b - 1) % d + 1) := by
    rw [hv]
    have : (b + ((b * b - 1) / d - b)) * d = d * ((b * b - 1) / d) := by grind
    omega
  generalize hq1 : (v * u1 + u1 * b + u0) / b = q1
  generalize hq0 : (v * u1 + u1 * b + u0) % b = q0
  have hw : v * u1 + u1 * b + u0 = q1 * b + q0 := by
    have := Int.mul_ediv_add_emod (v * u1 + u1 * b + u0) b
    rw [hq1, hq0] at this
    grind
  have q2 : 0 ≤ q0 := by rw [← hq0]; exact Int.emod_nonneg _ (by omega)
  have q3 : q0 < b := by rw [← hq0]; exact Int.emod_lt_of_pos _ hb
  obtain ⟨l1, l2, l3⟩ := mg_bounds hb hd0 hd2 hk (by omega) (by omega) h1 h2 h3 h4 q2 q3 hw
  have er1 : r1 b d v u1 u0 = (u1 * b + u0 - (q1 + 1) * d) % b := by
    unfold r1 guess
    rw [hq1]
    have eg := Int.mul_ediv_add_emod (q1 + 1) b
    have : u0 - (q1 + 1) % b * d = u1 * b + u0 - (q1 + 1) * d + b * ((q1 + 1) / b * d - u1) := by grind
    rw [this, Int.add_mul_emod_self_left]
  have nd : 0 ≤ (u1 * b + u0) / d ∧ (u1 * b + u0) / d < b := by
    refine ⟨Int.ediv_nonneg (by have := Int.mul_nonneg h1 (show 0 ≤ b by omega); omega) (by omega), Int.ediv_lt_of_lt_mul hd0 ?_⟩
    have := Int.mul_nonneg (show 0 ≤ d - 1 - u1 by omega) (show 0 ≤ b by omega)
    grind
  have fin : ∀ t : Int, (u1 * b + u0) / d = q1 + 1 - t → (guess b v u1 u0 - t) % b = (u1 * b + u0) / d := fun t ht => by
    unfold guess
    rw [hq1, Int.emod_sub_emod, ← ht, Int.emod_eq_of_lt nd.1 nd.2]
  generalize hr : u1 * b + u0 - (q1 + 1) * d = r at l1 l2 l3 er1
  have hN : u1 * b + u0 = (q1 + 1) * d + r := by omega
  unfold digit rest up r2 back
  rw [er1, hq0]
  by_cases c : r < 0
  · have e1 : r % b = r + b := by rw [← Int.add_emod_right, Int.emod_eq_of_lt (by omega) (by omega)]
    rw [e1, if_pos (by omega)]
    have e2 : (r + b + 1 * d) % b = r + d := by
      have : r + b + 1 * d = r + d + b * 1 := by omega
      rw [this, Int.add_mul_emod_self_left, Int.emod_eq_of_lt (by omega) (by omega)]
    rw [e2, if_neg (by omega)]
    obtain ⟨a1, a2⟩ := divmod_of (n := u1 * b + u0) (d := d) (q := q1 + 1 - 1) (r := r + d) (by rw [hN]; grind) (by omega) (by omega)
    refine ⟨?_, by omega⟩
    rw [Int.add_zero]
    exact fin 1 a1
  · have e1 : r % b = r := Int.emod_eq_of_lt (by omega) (by omega)
    rw [e1]
    by_cases c2 : q0 < r
    · rw [if_pos c2]
      have e2 : (r + 1 * d) % b = r + d := by rw [Int.one_mul, Int.emod_eq_of_lt (by omega) (by omega)]
      rw [e2, if_pos (by omega)]
      obtain ⟨a1, a2⟩ := divmod_of (q := q1 + 1) (r := r) hN (by omega) (by omega)
      refine ⟨?_, by omega⟩
      have := fin 0 (by omega)
      rw [← this]
      congr 1
      omega
    · rw [if_neg c2]
      have e2 : (r + 0 * d) % b = r := by rw [Int.zero_mul, Int.add_zero]; exact e1
      rw [e2]
      by_cases c3 : d ≤ r
      · rw [if_pos c3]
        obtain ⟨a1, a2⟩ := divmod_of (n := u1 * b + u0) (d := d) (q := q1 + 1 + 1) (r := r - d) (by rw [hN]; grind) (by omega) (by omega)
        refine ⟨?_, by omega⟩
        have := fin (-1) (by omega)
        rw [← this]
        congr 1
        omega
      · rw [if_neg c3]
        obtain ⟨a1, a2⟩ := divmod_of (q := q1 + 1) (r := r) hN (by omega) (by omega)
        refine ⟨?_, by omega⟩
        have := fin 0 (by omega)
        rw [← this]
        congr 1
        omega
end Ar
end

section
namespace Ab
open PySem PySem.Spec PyProof.Rows L2
/-! ### _law_long: 0 box, 1 width, 2 most, 3 found, 4 ends, 5 k -/
def w_law_long_1 (K : PySem.W.Frag) : WS :=
  (sRet (wVar 3))
def w_law_long_2 (K : PySem.W.Frag) : WS :=
  (sSeq (sIf (wAnd (wIsB (wOp oNe (wVar 3) (wLst true wNil))) (wIsB (wOp oEq (wOp oIdx (wVar 3) (wNeg (wCon (.int 1)))) (wCon (.int 0))))) (sAsg (gSubL (wVar 3) (wNeg (wCon (.int 1)))) (wOp (oAdd true) (wCon (.int 1)) (wCall 2 (sp_law_take K) (wCons (wVar 0) (wCons (wOp oSub (wOp oShl (wCon (.int 1)) (wVar 1)) (wCon (.int 1))) wNil))))) sNil)
  (w_law_long_1 K))
def w_law_long_3 (K : PySem.W.Frag) : WS :=
  (sDrop (wMt "list" mAppend (wVar 3) (wCons (wIf (wIsB (wOp oEq (wCall 2 (sp_law_take K) (wCons (wVar 0) (wCons (wCon (.int 2)) wNil))) (wCon (.int 0)))) (wOp oIdx (wVar 4) (wCall 2 (sp_law_take K) (wCons (wVar 0) (wCons (wCon (.int 5)) wNil)))) (wCall 2 (sp_law_take K) (wCons (wVar 0) (wCons (wOp oShl (wCon (.int 1)) (wVar 1)) wNil)))) wNil)))
def w_law_long (K : PySem.W.Frag) : WS :=
  (sSeq (sPar [3, 4] (wCons (wLst false wNil) (wCons (wLst true (wCons (wCon (.int 0)) (wCons (wCon (.int 1)) (wCons (wOp oSub (wOp oShl (wCon (.int 1)) (wVar 1)) (wCon (.int 1))) (wCons (wOp oShl (wCon (.int 1)) (wOp oSub (wVar 1) (wCon (.int 1)))) (wCons (wOp oSub (wOp oShl (wCon (.int 1)) (wOp oSub (wVar 1) (wCon (.int 1)))) (wCon (.int 1))) wNil)))))) wNil)))
  (sSeq (sFor (iR1 (wCall 2 (sp_law_take K) (wCons (wVar 0) (wCons (wOp (oAdd true) (wVar 2) (wCon (.int 1))) wNil)))) (gN 5) (w_law_long_3 K))
  (w_law_long_2 K)))
def sp_law_long (K : PySem.W.Frag) : ASp := spOf 6 (w_law_long K)
/-! ### _law_divisor: 0 box, 1 width, 2 most, 3 some -/
def w_law_divisor (K : PySem.W.Frag) : WS :=
  (sSeq (sSet 2 (wOp oSub (wOp oShl (wCon (.int 1)) (wVar 1)) (wCon (.int 1))))
  (sSeq (sSet 3 (wLst true (wCons (wCon (.int 1)) (wCons (wCon (.int 2)) (wCons (wCon (.int 3)) (wCons (wVar 2) (wCons (wOp oSub (wVar 2) (wCon (.int 1))) (wCons (wOp oShl (wCon (.int 1)) (wOp oSub (wVar 1) (wCon (.int 1)))) (wCons (wOp (oAdd true) (wOp oShl (wCon (.int 1)) (wOp oSub (wVar 1) (wCon (.int 1)))) (wCon (.int 1))) (wCons (wOp oSub (wOp oShl (wCon (.int 1)) (wOp oSub (wVar 1) (wCon (.int 1)))) (wCon (.int 1))) (wCons (wIf (wIsB (wOp oGt (wVar 1) (wCon (.int 4)))) (wCon (.int 10)) (wCon (.int 5))) wNil)))))))))))
  (sRet (wIf (wIsB (wOp oEq (wCall 2 (sp_law_take K) (wCons (wVar 0) (wCons (wCon (.int 2)) wNil))) (wCon (.int 0)))) (wOp oIdx (wVar 3) (wCall 2 (sp_law_take K) (wCons (wVar 0) (wCons (wCon (.int 9)) wNil)))) (wOp (oAdd false) (wCon (.int 1)) (wCall 2 (sp_law_take K) (wCons (wVar 0) (wCons (wVar 2) wNil))))))))
def sp_law_divisor (K : PySem.W.Frag) : ASp := spOf 4 (w_law_divisor K)
/-! ### _law_words: 0 number, 1 width, 2 found, 3 turn -/
def w_law_words_1 (K : PySem.W.Frag) : WS :=
  (sRet (wVar 2))
def w_law_words_2 (K : PySem.W.Frag) : WS :=
  (sIf (wIsB (wOp oGt (wVar 0) (wCon (.int 0)))) (sSeq (sDrop (wMt "list" mAppend (wVar 2) (wCons (wOp oMod (wCB cInt (wCons (wVar 0) wNil)) (wOp oShl (wCon (.int 1)) (wVar 1))) wNil)))
  (sSet 0 (wOp oDiv (wVar 0) (wOp oShl (wCon (.int 1)) (wVar 1))))) sNil)
def w_law_words (K : PySem.W.Frag) : WS :=
  (sSeq (sSet 2 (wLst false wNil))
  (sSeq (sFor (iR1 (wCon (.int 4000))) (gN 3) (w_law_words_2 K))
  (w_law_words_1 K)))
def sp_law_words (K : PySem.W.Frag) : ASp := spOf 4 (w_law_words K)
/-! ### _law_number: 0 words, 1 width, 2 found, 3 word -/
def w_law_number_1 (K : PySem.W.Frag) : WS :=
  (sRet (wVar 2))
def w_law_number_2 (K : PySem.W.Frag) : WS :=
  (sSet 2 (wOp (oAdd true) (wOp (oMul true) (wVar 2) (wOp oShl (wCon (.int 1)) (wVar 1))) (wVar 3)))
def w_law_number (K : PySem.W.Frag) : WS :=
  (sSeq (sSet 2 (wCon (.int 0)))
  (sSeq (sFor (iSeq (wRev true (wVar 0))) (gN 3) (w_law_number_2 K))
  (w_law_number_1 K)))
def sp_law_number (K : PySem.W.Frag) : ASp := spOf 4 (w_law_number K)
/-! ### _law_low: 0 width, 1 words, 2 d, 3 many, 4 rows, 5 carry, 6 by, 7 k, 8 word, 9 digit -/
def w_law_low_1 (K : PySem.W.Frag) : WS :=
  (sRet (wVar 4))
def w_law_low_2 (K : PySem.W.Frag) : WS :=
  (sSeq (sSet 9 (wOp oMod (wCB cInt (wCons (wOp (oMul true) (wCB cInt (wCons (wOp oSub (wVar 8) (wVar 5)) wNil)) (wVar 6)) wNil)) (wVar 3)))
  (sSeq (sSet 5 (wOp (oAdd true) (wOp oDiv (wOp (oMul true) (wVar 9) (wVar 2)) (wVar 3)) (wCB cInt (wCons (wOp oLt (wVar 8) (wVar 5)) wNil))))
  (sDrop (wMt "list" mAppend (wVar 4) (wCons (wTup (wCons (wVar 9) (wCons (wVar 5) wNil))) wNil)))))
def w_law_low_3 (K : PySem.W.Frag) : WS :=
  (sSeq (sFor (iSeq (wVar 1)) (gN 8) (w_law_low_2 K))
  (w_law_low_1 K))
def w_law_low_4 (K : PySem.W.Frag) : WS :=
  (sSet 6 (wOp oMod (wCB cInt (wCons (wOp (oMul true) (wVar 6) (wOp oSub (wCon (.int 2)) (wOp (oMul true) (wVar 2) (wVar 6)))) wNil)) (wVar 3)))
def w_law_low (K : PySem.W.Frag) : WS :=
  (sSeq (sPar [3, 4, 5] (wCons (wOp oShl (wCon (.int 1)) (wVar 0)) (wCons (wLst false wNil) (wCons (wCon (.int 0)) wNil))))
  (sSeq (sSet 6 (wCon (.int 1)))
  (sSeq (sFor (iR1 (wCon (.int 6))) (gN 7) (w_law_low_4 K))
  (w_law_low_3 K))))
def sp_law_low (K : PySem.W.Frag) : ASp := spOf 10 (w_law_low K)
/-! ### is_whole: 0 thing -/
def w_is_whole (K : PySem.W.Frag) : WS :=
  (sRet (wAndV (wCB (cIsi K) (wCons (wVar 0) (wCons (wCon (.raw (.ty "int"))) wNil))) (wNotV (wCB (cIsi K) (wCons (wVar 0) (wCons (wCon (.raw (.ty "bool"))) wNil))))))
def sp_is_whole (K : PySem.W.Frag) : ASp := spOf 1 (w_is_whole K)
/-! ### need_width: 0 width -/
def w_need_width (K : PySem.W.Frag) : WS :=
  (sIf (wOr (wNot (wTru (wCall 1 (sp_is_whole K) (wCons (wVar 0) wNil)))) (wNot (wIsB (wChain oLe oLe (wCon (.int 4)) (wVar 0) (wCon (.int 32)))))) (sRaise "NoWidth" ["found"] (wCons (wVar 0) wNil)) sNil)
def sp_need_width (K : PySem.W.Frag) : ASp := spOf 1 (w_need_width K)
/-! ### is_long: 0 width, 1 thing, 2 word -/
def w_is_long_1 (K : PySem.W.Frag) : WS :=
  (sRet (wOrV (wOp oEq (wCB cLen (wCons (wVar 1) wNil)) (wCon (.int 0))) (wOp oNe (wOp oIdx (wVar 1) (wNeg (wCon (.int 1)))) (wCon (.int 0)))))
def w_is_long_2 (K : PySem.W.Frag) : WS :=
  (sIf (wOr (wNot (wTru (wCall 1 (sp_is_whole K) (wCons (wVar 2) wNil)))) (wOr (wIsB (wOp oLt (wVar 2) (wCon (.int 0)))) (wIsB (wOp oGt (wOp oShr (wVar 2) (wVar 0)) (wCon (.int 0)))))) (sRet (wCon (.bl false))) sNil)
def w_is_long_3 (K : PySem.W.Frag) : WS :=
  (sSeq (sFor (iSeq (wVar 1)) (gN 2) (w_is_long_2 K))
  (w_is_long_1 K))
def w_is_long (K : PySem.W.Frag) : WS :=
  (sSeq (sDrop (wCall 1 (sp_need_width K) (wCons (wVar 0) wNil)))
  (sSeq (sIf (wNot (wTru (wCB (cIsi K) (wCons (wVar 1) (wCons (wCon (.raw (.ty "list"))) wNil))))) (sRet (wCon (.bl false))) sNil)
  (w_is_long_3 K)))
def sp_is_long (K : PySem.W.Frag) : ASp := spOf 3 (w_is_long K)
/-! ### need_long: 0 width, 1 thing -/
def w_need_long_1 (K : PySem.W.Frag) : WS :=
  (sRet (wCB (cList false) (wCons (wVar 1) wNil)))
def w_need_long (K : PySem.W.Frag) : WS :=
  (sSeq (sIf (wNot (wTru (wCall 2 (sp_is_long K) (wCons (wVar 0) (wCons (wVar 1) wNil))))) (sRaise "NoLong" ["found"] (wCons (wVar 1) wNil)) sNil)
  (w_need_long_1 K))
def sp_need_long (K : PySem.W.Frag) : ASp := spOf 2 (w_need_long K)
/-! ### is_between: 0 number, 1 least, 2 greatest -/
def w_is_between (K : PySem.W.Frag) : WS :=
  (sRet (wAndV (wCall 1 (sp_is_whole K) (wCons (wVar 0) wNil)) (wChain oLe oLe (wVar 1) (wVar 0) (wVar 2))))
def sp_is_between (K : PySem.W.Frag) : ASp := spOf 3 (w_is_between K)
/-! ### need_divisor: 0 width, 1 d -/
def w_need_divisor (K : PySem.W.Frag) : WS :=
  (sSeq (sDrop (wCall 1 (sp_need_width K) (wCons (wVar 0) wNil)))
  (sIf (wNot (wTru (wCall 3 (sp_is_between K) (wCons (wVar 1) (wCons (wCon (.int 1)) (wCons (wOp oSub (wOp oShl (wCon (.int 1)) (wVar 0)) (wCon (.int 1))) wNil)))))) (sRaise "NoDivisor" ["found"] (wCons (wVar 1) wNil)) sNil))
def sp_need_divisor (K : PySem.W.Frag) : ASp := spOf 2 (w_need_divisor K)
/-! ### need_odd: 0 width, 1 d -/
def w_need_odd (K : PySem.W.Frag) : WS :=
  (sSeq (sDrop (wCall 2 (sp_need_divisor K) (wCons (wVar 0) (wCons (wVar 1) wNil))))
  (sIf (wIsB (wOp oEq (wOp oAnd (wVar 1) (wCon (.int 1))) (wCon (.int 0)))) (sRaise "NoDivisor" ["found"] (wCons (wVar 1) wNil)) sNil))
def sp_need_odd (K : PySem.W.Frag) : ASp := spOf 2 (w_need_odd K)
/-! ### cut: 0 width, 1 number -/
def w_cut (K : PySem.W.Frag) : WS :=
  (sRet (wOp oAnd (wVar 1) (wOp oSub (wOp oShl (wCon (.int 1)) (wVar 0)) (wCon (.int 1)))))
def sp_cut (K : PySem.W.Frag) : ASp := spOf 2 (w_cut K)
/-! ### low_product: 0 width, 1 a, 2 b -/
def w_low_product (K : PySem.W.Frag) : WS :=
  (sSeq (sDrop (wCall 1 (sp_need_width K) (wCons (wVar 0) wNil)))
  (sRet (wCall 2 (sp_cut K) (wCons (wVar 0) (wCons (wOp (oMul true) (wVar 1) (wVar 2)) wNil)))))
def sp_low_product (K : PySem.W.Frag) : ASp := spOf 3 (w_low_product K)
/-! ### gap_of: 0 width, 1 a, 2 b -/
def w_gap_of (K : PySem.W.Frag) : WS :=
  (sSeq (sDrop (wCall 1 (sp_need_width K) (wCons (wVar 0) wNil)))
  (sRet (wTup (wCons (wCall 2 (sp_cut K) (wCons (wVar 0) (wCons (wOp oSub (wVar 1) (wVar 2)) wNil))) (wCons (wCB cInt (wCons (wOp oLt (wVar 1) (wVar 2)) wNil)) wNil)))))
def sp_gap_of (K : PySem.W.Frag) : ASp := spOf 3 (w_gap_of K)
/-! ### inverse_steps: 0 width, 1 d, 2 steps, 3 product -/
def w_inverse_steps_1 (K : PySem.W.Frag) : WS :=
  (sRet (wVar 2))
def w_inverse_steps_2 (K : PySem.W.Frag) : WS :=
  (sSeq (sDrop (wMt "list" mAppend (wVar 2) (wCons (wCall 3 (sp_low_product K) (wCons (wVar 0) (wCons (wOp oIdx (wVar 2) (wNeg (wCon (.int 1)))) (wCons (wOp oIdx (wCall 3 (sp_gap_of K) (wCons (wVar 0) (wCons (wCon (.int 2)) (wCons (wVar 3) wNil)))) (wCon (.int 0))) wNil)))) wNil)))
  (sSet 3 (wCall 3 (sp_low_product K) (wCons (wVar 0) (wCons (wOp oIdx (wVar 2) (wNeg (wCon (.int 1)))) (wCons (wVar 1) wNil))))))
def w_inverse_steps_3 (K : PySem.W.Frag) : WS :=
  (sSeq (sSet 2 (wLst false (wCons (wVar 1) wNil)))
  (sSeq (sSet 3 (wCall 3 (sp_low_product K) (wCons (wVar 0) (wCons (wVar 1) (wCons (wVar 1) wNil)))))
  (sSeq (sWhile (wIsB (wOp oNe (wVar 3) (wCon (.int 1)))) (w_inverse_steps_2 K))
  (w_inverse_steps_1 K))))
def w_inverse_steps (K : PySem.W.Frag) : WS :=
  (sSeq (sDrop (wCall 2 (sp_need_divisor K) (wCons (wVar 0) (wCons (wVar 1) wNil))))
  (sSeq (sIf (wIsB (wOp oEq (wOp oAnd (wVar 1) (wCon (.int 1))) (wCon (.int 0)))) (sRaise "NoDivisor" ["found"] (wCons (wVar 1) wNil)) sNil)
  (w_inverse_steps_3 K)))
def sp_inverse_steps (K : PySem.W.Frag) : ASp := spOf 4 (w_inverse_steps K)
/-! ### inverse: 0 width, 1 d -/
def w_inverse (K : PySem.W.Frag) : WS :=
  (sRet (wOp oIdx (wCall 2 (sp_inverse_steps K) (wCons (wVar 0) (wCons (wVar 1) wNil))) (wNeg (wCon (.int 1)))))
def sp_inverse (K : PySem.W.Frag) : ASp := spOf 2 (w_inverse K)
/-! ### high_product: 0 width, 1 a, 2 b -/
def w_high_product (K : PySem.W.Frag) : WS :=
  (sSeq (sDrop (wCall 1 (sp_need_width K) (wCons (wVar 0) wNil)))
  (sRet (wOp oShr (wOp (oMul true) (wVar 1) (wVar 2)) (wVar 0))))
def sp_high_product (K : PySem.W.Frag) : ASp := spOf 3 (w_high_product K)
/-! ### low_rows: 0 width, 1 words, 2 d, 3 by, 4 carry, 5 rows, 6 word, 7 left, 8 borrow, 9 digit -/
def w_low_rows_1 (K : PySem.W.Frag) : WS :=
  (sRet (wVar 5))
def w_low_rows_2 (K : PySem.W.Frag) : WS :=
  (sSeq (sAsg (gT 2 (gs1 (gN 7) (gs1 (gN 8) gs0))) (wCall 3 (sp_gap_of K) (wCons (wVar 0) (wCons (wVar 6) (wCons (wVar 4) wNil)))))
  (sSeq (sSet 9 (wCall 3 (sp_low_product K) (wCons (wVar 0) (wCons (wVar 7) (wCons (wVar 3) wNil)))))
  (sSeq (sSet 4 (wOp (oAdd true) (wCall 3 (sp_high_product K) (wCons (wVar 0) (wCons (wVar 9) (wCons (wVar 2) wNil)))) (wVar 8)))
  (sDrop (wMt "list" mAppend (wVar 5) (wCons (wTup (wCons (wVar 9) (wCons (wVar 4) wNil))) wNil))))))
def w_low_rows (K : PySem.W.Frag) : WS :=
  (sSeq (sSet 3 (wCall 2 (sp_inverse K) (wCons (wVar 0) (wCons (wVar 2) wNil))))
  (sSeq (sPar [4, 5] (wCons (wCon (.int 0)) (wCons (wLst false wNil) wNil)))
  (sSeq (sFor (iSeq (wVar 1)) (gN 6) (w_low_rows_2 K))
  (w_low_rows_1 K))))
def sp_low_rows (K : PySem.W.Frag) : ASp := spOf 10 (w_low_rows K)
/-! ### low_divided: 0 width, 1 top, 2 d, 3 words -/
def w_low_divided (K : PySem.W.Frag) : WS :=
  (sSeq (sDrop (wCall 1 (sp_need_width K) (wCons (wVar 0) wNil)))
  (sSeq (sSet 3 (wCall 2 (sp_need_long K) (wCons (wVar 0) (wCons (wVar 1) wNil))))
  (sSeq (sDrop (wCall 2 (sp_need_odd K) (wCons (wVar 0) (wCons (wVar 2) wNil))))
  (sRet (wCall 3 (sp_low_rows K) (wCons (wVar 0) (wCons (wVar 3) (wCons (wVar 2) wNil))))))))
def sp_low_divided (K : PySem.W.Frag) : ASp := spOf 4 (w_low_divided K)
/-! ### twos_in: 0 d, 1 twos -/
def w_twos_in_1 (K : PySem.W.Frag) : WS :=
  (sRet (wVar 1))
def w_twos_in_2 (K : PySem.W.Frag) : WS :=
  (sAug 1 oIAdd (wCon (.int 1)))
def w_twos_in (K : PySem.W.Frag) : WS :=
  (sSeq (sSet 1 (wCon (.int 0)))
  (sSeq (sWhile (wIsB (wOp oEq (wOp oAnd (wOp oShr (wVar 0) (wVar 1)) (wCon (.int 1))) (wCon (.int 0)))) (w_twos_in_2 K))
  (w_twos_in_1 K)))
def sp_twos_in (K : PySem.W.Frag) : ASp := spOf 2 (w_twos_in K)
/-! ### exact: 0 width, 1 d, 2 twos -/
def w_exact (K : PySem.W.Frag) : WS :=
  (sSeq (sDrop (wCall 2 (sp_need_divisor K) (wCons (wVar 0) (wCons (wVar 1) wNil))))
  (sSeq (sSet 2 (wCall 1 (sp_twos_in K) (wCons (wVar 1) wNil)))
  (sRet (wTup (wCons (wVar 2) (wCons (wCall 2 (sp_inverse K) (wCons (wVar 0) (wCons (wOp oShr (wVar 1) (wVar 2)) wNil))) wNil))))))
def sp_exact (K : PySem.W.Frag) : ASp := spOf 3 (w_exact K)
/-! ### trimmed: 0 words, 1 last -/
def w_trimmed_1 (K : PySem.W.Frag) : WS :=
  (sRet (wSl false (wVar 0) wNoPart (wPart (wVar 1))))
def w_trimmed_2 (K : PySem.W.Frag) : WS :=
  (sAug 1 oSub (wCon (.int 1)))
def w_trimmed (K : PySem.W.Frag) : WS :=
  (sSeq (sSet 1 (wCB cLen (wCons (wVar 0) wNil)))
  (sSeq (sWhile (wAnd (wIsB (wOp oGt (wVar 1) (wCon (.int 0)))) (wIsB (wOp oEq (wOp oIdx (wVar 0) (wOp oSub (wVar 1) (wCon (.int 1)))) (wCon (.int 0))))) (w_trimmed_2 K))
  (w_trimmed_1 K)))
def sp_trimmed (K : PySem.W.Frag) : ASp := spOf 2 (w_trimmed K)
/-! ### word_at: 0 words, 1 place -/
def w_word_at_1 (K : PySem.W.Frag) : WS :=
  (sRet (wCon (.int 0)))
def w_word_at (K : PySem.W.Frag) : WS :=
  (sSeq (sIf (wIsB (wOp oLt (wVar 1) (wCB cLen (wCons (wVar 0) wNil)))) (sRet (wOp oIdx (wVar 0) (wVar 1))) sNil)
  (w_word_at_1 K))
def sp_word_at (K : PySem.W.Frag) : ASp := spOf 2 (w_word_at K)
/-! ### long_right: 0 width, 1 one, 2 many, 3 words, 4 places, 5 bits, 6 most, 7 found, 8 place, 9 both -/
def w_long_right_1 (K : PySem.W.Frag) : WS :=
  (sRet (wCall 1 (sp_trimmed K) (wCons (wVar 7) wNil)))
def w_long_right_2 (K : PySem.W.Frag) : WS :=
  (sSeq (sSet 9 (wOp oOr (wOp oShl (wCall 2 (sp_word_at K) (wCons (wVar 3) (wCons (wOp (oAdd true) (wVar 8) (wCon (.int 1))) wNil))) (wVar 0)) (wOp oIdx (wVar 3) (wVar 8))))
  (sDrop (wMt "list" mAppend (wVar 7) (wCons (wOp oAnd (wOp oShr (wVar 9) (wVar 5)) (wVar 6)) wNil))))
def w_long_right (K : PySem.W.Frag) : WS :=
  (sSeq (sSet 3 (wCall 2 (sp_need_long K) (wCons (wVar 0) (wCons (wVar 1) wNil))))
  (sSeq (sAsg (gT 2 (gs1 (gN 4) (gs1 (gN 5) gs0))) (wCB cDivmod (wCons (wVar 2) (wCons (wVar 0) wNil))))
  (sSeq (sSet 6 (wOp oSub (wOp oShl (wCon (.int 1)) (wVar 0)) (wCon (.int 1))))
  (sSeq (sSet 7 (wLst false wNil))
  (sSeq (sFor (iR2 (wVar 4) (wCB cLen (wCons (wVar 3) wNil))) (gN 8) (w_long_right_2 K))
  (w_long_right_1 K))))))
def sp_long_right (K : PySem.W.Frag) : ASp := spOf 10 (w_long_right K)
/-! ### divides_long: 0 width, 1 top, 2 d, 3 words, 4 twos, 5 rows -/
def w_divides_long_1 (K : PySem.W.Frag) : WS :=
  (sSeq (sSet 5 (wCall 3 (sp_low_rows K) (wCons (wVar 0) (wCons (wCall 3 (sp_long_right K) (wCons (wVar 0) (wCons (wVar 3) (wCons (wVar 4) wNil)))) (wCons (wOp oShr (wVar 2) (wVar 4)) wNil)))))
  (sRet (wOrV (wOp oEq (wVar 5) (wLst true wNil)) (wOp oEq (wOp oIdx (wOp oIdx (wVar 5) (wNeg (wCon (.int 1)))) (wCon (.int 1))) (wCon (.int 0))))))
def w_divides_long (K : PySem.W.Frag) : WS :=
  (sSeq (sDrop (wCall 1 (sp_need_width K) (wCons (wVar 0) wNil)))
  (sSeq (sSet 3 (wCall 2 (sp_need_long K) (wCons (wVar 0) (wCons (wVar 1) wNil))))
  (sSeq (sDrop (wCall 2 (sp_need_divisor K) (wCons (wVar 0) (wCons (wVar 2) wNil))))
  (sSeq (sSet 4 (wOp oIdx (wCall 2 (sp_exact K) (wCons (wVar 0) (wCons (wVar 2) wNil))) (wCon (.int 0))))
  (sSeq (sIf (wIsB (wOp oNe (wOp oAnd (wCall 2 (sp_word_at K) (wCons (wVar 3) (wCons (wCon (.int 0)) wNil))) (wOp oSub (wOp oShl (wCon (.int 1)) (wVar 4)) (wCon (.int 1)))) (wCon (.int 0)))) (sRet (wCon (.bl false))) sNil)
  (w_divides_long_1 K))))))
def sp_divides_long (K : PySem.W.Frag) : ASp := spOf 6 (w_divides_long K)
/-! ### exact_long: 0 width, 1 top, 2 d, 3 words, 4 twos, 5 rows, 6 digit, 7 carry -/
def w_exact_long_1 (K : PySem.W.Frag) : WS :=
  (sSeq (sSet 4 (wOp oIdx (wCall 2 (sp_exact K) (wCons (wVar 0) (wCons (wVar 2) wNil))) (wCon (.int 0))))
  (sSeq (sSet 5 (wCall 3 (sp_low_rows K) (wCons (wVar 0) (wCons (wCall 3 (sp_long_right K) (wCons (wVar 0) (wCons (wVar 3) (wCons (wVar 4) wNil)))) (wCons (wOp oShr (wVar 2) (wVar 4)) wNil)))))
  (sRet (wCall 1 (sp_trimmed K) (wCons (wLc true (iSeq (wVar 5)) [6, 7] (gT 2 (gs1 (gN 6) (gs1 (gN 7) gs0))) wYes (wVar 6)) wNil)))))
def w_exact_long (K : PySem.W.Frag) : WS :=
  (sSeq (sDrop (wCall 1 (sp_need_width K) (wCons (wVar 0) wNil)))
  (sSeq (sSet 3 (wCall 2 (sp_need_long K) (wCons (wVar 0) (wCons (wVar 1) wNil))))
  (sSeq (sDrop (wCall 2 (sp_need_divisor K) (wCons (wVar 0) (wCons (wVar 2) wNil))))
  (sSeq (sIf (wNot (wTru (wCall 3 (sp_divides_long K) (wCons (wVar 0) (wCons (wVar 3) (wCons (wVar 2) wNil)))))) (sRet (wCon .non)) sNil)
  (w_exact_long_1 K)))))
def sp_exact_long (K : PySem.W.Frag) : ASp := spOf 8 (w_exact_long K)
/-! ### compared: 0 one, 1 other, 2 place -/
def w_compared_1 (K : PySem.W.Frag) : WS :=
  (sRet (wCon (.int 0)))
def w_compared_2 (K : PySem.W.Frag) : WS :=
  (sIf (wIsB (wOp oNe (wOp oIdx (wVar 0) (wVar 2)) (wOp oIdx (wVar 1) (wVar 2)))) (sRet (wIf (wIsB (wOp oLt (wOp oIdx (wVar 0) (wVar 2)) (wOp oIdx (wVar 1) (wVar 2)))) (wNeg (wCon (.int 1))) (wCon (.int 1)))) sNil)
def w_compared_3 (K : PySem.W.Frag) : WS :=
  (sSeq (sFor (iR3 (wOp oSub (wCB cLen (wCons (wVar 0) wNil)) (wCon (.int 1))) (wNeg (wCon (.int 1))) (wNeg (wCon (.int 1)))) (gN 2) (w_compared_2 K))
  (w_compared_1 K))
def w_compared (K : PySem.W.Frag) : WS :=
  (sSeq (sIf (wIsB (wOp oNe (wCB cLen (wCons (wVar 0) wNil)) (wCB cLen (wCons (wVar 1) wNil)))) (sRet (wIf (wIsB (wOp oLt (wCB cLen (wCons (wVar 0) wNil)) (wCB cLen (wCons (wVar 1) wNil)))) (wNeg (wCon (.int 1))) (wCon (.int 1)))) sNil)
  (w_compared_3 K))
def sp_compared (K : PySem.W.Frag) : ASp := spOf 3 (w_compared K)
/-! ### same_rest: 0 width, 1 one, 2 other, 3 d, 4 first, 5 second, 6 gap, 7 borrow, 8 place, 9 word, 10 left, 11 once, 12 twice, 13 rows -/
def w_same_rest_1 (K : PySem.W.Frag) : WS :=
  (sSeq (sSet 13 (wCall 3 (sp_low_rows K) (wCons (wVar 0) (wCons (wCall 1 (sp_trimmed K) (wCons (wVar 6) wNil)) (wCons (wVar 3) wNil)))))
  (sRet (wOrV (wOp oEq (wVar 13) (wLst true wNil)) (wOp oEq (wOp oIdx (wOp oIdx (wVar 13) (wNeg (wCon (.int 1)))) (wCon (.int 1))) (wCon (.int 0))))))
def w_same_rest_2 (K : PySem.W.Frag) : WS :=
  (sSeq (sAsg (gT 2 (gs1 (gN 10) (gs1 (gN 11) gs0))) (wCall 3 (sp_gap_of K) (wCons (wVar 0) (wCons (wVar 9) (wCons (wCall 2 (sp_word_at K) (wCons (wVar 5) (wCons (wVar 8) wNil))) wNil)))))
  (sSeq (sAsg (gT 2 (gs1 (gN 10) (gs1 (gN 12) gs0))) (wCall 3 (sp_gap_of K) (wCons (wVar 0) (wCons (wVar 10) (wCons (wVar 7) wNil)))))
  (sSeq (sSet 7 (wOp (oAdd true) (wVar 11) (wVar 12)))
  (sDrop (wMt "list" mAppend (wVar 6) (wCons (wVar 10) wNil))))))
def w_same_rest_3 (K : PySem.W.Frag) : WS :=
  (sSeq (sPar [6, 7] (wCons (wLst false wNil) (wCons (wCon (.int 0)) wNil)))
  (sSeq (sFor (iEnumD (wVar 4)) (gT 2 (gs1 (gN 8) (gs1 (gN 9) gs0))) (w_same_rest_2 K))
  (w_same_rest_1 K)))
def w_same_rest (K : PySem.W.Frag) : WS :=
  (sSeq (sDrop (wCall 1 (sp_need_width K) (wCons (wVar 0) wNil)))
  (sSeq (sPar [4, 5] (wCons (wCall 2 (sp_need_long K) (wCons (wVar 0) (wCons (wVar 1) wNil))) (wCons (wCall 2 (sp_need_long K) (wCons (wVar 0) (wCons (wVar 2) wNil))) wNil)))
  (sSeq (sDrop (wCall 2 (sp_need_odd K) (wCons (wVar 0) (wCons (wVar 3) wNil))))
  (sSeq (sIf (wIsB (wOp oLt (wCall 2 (sp_compared K) (wCons (wVar 4) (wCons (wVar 5) wNil))) (wCon (.int 0)))) (sPar [4, 5] (wCons (wVar 5) (wCons (wVar 4) wNil))) sNil)
  (w_same_rest_3 K)))))
def sp_same_rest (K : PySem.W.Frag) : ASp := spOf 14 (w_same_rest K)
end Ab
end

section
namespace Ab
open PySem PySem.Spec PyProof.Rows L2
/-! ### need_high_divisor: 0 width, 1 d -/
def w_need_high_divisor (K : PySem.W.Frag) : WS :=
  (sSeq (sDrop (wCall 1 (sp_need_width K) (wCons (wVar 0) wNil)))
  (sIf (wOr (wNot (wTru (wCall 1 (sp_is_whole K) (wCons (wVar 1) wNil)))) (wIsB (wOp oNe (wOp oShr (wVar 1) (wOp oSub (wVar 0) (wCon (.int 1)))) (wCon (.int 1))))) (sRaise "NoDivisor" ["found"] (wCons (wVar 1) wNil)) sNil))
def sp_need_high_divisor (K : PySem.W.Frag) : ASp := spOf 2 (w_need_high_divisor K)
/-! ### need_word: 0 width, 1 thing -/
def w_need_word (K : PySem.W.Frag) : WS :=
  (sIf (wOr (wNot (wTru (wCall 1 (sp_is_whole K) (wCons (wVar 1) wNil)))) (wOr (wIsB (wOp oLt (wVar 1) (wCon (.int 0)))) (wIsB (wOp oGt (wOp oShr (wVar 1) (wVar 0)) (wCon (.int 0)))))) (sRaise "NoWord" ["found"] (wCons (wVar 1) wNil)) sNil)
def sp_need_word (K : PySem.W.Frag) : ASp := spOf 2 (w_need_word K)
/-! ### guess_rows: 0 width, 1 high, 2 low, 3 word, 4 rows, 5 rest, 6 k, 7 bit -/
def w_guess_rows_1 (K : PySem.W.Frag) : WS :=
  (sRet (wVar 4))
def w_guess_rows_2 (K : PySem.W.Frag) : WS :=
  (sDrop (wMt "list" mAppend (wVar 4) (wCons (wTup (wCons (wVar 7) (wCons (wVar 5) wNil))) wNil)))
def w_guess_rows_3 (K : PySem.W.Frag) : WS :=
  (sSeq (sSet 5 (wOp oOr (wOp oShl (wVar 5) (wCon (.int 1))) (wOp oAnd (wOp oShr (wVar 2) (wVar 6)) (wCon (.int 1)))))
  (sSeq (sSet 7 (wCon (.int 0)))
  (sSeq (sIf (wIsB (wOp oGe (wVar 5) (wVar 3))) (sSeq (sSet 7 (wCon (.int 1)))
  (sAug 5 oSub (wVar 3))) sNil)
  (w_guess_rows_2 K))))
def w_guess_rows_4 (K : PySem.W.Frag) : WS :=
  (sSeq (sSet 4 (wLst false wNil))
  (sSeq (sSet 5 (wVar 1))
  (sSeq (sFor (iR3 (wOp oSub (wVar 0) (wCon (.int 1))) (wNeg (wCon (.int 1))) (wNeg (wCon (.int 1)))) (gN 6) (w_guess_rows_3 K))
  (w_guess_rows_1 K))))
def w_guess_rows_5 (K : PySem.W.Frag) : WS :=
  (sSeq (sIf (wIsB (wOp oGt (wVar 1) (wVar 3))) (sRaise "NoWord" ["found"] (wCons (wVar 1) wNil)) sNil)
  (w_guess_rows_4 K))
def w_guess_rows (K : PySem.W.Frag) : WS :=
  (sSeq (sDrop (wCall 1 (sp_need_width K) (wCons (wVar 0) wNil)))
  (sSeq (sDrop (wCall 2 (sp_need_word K) (wCons (wVar 0) (wCons (wVar 1) wNil))))
  (sSeq (sDrop (wCall 2 (sp_need_word K) (wCons (wVar 0) (wCons (wVar 2) wNil))))
  (sSeq (sIf (wOr (wNot (wTru (wCall 1 (sp_is_whole K) (wCons (wVar 3) wNil)))) (wIsB (wOp oNe (wOp oShr (wVar 3) (wOp oSub (wVar 0) (wCon (.int 1)))) (wCon (.int 1))))) (sRaise "NoDivisor" ["found"] (wCons (wVar 3) wNil)) sNil)
  (w_guess_rows_5 K)))))
def sp_guess_rows (K : PySem.W.Frag) : ASp := spOf 8 (w_guess_rows K)
/-! ### guess_of: 0 width, 1 high, 2 low, 3 word, 4 guess, 5 bit, 6 rest -/
def w_guess_of_1 (K : PySem.W.Frag) : WS :=
  (sRet (wVar 4))
def w_guess_of_2 (K : PySem.W.Frag) : WS :=
  (sSet 4 (wOp oOr (wOp oShl (wVar 4) (wCon (.int 1))) (wVar 5)))
def w_guess_of (K : PySem.W.Frag) : WS :=
  (sSeq (sSet 4 (wCon (.int 0)))
  (sSeq (sFor (iSeq (wCall 4 (sp_guess_rows K) (wCons (wVar 0) (wCons (wVar 1) (wCons (wVar 2) (wCons (wVar 3) wNil)))))) (gT 2 (gs1 (gN 5) (gs1 (gN 6) gs0))) (w_guess_of_2 K))
  (w_guess_of_1 K)))
def sp_guess_of (K : PySem.W.Frag) : ASp := spOf 7 (w_guess_of K)
/-! ### reciprocal: 0 width, 1 d, 2 most -/
def w_reciprocal (K : PySem.W.Frag) : WS :=
  (sSeq (sDrop (wCall 2 (sp_need_high_divisor K) (wCons (wVar 0) (wCons (wVar 1) wNil))))
  (sSeq (sSet 2 (wOp oSub (wOp oShl (wCon (.int 1)) (wVar 0)) (wCon (.int 1))))
  (sRet (wCall 4 (sp_guess_of K) (wCons (wVar 0) (wCons (wOp oSub (wVar 2) (wVar 1)) (wCons (wVar 2) (wCons (wVar 1) wNil))))))))
def sp_reciprocal (K : PySem.W.Frag) : ASp := spOf 3 (w_reciprocal K)
/-! ### sum_of: 0 width, 1 a, 2 b -/
def w_sum_of (K : PySem.W.Frag) : WS :=
  (sSeq (sDrop (wCall 1 (sp_need_width K) (wCons (wVar 0) wNil)))
  (sRet (wTup (wCons (wCall 2 (sp_cut K) (wCons (wVar 0) (wCons (wOp (oAdd true) (wVar 1) (wVar 2)) wNil))) (wCons (wOp oShr (wOp (oAdd true) (wVar 1) (wVar 2)) (wVar 0)) wNil)))))
def sp_sum_of (K : PySem.W.Frag) : ASp := spOf 3 (w_sum_of K)
/-! ### digit_by: 0 width, 1 d, 2 v, 3 high, 4 low, 5 under, 6 carry, 7 guess, 8 rest, 9 back, 10 up, 11 digit -/
def w_digit_by_1 (K : PySem.W.Frag) : WS :=
  (sSeq (sSet 11 (wOp oIdx (wCall 3 (sp_sum_of K) (wCons (wVar 0) (wCons (wOp oIdx (wCall 3 (sp_gap_of K) (wCons (wVar 0) (wCons (wVar 7) (wCons (wVar 9) wNil)))) (wCon (.int 0))) (wCons (wVar 10) wNil)))) (wCon (.int 0))))
  (sRet (wTup (wCons (wVar 7) (wCons (wVar 9) (wCons (wVar 10) (wCons (wVar 11) (wCons (wVar 8) wNil))))))))
def w_digit_by_2 (K : PySem.W.Frag) : WS :=
  (sSeq (sSet 10 (wCB cInt (wCons (wOp oGe (wVar 8) (wVar 1)) wNil)))
  (sSeq (sIf (wIsB (wOp oEq (wVar 10) (wCon (.int 1)))) (sSet 8 (wOp oSub (wVar 8) (wVar 1))) sNil)
  (w_digit_by_1 K)))
def w_digit_by (K : PySem.W.Frag) : WS :=
  (sSeq (sAsg (gT 2 (gs1 (gN 5) (gs1 (gN 6) gs0))) (wCall 3 (sp_sum_of K) (wCons (wVar 0) (wCons (wCall 3 (sp_low_product K) (wCons (wVar 0) (wCons (wVar 2) (wCons (wVar 3) wNil)))) (wCons (wVar 4) wNil)))))
  (sSeq (sSet 7 (wOp oIdx (wCall 3 (sp_sum_of K) (wCons (wVar 0) (wCons (wOp oIdx (wCall 3 (sp_sum_of K) (wCons (wVar 0) (wCons (wCall 3 (sp_high_product K) (wCons (wVar 0) (wCons (wVar 2) (wCons (wVar 3) wNil)))) (wCons (wVar 3) wNil)))) (wCon (.int 0))) (wCons (wOp (oAdd true) (wVar 6) (wCon (.int 1))) wNil)))) (wCon (.int 0))))
  (sSeq (sSet 8 (wOp oIdx (wCall 3 (sp_gap_of K) (wCons (wVar 0) (wCons (wVar 4) (wCons (wCall 3 (sp_low_product K) (wCons (wVar 0) (wCons (wVar 7) (wCons (wVar 1) wNil)))) wNil)))) (wCon (.int 0))))
  (sSeq (sSet 9 (wCB cInt (wCons (wOp oGt (wVar 8) (wVar 5)) wNil)))
  (sSeq (sIf (wIsB (wOp oEq (wVar 9) (wCon (.int 1)))) (sSet 8 (wOp oIdx (wCall 3 (sp_sum_of K) (wCons (wVar 0) (wCons (wVar 8) (wCons (wVar 1) wNil)))) (wCon (.int 0)))) sNil)
  (w_digit_by_2 K))))))
def sp_digit_by (K : PySem.W.Frag) : ASp := spOf 12 (w_digit_by K)
/-! ### short_rows: 0 width, 1 words, 2 d, 3 v, 4 rest, 5 rows, 6 place, 7 row -/
def w_short_rows_1 (K : PySem.W.Frag) : WS :=
  (sRet (wVar 5))
def w_short_rows_2 (K : PySem.W.Frag) : WS :=
  (sSeq (sSet 7 (wCall 5 (sp_digit_by K) (wCons (wVar 0) (wCons (wVar 2) (wCons (wVar 3) (wCons (wVar 4) (wCons (wOp oIdx (wVar 1) (wVar 6)) wNil)))))))
  (sSeq (sDrop (wMt "list" mAppend (wVar 5) (wCons (wOp (oAdd true) (wTup (wCons (wVar 6) wNil)) (wVar 7)) wNil)))
  (sSet 4 (wOp oIdx (wVar 7) (wCon (.int 4))))))
def w_short_rows (K : PySem.W.Frag) : WS :=
  (sSeq (sSet 3 (wCall 2 (sp_reciprocal K) (wCons (wVar 0) (wCons (wVar 2) wNil))))
  (sSeq (sPar [4, 5] (wCons (wCon (.int 0)) (wCons (wLst false wNil) wNil)))
  (sSeq (sFor (iR3 (wOp oSub (wCB cLen (wCons (wVar 1) wNil)) (wCon (.int 1))) (wNeg (wCon (.int 1))) (wNeg (wCon (.int 1)))) (gN 6) (w_short_rows_2 K))
  (w_short_rows_1 K))))
def sp_short_rows (K : PySem.W.Frag) : ASp := spOf 8 (w_short_rows K)
/-! ### long_left: 0 width, 1 one, 2 many, 3 words, 4 places, 5 bits, 6 most, 7 found, 8 carry, 9 word, 10 both -/
def w_long_left_1 (K : PySem.W.Frag) : WS :=
  (sSeq (sDrop (wMt "list" mAppend (wVar 7) (wCons (wVar 8) wNil)))
  (sRet (wCall 1 (sp_trimmed K) (wCons (wVar 7) wNil))))
def w_long_left_2 (K : PySem.W.Frag) : WS :=
  (sSeq (sSet 10 (wOp oOr (wOp oShl (wVar 9) (wVar 5)) (wVar 8)))
  (sSeq (sDrop (wMt "list" mAppend (wVar 7) (wCons (wOp oAnd (wVar 10) (wVar 6)) wNil)))
  (sSet 8 (wOp oShr (wVar 10) (wVar 0)))))
def w_long_left (K : PySem.W.Frag) : WS :=
  (sSeq (sSet 3 (wCall 2 (sp_need_long K) (wCons (wVar 0) (wCons (wVar 1) wNil))))
  (sSeq (sAsg (gT 2 (gs1 (gN 4) (gs1 (gN 5) gs0))) (wCB cDivmod (wCons (wVar 2) (wCons (wVar 0) wNil))))
  (sSeq (sSet 6 (wOp oSub (wOp oShl (wCon (.int 1)) (wVar 0)) (wCon (.int 1))))
  (sSeq (sSet 7 (wOp (oMul false) (wLst true (wCons (wCon (.int 0)) wNil)) (wVar 4)))
  (sSeq (sSet 8 (wCon (.int 0)))
  (sSeq (sFor (iSeq (wVar 3)) (gN 9) (w_long_left_2 K))
  (w_long_left_1 K)))))))
def sp_long_left (K : PySem.W.Frag) : ASp := spOf 11 (w_long_left K)
/-! ### moved_words: 0 width, 1 words, 2 turn, 3 moved -/
def w_moved_words (K : PySem.W.Frag) : WS :=
  (sSeq (sSet 3 (wCall 3 (sp_long_left K) (wCons (wVar 0) (wCons (wVar 1) (wCons (wVar 2) wNil)))))
  (sRet (wOp (oAdd false) (wVar 3) (wOp (oMul true) (wLst true (wCons (wCon (.int 0)) wNil)) (wOp oSub (wOp (oAdd true) (wCB cLen (wCons (wVar 1) wNil)) (wCon (.int 1))) (wCB cLen (wCons (wVar 3) wNil)))))))
def sp_moved_words (K : PySem.W.Frag) : ASp := spOf 4 (w_moved_words K)
/-! ### short_divided: 0 width, 1 top, 2 d, 3 words, 4 turn, 5 rows, 6 digits, 7 row -/
def w_short_divided (K : PySem.W.Frag) : WS :=
  (sSeq (sDrop (wCall 1 (sp_need_width K) (wCons (wVar 0) wNil)))
  (sSeq (sSet 3 (wCall 2 (sp_need_long K) (wCons (wVar 0) (wCons (wVar 1) wNil))))
  (sSeq (sDrop (wCall 2 (sp_need_divisor K) (wCons (wVar 0) (wCons (wVar 2) wNil))))
  (sSeq (sSet 4 (wOp oSub (wVar 0) (wBits (wVar 2))))
  (sSeq (sSet 5 (wCall 3 (sp_short_rows K) (wCons (wVar 0) (wCons (wCall 3 (sp_moved_words K) (wCons (wVar 0) (wCons (wVar 3) (wCons (wVar 4) wNil)))) (wCons (wOp oShl (wVar 2) (wVar 4)) wNil)))))
  (sSeq (sSet 6 (wRev true (wLc true (iSeq (wVar 5)) [7] (gN 7) wYes (wOp oIdx (wVar 7) (wCon (.int 4))))))
  (sRet (wTup (wCons (wCall 1 (sp_trimmed K) (wCons (wVar 6) wNil)) (wCons (wOp oShr (wOp oIdx (wOp oIdx (wVar 5) (wNeg (wCon (.int 1)))) (wCon (.int 5))) (wVar 4)) (wCons (wVar 5) wNil)))))))))))
def sp_short_divided (K : PySem.W.Frag) : ASp := spOf 8 (w_short_divided K)
/-! ### two_longs: 0 width, 1 one, 2 other, 3 first -/
def w_two_longs (K : PySem.W.Frag) : WS :=
  (sSeq (sSet 3 (wCall 2 (sp_need_long K) (wCons (wVar 0) (wCons (wVar 1) wNil))))
  (sRet (wTup (wCons (wVar 3) (wCons (wCall 2 (sp_need_long K) (wCons (wVar 0) (wCons (wVar 2) wNil))) wNil)))))
def sp_two_longs (K : PySem.W.Frag) : ASp := spOf 4 (w_two_longs K)
/-! ### steps_ahead: 0 width, 1 top, 2 bottom, 3 upper, 4 lower -/
def w_steps_ahead_1 (K : PySem.W.Frag) : WS :=
  (sRet (wCB cMax (wCons (wCon (.int 0)) (wCons (wOp (oAdd true) (wOp oSub (wCB cLen (wCons (wVar 3) wNil)) (wCB cLen (wCons (wVar 4) wNil))) (wCon (.int 1))) wNil))))
def w_steps_ahead (K : PySem.W.Frag) : WS :=
  (sSeq (sAsg (gT 2 (gs1 (gN 3) (gs1 (gN 4) gs0))) (wCall 3 (sp_two_longs K) (wCons (wVar 0) (wCons (wVar 1) (wCons (wVar 2) wNil)))))
  (sSeq (sIf (wIsB (wOp oEq (wCB cLen (wCons (wVar 4) wNil)) (wCon (.int 0)))) sBad sNil)
  (w_steps_ahead_1 K)))
def sp_steps_ahead (K : PySem.W.Frag) : ASp := spOf 5 (w_steps_ahead K)
/-! ### turn_of: 0 width, 1 bottom, 2 words -/
def w_turn_of_1 (K : PySem.W.Frag) : WS :=
  (sRet (wOp oSub (wVar 0) (wBits (wOp oIdx (wVar 2) (wNeg (wCon (.int 1)))))))
def w_turn_of (K : PySem.W.Frag) : WS :=
  (sSeq (sSet 2 (wCall 2 (sp_need_long K) (wCons (wVar 0) (wCons (wVar 1) wNil))))
  (sSeq (sIf (wIsB (wOp oEq (wCB cLen (wCons (wVar 2) wNil)) (wCon (.int 0)))) sBad sNil)
  (w_turn_of_1 K)))
def sp_turn_of (K : PySem.W.Frag) : ASp := spOf 3 (w_turn_of K)
/-! ### guess_at: 0 width, 1 ahead, 2 lower, 3 size -/
def w_guess_at (K : PySem.W.Frag) : WS :=
  (sSeq (sSet 3 (wCB cLen (wCons (wVar 2) wNil)))
  (sRet (wCall 4 (sp_guess_of K) (wCons (wVar 0) (wCons (wCall 2 (sp_word_at K) (wCons (wVar 1) (wCons (wVar 3) wNil))) (wCons (wCall 2 (sp_word_at K) (wCons (wVar 1) (wCons (wOp oSub (wVar 3) (wCon (.int 1))) wNil))) (wCons (wOp oIdx (wVar 2) (wNeg (wCon (.int 1)))) wNil)))))))
def sp_guess_at (K : PySem.W.Frag) : ASp := spOf 4 (w_guess_at K)
/-! ### by_word: 0 width, 1 words, 2 word, 3 found, 4 carry, 5 part, 6 low, 7 more -/
def w_by_word_1 (K : PySem.W.Frag) : WS :=
  (sSeq (sDrop (wMt "list" mAppend (wVar 3) (wCons (wVar 4) wNil)))
  (sRet (wVar 3)))
def w_by_word_2 (K : PySem.W.Frag) : WS :=
  (sSeq (sAsg (gT 2 (gs1 (gN 6) (gs1 (gN 7) gs0))) (wCall 3 (sp_sum_of K) (wCons (wVar 0) (wCons (wCall 3 (sp_low_product K) (wCons (wVar 0) (wCons (wVar 5) (wCons (wVar 2) wNil)))) (wCons (wVar 4) wNil)))))
  (sSeq (sSet 4 (wOp (oAdd true) (wCall 3 (sp_high_product K) (wCons (wVar 0) (wCons (wVar 5) (wCons (wVar 2) wNil)))) (wVar 7)))
  (sDrop (wMt "list" mAppend (wVar 3) (wCons (wVar 6) wNil)))))
def w_by_word (K : PySem.W.Frag) : WS :=
  (sSeq (sSet 3 (wLst false wNil))
  (sSeq (sSet 4 (wCon (.int 0)))
  (sSeq (sFor (iSeq (wVar 1)) (gN 5) (w_by_word_2 K))
  (w_by_word_1 K))))
def sp_by_word (K : PySem.W.Frag) : ASp := spOf 8 (w_by_word K)
/-! ### times_word: 0 width, 1 one, 2 word, 3 words -/
def w_times_word (K : PySem.W.Frag) : WS :=
  (sSeq (sSet 3 (wCall 2 (sp_need_long K) (wCons (wVar 0) (wCons (wVar 1) wNil))))
  (sSeq (sDrop (wCall 2 (sp_need_word K) (wCons (wVar 0) (wCons (wVar 2) wNil))))
  (sRet (wCall 1 (sp_trimmed K) (wCons (wCall 3 (sp_by_word K) (wCons (wVar 0) (wCons (wVar 3) (wCons (wVar 2) wNil)))) wNil)))))
def sp_times_word (K : PySem.W.Frag) : ASp := spOf 4 (w_times_word K)
/-! ### taken: 0 width, 1 one, 2 other, 3 words, 4 borrows_on, 5 borrow, 6 place, 7 word, 8 first, 9 second -/
def w_taken_1 (K : PySem.W.Frag) : WS :=
  (sRet (wTup (wCons (wVar 3) (wCons (wVar 4) wNil))))
def w_taken_2 (K : PySem.W.Frag) : WS :=
  (sSeq (sAsg (gT 2 (gs1 (gN 7) (gs1 (gN 8) gs0))) (wCall 3 (sp_gap_of K) (wCons (wVar 0) (wCons (wOp oIdx (wVar 1) (wVar 6)) (wCons (wCall 2 (sp_word_at K) (wCons (wVar 2) (wCons (wVar 6) wNil))) wNil)))))
  (sSeq (sAsg (gT 2 (gs1 (gN 7) (gs1 (gN 9) gs0))) (wCall 3 (sp_gap_of K) (wCons (wVar 0) (wCons (wVar 7) (wCons (wVar 5) wNil)))))
  (sSeq (sSet 5 (wOp (oAdd true) (wVar 8) (wVar 9)))
  (sSeq (sDrop (wMt "list" mAppend (wVar 3) (wCons (wVar 7) wNil)))
  (sDrop (wMt "list" mAppend (wVar 4) (wCons (wVar 5) wNil)))))))
def w_taken (K : PySem.W.Frag) : WS :=
  (sSeq (sSet 3 (wLst false wNil))
  (sSeq (sSet 4 (wLst false wNil))
  (sSeq (sSet 5 (wCon (.int 0)))
  (sSeq (sFor (iR1 (wCB cLen (wCons (wVar 1) wNil))) (gN 6) (w_taken_2 K))
  (w_taken_1 K)))))
def sp_taken (K : PySem.W.Frag) : ASp := spOf 10 (w_taken K)
/-! ### long_gap: 0 width, 1 one, 2 other, 3 first, 4 second -/
def w_long_gap_1 (K : PySem.W.Frag) : WS :=
  (sRet (wCall 1 (sp_trimmed K) (wCons (wOp oIdx (wCall 3 (sp_taken K) (wCons (wVar 0) (wCons (wVar 3) (wCons (wVar 4) wNil)))) (wCon (.int 0))) wNil)))
def w_long_gap (K : PySem.W.Frag) : WS :=
  (sSeq (sAsg (gT 2 (gs1 (gN 3) (gs1 (gN 4) gs0))) (wCall 3 (sp_two_longs K) (wCons (wVar 0) (wCons (wVar 1) (wCons (wVar 2) wNil)))))
  (sSeq (sIf (wIsB (wOp oLt (wCall 2 (sp_compared K) (wCons (wVar 3) (wCons (wVar 4) wNil))) (wCon (.int 0)))) sBad sNil)
  (w_long_gap_1 K)))
def sp_long_gap (K : PySem.W.Frag) : ASp := spOf 5 (w_long_gap K)
/-! ### digit_row: 0 width, 1 place, 2 ahead, 3 lower, 4 guess, 5 back, 6 due -/
def w_digit_row_1 (K : PySem.W.Frag) : WS :=
  (sRet (wTup (wCons (wVar 1) (wCons (wVar 4) (wCons (wVar 5) (wCons (wOp oSub (wVar 4) (wVar 5)) (wCons (wCall 3 (sp_long_gap K) (wCons (wVar 0) (wCons (wVar 2) (wCons (wVar 6) wNil)))) wNil)))))))
def w_digit_row_2 (K : PySem.W.Frag) : WS :=
  (sSeq (sAug 5 oIAdd (wCon (.int 1)))
  (sSet 6 (wCall 3 (sp_long_gap K) (wCons (wVar 0) (wCons (wVar 6) (wCons (wVar 3) wNil))))))
def w_digit_row (K : PySem.W.Frag) : WS :=
  (sSeq (sSet 4 (wCall 3 (sp_guess_at K) (wCons (wVar 0) (wCons (wVar 2) (wCons (wVar 3) wNil)))))
  (sSeq (sSet 5 (wCon (.int 0)))
  (sSeq (sSet 6 (wCall 3 (sp_times_word K) (wCons (wVar 0) (wCons (wVar 3) (wCons (wVar 4) wNil)))))
  (sSeq (sWhile (wIsB (wOp oLt (wCall 2 (sp_compared K) (wCons (wVar 2) (wCons (wVar 6) wNil))) (wCon (.int 0)))) (w_digit_row_2 K))
  (w_digit_row_1 K)))))
def sp_digit_row (K : PySem.W.Frag) : ASp := spOf 7 (w_digit_row K)
/-! ### moved_up: 0 rest, 1 word -/
def w_moved_up (K : PySem.W.Frag) : WS :=
  (sRet (wCall 1 (sp_trimmed K) (wCons (wOp (oAdd true) (wLst true (wCons (wVar 1) wNil)) (wVar 0)) wNil)))
def sp_moved_up (K : PySem.W.Frag) : ASp := spOf 2 (w_moved_up K)
/-! ### long_divided: 0 width, 1 top, 2 bottom, 3 steps, 4 turn, 5 upper, 6 lower, 7 rest, 8 rows, 9 digits, 10 place, 11 row -/
def w_long_divided_1 (K : PySem.W.Frag) : WS :=
  (sRet (wTup (wCons (wCall 1 (sp_trimmed K) (wCons (wRev true (wVar 9)) wNil)) (wCons (wCall 3 (sp_long_right K) (wCons (wVar 0) (wCons (wVar 7) (wCons (wVar 4) wNil)))) (wCons (wVar 8) wNil)))))
def w_long_divided_2 (K : PySem.W.Frag) : WS :=
  (sSeq (sSet 11 (wCall 4 (sp_digit_row K) (wCons (wVar 0) (wCons (wVar 10) (wCons (wCall 2 (sp_moved_up K) (wCons (wVar 7) (wCons (wOp oIdx (wVar 5) (wVar 10)) wNil))) (wCons (wVar 6) wNil))))))
  (sSeq (sDrop (wMt "list" mAppend (wVar 8) (wCons (wVar 11) wNil)))
  (sSeq (sDrop (wMt "list" mAppend (wVar 9) (wCons (wOp oIdx (wVar 11) (wCon (.int 3))) wNil)))
  (sSet 7 (wOp oIdx (wVar 11) (wCon (.int 4)))))))
def w_long_divided (K : PySem.W.Frag) : WS :=
  (sSeq (sSet 3 (wCall 3 (sp_steps_ahead K) (wCons (wVar 0) (wCons (wVar 1) (wCons (wVar 2) wNil)))))
  (sSeq (sSet 4 (wCall 2 (sp_turn_of K) (wCons (wVar 0) (wCons (wVar 2) wNil))))
  (sSeq (sSet 5 (wCall 3 (sp_long_left K) (wCons (wVar 0) (wCons (wVar 1) (wCons (wVar 4) wNil)))))
  (sSeq (sSet 6 (wCall 3 (sp_long_left K) (wCons (wVar 0) (wCons (wVar 2) (wCons (wVar 4) wNil)))))
  (sSeq (sSet 7 (wSl true (wVar 5) (wPart (wVar 3)) wNoPart))
  (sSeq (sSet 8 (wLst false wNil))
  (sSeq (sSet 9 (wLst false wNil))
  (sSeq (sFor (iR3 (wOp oSub (wVar 3) (wCon (.int 1))) (wNeg (wCon (.int 1))) (wNeg (wCon (.int 1)))) (gN 10) (w_long_divided_2 K))
  (w_long_divided_1 K)))))))))
def sp_long_divided (K : PySem.W.Frag) : ASp := spOf 12 (w_long_divided K)
/-! ### _law_digit: 0 width, 1 d, 2 high, 3 low, 4 many, 5 whole, 6 guess, 7 rest, 8 back, 9 up -/
def w_law_digit (K : PySem.W.Frag) : WS :=
  (sSeq (sSet 4 (wOp oShl (wCon (.int 1)) (wVar 0)))
  (sSeq (sSet 5 (wOp (oAdd true) (wOp (oAdd true) (wOp (oMul true) (wOp oSub (wOp oDiv (wOp oSub (wOp (oMul true) (wVar 4) (wVar 4)) (wCon (.int 1))) (wVar 1)) (wVar 4)) (wVar 2)) (wOp (oMul true) (wVar 2) (wVar 4))) (wVar 3)))
  (sSeq (sSet 6 (wOp oMod (wOp (oAdd true) (wOp oDiv (wVar 5) (wVar 4)) (wCon (.int 1))) (wVar 4)))
  (sSeq (sSet 7 (wOp oMod (wCB cInt (wCons (wOp oSub (wVar 3) (wOp (oMul true) (wVar 6) (wVar 1))) wNil)) (wVar 4)))
  (sSeq (sSet 8 (wCB cInt (wCons (wOp oGt (wVar 7) (wOp oMod (wCB cInt (wCons (wVar 5) wNil)) (wVar 4))) wNil)))
  (sSeq (sSet 7 (wOp oMod (wCB cInt (wCons (wOp (oAdd true) (wVar 7) (wOp (oMul true) (wVar 8) (wVar 1))) wNil)) (wVar 4)))
  (sSeq (sSet 9 (wCB cInt (wCons (wOp oGe (wVar 7) (wVar 1)) wNil)))
  (sRet (wTup (wCons (wVar 6) (wCons (wVar 8) (wCons (wVar 9) (wCons (wOp oMod (wCB cInt (wCons (wOp (oAdd true) (wOp oSub (wVar 6) (wVar 8)) (wVar 9)) wNil)) (wVar 4)) (wCons (wOp oSub (wVar 7) (wOp (oMul true) (wVar 9) (wVar 1))) wNil))))))))))))))
def sp_law_digit (K : PySem.W.Frag) : ASp := spOf 10 (w_law_digit K)
/-! ### _law_short: 0 width, 1 words, 2 d, 3 turn, 4 rows, 5 rest, 6 k, 7 moved, 8 by, 9 place, 10 row -/
def w_law_short_1 (K : PySem.W.Frag) : WS :=
  (sRet (wVar 4))
def w_law_short_2 (K : PySem.W.Frag) : WS :=
  (sSeq (sSet 10 (wCall 4 (sp_law_digit K) (wCons (wVar 0) (wCons (wVar 8) (wCons (wVar 5) (wCons (wOp oIdx (wVar 7) (wVar 9)) wNil))))))
  (sSeq (sDrop (wMt "list" mAppend (wVar 4) (wCons (wOp (oAdd true) (wTup (wCons (wVar 9) wNil)) (wVar 10)) wNil)))
  (sSet 5 (wOp oIdx (wVar 10) (wCon (.int 4))))))
def w_law_short_3 (K : PySem.W.Frag) : WS :=
  (sSeq (sPar [7, 8] (wCons (wCall 2 (sp_law_words K) (wCons (wOp (oMul true) (wCall 2 (sp_law_number K) (wCons (wVar 1) (wCons (wVar 0) wNil))) (wOp oShl (wCon (.int 1)) (wVar 3))) (wCons (wVar 0) wNil))) (wCons (wOp (oMul true) (wVar 2) (wOp oShl (wCon (.int 1)) (wVar 3))) wNil)))
  (sSeq (sSet 7 (wOp (oAdd true) (wVar 7) (wOp (oMul true) (wLst true (wCons (wCon (.int 0)) wNil)) (wOp oSub (wOp (oAdd true) (wCB cLen (wCons (wVar 1) wNil)) (wCon (.int 1))) (wCB cLen (wCons (wVar 7) wNil))))))
  (sSeq (sFor (iR3 (wCB cLen (wCons (wVar 1) wNil)) (wNeg (wCon (.int 1))) (wNeg (wCon (.int 1)))) (gN 9) (w_law_short_2 K))
  (w_law_short_1 K))))
def w_law_short_4 (K : PySem.W.Frag) : WS :=
  (sIf (wIsB (wOp oLt (wOp (oMul true) (wVar 2) (wOp oShl (wCon (.int 1)) (wVar 3))) (wOp oShl (wCon (.int 1)) (wOp oSub (wVar 0) (wCon (.int 1)))))) (sSet 3 (wOp (oAdd true) (wVar 3) (wCon (.int 1)))) sNil)
def w_law_short (K : PySem.W.Frag) : WS :=
  (sSeq (sPar [3, 4, 5] (wCons (wCon (.int 0)) (wCons (wLst false wNil) (wCons (wCon (.int 0)) wNil))))
  (sSeq (sFor (iR1 (wVar 0)) (gN 6) (w_law_short_4 K))
  (w_law_short_3 K)))
def sp_law_short (K : PySem.W.Frag) : ASp := spOf 11 (w_law_short K)
/-! ### summed: 0 width, 1 one, 2 other, 3 words, 4 carries_on, 5 carry, 6 place, 7 word, 8 first, 9 second -/
def w_summed_1 (K : PySem.W.Frag) : WS :=
  (sSeq (sDrop (wMt "list" mAppend (wVar 3) (wCons (wVar 5) wNil)))
  (sRet (wTup (wCons (wVar 3) (wCons (wVar 4) wNil)))))
def w_summed_2 (K : PySem.W.Frag) : WS :=
  (sSeq (sAsg (gT 2 (gs1 (gN 7) (gs1 (gN 8) gs0))) (wCall 3 (sp_sum_of K) (wCons (wVar 0) (wCons (wCall 2 (sp_word_at K) (wCons (wVar 1) (wCons (wVar 6) wNil))) (wCons (wCall 2 (sp_word_at K) (wCons (wVar 2) (wCons (wVar 6) wNil))) wNil)))))
  (sSeq (sAsg (gT 2 (gs1 (gN 7) (gs1 (gN 9) gs0))) (wCall 3 (sp_sum_of K) (wCons (wVar 0) (wCons (wVar 7) (wCons (wVar 5) wNil)))))
  (sSeq (sSet 5 (wOp (oAdd true) (wVar 8) (wVar 9)))
  (sSeq (sDrop (wMt "list" mAppend (wVar 3) (wCons (wVar 7) wNil)))
  (sDrop (wMt "list" mAppend (wVar 4) (wCons (wVar 5) wNil)))))))
def w_summed (K : PySem.W.Frag) : WS :=
  (sSeq (sSet 3 (wLst false wNil))
  (sSeq (sSet 4 (wLst false wNil))
  (sSeq (sSet 5 (wCon (.int 0)))
  (sSeq (sFor (iR1 (wCB cMax (wCons (wCB cLen (wCons (wVar 1) wNil)) (wCons (wCB cLen (wCons (wVar 2) wNil)) wNil)))) (gN 6) (w_summed_2 K))
  (w_summed_1 K)))))
def sp_summed (K : PySem.W.Frag) : ASp := spOf 10 (w_summed K)
/-! ### long_sum: 0 width, 1 one, 2 other, 3 first, 4 second -/
def w_long_sum (K : PySem.W.Frag) : WS :=
  (sSeq (sAsg (gT 2 (gs1 (gN 3) (gs1 (gN 4) gs0))) (wCall 3 (sp_two_longs K) (wCons (wVar 0) (wCons (wVar 1) (wCons (wVar 2) wNil)))))
  (sRet (wCall 1 (sp_trimmed K) (wCons (wOp oIdx (wCall 3 (sp_summed K) (wCons (wVar 0) (wCons (wVar 3) (wCons (wVar 4) wNil)))) (wCon (.int 0))) wNil))))
def sp_long_sum (K : PySem.W.Frag) : ASp := spOf 5 (w_long_sum K)
/-! ### back_again: 0 width, 1 quotient, 2 d, 3 rest, 4 words -/
def w_back_again (K : PySem.W.Frag) : WS :=
  (sSeq (sDrop (wCall 1 (sp_need_width K) (wCons (wVar 0) wNil)))
  (sSeq (sSet 4 (wCall 2 (sp_need_long K) (wCons (wVar 0) (wCons (wVar 1) wNil))))
  (sSeq (sDrop (wCall 2 (sp_need_word K) (wCons (wVar 0) (wCons (wVar 2) wNil))))
  (sSeq (sDrop (wCall 2 (sp_need_word K) (wCons (wVar 0) (wCons (wVar 3) wNil))))
  (sRet (wCall 3 (sp_long_sum K) (wCons (wVar 0) (wCons (wCall 3 (sp_times_word K) (wCons (wVar 0) (wCons (wVar 4) (wCons (wVar 2) wNil)))) (wCons (wCall 1 (sp_trimmed K) (wCons (wLst true (wCons (wVar 3) wNil)) wNil)) wNil)))))))))
def sp_back_again (K : PySem.W.Frag) : ASp := spOf 5 (w_back_again K)
end Ab
end

section
namespace Ab
open PySem PySem.Spec PyProof.Rows L2
local macro_rules | `(tactic| walk_at "ab") => `(tactic| simp only [sSeq_eq, sSet, sAsg, sAug, sDrop, sRet, sRetN, sIf, sNil, sRaise, gN, gT, gs0, gs1, gSubL, wVar, wCon, wNil, wCons, wOp, Ab.wTru, wIsB, isB_bl, wAnd, wOr, Ab.wNot, wIf, wOfT, wAndV, wOrV, wNotV, wTup, wLst, wNeg, wCB, wSl, wPart, wNoPart, newK_t, newK_f, look0, lookS, List.set_cons_zero, List.set_cons_succ, res_int, res_bl, res_str, res_non, res_lst, res_frl, res_tup, res_ty, res_set, mutL_set, tru_int, tru_bl, tru_non, List.map_cons, List.map_nil, oAdd, oSub, oMul, oDiv, oMod, oPow, oShl, oShr, oAnd, oOr, oXor, oIAdd, oIMul, oEq, oNe, oLt, oLe, oGt, oGe, oIs, oIsNot, oIdx, oSl, cInt, cAbs, cLen, cMax, cMin, cSum, cDivmod, cStr, cList, cTuple, cIsi, isi_ty, wMt, isT, mAppend, at0, at1, at2, at3, ex_some, ix40, ix43, setM_setM, wCall, Int.toNat_natCast, Int.one_mul, tn1, tn2, tn3, tn4, tn5, tn6, true_and, isNonD, tyD, true_implies, false_implies, Bool.true_eq_false, Bool.false_eq_true, and_true, decide_true, decide_false, Bool.not_true, Bool.not_false, wipeE, iR1, iR2, ity_NoneType_bool, ity_NoneType_int, ity_NoneType_str, ity_NoneType_list, ity_NoneType_tuple, ity_bool_bool, ity_bool_int, ity_bool_str, ity_bool_list, ity_bool_tuple, ity_int_bool, ity_int_int, ity_int_str, ity_int_list, ity_int_tuple, ity_str_bool, ity_str_int, ity_str_str, ity_str_list, ity_str_tuple, ity_list_bool, ity_list_int, ity_list_str, ity_list_list, ity_list_tuple, ity_tuple_bool, ity_tuple_int, ity_tuple_str, ity_tuple_list, ity_tuple_tuple])

/-! ### the plain part: words -/
section
variable {K : PySem.W.Frag} {m : Mem} {R : ARes → Mem → Prop} {W : Nat}
def whole : D → Bool
  | .int _ => true
  | _ => false
/-- a plain value -/
def pl : D → Bool
  | .non => true
  | .bl _ => true
  | .int _ => true
  | .str _ => true
  | .lst _ => true
  | .frl _ => true
  | .tup _ => true
  | .dct _ _ => true
  | _ => false
theorem len1 {d : D} : [d].length ≤ 1000 := Nat.le_of_ble_eq_true rfl
theorem p_is_whole {d : D} (hp : pl d = true) (h : R (.ret (.bl (whole d))) m) : sp_is_whole K [d] m R := by
  show w_is_whole K [some d] m _
  unfold w_is_whole
  cases d <;> first
    | (cases hp; done)
    | (walk_at "ab"
       exact ⟨_, _, GhD.refl, h⟩)
    | (refine ret_go (andv_go (cb_go (cons_go (var_go rfl (cons_go (con_go (nil_go (isi_F rfl rfl (if_f rfl ?_)))))))))
       exact ⟨_, _, GhD.refl, h⟩)
def NoWidth (d : D) : Exn := ⟨"NoWidth", ["found"], [d]⟩
def NoWord (d : D) : Exn := ⟨"NoWord", ["found"], [d]⟩
def NoDivisor (d : D) : Exn := ⟨"NoDivisor", ["found"], [d]⟩
def Wid (d : D) : Prop := ∃ i : Int, d = .int i ∧ 4 ≤ i ∧ i ≤ 32
theorem p_need_width {d : D} (hp : pl d = true) (h1 : Wid d → R (.ret .non) m) (h2 : ¬ Wid d → R (.exc (NoWidth d)) m) : sp_need_width K [d] m R := by
  show w_need_width K [some d] m _
  unfold w_need_width
  have bad : whole d = false → R (.exc (NoWidth d)) m := fun hw => h2 (by rintro ⟨i, rfl, _⟩; cases hw)
  walk_at "ab"
  refine ⟨rfl, p_is_whole hp ?_⟩
  cases hw : whole d with
  | false =>
    walk_at "ab"
    exact ⟨rfl, len1, bad hw⟩
  | true =>
    walk_at "ab"
    cases d with
    | int i =>
      simp only [wChain]
      walk_at "ab"
      by_cases a : 4 ≤ i
      · by_cases b : i ≤ 32
        · refine if_t (decide_eq_true a) ?_
          rw [decide_eq_true b]
          walk_at "ab"
          exact h1 ⟨i, rfl, a, b⟩
        · refine if_t (decide_eq_true a) ?_
          rw [decide_eq_false b]
          walk_at "ab"
          exact ⟨rfl, len1, h2 (by rintro ⟨j, e, _, z⟩; cases e; exact b z)⟩
      · refine if_f (decide_eq_false a) ?_
        exact ⟨rfl, len1, h2 (by rintro ⟨j, e, z, _⟩; cases e; exact a z)⟩
    | _ => cases hw
/-- between the bounds -/
structure Wd (W : Nat) : Prop where
  lo : 4 ≤ W
  hi : W ≤ 32
theorem Wd.wid (h : Wd W) : Wid (.int W) := ⟨W, rfl, by have := h.lo; omega, by have := h.hi; omega⟩
theorem p_width (h : Wd W) (k : R (.ret .non) m) : sp_need_width K [.int W] m R := p_need_width rfl (fun _ => k) fun n => absurd h.wid n
theorem Wd.pw (h : Wd W) : ∃ g : Int, (2 : Int) ^ (W - 1) = g ∧ (2 : Int) ^ W = 2 * g ∧ 8 ≤ g ∧ g ≤ 2147483648 := by
  have h1 := h.lo
  have h2 := h.hi
  refine ⟨_, rfl, ?_, ?_, ?_⟩
  · have : W = (W - 1) + 1 := by omega
    rw [this, Int.pow_succ]
    simp only [Nat.add_sub_cancel]
    omega
  · have := Nat.pow_le_pow_right (show 0 < 2 by omega) (show 3 ≤ W - 1 by omega)
    have e : ((2 ^ (W - 1) : Nat) : Int) = (2 : Int) ^ (W - 1) := by simp
    omega
  · have := Nat.pow_le_pow_right (show 0 < 2 by omega) (show W - 1 ≤ 31 by omega)
    have e : ((2 ^ (W - 1) : Nat) : Int) = (2 : Int) ^ (W - 1) := by simp
    omega
theorem shl1 (h : W ≤ 1000) : ShlOk 1 (W : Int) := .inl ⟨by omega, by omega, by decide⟩
def Wrd (W : Nat) (d : D) : Prop := ∃ i : Int, d = .int i ∧ 0 ≤ i ∧ i < 2 ^ W
theorem p_need_word {d : D} (hp : pl d = true) (h1 : Wrd W d → R (.ret .non) m) (h2 : ¬ Wrd W d → R (.exc (NoWord d)) m) : sp_need_word K [.int W, d] m R := by
  show w_need_word K [some (.int W), some d] m _
  unfold w_need_word
  have bad : whole d = false → R (.exc (NoWord d)) m := fun hw => h2 (by rintro ⟨i, rfl, _⟩; cases hw)
  walk_at "ab"
  refine ⟨rfl, p_is_whole hp ?_⟩
  cases hw : whole d with
  | false =>
    walk_at "ab"
    exact ⟨rfl, len1, bad hw⟩
  | true =>
    walk_at "ab"
    cases d with
    | int i =>
      walk_at "ab"
      have hg : (0 : Int) < 2 ^ W := Int.pow_pos (by omega)
      by_cases a : i < 0
      · refine if_t (decide_eq_true a) ⟨rfl, len1, h2 (by rintro ⟨j, e, z, _⟩; cases e; omega)⟩
      · refine if_f (decide_eq_false a) ⟨by omega, ?_⟩
        by_cases b : i < 2 ^ W
        · have e : i / 2 ^ W = 0 := Int.ediv_eq_zero_of_lt (by omega) b
          exact if_f (decide_eq_false (by omega)) (h1 ⟨i, rfl, by omega, b⟩)
        · have e : 1 ≤ i / 2 ^ W := by
            rw [Int.le_ediv_iff_mul_le hg]
            omega
          exact if_t (decide_eq_true (by omega)) ⟨rfl, len1, h2 (by rintro ⟨j, e, _, z⟩; cases e; exact b z)⟩
    | _ => cases hw
def Hdv (W : Nat) (d : D) : Prop := ∃ i : Int, d = .int i ∧ 2 ^ (W - 1) ≤ i ∧ i < 2 ^ W
theorem shr_one {g i : Int} (hg : 0 < g) : i / g = 1 ↔ g ≤ i ∧ i < 2 * g := by
  constructor
  · intro h
    have h1 := Int.mul_ediv_add_emod i g
    have h2 := Int.emod_nonneg i (show g ≠ 0 by omega)
    have h3 := Int.emod_lt_of_pos i hg
    rw [h] at h1
    omega
  · rintro ⟨h1, h2⟩
    have := Ar.divmod_of (n := i) (d := g) (q := 1) (r := i - g) (by omega) (by omega) (by omega)
    exact this.1
theorem p_need_high_divisor {a d : D} (ha : pl a = true) (hp : pl d = true) (h0 : ¬ Wid a → R (.exc (NoWidth a)) m) (h1 : ∀ W, a = .int (W : Nat) → Wd W → Hdv W d → R (.ret .non) m) (h2 : ∀ W, a = .int (W : Nat) → Wd W → ¬ Hdv W d → R (.exc (NoDivisor d)) m) : sp_need_high_divisor K [a, d] m R := by
  show w_need_high_divisor K [some a, some d] m _
  unfold w_need_high_divisor
  walk_at "ab"
  refine ⟨rfl, p_need_width ha (fun hw => ?_) (fun n => h0 n)⟩
  obtain ⟨i, rfl, i1, i2⟩ := hw
  obtain ⟨W, rfl⟩ : ∃ W : Nat, i = W := ⟨i.toNat, by omega⟩
  have hW : Wd W := ⟨by omega, by omega⟩
  refine nx_go ?_
  walk_at "ab"
  refine ⟨rfl, p_is_whole hp ?_⟩
  have h1 := h1 W rfl hW
  have h2 := h2 W rfl hW
  have bad : whole d = false → R (.exc (NoDivisor d)) m := fun hw => h2 (by rintro ⟨i, rfl, _⟩; cases hw)
  cases hw : whole d with
  | false =>
    walk_at "ab"
    exact ⟨rfl, len1, bad hw⟩
  | true =>
    walk_at "ab"
    cases d with
    | int i =>
      walk_at "ab"
      obtain ⟨g, g1, g2, g3, g4⟩ := hW.pw
      have e : ((W : Int) - 1).toNat = W - 1 := by omega
      rw [e, g1]
      refine ⟨by omega, ?_⟩
      have iff := shr_one (g := g) (i := i) (by omega)
      by_cases c : i / g = 1
      · rw [decide_eq_true c]
        exact if_f rfl (h1 ⟨i, rfl, by rw [g1]; exact (iff.mp c).1, by rw [g2]; exact (iff.mp c).2⟩)
      · rw [decide_eq_false c]
        exact if_t rfl ⟨rfl, len1, h2 (by rintro ⟨j, e, z1, z2⟩; cases e; rw [g1] at z1; rw [g2] at z2; exact c (iff.mpr ⟨z1, z2⟩))⟩
    | _ => cases hw
theorem p_cut {x : Int} (hW : Wd W) (h : R (.ret (.int (x % 2 ^ W))) m) : sp_cut K [.int W, .int x] m R := by
  show w_cut K [some (.int W), some (.int x)] m _
  unfold w_cut
  walk_at "ab"
  refine ⟨shl1 (by have := hW.hi; omega), _, _, GhD.refl, ?_⟩
  rw [PySem.W.kbt_mask]
  exact h
theorem p_sum_of {a b : Int} (hW : Wd W) (h : R (.ret (.tup [.int ((a + b) % 2 ^ W), .int ((a + b) / 2 ^ W)])) m) : sp_sum_of K [.int W, .int a, .int b] m R := by
  show w_sum_of K [some (.int W), some (.int a), some (.int b)] m _
  unfold w_sum_of
  walk_at "ab"
  refine ⟨rfl, p_width hW (nx_go ?_)⟩
  walk_at "ab"
  refine ⟨rfl, p_cut hW ?_⟩
  walk_at "ab"
  exact ⟨by omega, size_line (Nat.le_of_ble_eq_true rfl), _, _, GhD.refl, h⟩
theorem p_gap_of {a b : Int} (hW : Wd W) (h : R (.ret (.tup [.int ((a - b) % 2 ^ W), .int (if decide (a < b) = true then 1 else 0)])) m) : sp_gap_of K [.int W, .int a, .int b] m R := by
  show w_gap_of K [some (.int W), some (.int a), some (.int b)] m _
  unfold w_gap_of
  walk_at "ab"
  refine ⟨rfl, p_width hW (nx_go ?_)⟩
  walk_at "ab"
  refine ⟨rfl, p_cut hW ?_⟩
  walk_at "ab"
  exact ⟨size_line (Nat.le_of_ble_eq_true rfl), _, _, GhD.refl, h⟩
theorem p_low_product {a b : Int} (hW : Wd W) (hm : MulOk a b) (h : R (.ret (.int (a * b % 2 ^ W))) m) : sp_low_product K [.int W, .int a, .int b] m R := by
  show w_low_product K [some (.int W), some (.int a), some (.int b)] m _
  unfold w_low_product
  walk_at "ab"
  refine ⟨rfl, p_width hW (nx_go ?_)⟩
  walk_at "ab"
  refine ⟨hm, rfl, p_cut hW ?_⟩
  exact ⟨_, _, GhD.refl, h⟩
theorem p_high_product {a b : Int} (hW : Wd W) (hm : MulOk a b) (h : R (.ret (.int (a * b / 2 ^ W))) m) : sp_high_product K [.int W, .int a, .int b] m R := by
  show w_high_product K [some (.int W), some (.int a), some (.int b)] m _
  unfold w_high_product
  walk_at "ab"
  refine ⟨rfl, p_width hW (nx_go ?_)⟩
  walk_at "ab"
  exact ⟨hm, by omega, _, _, GhD.refl, h⟩
end
end Ab
end

section
namespace Ab
open PySem PySem.Spec PyProof.Rows L2
local macro_rules | `(tactic| walk_at "vg") => `(tactic| repeat' (first | (with_reducible refine nx_go ?_) | (with_reducible refine seq_go ?_) | (with_reducible refine set_go ?_) | (with_reducible refine call_go ?_) | (with_reducible refine cons_go ?_) | (with_reducible refine nil_go ?_) | ((with_reducible apply var_go); next => exact rfl) | (with_reducible refine con_go ?_) | (with_reducible refine op_go ?_) | (with_reducible refine isbl_go ?_) | (with_reducible refine if_go ?_) | (with_reducible refine isB_go ?_) | (with_reducible refine tru_go ?_) | (with_reducible refine trub_go ?_) | (with_reducible refine tri_go ?_) | (with_reducible refine asg_go ?_) | (with_reducible refine drop_go ?_) | (with_reducible refine ret_go ?_) | (with_reducible refine tup_go ?_) | (with_reducible refine cb_go ?_) | (with_reducible refine rt_int ?_) | (with_reducible refine rt_bl ?_) | (with_reducible refine rt_non ?_) | (with_reducible refine rt_tup ?_) | (with_reducible refine rt_str ?_) | (with_reducible refine rt_lst ?_) | (with_reducible refine rt_new ?_) | (with_reducible refine l1_go ?_) | (with_reducible refine l2_go ?_) | (with_reducible refine l3_go ?_) | (with_reducible refine l4_go ?_) | (with_reducible refine l5_go ?_) | (with_reducible refine l6_go ?_) | (with_reducible refine if_T ?_) | (with_reducible refine if_F ?_) | (with_reducible refine if_n ?_) | (with_reducible refine not_go ?_) | (with_reducible refine or_go ?_) | (with_reducible refine and_go ?_) | (with_reducible refine notv_go ?_) | (with_reducible refine andv_go ?_) | (with_reducible refine orv_go ?_) | (with_reducible refine iff_go ?_) | (with_reducible refine chain_go ?_) | (with_reducible refine add_go ?_) | (with_reducible refine sub_go ?_) | (with_reducible refine lt_go ?_) | (with_reducible refine gt_go ?_) | (with_reducible refine ge_go ?_) | (with_reducible refine le_go ?_) | (with_reducible refine eq_go ?_) | (with_reducible refine ne_go ?_) | (with_reducible refine eqs_go ?_) | (with_reducible refine nes_go ?_) | (with_reducible refine eqb_go ?_) | (with_reducible refine neb_go ?_) | (with_reducible refine int_go ?_) | (with_reducible refine inti_go ?_) | (with_reducible refine band_go ?_) | (with_reducible refine bor_go ?_) | (with_reducible refine iadd_go ?_) | (with_reducible refine min_go ?_) | (with_reducible refine max_go ?_) | (with_reducible refine abs_go ?_) | (with_reducible refine neg_go ?_) | (with_reducible refine bits_go ?_) | ((with_reducible apply mulg); next => first | assumption | exact .inl (.inl ⟨by omega, by omega⟩) | exact .inl (.inr ⟨by omega, by omega⟩)) | ((with_reducible apply divg); next => first | assumption | exact divok (by omega) (by omega)) | ((with_reducible apply modg); next => first | assumption | omega) | ((with_reducible apply shl1g); next => omega) | ((with_reducible apply shlng); next => first | assumption | exact .inl ⟨by omega, by omega, by omega⟩) | ((with_reducible apply shlg); next => first | assumption | exact .inl ⟨by omega, by omega, by omega⟩) | (with_reducible refine shrng ?_) | ((with_reducible apply shrg); next => first | assumption | omega) | ((with_reducible apply pow_g); next => first | assumption | exact ⟨by omega, by omega, by omega⟩) | (with_reducible refine two_go ?_) | (with_reducible refine lenl_go ?_) | (with_reducible refine lenf_go ?_) | (with_reducible refine lent_go ?_) | (with_reducible refine lenr_go ?_) | (with_reducible refine idxl_go at0 ?_) | (with_reducible refine idxt_go at0 ?_) | (with_reducible refine idxf_go at0 ?_) | (with_reducible refine idxl_go at1 ?_) | (with_reducible refine idxt_go at1 ?_) | (with_reducible refine idxf_go at1 ?_) | (with_reducible refine idxl_go at2 ?_) | (with_reducible refine idxt_go at2 ?_) | (with_reducible refine idxf_go at2 ?_) | (with_reducible refine idxl_go at3 ?_) | (with_reducible refine idxt_go at3 ?_) | (with_reducible refine idxf_go at3 ?_) | (with_reducible refine idxl_go at4 ?_) | (with_reducible refine idxt_go at4 ?_) | (with_reducible refine idxf_go at4 ?_) | (with_reducible refine idxl_go at5 ?_) | (with_reducible refine idxt_go at5 ?_) | (with_reducible refine idxf_go at5 ?_) | (with_reducible refine idxl_go at_last ?_) | ((with_reducible apply sz_go); next => exact Nat.le_of_ble_eq_true rfl) | (with_reducible refine lstk_go ?_) | (with_reducible refine newt_go ?_) | (with_reducible refine listl_go ?_) | (with_reducible refine listf_go ?_) | (with_reducible refine sl_go ?_) | (with_reducible refine nopart_go ?_) | (with_reducible refine part_go ?_) | (with_reducible refine sll_go ?_) | (with_reducible refine rev_go ?_) | (with_reducible refine mt_go ?_) | (with_reducible refine ist_set ?_) | (with_reducible refine rz1_go ?_) | (with_reducible refine raise_go ?_) | (with_reducible refine nil_s ?_) | (with_reducible refine for_go ?_) | (with_reducible refine iseq_go ?_) | (with_reducible refine skl_go ?_) | (with_reducible refine skf_go ?_) | (with_reducible refine skt_go ?_) | (with_reducible refine ir1_go ?_) | (with_reducible refine ir2_go ?_) | (with_reducible refine ir3_go ?_) | (with_reducible refine ienum_go ?_) | (with_reducible refine par_go ?_) | ((with_reducible apply app_set); next => first | omega | (simp only [List.length_append, List.length_cons, List.length_nil, List.length_map]; omega)) | ((with_reducible apply aug_go); next => exact rfl) | ((with_reducible apply isi_T); (next => exact rfl); (next => exact rfl)) | ((with_reducible apply isi_F); (next => exact rfl); (next => exact rfl)) | ((with_reducible apply if_D); next => first | assumption | omega) | ((with_reducible apply if_N); next => first | assumption | omega) | ((with_reducible apply if_t); next => assumption) | ((with_reducible apply if_f); next => assumption) | (dsimp only)))
local macro_rules | `(tactic| walk_at "vh") => `(tactic| repeat' (first | (with_reducible refine seq_go ?_) | (with_reducible refine set_go ?_) | (with_reducible refine call_go ?_) | (with_reducible refine cons_go ?_) | (with_reducible refine nil_go ?_) | ((with_reducible apply var_go); next => exact rfl) | (with_reducible refine con_go ?_) | (with_reducible refine op_go ?_) | (with_reducible refine isbl_go ?_) | (with_reducible refine if_go ?_) | (with_reducible refine isB_go ?_) | (with_reducible refine tru_go ?_) | (with_reducible refine trub_go ?_) | (with_reducible refine tri_go ?_) | (with_reducible refine asg_go ?_) | (with_reducible refine drop_go ?_) | (with_reducible refine ret_go ?_) | (with_reducible refine tup_go ?_) | (with_reducible refine cb_go ?_) | (with_reducible refine rt_int ?_) | (with_reducible refine rt_bl ?_) | (with_reducible refine rt_non ?_) | (with_reducible refine rt_tup ?_) | (with_reducible refine rt_str ?_) | (with_reducible refine rt_lst ?_) | (with_reducible refine rt_new ?_) | (with_reducible refine l1_go ?_) | (with_reducible refine l2_go ?_) | (with_reducible refine l3_go ?_) | (with_reducible refine l4_go ?_) | (with_reducible refine l5_go ?_) | (with_reducible refine l6_go ?_) | (with_reducible refine if_T ?_) | (with_reducible refine if_F ?_) | (with_reducible refine if_n ?_) | (with_reducible refine not_go ?_) | (with_reducible refine or_go ?_) | (with_reducible refine and_go ?_) | (with_reducible refine notv_go ?_) | (with_reducible refine andv_go ?_) | (with_reducible refine orv_go ?_) | (with_reducible refine iff_go ?_) | (with_reducible refine chain_go ?_) | (with_reducible refine add_go ?_) | (with_reducible refine sub_go ?_) | (with_reducible refine lt_go ?_) | (with_reducible refine gt_go ?_) | (with_reducible refine ge_go ?_) | (with_reducible refine le_go ?_) | (with_reducible refine eq_go ?_) | (with_reducible refine ne_go ?_) | (with_reducible refine eqs_go ?_) | (with_reducible refine nes_go ?_) | (with_reducible refine eqb_go ?_) | (with_reducible refine neb_go ?_) | (with_reducible refine int_go ?_) | (with_reducible refine inti_go ?_) | (with_reducible refine band_go ?_) | (with_reducible refine bor_go ?_) | (with_reducible refine iadd_go ?_) | (with_reducible refine min_go ?_) | (with_reducible refine max_go ?_) | (with_reducible refine abs_go ?_) | (with_reducible refine neg_go ?_) | (with_reducible refine bits_go ?_) | ((with_reducible apply mulg); next => first | assumption | exact .inl (.inl ⟨by omega, by omega⟩) | exact .inl (.inr ⟨by omega, by omega⟩)) | ((with_reducible apply divg); next => first | assumption | exact divok (by omega) (by omega)) | ((with_reducible apply modg); next => first | assumption | omega) | ((with_reducible apply shl1g); next => omega) | ((with_reducible apply shlng); next => first | assumption | exact .inl ⟨by omega, by omega, by omega⟩) | ((with_reducible apply shlg); next => first | assumption | exact .inl ⟨by omega, by omega, by omega⟩) | (with_reducible refine shrng ?_) | ((with_reducible apply shrg); next => first | assumption | omega) | ((with_reducible apply pow_g); next => first | assumption | exact ⟨by omega, by omega, by omega⟩) | (with_reducible refine two_go ?_) | (with_reducible refine lenl_go ?_) | (with_reducible refine lenf_go ?_) | (with_reducible refine lent_go ?_) | (with_reducible refine lenr_go ?_) | (with_reducible refine idxl_go at0 ?_) | (with_reducible refine idxt_go at0 ?_) | (with_reducible refine idxf_go at0 ?_) | (with_reducible refine idxl_go at1 ?_) | (with_reducible refine idxt_go at1 ?_) | (with_reducible refine idxf_go at1 ?_) | (with_reducible refine idxl_go at2 ?_) | (with_reducible refine idxt_go at2 ?_) | (with_reducible refine idxf_go at2 ?_) | (with_reducible refine idxl_go at3 ?_) | (with_reducible refine idxt_go at3 ?_) | (with_reducible refine idxf_go at3 ?_) | (with_reducible refine idxl_go at4 ?_) | (with_reducible refine idxt_go at4 ?_) | (with_reducible refine idxf_go at4 ?_) | (with_reducible refine idxl_go at5 ?_) | (with_reducible refine idxt_go at5 ?_) | (with_reducible refine idxf_go at5 ?_) | (with_reducible refine idxl_go at_last ?_) | ((with_reducible apply sz_go); next => exact Nat.le_of_ble_eq_true rfl) | (with_reducible refine lstk_go ?_) | (with_reducible refine newt_go ?_) | (with_reducible refine listl_go ?_) | (with_reducible refine listf_go ?_) | (with_reducible refine sl_go ?_) | (with_reducible refine nopart_go ?_) | (with_reducible refine part_go ?_) | (with_reducible refine sll_go ?_) | (with_reducible refine rev_go ?_) | (with_reducible refine mt_go ?_) | (with_reducible refine ist_set ?_) | (with_reducible refine rz1_go ?_) | (with_reducible refine raise_go ?_) | (with_reducible refine nil_s ?_) | (with_reducible refine for_go ?_) | (with_reducible refine iseq_go ?_) | (with_reducible refine skl_go ?_) | (with_reducible refine skf_go ?_) | (with_reducible refine skt_go ?_) | (with_reducible refine ir1_go ?_) | (with_reducible refine ir2_go ?_) | (with_reducible refine ir3_go ?_) | (with_reducible refine ienum_go ?_) | (with_reducible refine par_go ?_) | ((with_reducible apply app_set); next => first | omega | (simp only [List.length_append, List.length_cons, List.length_nil, List.length_map]; omega)) | ((with_reducible apply aug_go); next => exact rfl) | ((with_reducible apply isi_T); (next => exact rfl); (next => exact rfl)) | ((with_reducible apply isi_F); (next => exact rfl); (next => exact rfl)) | ((with_reducible apply if_D); next => first | assumption | omega) | ((with_reducible apply if_N); next => first | assumption | omega) | ((with_reducible apply if_t); next => assumption) | ((with_reducible apply if_f); next => assumption) | (dsimp only)))
local macro_rules | `(tactic| walk_at "vs") => `(tactic| repeat' (first | (with_reducible refine nx_go ?_) | (with_reducible refine seq_go ?_) | (with_reducible refine set_go ?_) | (with_reducible refine call_go ?_) | (with_reducible refine cons_go ?_) | (with_reducible refine nil_go ?_) | ((with_reducible apply var_go); next => exact rfl) | (with_reducible refine con_go ?_) | (with_reducible refine op_go ?_) | (with_reducible refine isbl_go ?_) | (with_reducible refine if_go ?_) | (with_reducible refine isB_go ?_) | (with_reducible refine tru_go ?_) | (with_reducible refine trub_go ?_) | (with_reducible refine tri_go ?_) | (with_reducible refine asg_go ?_) | (with_reducible refine drop_go ?_) | (with_reducible refine ret_go ?_) | (with_reducible refine tup_go ?_) | (with_reducible refine cb_go ?_) | (with_reducible refine rt_int ?_) | (with_reducible refine rt_bl ?_) | (with_reducible refine rt_non ?_) | (with_reducible refine rt_tup ?_) | (with_reducible refine rt_str ?_) | (with_reducible refine rt_lst ?_) | (with_reducible refine rt_new ?_) | (with_reducible refine l1_go ?_) | (with_reducible refine l2_go ?_) | (with_reducible refine l3_go ?_) | (with_reducible refine l4_go ?_) | (with_reducible refine l5_go ?_) | (with_reducible refine l6_go ?_) | (with_reducible refine if_T ?_) | (with_reducible refine if_F ?_) | (with_reducible refine if_n ?_) | (with_reducible refine not_go ?_) | (with_reducible refine or_go ?_) | (with_reducible refine and_go ?_) | (with_reducible refine notv_go ?_) | (with_reducible refine andv_go ?_) | (with_reducible refine orv_go ?_) | (with_reducible refine iff_go ?_) | (with_reducible refine chain_go ?_) | (with_reducible refine add_go ?_) | (with_reducible refine sub_go ?_) | (with_reducible refine lt_go ?_) | (with_reducible refine gt_go ?_) | (with_reducible refine ge_go ?_) | (with_reducible refine le_go ?_) | (with_reducible refine eq_go ?_) | (with_reducible refine ne_go ?_) | (with_reducible refine eqs_go ?_) | (with_reducible refine nes_go ?_) | (with_reducible refine eqb_go ?_) | (with_reducible refine neb_go ?_) | (with_reducible refine int_go ?_) | (with_reducible refine inti_go ?_) | (with_reducible refine band_go ?_) | (with_reducible refine bor_go ?_) | (with_reducible refine iadd_go ?_) | (with_reducible refine min_go ?_) | (with_reducible refine max_go ?_) | (with_reducible refine abs_go ?_) | (with_reducible refine neg_go ?_) | (with_reducible refine bits_go ?_) | ((with_reducible apply mulg); next => first | assumption | exact .inl (.inl ⟨by omega, by omega⟩) | exact .inl (.inr ⟨by omega, by omega⟩)) | ((with_reducible apply divg); next => first | assumption | exact divok (by omega) (by omega)) | ((with_reducible apply modg); next => first | assumption | omega) | ((with_reducible apply shl1g); next => omega) | ((with_reducible apply shlng); next => first | assumption | exact .inl ⟨by omega, by omega, by omega⟩) | ((with_reducible apply shlg); next => first | assumption | exact .inl ⟨by omega, by omega, by omega⟩) | (with_reducible refine shrng ?_) | ((with_reducible apply shrg); next => first | assumption | omega) | ((with_reducible apply pow_g); next => first | assumption | exact ⟨by omega, by omega, by omega⟩) | (with_reducible refine two_go ?_) | (with_reducible refine lenl_go ?_) | (with_reducible refine lenf_go ?_) | (with_reducible refine lent_go ?_) | (with_reducible refine lenr_go ?_) | (with_reducible refine idxl_go at0 ?_) | (with_reducible refine idxt_go at0 ?_) | (with_reducible refine idxf_go at0 ?_) | (with_reducible refine idxl_go at1 ?_) | (with_reducible refine idxt_go at1 ?_) | (with_reducible refine idxf_go at1 ?_) | (with_reducible refine idxl_go at2 ?_) | (with_reducible refine idxt_go at2 ?_) | (with_reducible refine idxf_go at2 ?_) | (with_reducible refine idxl_go at3 ?_) | (with_reducible refine idxt_go at3 ?_) | (with_reducible refine idxf_go at3 ?_) | (with_reducible refine idxl_go at4 ?_) | (with_reducible refine idxt_go at4 ?_) | (with_reducible refine idxf_go at4 ?_) | (with_reducible refine idxl_go at5 ?_) | (with_reducible refine idxt_go at5 ?_) | (with_reducible refine idxf_go at5 ?_) | (with_reducible refine idxl_go at_last ?_) | ((with_reducible apply sz_go); next => exact Nat.le_of_ble_eq_true rfl) | (with_reducible refine lstk_go ?_) | (with_reducible refine newt_go ?_) | (with_reducible refine listl_go ?_) | (with_reducible refine listf_go ?_) | (with_reducible refine sl_go ?_) | (with_reducible refine nopart_go ?_) | (with_reducible refine part_go ?_) | (with_reducible refine sll_go ?_) | (with_reducible refine rev_go ?_) | (with_reducible refine mt_go ?_) | (with_reducible refine ist_set ?_) | (with_reducible refine rz1_go ?_) | (with_reducible refine raise_go ?_) | (with_reducible refine nil_s ?_) | (with_reducible refine for_go ?_) | (with_reducible refine iseq_go ?_) | (with_reducible refine skl_go ?_) | (with_reducible refine skf_go ?_) | (with_reducible refine skt_go ?_) | (with_reducible refine ir1_go ?_) | (with_reducible refine ir2_go ?_) | (with_reducible refine ir3_go ?_) | (with_reducible refine ienum_go ?_) | (with_reducible refine par_go ?_) | ((with_reducible apply app_set); next => first | omega | (simp only [List.length_append, List.length_cons, List.length_nil, List.length_map]; omega)) | ((with_reducible apply aug_go); next => exact rfl) | ((with_reducible apply isi_T); (next => exact rfl); (next => exact rfl)) | ((with_reducible apply isi_F); (next => exact rfl); (next => exact rfl)) | ((with_reducible apply if_D); next => first | assumption | omega) | ((with_reducible apply if_N); next => first | assumption | omega) | ((with_reducible apply if_t); next => assumption) | ((with_reducible apply if_f); next => assumption) | (with_reducible refine if_dec (fun _ => ?_) (fun _ => ?_)) | (dsimp only)))
section
variable {K : PySem.W.Frag} {m : Mem} {R : ARes → Mem → Prop} {W : Nat}
def NoLong (d : D) : Exn := ⟨"NoLong", ["found"], [d]⟩
theorem divok {y : Int} (h0 : 0 < y) (h : y < 1099511627776) : DivOk y := by
  refine ⟨h0, .inr ?_⟩
  have := Nat.log2_lt (n := y.natAbs) (k := 40) (by omega)
  omega
theorem Wd.le (h : Wd W) : W ≤ 1000000 := by have := h.hi; omega
def Btw (lo hi : Int) (d : D) : Prop := ∃ i : Int, d = .int i ∧ lo ≤ i ∧ i ≤ hi
theorem p_is_between {d : D} {lo hi : Int} (hp : pl d = true) (h1 : Btw lo hi d → R (.ret (.bl true)) m) (h2 : ¬ Btw lo hi d → R (.ret (.bl false)) m) : sp_is_between K [d, .int lo, .int hi] m R := by
  show w_is_between K [some d, some (.int lo), some (.int hi)] m _
  unfold w_is_between
  have bad : whole d = false → R (.ret (.bl false)) m := fun hw => h2 (by rintro ⟨i, rfl, _⟩; cases hw)
  walk_at "vg"
  refine p_is_whole hp ?_
  walk_at "vg"
  refine if_b (fun hw => ?_) (fun hw => ?_)
  · cases d with
    | int i =>
      walk_at "vg"
      refine if_dec (fun c => ?_) (fun c => ?_)
      · walk_at "vg"
        by_cases c2 : i ≤ hi
        · rw [decide_eq_true c2]
          exact h1 ⟨i, rfl, c, c2⟩
        · rw [decide_eq_false c2]
          exact h2 (by rintro ⟨j, e, _, z⟩; cases e; exact c2 z)
      · walk_at "vg"
        exact h2 (by rintro ⟨j, e, z, _⟩; cases e; exact c z)
    | _ => cases hw
  · walk_at "vg"
    rw [hw]
    exact bad hw
def Dvs (W : Nat) (d : D) : Prop := Btw 1 (2 ^ W - 1) d
theorem p_need_divisor {d : D} (hW : Wd W) (hp : pl d = true) (h1 : Dvs W d → R (.ret .non) m) (h2 : ¬ Dvs W d → R (.exc (NoDivisor d)) m) : sp_need_divisor K [.int W, d] m R := by
  have := hW.le
  show w_need_divisor K [some (.int W), some d] m _
  unfold w_need_divisor
  walk_at "vg"
  refine p_width hW ?_
  walk_at "vg"
  refine p_is_between hp (fun h => ?_) (fun h => ?_)
  · walk_at "vg"
    exact h1 h
  · walk_at "vg"
    exact h2 h
theorem band1 {x : Int} : Builtin.bitAnd x 1 = x % 2 := bitAnd_m1 x
def Odd' (W : Nat) (d : D) : Prop := ∃ i : Int, d = .int i ∧ 1 ≤ i ∧ i ≤ 2 ^ W - 1 ∧ i % 2 = 1
theorem p_need_odd {d : D} (hW : Wd W) (hp : pl d = true) (h1 : Odd' W d → R (.ret .non) m) (h2 : ¬ Odd' W d → R (.exc (NoDivisor d)) m) : sp_need_odd K [.int W, d] m R := by
  show w_need_odd K [some (.int W), some d] m _
  unfold w_need_odd
  walk_at "vg"
  refine p_need_divisor hW hp (fun h => ?_) (fun h => ?_)
  · obtain ⟨i, rfl, i1, i2⟩ := h
    walk_at "vg"
    rw [bitAnd_m1]
    refine if_dec (fun c => ?_) (fun c => ?_)
    · walk_at "vg"
      exact h2 (by rintro ⟨j, e, _, _, z⟩; cases e; omega)
    · walk_at "vg"
      exact h1 ⟨i, rfl, i1, i2, by omega⟩
  · walk_at "vg"
    exact h2 (by rintro ⟨j, e, a, b, _⟩; exact h ⟨j, e, a, b⟩)
end
end Ab
end

section
namespace Ab
open PySem PySem.Spec PyProof.Rows L2
local macro_rules | `(tactic| walk_at "vg") => `(tactic| repeat' (first | (with_reducible refine nx_go ?_) | (with_reducible refine seq_go ?_) | (with_reducible refine set_go ?_) | (with_reducible refine call_go ?_) | (with_reducible refine cons_go ?_) | (with_reducible refine nil_go ?_) | ((with_reducible apply var_go); next => exact rfl) | (with_reducible refine con_go ?_) | (with_reducible refine op_go ?_) | (with_reducible refine isbl_go ?_) | (with_reducible refine if_go ?_) | (with_reducible refine isB_go ?_) | (with_reducible refine tru_go ?_) | (with_reducible refine trub_go ?_) | (with_reducible refine tri_go ?_) | (with_reducible refine asg_go ?_) | (with_reducible refine drop_go ?_) | (with_reducible refine ret_go ?_) | (with_reducible refine tup_go ?_) | (with_reducible refine cb_go ?_) | (with_reducible refine rt_int ?_) | (with_reducible refine rt_bl ?_) | (with_reducible refine rt_non ?_) | (with_reducible refine rt_tup ?_) | (with_reducible refine rt_str ?_) | (with_reducible refine rt_lst ?_) | (with_reducible refine rt_new ?_) | (with_reducible refine l1_go ?_) | (with_reducible refine l2_go ?_) | (with_reducible refine l3_go ?_) | (with_reducible refine l4_go ?_) | (with_reducible refine l5_go ?_) | (with_reducible refine l6_go ?_) | (with_reducible refine if_T ?_) | (with_reducible refine if_F ?_) | (with_reducible refine if_n ?_) | (with_reducible refine not_go ?_) | (with_reducible refine or_go ?_) | (with_reducible refine and_go ?_) | (with_reducible refine notv_go ?_) | (with_reducible refine andv_go ?_) | (with_reducible refine orv_go ?_) | (with_reducible refine iff_go ?_) | (with_reducible refine chain_go ?_) | (with_reducible refine add_go ?_) | (with_reducible refine sub_go ?_) | (with_reducible refine lt_go ?_) | (with_reducible refine gt_go ?_) | (with_reducible refine ge_go ?_) | (with_reducible refine le_go ?_) | (with_reducible refine eq_go ?_) | (with_reducible refine ne_go ?_) | (with_reducible refine eqs_go ?_) | (with_reducible refine nes_go ?_) | (with_reducible refine eqb_go ?_) | (with_reducible refine neb_go ?_) | (with_reducible refine int_go ?_) | (with_reducible refine inti_go ?_) | (with_reducible refine band_go ?_) | (with_reducible refine bor_go ?_) | (with_reducible refine iadd_go ?_) | (with_reducible refine min_go ?_) | (with_reducible refine max_go ?_) | (with_reducible refine abs_go ?_) | (with_reducible refine neg_go ?_) | (with_reducible refine bits_go ?_) | ((with_reducible apply mulg); next => first | assumption | exact .inl (.inl ⟨by omega, by omega⟩) | exact .inl (.inr ⟨by omega, by omega⟩)) | ((with_reducible apply divg); next => first | assumption | exact divok (by omega) (by omega)) | ((with_reducible apply modg); next => first | assumption | omega) | ((with_reducible apply shl1g); next => omega) | ((with_reducible apply shlng); next => first | assumption | exact .inl ⟨by omega, by omega, by omega⟩) | ((with_reducible apply shlg); next => first | assumption | exact .inl ⟨by omega, by omega, by omega⟩) | (with_reducible refine shrng ?_) | ((with_reducible apply shrg); next => first | assumption | omega) | ((with_reducible apply pow_g); next => first | assumption | exact ⟨by omega, by omega, by omega⟩) | (with_reducible refine two_go ?_) | (with_reducible refine lenl_go ?_) | (with_reducible refine lenf_go ?_) | (with_reducible refine lent_go ?_) | (with_reducible refine lenr_go ?_) | (with_reducible refine idxl_go at0 ?_) | (with_reducible refine idxt_go at0 ?_) | (with_reducible refine idxf_go at0 ?_) | (with_reducible refine idxl_go at1 ?_) | (with_reducible refine idxt_go at1 ?_) | (with_reducible refine idxf_go at1 ?_) | (with_reducible refine idxl_go at2 ?_) | (with_reducible refine idxt_go at2 ?_) | (with_reducible refine idxf_go at2 ?_) | (with_reducible refine idxl_go at3 ?_) | (with_reducible refine idxt_go at3 ?_) | (with_reducible refine idxf_go at3 ?_) | (with_reducible refine idxl_go at4 ?_) | (with_reducible refine idxt_go at4 ?_) | (with_reducible refine idxf_go at4 ?_) | (with_reducible refine idxl_go at5 ?_) | (with_reducible refine idxt_go at5 ?_) | (with_reducible refine idxf_go at5 ?_) | (with_reducible refine idxl_go at_last ?_) | ((with_reducible apply sz_go); next => exact Nat.le_of_ble_eq_true rfl) | (with_reducible refine lstk_go ?_) | (with_reducible refine newt_go ?_) | (with_reducible refine listl_go ?_) | (with_reducible refine listf_go ?_) | (with_reducible refine sl_go ?_) | (with_reducible refine nopart_go ?_) | (with_reducible refine part_go ?_) | (with_reducible refine sll_go ?_) | (with_reducible refine rev_go ?_) | (with_reducible refine mt_go ?_) | (with_reducible refine ist_set ?_) | (with_reducible refine rz1_go ?_) | (with_reducible refine raise_go ?_) | (with_reducible refine nil_s ?_) | (with_reducible refine for_go ?_) | (with_reducible refine iseq_go ?_) | (with_reducible refine skl_go ?_) | (with_reducible refine skf_go ?_) | (with_reducible refine skt_go ?_) | (with_reducible refine ir1_go ?_) | (with_reducible refine ir2_go ?_) | (with_reducible refine ir3_go ?_) | (with_reducible refine ienum_go ?_) | (with_reducible refine par_go ?_) | ((with_reducible apply app_set); next => first | omega | (simp only [List.length_append, List.length_cons, List.length_nil, List.length_map]; omega)) | ((with_reducible apply aug_go); next => exact rfl) | ((with_reducible apply isi_T); (next => exact rfl); (next => exact rfl)) | ((with_reducible apply isi_F); (next => exact rfl); (next => exact rfl)) | ((with_reducible apply if_D); next => first | assumption | omega) | ((with_reducible apply if_N); next => first | assumption | omega) | ((with_reducible apply if_t); next => assumption) | ((with_reducible apply if_f); next => assumption) | (dsimp only)))
local macro_rules | `(tactic| walk_at "vh") => `(tactic| repeat' (first | (with_reducible refine seq_go ?_) | (with_reducible refine set_go ?_) | (with_reducible refine call_go ?_) | (with_reducible refine cons_go ?_) | (with_reducible refine nil_go ?_) | ((with_reducible apply var_go); next => exact rfl) | (with_reducible refine con_go ?_) | (with_reducible refine op_go ?_) | (with_reducible refine isbl_go ?_) | (with_reducible refine if_go ?_) | (with_reducible refine isB_go ?_) | (with_reducible refine tru_go ?_) | (with_reducible refine trub_go ?_) | (with_reducible refine tri_go ?_) | (with_reducible refine asg_go ?_) | (with_reducible refine drop_go ?_) | (with_reducible refine ret_go ?_) | (with_reducible refine tup_go ?_) | (with_reducible refine cb_go ?_) | (with_reducible refine rt_int ?_) | (with_reducible refine rt_bl ?_) | (with_reducible refine rt_non ?_) | (with_reducible refine rt_tup ?_) | (with_reducible refine rt_str ?_) | (with_reducible refine rt_lst ?_) | (with_reducible refine rt_new ?_) | (with_reducible refine l1_go ?_) | (with_reducible refine l2_go ?_) | (with_reducible refine l3_go ?_) | (with_reducible refine l4_go ?_) | (with_reducible refine l5_go ?_) | (with_reducible refine l6_go ?_) | (with_reducible refine if_T ?_) | (with_reducible refine if_F ?_) | (with_reducible refine if_n ?_) | (with_reducible refine not_go ?_) | (with_reducible refine or_go ?_) | (with_reducible refine and_go ?_) | (with_reducible refine notv_go ?_) | (with_reducible refine andv_go ?_) | (with_reducible refine orv_go ?_) | (with_reducible refine iff_go ?_) | (with_reducible refine chain_go ?_) | (with_reducible refine add_go ?_) | (with_reducible refine sub_go ?_) | (with_reducible refine lt_go ?_) | (with_reducible refine gt_go ?_) | (with_reducible refine ge_go ?_) | (with_reducible refine le_go ?_) | (with_reducible refine eq_go ?_) | (with_reducible refine ne_go ?_) | (with_reducible refine eqs_go ?_) | (with_reducible refine nes_go ?_) | (with_reducible refine eqb_go ?_) | (with_reducible refine neb_go ?_) | (with_reducible refine int_go ?_) | (with_reducible refine inti_go ?_) | (with_reducible refine band_go ?_) | (with_reducible refine bor_go ?_) | (with_reducible refine iadd_go ?_) | (with_reducible refine min_go ?_) | (with_reducible refine max_go ?_) | (with_reducible refine abs_go ?_) | (with_reducible refine neg_go ?_) | (with_reducible refine bits_go ?_) | ((with_reducible apply mulg); next => first | assumption | exact .inl (.inl ⟨by omega, by omega⟩) | exact .inl (.inr ⟨by omega, by omega⟩)) | ((with_reducible apply divg); next => first | assumption | exact divok (by omega) (by omega)) | ((with_reducible apply modg); next => first | assumption | omega) | ((with_reducible apply shl1g); next => omega) | ((with_reducible apply shlng); next => first | assumption | exact .inl ⟨by omega, by omega, by omega⟩) | ((with_reducible apply shlg); next => first | assumption | exact .inl ⟨by omega, by omega, by omega⟩) | (with_reducible refine shrng ?_) | ((with_reducible apply shrg); next => first | assumption | omega) | ((with_reducible apply pow_g); next => first | assumption | exact ⟨by omega, by omega, by omega⟩) | (with_reducible refine two_go ?_) | (with_reducible refine lenl_go ?_) | (with_reducible refine lenf_go ?_) | (with_reducible refine lent_go ?_) | (with_reducible refine lenr_go ?_) | (with_reducible refine idxl_go at0 ?_) | (with_reducible refine idxt_go at0 ?_) | (with_reducible refine idxf_go at0 ?_) | (with_reducible refine idxl_go at1 ?_) | (with_reducible refine idxt_go at1 ?_) | (with_reducible refine idxf_go at1 ?_) | (with_reducible refine idxl_go at2 ?_) | (with_reducible refine idxt_go at2 ?_) | (with_reducible refine idxf_go at2 ?_) | (with_reducible refine idxl_go at3 ?_) | (with_reducible refine idxt_go at3 ?_) | (with_reducible refine idxf_go at3 ?_) | (with_reducible refine idxl_go at4 ?_) | (with_reducible refine idxt_go at4 ?_) | (with_reducible refine idxf_go at4 ?_) | (with_reducible refine idxl_go at5 ?_) | (with_reducible refine idxt_go at5 ?_) | (with_reducible refine idxf_go at5 ?_) | (with_reducible refine idxl_go at_last ?_) | ((with_reducible apply sz_go); next => exact Nat.le_of_ble_eq_true rfl) | (with_reducible refine lstk_go ?_) | (with_reducible refine newt_go ?_) | (with_reducible refine listl_go ?_) | (with_reducible refine listf_go ?_) | (with_reducible refine sl_go ?_) | (with_reducible refine nopart_go ?_) | (with_reducible refine part_go ?_) | (with_reducible refine sll_go ?_) | (with_reducible refine rev_go ?_) | (with_reducible refine mt_go ?_) | (with_reducible refine ist_set ?_) | (with_reducible refine rz1_go ?_) | (with_reducible refine raise_go ?_) | (with_reducible refine nil_s ?_) | (with_reducible refine for_go ?_) | (with_reducible refine iseq_go ?_) | (with_reducible refine skl_go ?_) | (with_reducible refine skf_go ?_) | (with_reducible refine skt_go ?_) | (with_reducible refine ir1_go ?_) | (with_reducible refine ir2_go ?_) | (with_reducible refine ir3_go ?_) | (with_reducible refine ienum_go ?_) | (with_reducible refine par_go ?_) | ((with_reducible apply app_set); next => first | omega | (simp only [List.length_append, List.length_cons, List.length_nil, List.length_map]; omega)) | ((with_reducible apply aug_go); next => exact rfl) | ((with_reducible apply isi_T); (next => exact rfl); (next => exact rfl)) | ((with_reducible apply isi_F); (next => exact rfl); (next => exact rfl)) | ((with_reducible apply if_D); next => first | assumption | omega) | ((with_reducible apply if_N); next => first | assumption | omega) | ((with_reducible apply if_t); next => assumption) | ((with_reducible apply if_f); next => assumption) | (dsimp only)))
local macro_rules | `(tactic| walk_at "vs") => `(tactic| repeat' (first | (with_reducible refine nx_go ?_) | (with_reducible refine seq_go ?_) | (with_reducible refine set_go ?_) | (with_reducible refine call_go ?_) | (with_reducible refine cons_go ?_) | (with_reducible refine nil_go ?_) | ((with_reducible apply var_go); next => exact rfl) | (with_reducible refine con_go ?_) | (with_reducible refine op_go ?_) | (with_reducible refine isbl_go ?_) | (with_reducible refine if_go ?_) | (with_reducible refine isB_go ?_) | (with_reducible refine tru_go ?_) | (with_reducible refine trub_go ?_) | (with_reducible refine tri_go ?_) | (with_reducible refine asg_go ?_) | (with_reducible refine drop_go ?_) | (with_reducible refine ret_go ?_) | (with_reducible refine tup_go ?_) | (with_reducible refine cb_go ?_) | (with_reducible refine rt_int ?_) | (with_reducible refine rt_bl ?_) | (with_reducible refine rt_non ?_) | (with_reducible refine rt_tup ?_) | (with_reducible refine rt_str ?_) | (with_reducible refine rt_lst ?_) | (with_reducible refine rt_new ?_) | (with_reducible refine l1_go ?_) | (with_reducible refine l2_go ?_) | (with_reducible refine l3_go ?_) | (with_reducible refine l4_go ?_) | (with_reducible refine l5_go ?_) | (with_reducible refine l6_go ?_) | (with_reducible refine if_T ?_) | (with_reducible refine if_F ?_) | (with_reducible refine if_n ?_) | (with_reducible refine not_go ?_) | (with_reducible refine or_go ?_) | (with_reducible refine and_go ?_) | (with_reducible refine notv_go ?_) | (with_reducible refine andv_go ?_) | (with_reducible refine orv_go ?_) | (with_reducible refine iff_go ?_) | (with_reducible refine chain_go ?_) | (with_reducible refine add_go ?_) | (with_reducible refine sub_go ?_) | (with_reducible refine lt_go ?_) | (with_reducible refine gt_go ?_) | (with_reducible refine ge_go ?_) | (with_reducible refine le_go ?_) | (with_reducible refine eq_go ?_) | (with_reducible refine ne_go ?_) | (with_reducible refine eqs_go ?_) | (with_reducible refine nes_go ?_) | (with_reducible refine eqb_go ?_) | (with_reducible refine neb_go ?_) | (with_reducible refine int_go ?_) | (with_reducible refine inti_go ?_) | (with_reducible refine band_go ?_) | (with_reducible refine bor_go ?_) | (with_reducible refine iadd_go ?_) | (with_reducible refine min_go ?_) | (with_reducible refine max_go ?_) | (with_reducible refine abs_go ?_) | (with_reducible refine neg_go ?_) | (with_reducible refine bits_go ?_) | ((with_reducible apply mulg); next => first | assumption | exact .inl (.inl ⟨by omega, by omega⟩) | exact .inl (.inr ⟨by omega, by omega⟩)) | ((with_reducible apply divg); next => first | assumption | exact divok (by omega) (by omega)) | ((with_reducible apply modg); next => first | assumption | omega) | ((with_reducible apply shl1g); next => omega) | ((with_reducible apply shlng); next => first | assumption | exact .inl ⟨by omega, by omega, by omega⟩) | ((with_reducible apply shlg); next => first | assumption | exact .inl ⟨by omega, by omega, by omega⟩) | (with_reducible refine shrng ?_) | ((with_reducible apply shrg); next => first | assumption | omega) | ((with_reducible apply pow_g); next => first | assumption | exact ⟨by omega, by omega, by omega⟩) | (with_reducible refine two_go ?_) | (with_reducible refine lenl_go ?_) | (with_reducible refine lenf_go ?_) | (with_reducible refine lent_go ?_) | (with_reducible refine lenr_go ?_) | (with_reducible refine idxl_go at0 ?_) | (with_reducible refine idxt_go at0 ?_) | (with_reducible refine idxf_go at0 ?_) | (with_reducible refine idxl_go at1 ?_) | (with_reducible refine idxt_go at1 ?_) | (with_reducible refine idxf_go at1 ?_) | (with_reducible refine idxl_go at2 ?_) | (with_reducible refine idxt_go at2 ?_) | (with_reducible refine idxf_go at2 ?_) | (with_reducible refine idxl_go at3 ?_) | (with_reducible refine idxt_go at3 ?_) | (with_reducible refine idxf_go at3 ?_) | (with_reducible refine idxl_go at4 ?_) | (with_reducible refine idxt_go at4 ?_) | (with_reducible refine idxf_go at4 ?_) | (with_reducible refine idxl_go at5 ?_) | (with_reducible refine idxt_go at5 ?_) | (with_reducible refine idxf_go at5 ?_) | (with_reducible refine idxl_go at_last ?_) | ((with_reducible apply sz_go); next => exact Nat.le_of_ble_eq_true rfl) | (with_reducible refine lstk_go ?_) | (with_reducible refine newt_go ?_) | (with_reducible refine listl_go ?_) | (with_reducible refine listf_go ?_) | (with_reducible refine sl_go ?_) | (with_reducible refine nopart_go ?_) | (with_reducible refine part_go ?_) | (with_reducible refine sll_go ?_) | (with_reducible refine rev_go ?_) | (with_reducible refine mt_go ?_) | (with_reducible refine ist_set ?_) | (with_reducible refine rz1_go ?_) | (with_reducible refine raise_go ?_) | (with_reducible refine nil_s ?_) | (with_reducible refine for_go ?_) | (with_reducible refine iseq_go ?_) | (with_reducible refine skl_go ?_) | (with_reducible refine skf_go ?_) | (with_reducible refine skt_go ?_) | (with_reducible refine ir1_go ?_) | (with_reducible refine ir2_go ?_) | (with_reducible refine ir3_go ?_) | (with_reducible refine ienum_go ?_) | (with_reducible refine par_go ?_) | ((with_reducible apply app_set); next => first | omega | (simp only [List.length_append, List.length_cons, List.length_nil, List.length_map]; omega)) | ((with_reducible apply aug_go); next => exact rfl) | ((with_reducible apply isi_T); (next => exact rfl); (next => exact rfl)) | ((with_reducible apply isi_F); (next => exact rfl); (next => exact rfl)) | ((with_reducible apply if_D); next => first | assumption | omega) | ((with_reducible apply if_N); next => first | assumption | omega) | ((with_reducible apply if_t); next => assumption) | ((with_reducible apply if_f); next => assumption) | (with_reducible refine if_dec (fun _ => ?_) (fun _ => ?_)) | (dsimp only)))
section
variable {K : PySem.W.Frag} {m : Mem} {R : ARes → Mem → Prop} {W : Nat}
abbrev dl (ws : List Int) : D := .lst (ws.map D.int)
/-- a list, of either kind -/
def LsF (d : D) (xs : List D) : Prop := d = .lst xs ∨ d = .frl xs
/-- a long -/
def Lng (W : Nat) (d : D) : Prop := ∃ ws : List Int, LsF d (ws.map D.int) ∧ Lm.Wok (2 ^ W) ws ∧ Lm.trim ws = ws
theorem LsF.inj {d : D} {xs ys : List D} (h : LsF d xs) (h2 : LsF d ys) : xs = ys := by
  rcases h with rfl | rfl <;> rcases h2 with h2 | h2 <;> cases h2 <;> rfl
theorem int_inj {ws vs : List Int} (h : ws.map D.int = vs.map D.int) : ws = vs := by
  induction ws generalizing vs with
  | nil => cases vs with
    | nil => rfl
    | cons => cases h
  | cons w r ih => cases vs with
    | nil => cases h
    | cons u s =>
      rw [List.map_cons, List.map_cons] at h
      injection h with h1 h2
      injection h1 with h1
      rw [h1, ih h2]
structure LF (d : D) (xs : List D) : Prop where
  rs : ∀ m, res m d = d
  ln : ∀ m k, cLen m [d] k = k (.int xs.length) m
  ix : ∀ m i k, oIdx m d (.int i) k = ∃ y, atI xs i = some y ∧ k y m
  sq : ∀ k, seqK d k = k xs
  ls : ∀ z m k, cList z m [d] k = newK z (.lst xs) m k
theorem LsF.f {d : D} {xs : List D} (h : LsF d xs) : LF d xs := by
  rcases h with rfl | rfl <;> exact ⟨fun _ => rfl, fun _ _ => rfl, fun _ _ _ => rfl, fun _ => rfl, fun _ _ _ => rfl⟩
/-- a thing that is_long may look at -/
def PlL (d : D) : Prop := pl d = true ∧ ∀ xs, LsF d xs → ∀ x ∈ xs, pl x = true
theorem idx_eq {d : D} {xs : List D} {y : D} {i : Int} {k : KE} (L : LF d xs) (h : atI xs i = some y) (hk : k y m) : oIdx m (res m d) (res m (.int i)) k := by
  rw [L.rs, res_int, L.ix]
  exact ⟨y, h, hk⟩
theorem len_eq {d : D} {xs : List D} {k : KE} (L : LF d xs) (hk : k (.int xs.length) m) : cLen m ([d].map (res m)) k := by
  show cLen m [res m d] k
  rw [L.rs, L.ln]
  exact hk
theorem p_long3 {d : D} {xs : List D} (hW : Wd W) (L : LsF d xs) (hx : ∀ x ∈ xs, pl x = true) {P : SK} (h1 : Lng W d → P.rt (.bl true) m) (h2 : ¬ Lng W d → P.rt (.bl false) m) : w_is_long_3 K [some (.int W), some d, none] m P := by
  have hg : (0 : Int) < 2 ^ W := Int.pow_pos (by omega)
  unfold w_is_long_3
  refine seq_go (for_go (iseq_go (var_go rfl ?_)))
  rw [L.f.sq]
  refine turns (fun i v m' => m' = m ∧ ∃ x, v = [some (.int W), some d, x] ∧ ∃ ws : List Int, xs.take i = ws.map D.int ∧ Lm.Wok (2 ^ W) ws) ⟨rfl, none, rfl, [], rfl, Lm.Wok.nil⟩ ?_ ?_
  · rintro i y v1 m2 hi ⟨rfl, x, rfl, ws, e1, e2⟩
    have hil := (List.getElem?_eq_some_iff.mp hi).1
    have hy : y ∈ xs := List.mem_of_getElem? hi
    have bad : (∀ j : Int, y = .int j → ¬ (0 ≤ j ∧ j < 2 ^ W)) → ¬ Lng W d := by
      rintro hb ⟨vs, q1, q2, q3⟩
      have e := L.inj q1
      subst e
      obtain ⟨j, j1, rfl⟩ := List.mem_map.mp hy
      exact hb j rfl (q2 j j1)
    show w_is_long_2 K [some (.int W), some d, some y] m2 _
    unfold w_is_long_2
    walk_at "vg"
    refine p_is_whole (hx y hy) ?_
    cases hw : whole y with
    | false =>
      walk_at "vg"
      exact h2 (bad (fun j e => by subst e; cases hw))
    | true =>
      cases y with
      | int j =>
        walk_at "vg"
        refine if_dec (fun c => ?_) (fun c => ?_)
        · walk_at "vg"
          exact h2 (bad (fun j' e => by cases e; omega))
        · walk_at "vg"
          refine if_dec (fun c2 => ?_) (fun c2 => ?_)
          · walk_at "vg"
            refine h2 (bad (fun j' e => by
              cases e
              rintro ⟨_, z⟩
              rw [Int.ediv_eq_zero_of_lt (by omega) z] at c2
              omega))
          · walk_at "vg"
            refine ⟨_, _, Gh.refl, rfl, _, rfl, ws ++ [j], ?_, Lm.wok_append.mpr ⟨e2, Lm.wok_cons.mpr ⟨⟨by omega, ?_⟩, Lm.Wok.nil⟩⟩⟩
            · rw [List.take_succ, e1, hi]
              simp
            · by_cases z : j < 2 ^ W
              · exact z
              · exfalso
                have : 1 ≤ j / 2 ^ W := by
                  rw [Int.le_ediv_iff_mul_le hg]
                  omega
                omega
      | _ => cases hw
  · rintro v1 m2 ⟨rfl, x, rfl, ws, e1, e2⟩
    rw [List.take_length] at e1
    subst e1
    refine nx_go ?_
    unfold w_is_long_1
    walk_at "vg"
    refine len_eq L.f ?_
    walk_at "vg"
    rw [List.length_map]
    refine if_dec (fun c => ?_) (fun c => ?_)
    · walk_at "vg"
      rw [decide_eq_true c]
      have : ws = [] := List.length_eq_zero_iff.mp (by omega)
      subst this
      exact h1 ⟨[], L, Lm.Wok.nil, rfl⟩
    · walk_at "vg"
      have hne : ws ≠ [] := by rintro rfl; exact c rfl
      obtain ⟨vs, w, rfl⟩ : ∃ vs w, ws = vs ++ [w] := ⟨ws.dropLast, ws.getLast hne, (List.dropLast_concat_getLast hne).symm⟩
      rw [List.map_append] at L
      refine idx_eq L.f at_last ?_
      walk_at "vg"
      by_cases z : w = 0
      · rw [decide_eq_true z]
        refine h2 ?_
        rintro ⟨us, q1, q2, q3⟩
        have e := int_inj ((List.map_append ..).trans (L.inj q1))
        subst e
        exact Lm.last_ne q3 z
      · rw [decide_eq_false z]
        exact h1 ⟨_, by rw [List.map_append]; exact L, e2, Lm.trim_snoc z⟩
theorem notlist {d : D} (h : isiQ d "list" = some true) : ∃ xs, LsF d xs := by
  cases d with
  | lst xs => exact ⟨xs, .inl rfl⟩
  | frl xs => exact ⟨xs, .inr rfl⟩
  | non => exact absurd h (by decide)
  | bl b => exact absurd (show isiQ (.bl b) "list" = some false from rfl) (by rw [h]; decide)
  | int b => exact absurd (show isiQ (.int b) "list" = some false from rfl) (by rw [h]; decide)
  | str b => exact absurd (show isiQ (.str b) "list" = some false from rfl) (by rw [h]; decide)
  | tup b => exact absurd (show isiQ (.tup b) "list" = some false from rfl) (by rw [h]; decide)
  | dct b c => exact absurd (show isiQ (.dct b c) "list" = some false from rfl) (by rw [h]; decide)
  | raw b => exact absurd (show isiQ (.raw b) "list" = none from rfl) (by rw [h]; decide)
  | obj b c e => exact absurd (show isiQ (.obj b c e) "list" = none from rfl) (by rw [h]; decide)
theorem isiQ_list {d : D} (hp : pl d = true) : (∃ xs, LsF d xs ∧ isiQ d "list" = some true) ∨ (isiQ d "list" = some false ∧ ∀ xs, ¬ LsF d xs) := by
  cases d with
  | lst xs => exact .inl ⟨xs, .inl rfl, rfl⟩
  | frl xs => exact .inl ⟨xs, .inr rfl, rfl⟩
  | raw b => cases hp
  | obj b c e => cases hp
  | _ => exact .inr ⟨rfl, by rintro xs (h | h) <;> cases h⟩
theorem pl_rs {d : D} (hp : pl d = true) (m : Mem) : res m d = d := by
  cases d <;> first | rfl | cases hp
theorem p_is_long {d : D} (hW : Wd W) (hp : PlL d) (h1 : Lng W d → R (.ret (.bl true)) m) (h2 : ¬ Lng W d → R (.ret (.bl false)) m) : sp_is_long K [.int W, d] m R := by
  show w_is_long K [some (.int W), some d, none] m _
  unfold w_is_long
  walk_at "vg"
  refine p_width hW ?_
  walk_at "vg"
  rcases isiQ_list hp.1 with ⟨xs, L, e⟩ | ⟨e, n⟩
  · refine isi_T (pl_rs hp.1 m) e ?_
    walk_at "vg"
    exact p_long3 hW L (hp.2 xs L) h1 h2
  · refine isi_F (pl_rs hp.1 m) e ?_
    walk_at "vg"
    exact h2 (by rintro ⟨ws, L, _⟩; exact n _ L)
theorem p_need_long {d : D} (hW : Wd W) (hp : PlL d) (h1 : ∀ ws, LsF d (ws.map D.int) → Lm.Wok (2 ^ W) ws → Lm.trim ws = ws → R (.ret (dl ws)) m) (h2 : ¬ Lng W d → R (.exc (NoLong d)) m) : sp_need_long K [.int W, d] m R := by
  show w_need_long K [some (.int W), some d] m _
  unfold w_need_long
  walk_at "vg"
  refine p_is_long hW hp (fun h => ?_) (fun h => ?_)
  · obtain ⟨ws, L, k1, k2⟩ := h
    walk_at "vg"
    unfold w_need_long_1
    walk_at "vg"
    show cList false m [res m d] _
    rw [L.f.rs, L.f.ls]
    walk_at "vg"
    exact h1 ws L k1 k2
  · walk_at "vg"
    exact h2 h
theorem pll_dl {ws : List Int} : PlL (dl ws) := ⟨rfl, by
  rintro xs (h | h) x hx
  · cases h
    obtain ⟨j, _, rfl⟩ := List.mem_map.mp hx
    rfl
  · cases h⟩
theorem p_need_long_ok {ws : List Int} (hW : Wd W) (k1 : Lm.Wok (2 ^ W) ws) (k2 : Lm.trim ws = ws) (h : R (.ret (dl ws)) m) : sp_need_long K [.int W, dl ws] m R := by
  refine p_need_long hW pll_dl (fun vs L _ _ => ?_) (fun n => absurd ⟨ws, .inl rfl, k1, k2⟩ n)
  have := int_inj (L.inj (.inl rfl))
  rw [this]
  exact h
end
end Ab
end

section
namespace Ab
open PySem PySem.Spec PyProof.Rows L2
local macro_rules | `(tactic| walk_at "vg") => `(tactic| repeat' (first | (with_reducible refine nx_go ?_) | (with_reducible refine seq_go ?_) | (with_reducible refine set_go ?_) | (with_reducible refine call_go ?_) | (with_reducible refine cons_go ?_) | (with_reducible refine nil_go ?_) | ((with_reducible apply var_go); next => exact rfl) | (with_reducible refine con_go ?_) | (with_reducible refine op_go ?_) | (with_reducible refine isbl_go ?_) | (with_reducible refine if_go ?_) | (with_reducible refine isB_go ?_) | (with_reducible refine tru_go ?_) | (with_reducible refine trub_go ?_) | (with_reducible refine tri_go ?_) | (with_reducible refine asg_go ?_) | (with_reducible refine drop_go ?_) | (with_reducible refine ret_go ?_) | (with_reducible refine tup_go ?_) | (with_reducible refine cb_go ?_) | (with_reducible refine rt_int ?_) | (with_reducible refine rt_bl ?_) | (with_reducible refine rt_non ?_) | (with_reducible refine rt_tup ?_) | (with_reducible refine rt_str ?_) | (with_reducible refine rt_lst ?_) | (with_reducible refine rt_new ?_) | (with_reducible refine l1_go ?_) | (with_reducible refine l2_go ?_) | (with_reducible refine l3_go ?_) | (with_reducible refine l4_go ?_) | (with_reducible refine l5_go ?_) | (with_reducible refine l6_go ?_) | (with_reducible refine if_T ?_) | (with_reducible refine if_F ?_) | (with_reducible refine if_n ?_) | (with_reducible refine not_go ?_) | (with_reducible refine or_go ?_) | (with_reducible refine and_go ?_) | (with_reducible refine notv_go ?_) | (with_reducible refine andv_go ?_) | (with_reducible refine orv_go ?_) | (with_reducible refine iff_go ?_) | (with_reducible refine chain_go ?_) | (with_reducible refine add_go ?_) | (with_reducible refine sub_go ?_) | (with_reducible refine lt_go ?_) | (with_reducible refine gt_go ?_) | (with_reducible refine ge_go ?_) | (with_reducible refine le_go ?_) | (with_reducible refine eq_go ?_) | (with_reducible refine ne_go ?_) | (with_reducible refine eqs_go ?_) | (with_reducible refine nes_go ?_) | (with_reducible refine eqb_go ?_) | (with_reducible refine neb_go ?_) | (with_reducible refine int_go ?_) | (with_reducible refine inti_go ?_) | (with_reducible refine band_go ?_) | (with_reducible refine bor_go ?_) | (with_reducible refine iadd_go ?_) | (with_reducible refine min_go ?_) | (with_reducible refine max_go ?_) | (with_reducible refine abs_go ?_) | (with_reducible refine neg_go ?_) | (with_reducible refine bits_go ?_) | ((with_reducible apply mulg); next => first | assumption | exact .inl (.inl ⟨by omega, by omega⟩) | exact .inl (.inr ⟨by omega, by omega⟩)) | ((with_reducible apply divg); next => first | assumption | exact divok (by omega) (by omega)) | ((with_reducible apply modg); next => first | assumption | omega) | ((with_reducible apply shl1g); next => omega) | ((with_reducible apply shlng); next => first | assumption | exact .inl ⟨by omega, by omega, by omega⟩) | ((with_reducible apply shlg); next => first | assumption | exact .inl ⟨by omega, by omega, by omega⟩) | (with_reducible refine shrng ?_) | ((with_reducible apply shrg); next => first | assumption | omega) | ((with_reducible apply pow_g); next => first | assumption | exact ⟨by omega, by omega, by omega⟩) | (with_reducible refine two_go ?_) | (with_reducible refine lenl_go ?_) | (with_reducible refine lenf_go ?_) | (with_reducible refine lent_go ?_) | (with_reducible refine lenr_go ?_) | (with_reducible refine idxl_go at0 ?_) | (with_reducible refine idxt_go at0 ?_) | (with_reducible refine idxf_go at0 ?_) | (with_reducible refine idxl_go at1 ?_) | (with_reducible refine idxt_go at1 ?_) | (with_reducible refine idxf_go at1 ?_) | (with_reducible refine idxl_go at2 ?_) | (with_reducible refine idxt_go at2 ?_) | (with_reducible refine idxf_go at2 ?_) | (with_reducible refine idxl_go at3 ?_) | (with_reducible refine idxt_go at3 ?_) | (with_reducible refine idxf_go at3 ?_) | (with_reducible refine idxl_go at4 ?_) | (with_reducible refine idxt_go at4 ?_) | (with_reducible refine idxf_go at4 ?_) | (with_reducible refine idxl_go at5 ?_) | (with_reducible refine idxt_go at5 ?_) | (with_reducible refine idxf_go at5 ?_) | (with_reducible refine idxl_go at_last ?_) | ((with_reducible apply sz_go); next => exact Nat.le_of_ble_eq_true rfl) | (with_reducible refine lstk_go ?_) | (with_reducible refine newt_go ?_) | (with_reducible refine listl_go ?_) | (with_reducible refine listf_go ?_) | (with_reducible refine sl_go ?_) | (with_reducible refine nopart_go ?_) | (with_reducible refine part_go ?_) | (with_reducible refine sll_go ?_) | (with_reducible refine rev_go ?_) | (with_reducible refine mt_go ?_) | (with_reducible refine ist_set ?_) | (with_reducible refine rz1_go ?_) | (with_reducible refine raise_go ?_) | (with_reducible refine nil_s ?_) | (with_reducible refine for_go ?_) | (with_reducible refine iseq_go ?_) | (with_reducible refine skl_go ?_) | (with_reducible refine skf_go ?_) | (with_reducible refine skt_go ?_) | (with_reducible refine ir1_go ?_) | (with_reducible refine ir2_go ?_) | (with_reducible refine ir3_go ?_) | (with_reducible refine ienum_go ?_) | (with_reducible refine par_go ?_) | ((with_reducible apply app_set); next => first | omega | (simp only [List.length_append, List.length_cons, List.length_nil, List.length_map]; omega)) | ((with_reducible apply aug_go); next => exact rfl) | ((with_reducible apply isi_T); (next => exact rfl); (next => exact rfl)) | ((with_reducible apply isi_F); (next => exact rfl); (next => exact rfl)) | ((with_reducible apply if_D); next => first | assumption | omega) | ((with_reducible apply if_N); next => first | assumption | omega) | ((with_reducible apply if_t); next => assumption) | ((with_reducible apply if_f); next => assumption) | (dsimp only)))
local macro_rules | `(tactic| walk_at "vh") => `(tactic| repeat' (first | (with_reducible refine seq_go ?_) | (with_reducible refine set_go ?_) | (with_reducible refine call_go ?_) | (with_reducible refine cons_go ?_) | (with_reducible refine nil_go ?_) | ((with_reducible apply var_go); next => exact rfl) | (with_reducible refine con_go ?_) | (with_reducible refine op_go ?_) | (with_reducible refine isbl_go ?_) | (with_reducible refine if_go ?_) | (with_reducible refine isB_go ?_) | (with_reducible refine tru_go ?_) | (with_reducible refine trub_go ?_) | (with_reducible refine tri_go ?_) | (with_reducible refine asg_go ?_) | (with_reducible refine drop_go ?_) | (with_reducible refine ret_go ?_) | (with_reducible refine tup_go ?_) | (with_reducible refine cb_go ?_) | (with_reducible refine rt_int ?_) | (with_reducible refine rt_bl ?_) | (with_reducible refine rt_non ?_) | (with_reducible refine rt_tup ?_) | (with_reducible refine rt_str ?_) | (with_reducible refine rt_lst ?_) | (with_reducible refine rt_new ?_) | (with_reducible refine l1_go ?_) | (with_reducible refine l2_go ?_) | (with_reducible refine l3_go ?_) | (with_reducible refine l4_go ?_) | (with_reducible refine l5_go ?_) | (with_reducible refine l6_go ?_) | (with_reducible refine if_T ?_) | (with_reducible refine if_F ?_) | (with_reducible refine if_n ?_) | (with_reducible refine not_go ?_) | (with_reducible refine or_go ?_) | (with_reducible refine and_go ?_) | (with_reducible refine notv_go ?_) | (with_reducible refine andv_go ?_) | (with_reducible refine orv_go ?_) | (with_reducible refine iff_go ?_) | (with_reducible refine chain_go ?_) | (with_reducible refine add_go ?_) | (with_reducible refine sub_go ?_) | (with_reducible refine lt_go ?_) | (with_reducible refine gt_go ?_) | (with_reducible refine ge_go ?_) | (with_reducible refine le_go ?_) | (with_reducible refine eq_go ?_) | (with_reducible refine ne_go ?_) | (with_reducible refine eqs_go ?_) | (with_reducible refine nes_go ?_) | (with_reducible refine eqb_go ?_) | (with_reducible refine neb_go ?_) | (with_reducible refine int_go ?_) | (with_reducible refine inti_go ?_) | (with_reducible refine band_go ?_) | (with_reducible refine bor_go ?_) | (with_reducible refine iadd_go ?_) | (with_reducible refine min_go ?_) | (with_reducible refine max_go ?_) | (with_reducible refine abs_go ?_) | (with_reducible refine neg_go ?_) | (with_reducible refine bits_go ?_) | ((with_reducible apply mulg); next => first | assumption | exact .inl (.inl ⟨by omega, by omega⟩) | exact .inl (.inr ⟨by omega, by omega⟩)) | ((with_reducible apply divg); next => first | assumption | exact divok (by omega) (by omega)) | ((with_reducible apply modg); next => first | assumption | omega) | ((with_reducible apply shl1g); next => omega) | ((with_reducible apply shlng); next => first | assumption | exact .inl ⟨by omega, by omega, by omega⟩) | ((with_reducible apply shlg); next => first | assumption | exact .inl ⟨by omega, by omega, by omega⟩) | (with_reducible refine shrng ?_) | ((with_reducible apply shrg); next => first | assumption | omega) | ((with_reducible apply pow_g); next => first | assumption | exact ⟨by omega, by omega, by omega⟩) | (with_reducible refine two_go ?_) | (with_reducible refine lenl_go ?_) | (with_reducible refine lenf_go ?_) | (with_reducible refine lent_go ?_) | (with_reducible refine lenr_go ?_) | (with_reducible refine idxl_go at0 ?_) | (with_reducible refine idxt_go at0 ?_) | (with_reducible refine idxf_go at0 ?_) | (with_reducible refine idxl_go at1 ?_) | (with_reducible refine idxt_go at1 ?_) | (with_reducible refine idxf_go at1 ?_) | (with_reducible refine idxl_go at2 ?_) | (with_reducible refine idxt_go at2 ?_) | (with_reducible refine idxf_go at2 ?_) | (with_reducible refine idxl_go at3 ?_) | (with_reducible refine idxt_go at3 ?_) | (with_reducible refine idxf_go at3 ?_) | (with_reducible refine idxl_go at4 ?_) | (with_reducible refine idxt_go at4 ?_) | (with_reducible refine idxf_go at4 ?_) | (with_reducible refine idxl_go at5 ?_) | (with_reducible refine idxt_go at5 ?_) | (with_reducible refine idxf_go at5 ?_) | (with_reducible refine idxl_go at_last ?_) | ((with_reducible apply sz_go); next => exact Nat.le_of_ble_eq_true rfl) | (with_reducible refine lstk_go ?_) | (with_reducible refine newt_go ?_) | (with_reducible refine listl_go ?_) | (with_reducible refine listf_go ?_) | (with_reducible refine sl_go ?_) | (with_reducible refine nopart_go ?_) | (with_reducible refine part_go ?_) | (with_reducible refine sll_go ?_) | (with_reducible refine rev_go ?_) | (with_reducible refine mt_go ?_) | (with_reducible refine ist_set ?_) | (with_reducible refine rz1_go ?_) | (with_reducible refine raise_go ?_) | (with_reducible refine nil_s ?_) | (with_reducible refine for_go ?_) | (with_reducible refine iseq_go ?_) | (with_reducible refine skl_go ?_) | (with_reducible refine skf_go ?_) | (with_reducible refine skt_go ?_) | (with_reducible refine ir1_go ?_) | (with_reducible refine ir2_go ?_) | (with_reducible refine ir3_go ?_) | (with_reducible refine ienum_go ?_) | (with_reducible refine par_go ?_) | ((with_reducible apply app_set); next => first | omega | (simp only [List.length_append, List.length_cons, List.length_nil, List.length_map]; omega)) | ((with_reducible apply aug_go); next => exact rfl) | ((with_reducible apply isi_T); (next => exact rfl); (next => exact rfl)) | ((with_reducible apply isi_F); (next => exact rfl); (next => exact rfl)) | ((with_reducible apply if_D); next => first | assumption | omega) | ((with_reducible apply if_N); next => first | assumption | omega) | ((with_reducible apply if_t); next => assumption) | ((with_reducible apply if_f); next => assumption) | (dsimp only)))
local macro_rules | `(tactic| walk_at "vs") => `(tactic| repeat' (first | (with_reducible refine nx_go ?_) | (with_reducible refine seq_go ?_) | (with_reducible refine set_go ?_) | (with_reducible refine call_go ?_) | (with_reducible refine cons_go ?_) | (with_reducible refine nil_go ?_) | ((with_reducible apply var_go); next => exact rfl) | (with_reducible refine con_go ?_) | (with_reducible refine op_go ?_) | (with_reducible refine isbl_go ?_) | (with_reducible refine if_go ?_) | (with_reducible refine isB_go ?_) | (with_reducible refine tru_go ?_) | (with_reducible refine trub_go ?_) | (with_reducible refine tri_go ?_) | (with_reducible refine asg_go ?_) | (with_reducible refine drop_go ?_) | (with_reducible refine ret_go ?_) | (with_reducible refine tup_go ?_) | (with_reducible refine cb_go ?_) | (with_reducible refine rt_int ?_) | (with_reducible refine rt_bl ?_) | (with_reducible refine rt_non ?_) | (with_reducible refine rt_tup ?_) | (with_reducible refine rt_str ?_) | (with_reducible refine rt_lst ?_) | (with_reducible refine rt_new ?_) | (with_reducible refine l1_go ?_) | (with_reducible refine l2_go ?_) | (with_reducible refine l3_go ?_) | (with_reducible refine l4_go ?_) | (with_reducible refine l5_go ?_) | (with_reducible refine l6_go ?_) | (with_reducible refine if_T ?_) | (with_reducible refine if_F ?_) | (with_reducible refine if_n ?_) | (with_reducible refine not_go ?_) | (with_reducible refine or_go ?_) | (with_reducible refine and_go ?_) | (with_reducible refine notv_go ?_) | (with_reducible refine andv_go ?_) | (with_reducible refine orv_go ?_) | (with_reducible refine iff_go ?_) | (with_reducible refine chain_go ?_) | (with_reducible refine add_go ?_) | (with_reducible refine sub_go ?_) | (with_reducible refine lt_go ?_) | (with_reducible refine gt_go ?_) | (with_reducible refine ge_go ?_) | (with_reducible refine le_go ?_) | (with_reducible refine eq_go ?_) | (with_reducible refine ne_go ?_) | (with_reducible refine eqs_go ?_) | (with_reducible refine nes_go ?_) | (with_reducible refine eqb_go ?_) | (with_reducible refine neb_go ?_) | (with_reducible refine int_go ?_) | (with_reducible refine inti_go ?_) | (with_reducible refine band_go ?_) | (with_reducible refine bor_go ?_) | (with_reducible refine iadd_go ?_) | (with_reducible refine min_go ?_) | (with_reducible refine max_go ?_) | (with_reducible refine abs_go ?_) | (with_reducible refine neg_go ?_) | (with_reducible refine bits_go ?_) | ((with_reducible apply mulg); next => first | assumption | exact .inl (.inl ⟨by omega, by omega⟩) | exact .inl (.inr ⟨by omega, by omega⟩)) | ((with_reducible apply divg); next => first | assumption | exact divok (by omega) (by omega)) | ((with_reducible apply modg); next => first | assumption | omega) | ((with_reducible apply shl1g); next => omega) | ((with_reducible apply shlng); next => first | assumption | exact .inl ⟨by omega, by omega, by omega⟩) | ((with_reducible apply shlg); next => first | assumption | exact .inl ⟨by omega, by omega, by omega⟩) | (with_reducible refine shrng ?_) | ((with_reducible apply shrg); next => first | assumption | omega) | ((with_reducible apply pow_g); next => first | assumption | exact ⟨by omega, by omega, by omega⟩) | (with_reducible refine two_go ?_) | (with_reducible refine lenl_go ?_) | (with_reducible refine lenf_go ?_) | (with_reducible refine lent_go ?_) | (with_reducible refine lenr_go ?_) | (with_reducible refine idxl_go at0 ?_) | (with_reducible refine idxt_go at0 ?_) | (with_reducible refine idxf_go at0 ?_) | (with_reducible refine idxl_go at1 ?_) | (with_reducible refine idxt_go at1 ?_) | (with_reducible refine idxf_go at1 ?_) | (with_reducible refine idxl_go at2 ?_) | (with_reducible refine idxt_go at2 ?_) | (with_reducible refine idxf_go at2 ?_) | (with_reducible refine idxl_go at3 ?_) | (with_reducible refine idxt_go at3 ?_) | (with_reducible refine idxf_go at3 ?_) | (with_reducible refine idxl_go at4 ?_) | (with_reducible refine idxt_go at4 ?_) | (with_reducible refine idxf_go at4 ?_) | (with_reducible refine idxl_go at5 ?_) | (with_reducible refine idxt_go at5 ?_) | (with_reducible refine idxf_go at5 ?_) | (with_reducible refine idxl_go at_last ?_) | ((with_reducible apply sz_go); next => exact Nat.le_of_ble_eq_true rfl) | (with_reducible refine lstk_go ?_) | (with_reducible refine newt_go ?_) | (with_reducible refine listl_go ?_) | (with_reducible refine listf_go ?_) | (with_reducible refine sl_go ?_) | (with_reducible refine nopart_go ?_) | (with_reducible refine part_go ?_) | (with_reducible refine sll_go ?_) | (with_reducible refine rev_go ?_) | (with_reducible refine mt_go ?_) | (with_reducible refine ist_set ?_) | (with_reducible refine rz1_go ?_) | (with_reducible refine raise_go ?_) | (with_reducible refine nil_s ?_) | (with_reducible refine for_go ?_) | (with_reducible refine iseq_go ?_) | (with_reducible refine skl_go ?_) | (with_reducible refine skf_go ?_) | (with_reducible refine skt_go ?_) | (with_reducible refine ir1_go ?_) | (with_reducible refine ir2_go ?_) | (with_reducible refine ir3_go ?_) | (with_reducible refine ienum_go ?_) | (with_reducible refine par_go ?_) | ((with_reducible apply app_set); next => first | omega | (simp only [List.length_append, List.length_cons, List.length_nil, List.length_map]; omega)) | ((with_reducible apply aug_go); next => exact rfl) | ((with_reducible apply isi_T); (next => exact rfl); (next => exact rfl)) | ((with_reducible apply isi_F); (next => exact rfl); (next => exact rfl)) | ((with_reducible apply if_D); next => first | assumption | omega) | ((with_reducible apply if_N); next => first | assumption | omega) | ((with_reducible apply if_t); next => assumption) | ((with_reducible apply if_f); next => assumption) | (with_reducible refine if_dec (fun _ => ?_) (fun _ => ?_)) | (dsimp only)))
section
variable {K : PySem.W.Frag} {m : Mem} {R : ARes → Mem → Prop} {W : Nat}
theorem at_dl {ws : List Int} {i : Nat} (h : i < ws.length) : atI (ws.map D.int) (i : Int) = some (.int ws[i]) :=
  at_nat (by omega) (by rw [Int.toNat_natCast, List.getElem?_map, List.getElem?_eq_getElem h]; rfl)
theorem at_dl' {ws : List Int} {i : Nat} {j : Int} (e : j = i) (h : i < ws.length) : atI (ws.map D.int) j = some (.int ws[i]) := by rw [e]; exact at_dl h
theorem p_word_at {ws : List Int} {i : Nat} (h : R (.ret (.int (ws.getD i 0))) m) : sp_word_at K [dl ws, .int (i : Nat)] m R := by
  show w_word_at K [some (dl ws), some (.int (i : Nat))] m _
  unfold w_word_at
  walk_at "vg"
  rw [List.length_map]
  refine if_dec (fun c => ?_) (fun c => ?_)
  · have hl : i < ws.length := by omega
    walk_at "vg"
    refine idxl_go (at_dl hl) ?_
    walk_at "vg"
    rw [List.getD_eq_getElem?_getD, List.getElem?_eq_getElem hl] at h
    exact h
  · walk_at "vg"
    unfold w_word_at_1
    walk_at "vg"
    rw [List.getD_eq_getElem?_getD, List.getElem?_eq_none (by omega)] at h
    exact h
theorem cut_to {α : Type} {xs : List D} {n : Nat} (h : n ≤ xs.length) : cutD xs none (some (n : Int)) = xs.take n := by
  unfold cutD
  rw [HT.sIx_nat, Nat.min_eq_left h]
  show (xs.drop 0).take (n - 0) = _
  simp
theorem trim_take {ws : List Int} {n : Nat} (hn : n < ws.length) (h : ws[n] = 0) : Lm.trim (ws.take (n + 1)) = Lm.trim (ws.take n) := by
  rw [← List.take_append_getElem hn, h, Lm.trim_snoc0]
/-- what a list that may be changed holds -/
structure LR (m : Mem) (d : D) (xs : List D) : Prop where
  rs : res m d = .lst xs
theorem LR.dl {ws : List Int} : LR m (dl ws) (ws.map D.int) := ⟨rfl⟩
theorem LR.at {a : Addr} {xs : List D} (h : m a = some (.lst xs)) : LR m (.raw (.ref a)) xs := ⟨res_some h⟩
theorem LR.set {a : Addr} {xs : List D} : LR (setM m a (.lst xs)) (.raw (.ref a)) xs := ⟨res_set⟩
theorem idx_lr {d : D} {xs : List D} {y : D} {i : Int} {k : KE} (L : LR m d xs) (h : atI xs i = some y) (hk : k y m) : oIdx m (res m d) (res m (.int i)) k := by
  rw [L.rs]
  exact ⟨y, h, hk⟩
theorem len_lr {d : D} {xs : List D} {k : KE} (L : LR m d xs) (hk : k (.int xs.length) m) : cLen m ([d].map (res m)) k := by
  show cLen m [res m d] k
  rw [L.rs]
  exact hk
theorem sl_lr {d : D} {xs : List D} {z : Bool} {lo hi : Option Int} {k : KE} (L : LR m d xs) (hk : newK z (.lst (cutD xs lo hi)) m k) : oSl z m (res m d) lo hi k := by
  rw [L.rs]
  exact hk
theorem p_trimmedR {d : D} {ws : List Int} (L : LR m d (ws.map D.int)) {Z : D → Mem → Prop} (h : newK false (dl (Lm.trim ws)) m Z) (hR : ∀ d m1, Z d m1 → ∃ d' m', GhD d m1 d' m' ∧ R (.ret d') m') : sp_trimmed K [d] m R := by
  show w_trimmed K [some d, none] m _
  unfold w_trimmed
  walk_at "vg"
  refine len_lr L ?_
  walk_at "vg"
  rw [List.length_map]
  refine while_go (fun n v m' => m' = m ∧ v = [some d, some (.int (n : Nat))] ∧ n ≤ ws.length ∧ Lm.trim (ws.take n) = Lm.trim ws) ⟨ws.length, rfl, rfl, Nat.le_refl _, by rw [List.take_length]⟩ ?_
  rintro n v m' ⟨rfl, rfl, hn, ht⟩
  have fin : (∀ k, n = k + 1 → ws[k]? ≠ some 0) → Nx (w_trimmed_1 K) ⟨fun x m => R (.ret .non) m, fun d m => R (.ret d) m, fun _ _ => False, fun _ _ => False, fun x _ m => R (.exc x) m⟩ [some d, some (.int (n : Nat))] m' := by
    intro hk
    refine nx_go ?_
    unfold w_trimmed_1
    walk_at "vg"
    refine sl_lr L ?_
    rw [cut_to (α := Unit) (by rw [List.length_map]; exact hn), ← List.map_take]
    have e : Lm.trim ws = ws.take n := by
      rw [← ht]
      cases n with
      | zero => rfl
      | succ k =>
        have hk1 : k < ws.length := by omega
        have h0 := hk k rfl
        rw [List.getElem?_eq_getElem hk1] at h0
        rw [← List.take_append_getElem hk1]
        exact Lm.trim_snoc (fun z => h0 (by rw [z]))
    rw [e] at h
    intro a ha
    exact hR _ _ (h a ha)
  walk_at "vg"
  refine if_dec (fun c => ?_) (fun c => ?_)
  · obtain ⟨k, rfl⟩ : ∃ k, n = k + 1 := ⟨n - 1, by omega⟩
    have hk : k < ws.length := by omega
    walk_at "vg"
    refine idx_lr L (at_dl' (i := k) (by omega) hk) ?_
    walk_at "vg"
    refine if_dec (fun c2 => ?_) (fun c2 => ?_)
    · walk_at "vg"
      unfold w_trimmed_2
      walk_at "vg"
      refine ⟨_, _, k, Gh.refl, by omega, rfl, ?_, by omega, by rw [← trim_take hk c2]; exact ht⟩
      have e : (((k + 1 : Nat) : Int) - 1) = (k : Int) := by omega
      show [some d, some (D.int (((k + 1 : Nat) : Int) - 1))] = _
      rw [e]
    · walk_at "vh"
      refine fin fun j hj => ?_
      obtain rfl : k = j := by omega
      rw [List.getElem?_eq_getElem hk]
      simpa using c2
  · walk_at "vh"
    refine fin fun j hj => ?_
    omega
theorem p_trimmed {ws : List Int} (h : R (.ret (dl (Lm.trim ws))) m) : sp_trimmed K [dl ws] m R :=
  p_trimmedR LR.dl (Z := fun d m1 => ∃ d' m', GhD d m1 d' m' ∧ R (.ret d') m') (rt_new h) (fun _ _ z => z)
theorem p_trimmedM {d : D} {ws : List Int} (L : LR m d (ws.map D.int)) (h : ∀ a, m a = none → R (.ret (.raw (.ref a))) (setM m a (dl (Lm.trim ws)))) : sp_trimmed K [d] m R :=
  p_trimmedR L (Z := fun d m1 => R (.ret d) m1) (fun a ha => h a ha) (fun _ _ z => rt_any z)
end
end Ab
end

section
namespace Ab
open PySem PySem.Spec PyProof.Rows L2
local macro_rules | `(tactic| walk_at "vg") => `(tactic| repeat' (first | (with_reducible refine nx_go ?_) | (with_reducible refine seq_go ?_) | (with_reducible refine set_go ?_) | (with_reducible refine call_go ?_) | (with_reducible refine cons_go ?_) | (with_reducible refine nil_go ?_) | ((with_reducible apply var_go); next => exact rfl) | (with_reducible refine con_go ?_) | (with_reducible refine op_go ?_) | (with_reducible refine isbl_go ?_) | (with_reducible refine if_go ?_) | (with_reducible refine isB_go ?_) | (with_reducible refine tru_go ?_) | (with_reducible refine trub_go ?_) | (with_reducible refine tri_go ?_) | (with_reducible refine asg_go ?_) | (with_reducible refine drop_go ?_) | (with_reducible refine ret_go ?_) | (with_reducible refine tup_go ?_) | (with_reducible refine cb_go ?_) | (with_reducible refine rt_int ?_) | (with_reducible refine rt_bl ?_) | (with_reducible refine rt_non ?_) | (with_reducible refine rt_tup ?_) | (with_reducible refine rt_str ?_) | (with_reducible refine rt_lst ?_) | (with_reducible refine rt_new ?_) | (with_reducible refine l1_go ?_) | (with_reducible refine l2_go ?_) | (with_reducible refine l3_go ?_) | (with_reducible refine l4_go ?_) | (with_reducible refine l5_go ?_) | (with_reducible refine l6_go ?_) | (with_reducible refine if_T ?_) | (with_reducible refine if_F ?_) | (with_reducible refine if_n ?_) | (with_reducible refine not_go ?_) | (with_reducible refine or_go ?_) | (with_reducible refine and_go ?_) | (with_reducible refine notv_go ?_) | (with_reducible refine andv_go ?_) | (with_reducible refine orv_go ?_) | (with_reducible refine iff_go ?_) | (with_reducible refine chain_go ?_) | (with_reducible refine add_go ?_) | (with_reducible refine sub_go ?_) | (with_reducible refine lt_go ?_) | (with_reducible refine gt_go ?_) | (with_reducible refine ge_go ?_) | (with_reducible refine le_go ?_) | (with_reducible refine eq_go ?_) | (with_reducible refine ne_go ?_) | (with_reducible refine eqs_go ?_) | (with_reducible refine nes_go ?_) | (with_reducible refine eqb_go ?_) | (with_reducible refine neb_go ?_) | (with_reducible refine int_go ?_) | (with_reducible refine inti_go ?_) | (with_reducible refine band_go ?_) | (with_reducible refine bor_go ?_) | (with_reducible refine iadd_go ?_) | (with_reducible refine min_go ?_) | (with_reducible refine max_go ?_) | (with_reducible refine abs_go ?_) | (with_reducible refine neg_go ?_) | (with_reducible refine bits_go ?_) | ((with_reducible apply mulg); next => first | assumption | exact .inl (.inl ⟨by omega, by omega⟩) | exact .inl (.inr ⟨by omega, by omega⟩)) | ((with_reducible apply divg); next => first | assumption | exact divok (by omega) (by omega)) | ((with_reducible apply modg); next => first | assumption | omega) | ((with_reducible apply shl1g); next => omega) | ((with_reducible apply shlng); next => first | assumption | exact .inl ⟨by omega, by omega, by omega⟩) | ((with_reducible apply shlg); next => first | assumption | exact .inl ⟨by omega, by omega, by omega⟩) | (with_reducible refine shrng ?_) | ((with_reducible apply shrg); next => first | assumption | omega) | ((with_reducible apply pow_g); next => first | assumption | exact ⟨by omega, by omega, by omega⟩) | (with_reducible refine two_go ?_) | (with_reducible refine lenl_go ?_) | (with_reducible refine lenf_go ?_) | (with_reducible refine lent_go ?_) | (with_reducible refine lenr_go ?_) | (with_reducible refine idxl_go at0 ?_) | (with_reducible refine idxt_go at0 ?_) | (with_reducible refine idxf_go at0 ?_) | (with_reducible refine idxl_go at1 ?_) | (with_reducible refine idxt_go at1 ?_) | (with_reducible refine idxf_go at1 ?_) | (with_reducible refine idxl_go at2 ?_) | (with_reducible refine idxt_go at2 ?_) | (with_reducible refine idxf_go at2 ?_) | (with_reducible refine idxl_go at3 ?_) | (with_reducible refine idxt_go at3 ?_) | (with_reducible refine idxf_go at3 ?_) | (with_reducible refine idxl_go at4 ?_) | (with_reducible refine idxt_go at4 ?_) | (with_reducible refine idxf_go at4 ?_) | (with_reducible refine idxl_go at5 ?_) | (with_reducible refine idxt_go at5 ?_) | (with_reducible refine idxf_go at5 ?_) | (with_reducible refine idxl_go at_last ?_) | ((with_reducible apply sz_go); next => exact Nat.le_of_ble_eq_true rfl) | (with_reducible refine lstk_go ?_) | (with_reducible refine newt_go ?_) | (with_reducible refine listl_go ?_) | (with_reducible refine listf_go ?_) | (with_reducible refine sl_go ?_) | (with_reducible refine nopart_go ?_) | (with_reducible refine part_go ?_) | (with_reducible refine sll_go ?_) | (with_reducible refine rev_go ?_) | (with_reducible refine mt_go ?_) | (with_reducible refine ist_set ?_) | (with_reducible refine rz1_go ?_) | (with_reducible refine raise_go ?_) | (with_reducible refine nil_s ?_) | (with_reducible refine for_go ?_) | (with_reducible refine iseq_go ?_) | (with_reducible refine skl_go ?_) | (with_reducible refine skf_go ?_) | (with_reducible refine skt_go ?_) | (with_reducible refine ir1_go ?_) | (with_reducible refine ir2_go ?_) | (with_reducible refine ir3_go ?_) | (with_reducible refine ienum_go ?_) | (with_reducible refine par_go ?_) | ((with_reducible apply app_set); next => first | omega | (simp only [List.length_append, List.length_cons, List.length_nil, List.length_map]; omega)) | ((with_reducible apply aug_go); next => exact rfl) | ((with_reducible apply isi_T); (next => exact rfl); (next => exact rfl)) | ((with_reducible apply isi_F); (next => exact rfl); (next => exact rfl)) | ((with_reducible apply if_D); next => first | assumption | omega) | ((with_reducible apply if_N); next => first | assumption | omega) | ((with_reducible apply if_t); next => assumption) | ((with_reducible apply if_f); next => assumption) | (dsimp only)))
local macro_rules | `(tactic| walk_at "vh") => `(tactic| repeat' (first | (with_reducible refine seq_go ?_) | (with_reducible refine set_go ?_) | (with_reducible refine call_go ?_) | (with_reducible refine cons_go ?_) | (with_reducible refine nil_go ?_) | ((with_reducible apply var_go); next => exact rfl) | (with_reducible refine con_go ?_) | (with_reducible refine op_go ?_) | (with_reducible refine isbl_go ?_) | (with_reducible refine if_go ?_) | (with_reducible refine isB_go ?_) | (with_reducible refine tru_go ?_) | (with_reducible refine trub_go ?_) | (with_reducible refine tri_go ?_) | (with_reducible refine asg_go ?_) | (with_reducible refine drop_go ?_) | (with_reducible refine ret_go ?_) | (with_reducible refine tup_go ?_) | (with_reducible refine cb_go ?_) | (with_reducible refine rt_int ?_) | (with_reducible refine rt_bl ?_) | (with_reducible refine rt_non ?_) | (with_reducible refine rt_tup ?_) | (with_reducible refine rt_str ?_) | (with_reducible refine rt_lst ?_) | (with_reducible refine rt_new ?_) | (with_reducible refine l1_go ?_) | (with_reducible refine l2_go ?_) | (with_reducible refine l3_go ?_) | (with_reducible refine l4_go ?_) | (with_reducible refine l5_go ?_) | (with_reducible refine l6_go ?_) | (with_reducible refine if_T ?_) | (with_reducible refine if_F ?_) | (with_reducible refine if_n ?_) | (with_reducible refine not_go ?_) | (with_reducible refine or_go ?_) | (with_reducible refine and_go ?_) | (with_reducible refine notv_go ?_) | (with_reducible refine andv_go ?_) | (with_reducible refine orv_go ?_) | (with_reducible refine iff_go ?_) | (with_reducible refine chain_go ?_) | (with_reducible refine add_go ?_) | (with_reducible refine sub_go ?_) | (with_reducible refine lt_go ?_) | (with_reducible refine gt_go ?_) | (with_reducible refine ge_go ?_) | (with_reducible refine le_go ?_) | (with_reducible refine eq_go ?_) | (with_reducible refine ne_go ?_) | (with_reducible refine eqs_go ?_) | (with_reducible refine nes_go ?_) | (with_reducible refine eqb_go ?_) | (with_reducible refine neb_go ?_) | (with_reducible refine int_go ?_) | (with_reducible refine inti_go ?_) | (with_reducible refine band_go ?_) | (with_reducible refine bor_go ?_) | (with_reducible refine iadd_go ?_) | (with_reducible refine min_go ?_) | (with_reducible refine max_go ?_) | (with_reducible refine abs_go ?_) | (with_reducible refine neg_go ?_) | (with_reducible refine bits_go ?_) | ((with_reducible apply mulg); next => first | assumption | exact .inl (.inl ⟨by omega, by omega⟩) | exact .inl (.inr ⟨by omega, by omega⟩)) | ((with_reducible apply divg); next => first | assumption | exact divok (by omega) (by omega)) | ((with_reducible apply modg); next => first | assumption | omega) | ((with_reducible apply shl1g); next => omega) | ((with_reducible apply shlng); next => first | assumption | exact .inl ⟨by omega, by omega, by omega⟩) | ((with_reducible apply shlg); next => first | assumption | exact .inl ⟨by omega, by omega, by omega⟩) | (with_reducible refine shrng ?_) | ((with_reducible apply shrg); next => first | assumption | omega) | ((with_reducible apply pow_g); next => first | assumption | exact ⟨by omega, by omega, by omega⟩) | (with_reducible refine two_go ?_) | (with_reducible refine lenl_go ?_) | (with_reducible refine lenf_go ?_) | (with_reducible refine lent_go ?_) | (with_reducible refine lenr_go ?_) | (with_reducible refine idxl_go at0 ?_) | (with_reducible refine idxt_go at0 ?_) | (with_reducible refine idxf_go at0 ?_) | (with_reducible refine idxl_go at1 ?_) | (with_reducible refine idxt_go at1 ?_) | (with_reducible refine idxf_go at1 ?_) | (with_reducible refine idxl_go at2 ?_) | (with_reducible refine idxt_go at2 ?_) | (with_reducible refine idxf_go at2 ?_) | (with_reducible refine idxl_go at3 ?_) | (with_reducible refine idxt_go at3 ?_) | (with_reducible refine idxf_go at3 ?_) | (with_reducible refine idxl_go at4 ?_) | (with_reducible refine idxt_go at4 ?_) | (with_reducible refine idxf_go at4 ?_) | (with_reducible refine idxl_go at5 ?_) | (with_reducible refine idxt_go at5 ?_) | (with_reducible refine idxf_go at5 ?_) | (with_reducible refine idxl_go at_last ?_) | ((with_reducible apply sz_go); next => exact Nat.le_of_ble_eq_true rfl) | (with_reducible refine lstk_go ?_) | (with_reducible refine newt_go ?_) | (with_reducible refine listl_go ?_) | (with_reducible refine listf_go ?_) | (with_reducible refine sl_go ?_) | (with_reducible refine nopart_go ?_) | (with_reducible refine part_go ?_) | (with_reducible refine sll_go ?_) | (with_reducible refine rev_go ?_) | (with_reducible refine mt_go ?_) | (with_reducible refine ist_set ?_) | (with_reducible refine rz1_go ?_) | (with_reducible refine raise_go ?_) | (with_reducible refine nil_s ?_) | (with_reducible refine for_go ?_) | (with_reducible refine iseq_go ?_) | (with_reducible refine skl_go ?_) | (with_reducible refine skf_go ?_) | (with_reducible refine skt_go ?_) | (with_reducible refine ir1_go ?_) | (with_reducible refine ir2_go ?_) | (with_reducible refine ir3_go ?_) | (with_reducible refine ienum_go ?_) | (with_reducible refine par_go ?_) | ((with_reducible apply app_set); next => first | omega | (simp only [List.length_append, List.length_cons, List.length_nil, List.length_map]; omega)) | ((with_reducible apply aug_go); next => exact rfl) | ((with_reducible apply isi_T); (next => exact rfl); (next => exact rfl)) | ((with_reducible apply isi_F); (next => exact rfl); (next => exact rfl)) | ((with_reducible apply if_D); next => first | assumption | omega) | ((with_reducible apply if_N); next => first | assumption | omega) | ((with_reducible apply if_t); next => assumption) | ((with_reducible apply if_f); next => assumption) | (dsimp only)))
local macro_rules | `(tactic| walk_at "vs") => `(tactic| repeat' (first | (with_reducible refine nx_go ?_) | (with_reducible refine seq_go ?_) | (with_reducible refine set_go ?_) | (with_reducible refine call_go ?_) | (with_reducible refine cons_go ?_) | (with_reducible refine nil_go ?_) | ((with_reducible apply var_go); next => exact rfl) | (with_reducible refine con_go ?_) | (with_reducible refine op_go ?_) | (with_reducible refine isbl_go ?_) | (with_reducible refine if_go ?_) | (with_reducible refine isB_go ?_) | (with_reducible refine tru_go ?_) | (with_reducible refine trub_go ?_) | (with_reducible refine tri_go ?_) | (with_reducible refine asg_go ?_) | (with_reducible refine drop_go ?_) | (with_reducible refine ret_go ?_) | (with_reducible refine tup_go ?_) | (with_reducible refine cb_go ?_) | (with_reducible refine rt_int ?_) | (with_reducible refine rt_bl ?_) | (with_reducible refine rt_non ?_) | (with_reducible refine rt_tup ?_) | (with_reducible refine rt_str ?_) | (with_reducible refine rt_lst ?_) | (with_reducible refine rt_new ?_) | (with_reducible refine l1_go ?_) | (with_reducible refine l2_go ?_) | (with_reducible refine l3_go ?_) | (with_reducible refine l4_go ?_) | (with_reducible refine l5_go ?_) | (with_reducible refine l6_go ?_) | (with_reducible refine if_T ?_) | (with_reducible refine if_F ?_) | (with_reducible refine if_n ?_) | (with_reducible refine not_go ?_) | (with_reducible refine or_go ?_) | (with_reducible refine and_go ?_) | (with_reducible refine notv_go ?_) | (with_reducible refine andv_go ?_) | (with_reducible refine orv_go ?_) | (with_reducible refine iff_go ?_) | (with_reducible refine chain_go ?_) | (with_reducible refine add_go ?_) | (with_reducible refine sub_go ?_) | (with_reducible refine lt_go ?_) | (with_reducible refine gt_go ?_) | (with_reducible refine ge_go ?_) | (with_reducible refine le_go ?_) | (with_reducible refine eq_go ?_) | (with_reducible refine ne_go ?_) | (with_reducible refine eqs_go ?_) | (with_reducible refine nes_go ?_) | (with_reducible refine eqb_go ?_) | (with_reducible refine neb_go ?_) | (with_reducible refine int_go ?_) | (with_reducible refine inti_go ?_) | (with_reducible refine band_go ?_) | (with_reducible refine bor_go ?_) | (with_reducible refine iadd_go ?_) | (with_reducible refine min_go ?_) | (with_reducible refine max_go ?_) | (with_reducible refine abs_go ?_) | (with_reducible refine neg_go ?_) | (with_reducible refine bits_go ?_) | ((with_reducible apply mulg); next => first | assumption | exact .inl (.inl ⟨by omega, by omega⟩) | exact .inl (.inr ⟨by omega, by omega⟩)) | ((with_reducible apply divg); next => first | assumption | exact divok (by omega) (by omega)) | ((with_reducible apply modg); next => first | assumption | omega) | ((with_reducible apply shl1g); next => omega) | ((with_reducible apply shlng); next => first | assumption | exact .inl ⟨by omega, by omega, by omega⟩) | ((with_reducible apply shlg); next => first | assumption | exact .inl ⟨by omega, by omega, by omega⟩) | (with_reducible refine shrng ?_) | ((with_reducible apply shrg); next => first | assumption | omega) | ((with_reducible apply pow_g); next => first | assumption | exact ⟨by omega, by omega, by omega⟩) | (with_reducible refine two_go ?_) | (with_reducible refine lenl_go ?_) | (with_reducible refine lenf_go ?_) | (with_reducible refine lent_go ?_) | (with_reducible refine lenr_go ?_) | (with_reducible refine idxl_go at0 ?_) | (with_reducible refine idxt_go at0 ?_) | (with_reducible refine idxf_go at0 ?_) | (with_reducible refine idxl_go at1 ?_) | (with_reducible refine idxt_go at1 ?_) | (with_reducible refine idxf_go at1 ?_) | (with_reducible refine idxl_go at2 ?_) | (with_reducible refine idxt_go at2 ?_) | (with_reducible refine idxf_go at2 ?_) | (with_reducible refine idxl_go at3 ?_) | (with_reducible refine idxt_go at3 ?_) | (with_reducible refine idxf_go at3 ?_) | (with_reducible refine idxl_go at4 ?_) | (with_reducible refine idxt_go at4 ?_) | (with_reducible refine idxf_go at4 ?_) | (with_reducible refine idxl_go at5 ?_) | (with_reducible refine idxt_go at5 ?_) | (with_reducible refine idxf_go at5 ?_) | (with_reducible refine idxl_go at_last ?_) | ((with_reducible apply sz_go); next => exact Nat.le_of_ble_eq_true rfl) | (with_reducible refine lstk_go ?_) | (with_reducible refine newt_go ?_) | (with_reducible refine listl_go ?_) | (with_reducible refine listf_go ?_) | (with_reducible refine sl_go ?_) | (with_reducible refine nopart_go ?_) | (with_reducible refine part_go ?_) | (with_reducible refine sll_go ?_) | (with_reducible refine rev_go ?_) | (with_reducible refine mt_go ?_) | (with_reducible refine ist_set ?_) | (with_reducible refine rz1_go ?_) | (with_reducible refine raise_go ?_) | (with_reducible refine nil_s ?_) | (with_reducible refine for_go ?_) | (with_reducible refine iseq_go ?_) | (with_reducible refine skl_go ?_) | (with_reducible refine skf_go ?_) | (with_reducible refine skt_go ?_) | (with_reducible refine ir1_go ?_) | (with_reducible refine ir2_go ?_) | (with_reducible refine ir3_go ?_) | (with_reducible refine ienum_go ?_) | (with_reducible refine par_go ?_) | ((with_reducible apply app_set); next => first | omega | (simp only [List.length_append, List.length_cons, List.length_nil, List.length_map]; omega)) | ((with_reducible apply aug_go); next => exact rfl) | ((with_reducible apply isi_T); (next => exact rfl); (next => exact rfl)) | ((with_reducible apply isi_F); (next => exact rfl); (next => exact rfl)) | ((with_reducible apply if_D); next => first | assumption | omega) | ((with_reducible apply if_N); next => first | assumption | omega) | ((with_reducible apply if_t); next => assumption) | ((with_reducible apply if_f); next => assumption) | (with_reducible refine if_dec (fun _ => ?_) (fun _ => ?_)) | (dsimp only)))
section
variable {K : PySem.W.Frag} {m : Mem} {R : ARes → Mem → Prop} {W : Nat}
theorem Wd.one (h : Wd W) : (1 : Int) < 2 ^ W := by
  obtain ⟨g, g1, g2, g3, g4⟩ := h.pw
  omega
theorem p_compared {a b : List Int} (hW : Wd W) (ha : Lm.Wok (2 ^ W) a) (hb : Lm.Wok (2 ^ W) b) (ca : Lm.trim a = a) (cb : Lm.trim b = b) (la : a.length ≤ 1000000) (lb : b.length ≤ 1000000)
    (h : ∀ c : Int, (c < 0 ↔ Lm.num (2 ^ W) a < Lm.num (2 ^ W) b) → (c = 0 ↔ a = b) → R (.ret (.int c)) m) : sp_compared K [dl a, dl b] m R := by
  have hB := hW.one
  show w_compared K [some (dl a), some (dl b), none] m _
  unfold w_compared
  walk_at "vg"
  rw [List.length_map, List.length_map]
  refine if_dec (fun c => ?_) (fun c => ?_)
  · walk_at "vg"
    unfold w_compared_3
    walk_at "vg"
    rw [List.length_map]
    refine rg_down (n := a.length) (by omega) ?_
    have hl : a.length = b.length := by omega
    refine dn_turns (fun r v m' => m' = m ∧ (∃ x, v = [some (dl a), some (dl b), x]) ∧ a.drop r = b.drop r) ⟨rfl, ⟨none, rfl⟩, by rw [List.drop_length, hl, List.drop_length]⟩ ?_ ?_
    · rintro r v1 m2 hr ⟨rfl, ⟨x, rfl⟩, e⟩
      show w_compared_2 K [some (dl a), some (dl b), some (.int (r : Nat))] m2 _
      unfold w_compared_2
      walk_at "vg"
      refine idxl_go (at_dl hr) ?_
      walk_at "vg"
      refine idxl_go (at_dl (by omega : r < b.length)) ?_
      walk_at "vg"
      refine if_dec (fun c2 => ?_) (fun c2 => ?_)
      · walk_at "vg"
        refine ⟨_, _, Gh.refl, rfl, ⟨_, rfl⟩, ?_⟩
        rw [List.drop_eq_getElem_cons hr, List.drop_eq_getElem_cons (by omega : r < b.length), e, c2]
      · walk_at "vg"
        refine idxl_go (at_dl hr) ?_
        walk_at "vg"
        refine idxl_go (at_dl (by omega : r < b.length)) ?_
        walk_at "vg"
        have ne : a ≠ b := by rintro rfl; exact c2 rfl
        refine if_dec (fun c3 => ?_) (fun c3 => ?_)
        · walk_at "vg"
          exact h (-1) ⟨fun _ => Lm.num_at hB ha hb hr (by omega) e c3, fun _ => by omega⟩ ⟨fun z => by omega, fun z => absurd z ne⟩
        · walk_at "vg"
          have := Lm.num_at hB hb ha (by omega) hr e.symm (show b[r] < a[r] by omega)
          exact h 1 ⟨fun z => by omega, fun _ => by omega⟩ ⟨fun z => by omega, fun z => absurd z ne⟩
    · rintro v1 m2 ⟨rfl, ⟨x, rfl⟩, e⟩
      refine nx_go ?_
      unfold w_compared_1
      walk_at "vg"
      simp only [List.drop_zero] at e
      subst e
      exact h 0 ⟨fun z => by omega, fun z => by omega⟩ ⟨fun _ => rfl, fun _ => rfl⟩
  · walk_at "vg"
    have ne : a ≠ b := by rintro rfl; exact c rfl
    rw [List.length_map, List.length_map]
    refine if_dec (fun c2 => ?_) (fun c2 => ?_)
    · walk_at "vg"
      have := Lm.num_shorter hB ha hb cb (by omega)
      exact h (-1) ⟨fun _ => this, fun _ => by omega⟩ ⟨fun z => by omega, fun z => absurd z ne⟩
    · walk_at "vg"
      have := Lm.num_shorter hB hb ha ca (by omega)
      exact h 1 ⟨fun z => by omega, fun _ => by omega⟩ ⟨fun z => by omega, fun z => absurd z ne⟩
theorem p_twos_in {d e : Int} {t : Nat} (hd : d = 2 ^ t * e) (ho : e % 2 = 1) (h : R (.ret (.int (t : Nat))) m) : sp_twos_in K [.int d] m R := by
  show w_twos_in K [some (.int d), none] m _
  unfold w_twos_in
  walk_at "vg"
  refine while_go (fun n v m' => m' = m ∧ ∃ k : Nat, v = [some (.int d), some (.int (k : Nat))] ∧ k ≤ t ∧ n = t - k) ⟨t, rfl, 0, rfl, Nat.zero_le _, rfl⟩ ?_
  rintro n v m' ⟨rfl, k, rfl, hk, rfl⟩
  have key := Lm.twos_at hd ho hk
  walk_at "vg"
  rw [bitAnd_m1]
  refine if_dec (fun c => ?_) (fun c => ?_)
  · have := key.mp c
    unfold w_twos_in_2
    walk_at "vg"
    exact ⟨_, _, t - (k + 1), Gh.refl, by omega, rfl, k + 1, rfl, by omega, rfl⟩
  · have : k = t := by
      have := fun z => c (key.mpr z)
      omega
    subst this
    refine nx_go ?_
    unfold w_twos_in_1
    walk_at "vg"
    exact h
end
end Ab
end

section
namespace Ab
open PySem PySem.Spec PyProof.Rows L2
local macro_rules | `(tactic| walk_at "vg") => `(tactic| repeat' (first | (with_reducible refine nx_go ?_) | (with_reducible refine seq_go ?_) | (with_reducible refine set_go ?_) | (with_reducible refine call_go ?_) | (with_reducible refine cons_go ?_) | (with_reducible refine nil_go ?_) | ((with_reducible apply var_go); next => exact rfl) | (with_reducible refine con_go ?_) | (with_reducible refine op_go ?_) | (with_reducible refine isbl_go ?_) | (with_reducible refine if_go ?_) | (with_reducible refine isB_go ?_) | (with_reducible refine tru_go ?_) | (with_reducible refine trub_go ?_) | (with_reducible refine tri_go ?_) | (with_reducible refine asg_go ?_) | (with_reducible refine drop_go ?_) | (with_reducible refine ret_go ?_) | (with_reducible refine tup_go ?_) | (with_reducible refine cb_go ?_) | (with_reducible refine rt_int ?_) | (with_reducible refine rt_bl ?_) | (with_reducible refine rt_non ?_) | (with_reducible refine rt_tup ?_) | (with_reducible refine rt_str ?_) | (with_reducible refine rt_lst ?_) | (with_reducible refine rt_new ?_) | (with_reducible refine l1_go ?_) | (with_reducible refine l2_go ?_) | (with_reducible refine l3_go ?_) | (with_reducible refine l4_go ?_) | (with_reducible refine l5_go ?_) | (with_reducible refine l6_go ?_) | (with_reducible refine if_T ?_) | (with_reducible refine if_F ?_) | (with_reducible refine if_n ?_) | (with_reducible refine not_go ?_) | (with_reducible refine or_go ?_) | (with_reducible refine and_go ?_) | (with_reducible refine notv_go ?_) | (with_reducible refine andv_go ?_) | (with_reducible refine orv_go ?_) | (with_reducible refine iff_go ?_) | (with_reducible refine chain_go ?_) | (with_reducible refine add_go ?_) | (with_reducible refine sub_go ?_) | (with_reducible refine lt_go ?_) | (with_reducible refine gt_go ?_) | (with_reducible refine ge_go ?_) | (with_reducible refine le_go ?_) | (with_reducible refine eq_go ?_) | (with_reducible refine ne_go ?_) | (with_reducible refine eqs_go ?_) | (with_reducible refine nes_go ?_) | (with_reducible refine eqb_go ?_) | (with_reducible refine neb_go ?_) | (with_reducible refine int_go ?_) | (with_reducible refine inti_go ?_) | (with_reducible refine band_go ?_) | (with_reducible refine bor_go ?_) | (with_reducible refine iadd_go ?_) | (with_reducible refine min_go ?_) | (with_reducible refine max_go ?_) | (with_reducible refine abs_go ?_) | (with_reducible refine neg_go ?_) | (with_reducible refine bits_go ?_) | ((with_reducible apply mulg); next => first | assumption | exact .inl (.inl ⟨by omega, by omega⟩) | exact .inl (.inr ⟨by omega, by omega⟩)) | ((with_reducible apply divg); next => first | assumption | exact divok (by omega) (by omega)) | ((with_reducible apply modg); next => first | assumption | omega) | ((with_reducible apply shl1g); next => omega) | ((with_reducible apply shlng); next => first | assumption | exact .inl ⟨by omega, by omega, by omega⟩) | ((with_reducible apply shlg); next => first | assumption | exact .inl ⟨by omega, by omega, by omega⟩) | (with_reducible refine shrng ?_) | ((with_reducible apply shrg); next => first | assumption | omega) | ((with_reducible apply pow_g); next => first | assumption | exact ⟨by omega, by omega, by omega⟩) | (with_reducible refine two_go ?_) | (with_reducible refine lenl_go ?_) | (with_reducible refine lenf_go ?_) | (with_reducible refine lent_go ?_) | (with_reducible refine lenr_go ?_) | (with_reducible refine idxl_go at0 ?_) | (with_reducible refine idxt_go at0 ?_) | (with_reducible refine idxf_go at0 ?_) | (with_reducible refine idxl_go at1 ?_) | (with_reducible refine idxt_go at1 ?_) | (with_reducible refine idxf_go at1 ?_) | (with_reducible refine idxl_go at2 ?_) | (with_reducible refine idxt_go at2 ?_) | (with_reducible refine idxf_go at2 ?_) | (with_reducible refine idxl_go at3 ?_) | (with_reducible refine idxt_go at3 ?_) | (with_reducible refine idxf_go at3 ?_) | (with_reducible refine idxl_go at4 ?_) | (with_reducible refine idxt_go at4 ?_) | (with_reducible refine idxf_go at4 ?_) | (with_reducible refine idxl_go at5 ?_) | (with_reducible refine idxt_go at5 ?_) | (with_reducible refine idxf_go at5 ?_) | (with_reducible refine idxl_go at_last ?_) | ((with_reducible apply sz_go); next => exact Nat.le_of_ble_eq_true rfl) | (with_reducible refine lstk_go ?_) | (with_reducible refine newt_go ?_) | (with_reducible refine listl_go ?_) | (with_reducible refine listf_go ?_) | (with_reducible refine sl_go ?_) | (with_reducible refine nopart_go ?_) | (with_reducible refine part_go ?_) | (with_reducible refine sll_go ?_) | (with_reducible refine rev_go ?_) | (with_reducible refine mt_go ?_) | (with_reducible refine ist_set ?_) | (with_reducible refine rz1_go ?_) | (with_reducible refine raise_go ?_) | (with_reducible refine nil_s ?_) | (with_reducible refine for_go ?_) | (with_reducible refine iseq_go ?_) | (with_reducible refine skl_go ?_) | (with_reducible refine skf_go ?_) | (with_reducible refine skt_go ?_) | (with_reducible refine ir1_go ?_) | (with_reducible refine ir2_go ?_) | (with_reducible refine ir3_go ?_) | (with_reducible refine ienum_go ?_) | (with_reducible refine par_go ?_) | ((with_reducible apply app_set); next => first | omega | (simp only [List.length_append, List.length_cons, List.length_nil, List.length_map]; omega)) | ((with_reducible apply aug_go); next => exact rfl) | ((with_reducible apply isi_T); (next => exact rfl); (next => exact rfl)) | ((with_reducible apply isi_F); (next => exact rfl); (next => exact rfl)) | (with_reducible refine p_width (by assumption) ?_) | (with_reducible refine p_cut (by assumption) ?_) | (with_reducible refine p_gap_of (by assumption) ?_) | (with_reducible refine p_sum_of (by assumption) ?_) | ((with_reducible apply p_low_product); (next => assumption); (next => first | assumption | exact .inl (.inl ⟨by omega, by omega⟩) | exact .inl (.inr ⟨by omega, by omega⟩))) | ((with_reducible apply p_high_product); (next => assumption); (next => first | assumption | exact .inl (.inl ⟨by omega, by omega⟩) | exact .inl (.inr ⟨by omega, by omega⟩))) | ((with_reducible apply if_D); next => first | assumption | omega) | ((with_reducible apply if_N); next => first | assumption | omega) | ((with_reducible apply if_t); next => assumption) | ((with_reducible apply if_f); next => assumption) | (dsimp only)))
local macro_rules | `(tactic| walk_at "vh") => `(tactic| repeat' (first | (with_reducible refine seq_go ?_) | (with_reducible refine set_go ?_) | (with_reducible refine call_go ?_) | (with_reducible refine cons_go ?_) | (with_reducible refine nil_go ?_) | ((with_reducible apply var_go); next => exact rfl) | (with_reducible refine con_go ?_) | (with_reducible refine op_go ?_) | (with_reducible refine isbl_go ?_) | (with_reducible refine if_go ?_) | (with_reducible refine isB_go ?_) | (with_reducible refine tru_go ?_) | (with_reducible refine trub_go ?_) | (with_reducible refine tri_go ?_) | (with_reducible refine asg_go ?_) | (with_reducible refine drop_go ?_) | (with_reducible refine ret_go ?_) | (with_reducible refine tup_go ?_) | (with_reducible refine cb_go ?_) | (with_reducible refine rt_int ?_) | (with_reducible refine rt_bl ?_) | (with_reducible refine rt_non ?_) | (with_reducible refine rt_tup ?_) | (with_reducible refine rt_str ?_) | (with_reducible refine rt_lst ?_) | (with_reducible refine rt_new ?_) | (with_reducible refine l1_go ?_) | (with_reducible refine l2_go ?_) | (with_reducible refine l3_go ?_) | (with_reducible refine l4_go ?_) | (with_reducible refine l5_go ?_) | (with_reducible refine l6_go ?_) | (with_reducible refine if_T ?_) | (with_reducible refine if_F ?_) | (with_reducible refine if_n ?_) | (with_reducible refine not_go ?_) | (with_reducible refine or_go ?_) | (with_reducible refine and_go ?_) | (with_reducible refine notv_go ?_) | (with_reducible refine andv_go ?_) | (with_reducible refine orv_go ?_) | (with_reducible refine iff_go ?_) | (with_reducible refine chain_go ?_) | (with_reducible refine add_go ?_) | (with_reducible refine sub_go ?_) | (with_reducible refine lt_go ?_) | (with_reducible refine gt_go ?_) | (with_reducible refine ge_go ?_) | (with_reducible refine le_go ?_) | (with_reducible refine eq_go ?_) | (with_reducible refine ne_go ?_) | (with_reducible refine eqs_go ?_) | (with_reducible refine nes_go ?_) | (with_reducible refine eqb_go ?_) | (with_reducible refine neb_go ?_) | (with_reducible refine int_go ?_) | (with_reducible refine inti_go ?_) | (with_reducible refine band_go ?_) | (with_reducible refine bor_go ?_) | (with_reducible refine iadd_go ?_) | (with_reducible refine min_go ?_) | (with_reducible refine max_go ?_) | (with_reducible refine abs_go ?_) | (with_reducible refine neg_go ?_) | (with_reducible refine bits_go ?_) | ((with_reducible apply mulg); next => first | assumption | exact .inl (.inl ⟨by omega, by omega⟩) | exact .inl (.inr ⟨by omega, by omega⟩)) | ((with_reducible apply divg); next => first | assumption | exact divok (by omega) (by omega)) | ((with_reducible apply modg); next => first | assumption | omega) | ((with_reducible apply shl1g); next => omega) | ((with_reducible apply shlng); next => first | assumption | exact .inl ⟨by omega, by omega, by omega⟩) | ((with_reducible apply shlg); next => first | assumption | exact .inl ⟨by omega, by omega, by omega⟩) | (with_reducible refine shrng ?_) | ((with_reducible apply shrg); next => first | assumption | omega) | ((with_reducible apply pow_g); next => first | assumption | exact ⟨by omega, by omega, by omega⟩) | (with_reducible refine two_go ?_) | (with_reducible refine lenl_go ?_) | (with_reducible refine lenf_go ?_) | (with_reducible refine lent_go ?_) | (with_reducible refine lenr_go ?_) | (with_reducible refine idxl_go at0 ?_) | (with_reducible refine idxt_go at0 ?_) | (with_reducible refine idxf_go at0 ?_) | (with_reducible refine idxl_go at1 ?_) | (with_reducible refine idxt_go at1 ?_) | (with_reducible refine idxf_go at1 ?_) | (with_reducible refine idxl_go at2 ?_) | (with_reducible refine idxt_go at2 ?_) | (with_reducible refine idxf_go at2 ?_) | (with_reducible refine idxl_go at3 ?_) | (with_reducible refine idxt_go at3 ?_) | (with_reducible refine idxf_go at3 ?_) | (with_reducible refine idxl_go at4 ?_) | (with_reducible refine idxt_go at4 ?_) | (with_reducible refine idxf_go at4 ?_) | (with_reducible refine idxl_go at5 ?_) | (with_reducible refine idxt_go at5 ?_) | (with_reducible refine idxf_go at5 ?_) | (with_reducible refine idxl_go at_last ?_) | ((with_reducible apply sz_go); next => exact Nat.le_of_ble_eq_true rfl) | (with_reducible refine lstk_go ?_) | (with_reducible refine newt_go ?_) | (with_reducible refine listl_go ?_) | (with_reducible refine listf_go ?_) | (with_reducible refine sl_go ?_) | (with_reducible refine nopart_go ?_) | (with_reducible refine part_go ?_) | (with_reducible refine sll_go ?_) | (with_reducible refine rev_go ?_) | (with_reducible refine mt_go ?_) | (with_reducible refine ist_set ?_) | (with_reducible refine rz1_go ?_) | (with_reducible refine raise_go ?_) | (with_reducible refine nil_s ?_) | (with_reducible refine for_go ?_) | (with_reducible refine iseq_go ?_) | (with_reducible refine skl_go ?_) | (with_reducible refine skf_go ?_) | (with_reducible refine skt_go ?_) | (with_reducible refine ir1_go ?_) | (with_reducible refine ir2_go ?_) | (with_reducible refine ir3_go ?_) | (with_reducible refine ienum_go ?_) | (with_reducible refine par_go ?_) | ((with_reducible apply app_set); next => first | omega | (simp only [List.length_append, List.length_cons, List.length_nil, List.length_map]; omega)) | ((with_reducible apply aug_go); next => exact rfl) | ((with_reducible apply isi_T); (next => exact rfl); (next => exact rfl)) | ((with_reducible apply isi_F); (next => exact rfl); (next => exact rfl)) | (with_reducible refine p_width (by assumption) ?_) | (with_reducible refine p_cut (by assumption) ?_) | (with_reducible refine p_gap_of (by assumption) ?_) | (with_reducible refine p_sum_of (by assumption) ?_) | ((with_reducible apply p_low_product); (next => assumption); (next => first | assumption | exact .inl (.inl ⟨by omega, by omega⟩) | exact .inl (.inr ⟨by omega, by omega⟩))) | ((with_reducible apply p_high_product); (next => assumption); (next => first | assumption | exact .inl (.inl ⟨by omega, by omega⟩) | exact .inl (.inr ⟨by omega, by omega⟩))) | ((with_reducible apply if_D); next => first | assumption | omega) | ((with_reducible apply if_N); next => first | assumption | omega) | ((with_reducible apply if_t); next => assumption) | ((with_reducible apply if_f); next => assumption) | (dsimp only)))
local macro_rules | `(tactic| walk_at "vs") => `(tactic| repeat' (first | (with_reducible refine nx_go ?_) | (with_reducible refine seq_go ?_) | (with_reducible refine set_go ?_) | (with_reducible refine call_go ?_) | (with_reducible refine cons_go ?_) | (with_reducible refine nil_go ?_) | ((with_reducible apply var_go); next => exact rfl) | (with_reducible refine con_go ?_) | (with_reducible refine op_go ?_) | (with_reducible refine isbl_go ?_) | (with_reducible refine if_go ?_) | (with_reducible refine isB_go ?_) | (with_reducible refine tru_go ?_) | (with_reducible refine trub_go ?_) | (with_reducible refine tri_go ?_) | (with_reducible refine asg_go ?_) | (with_reducible refine drop_go ?_) | (with_reducible refine ret_go ?_) | (with_reducible refine tup_go ?_) | (with_reducible refine cb_go ?_) | (with_reducible refine rt_int ?_) | (with_reducible refine rt_bl ?_) | (with_reducible refine rt_non ?_) | (with_reducible refine rt_tup ?_) | (with_reducible refine rt_str ?_) | (with_reducible refine rt_lst ?_) | (with_reducible refine rt_new ?_) | (with_reducible refine l1_go ?_) | (with_reducible refine l2_go ?_) | (with_reducible refine l3_go ?_) | (with_reducible refine l4_go ?_) | (with_reducible refine l5_go ?_) | (with_reducible refine l6_go ?_) | (with_reducible refine if_T ?_) | (with_reducible refine if_F ?_) | (with_reducible refine if_n ?_) | (with_reducible refine not_go ?_) | (with_reducible refine or_go ?_) | (with_reducible refine and_go ?_) | (with_reducible refine notv_go ?_) | (with_reducible refine andv_go ?_) | (with_reducible refine orv_go ?_) | (with_reducible refine iff_go ?_) | (with_reducible refine chain_go ?_) | (with_reducible refine add_go ?_) | (with_reducible refine sub_go ?_) | (with_reducible refine lt_go ?_) | (with_reducible refine gt_go ?_) | (with_reducible refine ge_go ?_) | (with_reducible refine le_go ?_) | (with_reducible refine eq_go ?_) | (with_reducible refine ne_go ?_) | (with_reducible refine eqs_go ?_) | (with_reducible refine nes_go ?_) | (with_reducible refine eqb_go ?_) | (with_reducible refine neb_go ?_) | (with_reducible refine int_go ?_) | (with_reducible refine inti_go ?_) | (with_reducible refine band_go ?_) | (with_reducible refine bor_go ?_) | (with_reducible refine iadd_go ?_) | (with_reducible refine min_go ?_) | (with_reducible refine max_go ?_) | (with_reducible refine abs_go ?_) | (with_reducible refine neg_go ?_) | (with_reducible refine bits_go ?_) | ((with_reducible apply mulg); next => first | assumption | exact .inl (.inl ⟨by omega, by omega⟩) | exact .inl (.inr ⟨by omega, by omega⟩)) | ((with_reducible apply divg); next => first | assumption | exact divok (by omega) (by omega)) | ((with_reducible apply modg); next => first | assumption | omega) | ((with_reducible apply shl1g); next => omega) | ((with_reducible apply shlng); next => first | assumption | exact .inl ⟨by omega, by omega, by omega⟩) | ((with_reducible apply shlg); next => first | assumption | exact .inl ⟨by omega, by omega, by omega⟩) | (with_reducible refine shrng ?_) | ((with_reducible apply shrg); next => first | assumption | omega) | ((with_reducible apply pow_g); next => first | assumption | exact ⟨by omega, by omega, by omega⟩) | (with_reducible refine two_go ?_) | (with_reducible refine lenl_go ?_) | (with_reducible refine lenf_go ?_) | (with_reducible refine lent_go ?_) | (with_reducible refine lenr_go ?_) | (with_reducible refine idxl_go at0 ?_) | (with_reducible refine idxt_go at0 ?_) | (with_reducible refine idxf_go at0 ?_) | (with_reducible refine idxl_go at1 ?_) | (with_reducible refine idxt_go at1 ?_) | (with_reducible refine idxf_go at1 ?_) | (with_reducible refine idxl_go at2 ?_) | (with_reducible refine idxt_go at2 ?_) | (with_reducible refine idxf_go at2 ?_) | (with_reducible refine idxl_go at3 ?_) | (with_reducible refine idxt_go at3 ?_) | (with_reducible refine idxf_go at3 ?_) | (with_reducible refine idxl_go at4 ?_) | (with_reducible refine idxt_go at4 ?_) | (with_reducible refine idxf_go at4 ?_) | (with_reducible refine idxl_go at5 ?_) | (with_reducible refine idxt_go at5 ?_) | (with_reducible refine idxf_go at5 ?_) | (with_reducible refine idxl_go at_last ?_) | ((with_reducible apply sz_go); next => exact Nat.le_of_ble_eq_true rfl) | (with_reducible refine lstk_go ?_) | (with_reducible refine newt_go ?_) | (with_reducible refine listl_go ?_) | (with_reducible refine listf_go ?_) | (with_reducible refine sl_go ?_) | (with_reducible refine nopart_go ?_) | (with_reducible refine part_go ?_) | (with_reducible refine sll_go ?_) | (with_reducible refine rev_go ?_) | (with_reducible refine mt_go ?_) | (with_reducible refine ist_set ?_) | (with_reducible refine rz1_go ?_) | (with_reducible refine raise_go ?_) | (with_reducible refine nil_s ?_) | (with_reducible refine for_go ?_) | (with_reducible refine iseq_go ?_) | (with_reducible refine skl_go ?_) | (with_reducible refine skf_go ?_) | (with_reducible refine skt_go ?_) | (with_reducible refine ir1_go ?_) | (with_reducible refine ir2_go ?_) | (with_reducible refine ir3_go ?_) | (with_reducible refine ienum_go ?_) | (with_reducible refine par_go ?_) | ((with_reducible apply app_set); next => first | omega | (simp only [List.length_append, List.length_cons, List.length_nil, List.length_map]; omega)) | ((with_reducible apply aug_go); next => exact rfl) | ((with_reducible apply isi_T); (next => exact rfl); (next => exact rfl)) | ((with_reducible apply isi_F); (next => exact rfl); (next => exact rfl)) | (with_reducible refine p_width (by assumption) ?_) | (with_reducible refine p_cut (by assumption) ?_) | (with_reducible refine p_gap_of (by assumption) ?_) | (with_reducible refine p_sum_of (by assumption) ?_) | ((with_reducible apply p_low_product); (next => assumption); (next => first | assumption | exact .inl (.inl ⟨by omega, by omega⟩) | exact .inl (.inr ⟨by omega, by omega⟩))) | ((with_reducible apply p_high_product); (next => assumption); (next => first | assumption | exact .inl (.inl ⟨by omega, by omega⟩) | exact .inl (.inr ⟨by omega, by omega⟩))) | ((with_reducible apply if_D); next => first | assumption | omega) | ((with_reducible apply if_N); next => first | assumption | omega) | ((with_reducible apply if_t); next => assumption) | ((with_reducible apply if_f); next => assumption) | (with_reducible refine if_dec (fun _ => ?_) (fun _ => ?_)) | (dsimp only)))
--pps
section
variable {K : PySem.W.Frag} {m : Mem} {R : ARes → Mem → Prop} {W : Nat}
theorem snoc_map {α : Type} {f : α → D} {xs : List α} {y : α} : xs.map f ++ [f y] = (xs ++ [y]).map f := by simp
theorem at_dlast {l : List Int} {x : Int} : atI ((l ++ [x]).map D.int) (-1) = some (.int x) := by
  rw [List.map_append]
  exact at_last
theorem p_inverse_steps {d : Int} (hW : Wd W) (d0 : 1 ≤ d) (d1 : d ≤ 2 ^ W - 1) (ho : d % 2 = 1) (h : ∀ (l : List Int) (x : Int), 0 ≤ x → x < 2 ^ W → x * d % 2 ^ W = 1 % 2 ^ W → R (.ret (dl (l ++ [x]))) m) : sp_inverse_steps K [.int W, .int d] m R := by
  obtain ⟨g, g1, g2, g3, g4⟩ := hW.pw
  have hhi := hW.hi
  have hlo := hW.lo
  show w_inverse_steps K [some (.int W), some (.int d), none, none] m _
  unfold w_inverse_steps
  walk_at "vg"
  refine p_need_divisor hW rfl (fun _ => ?_) (fun n => absurd ⟨d, rfl, d0, d1⟩ n)
  walk_at "vg"
  rw [bitAnd_m1]
  refine if_N (by omega) ?_
  walk_at "vg"
  unfold w_inverse_steps_3
  walk_at "vh"
  refine newf_go fun a ha => ?_
  walk_at "vg"
  refine while_go (fun n v m' => ∃ (l : List Int) (x : Int) (e : Nat), m' = setM m a (dl (l ++ [x])) ∧ v = [some (.int W), some (.int d), some (.raw (.ref a)), some (.int (x * d % 2 ^ W))] ∧ n = W - e ∧ 1 ≤ e ∧ e ≤ W ∧ 0 ≤ x ∧ x < 2 ^ W ∧ (2 : Int) ^ e ∣ 1 - x * d ∧ l.length ≤ e) ⟨W - 1, [], d, 1, rfl, rfl, rfl, Nat.le_refl _, by omega, by omega, by omega, Lm.odd_sq ho, Nat.zero_le _⟩ ?_
  rintro n v m' ⟨l, x, e, rfl, rfl, rfl, e1, e2, x0, x1, hx, hl⟩
  walk_at "vg"
  refine if_dec (fun c => ?_) (fun c => ?_)
  · refine nx_go ?_
    unfold w_inverse_steps_1
    walk_at "vg"
    refine rt_set ha (h l x x0 x1 ?_)
    rw [c, Int.emod_eq_of_lt (by omega) (by omega)]
  · have lt : e < W := by
      by_cases z : e = W
      · exfalso
        subst z
        have := Lm.inv_of_dvd hx
        rw [this, Int.emod_eq_of_lt (by omega) (by omega)] at c
        exact c rfl
      · omega
    have p0 := Int.emod_nonneg (x * d) (show (2 : Int) ^ W ≠ 0 by omega)
    have p1 := Int.emod_lt_of_pos (x * d) (show (0 : Int) < 2 ^ W by omega)
    have st := Lm.newton_step (b := min (2 * e) W) (x := x) (d := d) (Nat.min_le_left _ _) (Nat.min_le_right _ _) hx
    unfold w_inverse_steps_2
    walk_at "vg"
    refine idx_lr LR.set at_dlast ?_
    walk_at "vg"
    have q0 := Int.emod_nonneg (2 - x * d % 2 ^ W) (show (2 : Int) ^ W ≠ 0 by omega)
    have q1 := Int.emod_lt_of_pos (2 - x * d % 2 ^ W) (show (0 : Int) < 2 ^ W by omega)
    have r0 := Int.emod_nonneg (x * ((2 - x * d % 2 ^ W) % 2 ^ W)) (show (2 : Int) ^ W ≠ 0 by omega)
    have r1 := Int.emod_lt_of_pos (x * ((2 - x * d % 2 ^ W) % 2 ^ W)) (show (0 : Int) < 2 ^ W by omega)
    rw [snoc_map (f := D.int)]
    refine idx_lr LR.set at_dlast ?_
    walk_at "vg"
    exact ⟨_, _, W - min (2 * e) W, Gh.refl, by omega, l ++ [x], _, min (2 * e) W, rfl, rfl, rfl, by omega, by omega, r0, r1, st, by rw [List.length_append, List.length_singleton]; omega⟩
theorem p_inverse {d : Int} (hW : Wd W) (d0 : 1 ≤ d) (d1 : d ≤ 2 ^ W - 1) (ho : d % 2 = 1) (h : ∀ (x : Int), 0 ≤ x → x < 2 ^ W → x * d % 2 ^ W = 1 % 2 ^ W → R (.ret (.int x)) m) : sp_inverse K [.int W, .int d] m R := by
  show w_inverse K [some (.int W), some (.int d)] m _
  unfold w_inverse
  walk_at "vg"
  refine p_inverse_steps hW d0 d1 ho (fun l x x0 x1 hx => ?_)
  walk_at "vg"
  refine idxl_go at_dlast ?_
  walk_at "vg"
  exact h x x0 x1 hx
theorem p_exact {d e : Int} {t : Nat} (hW : Wd W) (d0 : 1 ≤ d) (d1 : d ≤ 2 ^ W - 1) (hd : d = 2 ^ t * e) (ho : e % 2 = 1) (h : ∀ x, R (.ret (.tup [.int (t : Nat), .int x])) m) : sp_exact K [.int W, .int d] m R := by
  have hp : (0 : Int) < 2 ^ t := Int.pow_pos (by omega)
  show w_exact K [some (.int W), some (.int d), none] m _
  unfold w_exact
  walk_at "vg"
  refine p_need_divisor hW rfl (fun _ => ?_) (fun n => absurd ⟨d, rfl, d0, d1⟩ n)
  walk_at "vg"
  refine p_twos_in hd ho ?_
  walk_at "vg"
  have e1 : d / 2 ^ t = e := by
    rw [hd]
    exact Int.mul_ediv_cancel_left _ (by omega)
  have e0 : 1 ≤ e := by
    by_cases c : 1 ≤ e
    · exact c
    · exfalso
      have : 2 ^ t * e ≤ 2 ^ t * 0 := Int.mul_le_mul_of_nonneg_left (by omega) (by omega)
      omega
  have e2 : e ≤ d := by
    have : 1 * e ≤ 2 ^ t * e := Int.mul_le_mul_of_nonneg_right (by omega) (by omega)
    omega
  rw [e1]
  refine p_inverse hW e0 (by omega) ho (fun x _ _ _ => ?_)
  walk_at "vg"
  exact h x
end
end Ab
end

section
namespace Ab
open PySem PySem.Spec PyProof.Rows L2
local macro_rules | `(tactic| walk_at "vg") => `(tactic| repeat' (first | (with_reducible refine nx_go ?_) | (with_reducible refine seq_go ?_) | (with_reducible refine set_go ?_) | (with_reducible refine call_go ?_) | (with_reducible refine cons_go ?_) | (with_reducible refine nil_go ?_) | ((with_reducible apply var_go); next => exact rfl) | (with_reducible refine con_go ?_) | (with_reducible refine op_go ?_) | (with_reducible refine isbl_go ?_) | (with_reducible refine if_go ?_) | (with_reducible refine isB_go ?_) | (with_reducible refine tru_go ?_) | (with_reducible refine trub_go ?_) | (with_reducible refine tri_go ?_) | (with_reducible refine asg_go ?_) | (with_reducible refine drop_go ?_) | (with_reducible refine ret_go ?_) | (with_reducible refine tup_go ?_) | (with_reducible refine cb_go ?_) | (with_reducible refine rt_int ?_) | (with_reducible refine rt_bl ?_) | (with_reducible refine rt_non ?_) | (with_reducible refine rt_tup ?_) | (with_reducible refine rt_str ?_) | (with_reducible refine rt_lst ?_) | (with_reducible refine rt_new ?_) | (with_reducible refine l1_go ?_) | (with_reducible refine l2_go ?_) | (with_reducible refine l3_go ?_) | (with_reducible refine l4_go ?_) | (with_reducible refine l5_go ?_) | (with_reducible refine l6_go ?_) | (with_reducible refine if_T ?_) | (with_reducible refine if_F ?_) | (with_reducible refine if_n ?_) | (with_reducible refine not_go ?_) | (with_reducible refine or_go ?_) | (with_reducible refine and_go ?_) | (with_reducible refine notv_go ?_) | (with_reducible refine andv_go ?_) | (with_reducible refine orv_go ?_) | (with_reducible refine iff_go ?_) | (with_reducible refine chain_go ?_) | (with_reducible refine add_go ?_) | (with_reducible refine sub_go ?_) | (with_reducible refine lt_go ?_) | (with_reducible refine gt_go ?_) | (with_reducible refine ge_go ?_) | (with_reducible refine le_go ?_) | (with_reducible refine eq_go ?_) | (with_reducible refine ne_go ?_) | (with_reducible refine eqs_go ?_) | (with_reducible refine nes_go ?_) | (with_reducible refine eqb_go ?_) | (with_reducible refine neb_go ?_) | (with_reducible refine int_go ?_) | (with_reducible refine inti_go ?_) | (with_reducible refine band_go ?_) | (with_reducible refine bor_go ?_) | (with_reducible refine iadd_go ?_) | (with_reducible refine min_go ?_) | (with_reducible refine max_go ?_) | (with_reducible refine abs_go ?_) | (with_reducible refine neg_go ?_) | (with_reducible refine bits_go ?_) | ((with_reducible apply mulg); next => first | assumption | exact .inl (.inl ⟨by omega, by omega⟩) | exact .inl (.inr ⟨by omega, by omega⟩)) | ((with_reducible apply divg); next => first | assumption | exact divok (by omega) (by omega)) | ((with_reducible apply modg); next => first | assumption | omega) | ((with_reducible apply shl1g); next => omega) | ((with_reducible apply shlng); next => first | assumption | exact .inl ⟨by omega, by omega, by omega⟩) | ((with_reducible apply shlg); next => first | assumption | exact .inl ⟨by omega, by omega, by omega⟩) | (with_reducible refine shrng ?_) | ((with_reducible apply shrg); next => first | assumption | omega) | ((with_reducible apply pow_g); next => first | assumption | exact ⟨by omega, by omega, by omega⟩) | (with_reducible refine two_go ?_) | (with_reducible refine lenl_go ?_) | (with_reducible refine lenf_go ?_) | (with_reducible refine lent_go ?_) | (with_reducible refine lenr_go ?_) | (with_reducible refine idxl_go at0 ?_) | (with_reducible refine idxt_go at0 ?_) | (with_reducible refine idxf_go at0 ?_) | (with_reducible refine idxl_go at1 ?_) | (with_reducible refine idxt_go at1 ?_) | (with_reducible refine idxf_go at1 ?_) | (with_reducible refine idxl_go at2 ?_) | (with_reducible refine idxt_go at2 ?_) | (with_reducible refine idxf_go at2 ?_) | (with_reducible refine idxl_go at3 ?_) | (with_reducible refine idxt_go at3 ?_) | (with_reducible refine idxf_go at3 ?_) | (with_reducible refine idxl_go at4 ?_) | (with_reducible refine idxt_go at4 ?_) | (with_reducible refine idxf_go at4 ?_) | (with_reducible refine idxl_go at5 ?_) | (with_reducible refine idxt_go at5 ?_) | (with_reducible refine idxf_go at5 ?_) | (with_reducible refine idxl_go at_last ?_) | ((with_reducible apply sz_go); next => exact Nat.le_of_ble_eq_true rfl) | (with_reducible refine lstk_go ?_) | (with_reducible refine newt_go ?_) | (with_reducible refine listl_go ?_) | (with_reducible refine listf_go ?_) | (with_reducible refine sl_go ?_) | (with_reducible refine nopart_go ?_) | (with_reducible refine part_go ?_) | (with_reducible refine sll_go ?_) | (with_reducible refine rev_go ?_) | (with_reducible refine mt_go ?_) | (with_reducible refine ist_set ?_) | (with_reducible refine rz1_go ?_) | (with_reducible refine raise_go ?_) | (with_reducible refine nil_s ?_) | (with_reducible refine for_go ?_) | (with_reducible refine iseq_go ?_) | (with_reducible refine skl_go ?_) | (with_reducible refine skf_go ?_) | (with_reducible refine skt_go ?_) | (with_reducible refine ir1_go ?_) | (with_reducible refine ir2_go ?_) | (with_reducible refine ir3_go ?_) | (with_reducible refine ienum_go ?_) | (with_reducible refine par2_go ?_) | (with_reducible refine par3_go ?_) | ((with_reducible apply app_set); next => first | omega | (simp only [List.length_append, List.length_cons, List.length_nil, List.length_map]; omega)) | ((with_reducible apply aug_go); next => exact rfl) | ((with_reducible apply isi_T); (next => exact rfl); (next => exact rfl)) | ((with_reducible apply isi_F); (next => exact rfl); (next => exact rfl)) | (with_reducible refine p_width (by assumption) ?_) | (with_reducible refine p_cut (by assumption) ?_) | (with_reducible refine p_gap_of (by assumption) ?_) | (with_reducible refine p_sum_of (by assumption) ?_) | ((with_reducible apply p_low_product); (next => assumption); (next => first | assumption | exact .inl (.inl ⟨by omega, by omega⟩) | exact .inl (.inr ⟨by omega, by omega⟩))) | ((with_reducible apply p_high_product); (next => assumption); (next => first | assumption | exact .inl (.inl ⟨by omega, by omega⟩) | exact .inl (.inr ⟨by omega, by omega⟩))) | ((with_reducible apply if_D); next => first | assumption | omega) | ((with_reducible apply if_N); next => first | assumption | omega) | ((with_reducible apply if_t); next => assumption) | ((with_reducible apply if_f); next => assumption) | (dsimp only)))
local macro_rules | `(tactic| walk_at "vh") => `(tactic| repeat' (first | (with_reducible refine seq_go ?_) | (with_reducible refine set_go ?_) | (with_reducible refine call_go ?_) | (with_reducible refine cons_go ?_) | (with_reducible refine nil_go ?_) | ((with_reducible apply var_go); next => exact rfl) | (with_reducible refine con_go ?_) | (with_reducible refine op_go ?_) | (with_reducible refine isbl_go ?_) | (with_reducible refine if_go ?_) | (with_reducible refine isB_go ?_) | (with_reducible refine tru_go ?_) | (with_reducible refine trub_go ?_) | (with_reducible refine tri_go ?_) | (with_reducible refine asg_go ?_) | (with_reducible refine drop_go ?_) | (with_reducible refine ret_go ?_) | (with_reducible refine tup_go ?_) | (with_reducible refine cb_go ?_) | (with_reducible refine rt_int ?_) | (with_reducible refine rt_bl ?_) | (with_reducible refine rt_non ?_) | (with_reducible refine rt_tup ?_) | (with_reducible refine rt_str ?_) | (with_reducible refine rt_lst ?_) | (with_reducible refine rt_new ?_) | (with_reducible refine l1_go ?_) | (with_reducible refine l2_go ?_) | (with_reducible refine l3_go ?_) | (with_reducible refine l4_go ?_) | (with_reducible refine l5_go ?_) | (with_reducible refine l6_go ?_) | (with_reducible refine if_T ?_) | (with_reducible refine if_F ?_) | (with_reducible refine if_n ?_) | (with_reducible refine not_go ?_) | (with_reducible refine or_go ?_) | (with_reducible refine and_go ?_) | (with_reducible refine notv_go ?_) | (with_reducible refine andv_go ?_) | (with_reducible refine orv_go ?_) | (with_reducible refine iff_go ?_) | (with_reducible refine chain_go ?_) | (with_reducible refine add_go ?_) | (with_reducible refine sub_go ?_) | (with_reducible refine lt_go ?_) | (with_reducible refine gt_go ?_) | (with_reducible refine ge_go ?_) | (with_reducible refine le_go ?_) | (with_reducible refine eq_go ?_) | (with_reducible refine ne_go ?_) | (with_reducible refine eqs_go ?_) | (with_reducible refine nes_go ?_) | (with_reducible refine eqb_go ?_) | (with_reducible refine neb_go ?_) | (with_reducible refine int_go ?_) | (with_reducible refine inti_go ?_) | (with_reducible refine band_go ?_) | (with_reducible refine bor_go ?_) | (with_reducible refine iadd_go ?_) | (with_reducible refine min_go ?_) | (with_reducible refine max_go ?_) | (with_reducible refine abs_go ?_) | (with_reducible refine neg_go ?_) | (with_reducible refine bits_go ?_) | ((with_reducible apply mulg); next => first | assumption | exact .inl (.inl ⟨by omega, by omega⟩) | exact .inl (.inr ⟨by omega, by omega⟩)) | ((with_reducible apply divg); next => first | assumption | exact divok (by omega) (by omega)) | ((with_reducible apply modg); next => first | assumption | omega) | ((with_reducible apply shl1g); next => omega) | ((with_reducible apply shlng); next => first | assumption | exact .inl ⟨by omega, by omega, by omega⟩) | ((with_reducible apply shlg); next => first | assumption | exact .inl ⟨by omega, by omega, by omega⟩) | (with_reducible refine shrng ?_) | ((with_reducible apply shrg); next => first | assumption | omega) | ((with_reducible apply pow_g); next => first | assumption | exact ⟨by omega, by omega, by omega⟩) | (with_reducible refine two_go ?_) | (with_reducible refine lenl_go ?_) | (with_reducible refine lenf_go ?_) | (with_reducible refine lent_go ?_) | (with_reducible refine lenr_go ?_) | (with_reducible refine idxl_go at0 ?_) | (with_reducible refine idxt_go at0 ?_) | (with_reducible refine idxf_go at0 ?_) | (with_reducible refine idxl_go at1 ?_) | (with_reducible refine idxt_go at1 ?_) | (with_reducible refine idxf_go at1 ?_) | (with_reducible refine idxl_go at2 ?_) | (with_reducible refine idxt_go at2 ?_) | (with_reducible refine idxf_go at2 ?_) | (with_reducible refine idxl_go at3 ?_) | (with_reducible refine idxt_go at3 ?_) | (with_reducible refine idxf_go at3 ?_) | (with_reducible refine idxl_go at4 ?_) | (with_reducible refine idxt_go at4 ?_) | (with_reducible refine idxf_go at4 ?_) | (with_reducible refine idxl_go at5 ?_) | (with_reducible refine idxt_go at5 ?_) | (with_reducible refine idxf_go at5 ?_) | (with_reducible refine idxl_go at_last ?_) | ((with_reducible apply sz_go); next => exact Nat.le_of_ble_eq_true rfl) | (with_reducible refine lstk_go ?_) | (with_reducible refine newt_go ?_) | (with_reducible refine listl_go ?_) | (with_reducible refine listf_go ?_) | (with_reducible refine sl_go ?_) | (with_reducible refine nopart_go ?_) | (with_reducible refine part_go ?_) | (with_reducible refine sll_go ?_) | (with_reducible refine rev_go ?_) | (with_reducible refine mt_go ?_) | (with_reducible refine ist_set ?_) | (with_reducible refine rz1_go ?_) | (with_reducible refine raise_go ?_) | (with_reducible refine nil_s ?_) | (with_reducible refine for_go ?_) | (with_reducible refine iseq_go ?_) | (with_reducible refine skl_go ?_) | (with_reducible refine skf_go ?_) | (with_reducible refine skt_go ?_) | (with_reducible refine ir1_go ?_) | (with_reducible refine ir2_go ?_) | (with_reducible refine ir3_go ?_) | (with_reducible refine ienum_go ?_) | (with_reducible refine par2_go ?_) | (with_reducible refine par3_go ?_) | ((with_reducible apply app_set); next => first | omega | (simp only [List.length_append, List.length_cons, List.length_nil, List.length_map]; omega)) | ((with_reducible apply aug_go); next => exact rfl) | ((with_reducible apply isi_T); (next => exact rfl); (next => exact rfl)) | ((with_reducible apply isi_F); (next => exact rfl); (next => exact rfl)) | (with_reducible refine p_width (by assumption) ?_) | (with_reducible refine p_cut (by assumption) ?_) | (with_reducible refine p_gap_of (by assumption) ?_) | (with_reducible refine p_sum_of (by assumption) ?_) | ((with_reducible apply p_low_product); (next => assumption); (next => first | assumption | exact .inl (.inl ⟨by omega, by omega⟩) | exact .inl (.inr ⟨by omega, by omega⟩))) | ((with_reducible apply p_high_product); (next => assumption); (next => first | assumption | exact .inl (.inl ⟨by omega, by omega⟩) | exact .inl (.inr ⟨by omega, by omega⟩))) | ((with_reducible apply if_D); next => first | assumption | omega) | ((with_reducible apply if_N); next => first | assumption | omega) | ((with_reducible apply if_t); next => assumption) | ((with_reducible apply if_f); next => assumption) | (dsimp only)))
local macro_rules | `(tactic| walk_at "vs") => `(tactic| repeat' (first | (with_reducible refine nx_go ?_) | (with_reducible refine seq_go ?_) | (with_reducible refine set_go ?_) | (with_reducible refine call_go ?_) | (with_reducible refine cons_go ?_) | (with_reducible refine nil_go ?_) | ((with_reducible apply var_go); next => exact rfl) | (with_reducible refine con_go ?_) | (with_reducible refine op_go ?_) | (with_reducible refine isbl_go ?_) | (with_reducible refine if_go ?_) | (with_reducible refine isB_go ?_) | (with_reducible refine tru_go ?_) | (with_reducible refine trub_go ?_) | (with_reducible refine tri_go ?_) | (with_reducible refine asg_go ?_) | (with_reducible refine drop_go ?_) | (with_reducible refine ret_go ?_) | (with_reducible refine tup_go ?_) | (with_reducible refine cb_go ?_) | (with_reducible refine rt_int ?_) | (with_reducible refine rt_bl ?_) | (with_reducible refine rt_non ?_) | (with_reducible refine rt_tup ?_) | (with_reducible refine rt_str ?_) | (with_reducible refine rt_lst ?_) | (with_reducible refine rt_new ?_) | (with_reducible refine l1_go ?_) | (with_reducible refine l2_go ?_) | (with_reducible refine l3_go ?_) | (with_reducible refine l4_go ?_) | (with_reducible refine l5_go ?_) | (with_reducible refine l6_go ?_) | (with_reducible refine if_T ?_) | (with_reducible refine if_F ?_) | (with_reducible refine if_n ?_) | (with_reducible refine not_go ?_) | (with_reducible refine or_go ?_) | (with_reducible refine and_go ?_) | (with_reducible refine notv_go ?_) | (with_reducible refine andv_go ?_) | (with_reducible refine orv_go ?_) | (with_reducible refine iff_go ?_) | (with_reducible refine chain_go ?_) | (with_reducible refine add_go ?_) | (with_reducible refine sub_go ?_) | (with_reducible refine lt_go ?_) | (with_reducible refine gt_go ?_) | (with_reducible refine ge_go ?_) | (with_reducible refine le_go ?_) | (with_reducible refine eq_go ?_) | (with_reducible refine ne_go ?_) | (with_reducible refine eqs_go ?_) | (with_reducible refine nes_go ?_) | (with_reducible refine eqb_go ?_) | (with_reducible refine neb_go ?_) | (with_reducible refine int_go ?_) | (with_reducible refine inti_go ?_) | (with_reducible refine band_go ?_) | (with_reducible refine bor_go ?_) | (with_reducible refine iadd_go ?_) | (with_reducible refine min_go ?_) | (with_reducible refine max_go ?_) | (with_reducible refine abs_go ?_) | (with_reducible refine neg_go ?_) | (with_reducible refine bits_go ?_) | ((with_reducible apply mulg); next => first | assumption | exact .inl (.inl ⟨by omega, by omega⟩) | exact .inl (.inr ⟨by omega, by omega⟩)) | ((with_reducible apply divg); next => first | assumption | exact divok (by omega) (by omega)) | ((with_reducible apply modg); next => first | assumption | omega) | ((with_reducible apply shl1g); next => omega) | ((with_reducible apply shlng); next => first | assumption | exact .inl ⟨by omega, by omega, by omega⟩) | ((with_reducible apply shlg); next => first | assumption | exact .inl ⟨by omega, by omega, by omega⟩) | (with_reducible refine shrng ?_) | ((with_reducible apply shrg); next => first | assumption | omega) | ((with_reducible apply pow_g); next => first | assumption | exact ⟨by omega, by omega, by omega⟩) | (with_reducible refine two_go ?_) | (with_reducible refine lenl_go ?_) | (with_reducible refine lenf_go ?_) | (with_reducible refine lent_go ?_) | (with_reducible refine lenr_go ?_) | (with_reducible refine idxl_go at0 ?_) | (with_reducible refine idxt_go at0 ?_) | (with_reducible refine idxf_go at0 ?_) | (with_reducible refine idxl_go at1 ?_) | (with_reducible refine idxt_go at1 ?_) | (with_reducible refine idxf_go at1 ?_) | (with_reducible refine idxl_go at2 ?_) | (with_reducible refine idxt_go at2 ?_) | (with_reducible refine idxf_go at2 ?_) | (with_reducible refine idxl_go at3 ?_) | (with_reducible refine idxt_go at3 ?_) | (with_reducible refine idxf_go at3 ?_) | (with_reducible refine idxl_go at4 ?_) | (with_reducible refine idxt_go at4 ?_) | (with_reducible refine idxf_go at4 ?_) | (with_reducible refine idxl_go at5 ?_) | (with_reducible refine idxt_go at5 ?_) | (with_reducible refine idxf_go at5 ?_) | (with_reducible refine idxl_go at_last ?_) | ((with_reducible apply sz_go); next => exact Nat.le_of_ble_eq_true rfl) | (with_reducible refine lstk_go ?_) | (with_reducible refine newt_go ?_) | (with_reducible refine listl_go ?_) | (with_reducible refine listf_go ?_) | (with_reducible refine sl_go ?_) | (with_reducible refine nopart_go ?_) | (with_reducible refine part_go ?_) | (with_reducible refine sll_go ?_) | (with_reducible refine rev_go ?_) | (with_reducible refine mt_go ?_) | (with_reducible refine ist_set ?_) | (with_reducible refine rz1_go ?_) | (with_reducible refine raise_go ?_) | (with_reducible refine nil_s ?_) | (with_reducible refine for_go ?_) | (with_reducible refine iseq_go ?_) | (with_reducible refine skl_go ?_) | (with_reducible refine skf_go ?_) | (with_reducible refine skt_go ?_) | (with_reducible refine ir1_go ?_) | (with_reducible refine ir2_go ?_) | (with_reducible refine ir3_go ?_) | (with_reducible refine ienum_go ?_) | (with_reducible refine par2_go ?_) | (with_reducible refine par3_go ?_) | ((with_reducible apply app_set); next => first | omega | (simp only [List.length_append, List.length_cons, List.length_nil, List.length_map]; omega)) | ((with_reducible apply aug_go); next => exact rfl) | ((with_reducible apply isi_T); (next => exact rfl); (next => exact rfl)) | ((with_reducible apply isi_F); (next => exact rfl); (next => exact rfl)) | (with_reducible refine p_width (by assumption) ?_) | (with_reducible refine p_cut (by assumption) ?_) | (with_reducible refine p_gap_of (by assumption) ?_) | (with_reducible refine p_sum_of (by assumption) ?_) | ((with_reducible apply p_low_product); (next => assumption); (next => first | assumption | exact .inl (.inl ⟨by omega, by omega⟩) | exact .inl (.inr ⟨by omega, by omega⟩))) | ((with_reducible apply p_high_product); (next => assumption); (next => first | assumption | exact .inl (.inl ⟨by omega, by omega⟩) | exact .inl (.inr ⟨by omega, by omega⟩))) | ((with_reducible apply if_D); next => first | assumption | omega) | ((with_reducible apply if_N); next => first | assumption | omega) | ((with_reducible apply if_t); next => assumption) | ((with_reducible apply if_f); next => assumption) | (with_reducible refine if_dec (fun _ => ?_) (fun _ => ?_)) | (dsimp only)))
--pps
section
variable {K : PySem.W.Frag} {m : Mem} {R : ARes → Mem → Prop} {W : Nat}
def rowD (p : Int × Int) : D := .tup [.int p.1, .int p.2]
theorem lowR_append {B d x : Int} : ∀ {a b : List Int} {c : Int}, Lm.lowR B d x c (a ++ b) = Lm.lowR B d x c a ++ Lm.lowR B d x (Lm.lastC c (Lm.lowR B d x c a)) b
  | [], b, c => rfl
  | w :: r, b, c => by
    simp only [List.cons_append, Lm.lowR, Lm.lastC_cons]
    rw [lowR_append]
theorem lastC_snoc {c : Int} {l : List (Int × Int)} {p : Int × Int} : Lm.lastC c (l ++ [p]) = p.2 := by
  unfold Lm.lastC
  simp [List.getLastD_eq_getLast?]
/-- the inverse of an odd word -/
structure Inv (W : Nat) (d x : Int) : Prop where
  h0 : 0 ≤ x
  h1 : x < 2 ^ W
  h2 : x * d % 2 ^ W = 1 % 2 ^ W
theorem p_low_rows {d : Int} {ws : List Int} (hW : Wd W) (d0 : 1 ≤ d) (d1 : d ≤ 2 ^ W - 1) (ho : d % 2 = 1) (hw : Lm.Wok (2 ^ W) ws) (hl : ws.length ≤ 1000000)
    (h : ∀ x a, Inv W d x → m a = none → R (.ret (.raw (.ref a))) (setM m a (.lst ((Lm.lowR (2 ^ W) d x 0 ws).map rowD)))) : sp_low_rows K [.int W, dl ws, .int d] m R := by
  obtain ⟨g, g1, g2, g3, g4⟩ := hW.pw
  have hB := hW.one
  show w_low_rows K [some (.int W), some (dl ws), some (.int d), none, none, none, none, none, none, none] m _
  unfold w_low_rows
  walk_at "vg"
  refine p_inverse hW d0 d1 ho (fun x x0 x1 hx => ?_)
  walk_at "vg"
  refine newf_go fun a ha => ?_
  walk_at "vg"
  refine rest_turns (fun pre rest v m' => ∃ k6 k7 k8 k9, m' = setM m a (.lst ((Lm.lowR (2 ^ W) d x 0 pre).map rowD)) ∧ v = [some (.int W), some (dl ws), some (.int d), some (.int x), some (.int (Lm.lastC 0 (Lm.lowR (2 ^ W) d x 0 pre))), some (.raw (.ref a)), k6, k7, k8, k9]) ⟨_, _, _, _, rfl, rfl⟩ ?_ ?_
  · rintro pre w r v1 m2 he ⟨k6, k7, k8, k9, rfl, rfl⟩
    have hpre : Lm.Wok (2 ^ W) (pre ++ w :: r) := by rw [he]; exact hw
    obtain ⟨wp, wr⟩ := Lm.wok_append.mp hpre
    have w01 := (Lm.wok_cons.mp wr).1
    obtain ⟨_, c0, c1, _⟩ := Lm.low_num hB (by omega) (by omega) hx wp (Int.le_refl 0) (by omega : (0 : Int) < d)
    have hlen : pre.length < 1000000 := by
      have := congrArg List.length he
      rw [List.length_append, List.length_cons] at this
      omega
    show w_low_rows_2 K [some (.int W), some (dl ws), some (.int d), some (.int x), some (.int (Lm.lastC 0 (Lm.lowR (2 ^ W) d x 0 pre))), some (.raw (.ref a)), some (.int w), k7, k8, k9] _ _
    rw [lowR_append]
    generalize hrows : Lm.lowR (2 ^ W) d x 0 pre = rows at *
    have hrl : rows.length ≤ 1000000 := by rw [← hrows, Lm.lowR_len]; omega
    generalize Lm.lastC 0 rows = c at *
    unfold w_low_rows_2
    walk_at "vg"
    have q0 := Int.emod_nonneg (w - c) (show (2 : Int) ^ W ≠ 0 by omega)
    have q1 := Int.emod_lt_of_pos (w - c) (show (0 : Int) < 2 ^ W by omega)
    have r0 := Int.emod_nonneg ((w - c) % 2 ^ W * x) (show (2 : Int) ^ W ≠ 0 by omega)
    have r1 := Int.emod_lt_of_pos ((w - c) % 2 ^ W * x) (show (0 : Int) < 2 ^ W by omega)
    walk_at "vg"
    have e1 : (w - c) % 2 ^ W * x % 2 ^ W = (w - c) * x % 2 ^ W := by rw [Int.mul_emod, Int.emod_emod, ← Int.mul_emod]
    have e2 : (if decide (w < c) = true then (1 : Int) else 0) = if w < c then 1 else 0 := by simp
    have e3 : Lm.lastC 0 (rows ++ Lm.lowR (2 ^ W) d x c [w]) = (w - c) * x % 2 ^ W * d / 2 ^ W + (if w < c then 1 else 0) := by
      show Lm.lastC 0 (rows ++ [(_, _)]) = _
      rw [lastC_snoc]
    refine ⟨_, _, Gh.refl, some (.int w), some (.int ((w - c) % 2 ^ W)), some (.int (if decide (w < c) = true then 1 else 0)), some (.int ((w - c) % 2 ^ W * x % 2 ^ W)), ?_, ?_⟩
    · rw [e1, e2, List.map_append]
      rfl
    · rw [e3, ← e2, ← e1]
      rfl
  · rintro v1 m2 ⟨k6, k7, k8, k9, rfl, rfl⟩
    refine nx_go ?_
    unfold w_low_rows_1
    walk_at "vg"
    exact rt_any (h x a ⟨x0, x1, hx⟩ ha)
theorem p_low_divided {d : Int} {ws : List Int} (hW : Wd W) (d0 : 1 ≤ d) (d1 : d ≤ 2 ^ W - 1) (ho : d % 2 = 1) (hw : Lm.Wok (2 ^ W) ws) (hc : Lm.trim ws = ws) (hl : ws.length ≤ 1000000)
    (h : ∀ x a, Inv W d x → m a = none → R (.ret (.raw (.ref a))) (setM m a (.lst ((Lm.lowR (2 ^ W) d x 0 ws).map rowD)))) : sp_low_divided K [.int W, dl ws, .int d] m R := by
  show w_low_divided K [some (.int W), some (dl ws), some (.int d), none] m _
  unfold w_low_divided
  walk_at "vg"
  refine p_need_long_ok hW hw hc ?_
  walk_at "vg"
  refine p_need_odd hW rfl (fun _ => ?_) (fun n => absurd ⟨d, rfl, d0, d1, ho⟩ n)
  walk_at "vg"
  refine p_low_rows hW d0 d1 ho hw hl (fun x a hx ha => ?_)
  exact rt_any (h x a hx ha)
end
end Ab
end

section
namespace Ab
open PySem PySem.Spec PyProof.Rows L2
local macro_rules | `(tactic| walk_at "vg") => `(tactic| repeat' (first | (with_reducible refine nx_go ?_) | (with_reducible refine seq_go ?_) | (with_reducible refine set_go ?_) | (with_reducible refine call_go ?_) | (with_reducible refine cons_go ?_) | (with_reducible refine nil_go ?_) | ((with_reducible apply var_go); next => exact rfl) | (with_reducible refine con_go ?_) | (with_reducible refine op_go ?_) | (with_reducible refine isbl_go ?_) | (with_reducible refine if_go ?_) | (with_reducible refine isB_go ?_) | (with_reducible refine tru_go ?_) | (with_reducible refine trub_go ?_) | (with_reducible refine tri_go ?_) | (with_reducible refine asg_go ?_) | (with_reducible refine drop_go ?_) | (with_reducible refine ret_go ?_) | (with_reducible refine tup_go ?_) | (with_reducible refine cb_go ?_) | (with_reducible refine rt_int ?_) | (with_reducible refine rt_bl ?_) | (with_reducible refine rt_non ?_) | (with_reducible refine rt_tup ?_) | (with_reducible refine rt_str ?_) | (with_reducible refine rt_lst ?_) | (with_reducible refine rt_new ?_) | (with_reducible refine l1_go ?_) | (with_reducible refine l2_go ?_) | (with_reducible refine l3_go ?_) | (with_reducible refine l4_go ?_) | (with_reducible refine l5_go ?_) | (with_reducible refine l6_go ?_) | (with_reducible refine if_T ?_) | (with_reducible refine if_F ?_) | (with_reducible refine if_n ?_) | (with_reducible refine not_go ?_) | (with_reducible refine or_go ?_) | (with_reducible refine and_go ?_) | (with_reducible refine notv_go ?_) | (with_reducible refine andv_go ?_) | (with_reducible refine orv_go ?_) | (with_reducible refine iff_go ?_) | (with_reducible refine chain_go ?_) | (with_reducible refine add_go ?_) | (with_reducible refine sub_go ?_) | (with_reducible refine lt_go ?_) | (with_reducible refine gt_go ?_) | (with_reducible refine ge_go ?_) | (with_reducible refine le_go ?_) | (with_reducible refine eq_go ?_) | (with_reducible refine ne_go ?_) | (with_reducible refine eqs_go ?_) | (with_reducible refine nes_go ?_) | (with_reducible refine eqb_go ?_) | (with_reducible refine neb_go ?_) | (with_reducible refine int_go ?_) | (with_reducible refine inti_go ?_) | (with_reducible refine band_go ?_) | (with_reducible refine bor_go ?_) | (with_reducible refine iadd_go ?_) | (with_reducible refine min_go ?_) | (with_reducible refine max_go ?_) | (with_reducible refine abs_go ?_) | (with_reducible refine neg_go ?_) | (with_reducible refine bits_go ?_) | ((with_reducible apply mulg); next => first | assumption | exact .inl (.inl ⟨by omega, by omega⟩) | exact .inl (.inr ⟨by omega, by omega⟩)) | ((with_reducible apply divg); next => first | assumption | exact divok (by omega) (by omega)) | ((with_reducible apply modg); next => first | assumption | omega) | ((with_reducible apply shl1g); next => omega) | ((with_reducible apply shlng); next => first | assumption | exact .inl ⟨by omega, by omega, by omega⟩) | ((with_reducible apply shlg); next => first | assumption | exact .inl ⟨by omega, by omega, by omega⟩) | (with_reducible refine shrng ?_) | ((with_reducible apply shrg); next => first | assumption | omega) | ((with_reducible apply pow_g); next => first | assumption | exact ⟨by omega, by omega, by omega⟩) | (with_reducible refine two_go ?_) | (with_reducible refine lenl_go ?_) | (with_reducible refine lenf_go ?_) | (with_reducible refine lent_go ?_) | (with_reducible refine lenr_go ?_) | (with_reducible refine idxl_go at0 ?_) | (with_reducible refine idxt_go at0 ?_) | (with_reducible refine idxf_go at0 ?_) | (with_reducible refine idxl_go at1 ?_) | (with_reducible refine idxt_go at1 ?_) | (with_reducible refine idxf_go at1 ?_) | (with_reducible refine idxl_go at2 ?_) | (with_reducible refine idxt_go at2 ?_) | (with_reducible refine idxf_go at2 ?_) | (with_reducible refine idxl_go at3 ?_) | (with_reducible refine idxt_go at3 ?_) | (with_reducible refine idxf_go at3 ?_) | (with_reducible refine idxl_go at4 ?_) | (with_reducible refine idxt_go at4 ?_) | (with_reducible refine idxf_go at4 ?_) | (with_reducible refine idxl_go at5 ?_) | (with_reducible refine idxt_go at5 ?_) | (with_reducible refine idxf_go at5 ?_) | (with_reducible refine idxl_go at_last ?_) | ((with_reducible apply sz_go); next => exact Nat.le_of_ble_eq_true rfl) | (with_reducible refine lstk_go ?_) | (with_reducible refine newt_go ?_) | (with_reducible refine listl_go ?_) | (with_reducible refine listf_go ?_) | (with_reducible refine sl_go ?_) | (with_reducible refine nopart_go ?_) | (with_reducible refine part_go ?_) | (with_reducible refine sll_go ?_) | (with_reducible refine rev_go ?_) | (with_reducible refine mt_go ?_) | (with_reducible refine ist_set ?_) | (with_reducible refine rz1_go ?_) | (with_reducible refine raise_go ?_) | (with_reducible refine nil_s ?_) | (with_reducible refine for_go ?_) | (with_reducible refine iseq_go ?_) | (with_reducible refine skl_go ?_) | (with_reducible refine skf_go ?_) | (with_reducible refine skt_go ?_) | (with_reducible refine ir1_go ?_) | (with_reducible refine ir2_go ?_) | (with_reducible refine ir3_go ?_) | (with_reducible refine ienum_go ?_) | (with_reducible refine par2_go ?_) | (with_reducible refine par3_go ?_) | ((with_reducible apply app_set); next => first | omega | (simp only [List.length_append, List.length_cons, List.length_nil, List.length_map]; omega)) | ((with_reducible apply aug_go); next => exact rfl) | ((with_reducible apply isi_T); (next => exact rfl); (next => exact rfl)) | ((with_reducible apply isi_F); (next => exact rfl); (next => exact rfl)) | (with_reducible refine p_width (by assumption) ?_) | (with_reducible refine p_cut (by assumption) ?_) | (with_reducible refine p_gap_of (by assumption) ?_) | (with_reducible refine p_sum_of (by assumption) ?_) | ((with_reducible apply p_low_product); (next => assumption); (next => first | assumption | exact .inl (.inl ⟨by omega, by omega⟩) | exact .inl (.inr ⟨by omega, by omega⟩))) | ((with_reducible apply p_high_product); (next => assumption); (next => first | assumption | exact .inl (.inl ⟨by omega, by omega⟩) | exact .inl (.inr ⟨by omega, by omega⟩))) | ((with_reducible apply if_D); next => first | assumption | omega) | ((with_reducible apply if_N); next => first | assumption | omega) | ((with_reducible apply if_t); next => assumption) | ((with_reducible apply if_f); next => assumption) | (dsimp only)))
local macro_rules | `(tactic| walk_at "vh") => `(tactic| repeat' (first | (with_reducible refine seq_go ?_) | (with_reducible refine set_go ?_) | (with_reducible refine call_go ?_) | (with_reducible refine cons_go ?_) | (with_reducible refine nil_go ?_) | ((with_reducible apply var_go); next => exact rfl) | (with_reducible refine con_go ?_) | (with_reducible refine op_go ?_) | (with_reducible refine isbl_go ?_) | (with_reducible refine if_go ?_) | (with_reducible refine isB_go ?_) | (with_reducible refine tru_go ?_) | (with_reducible refine trub_go ?_) | (with_reducible refine tri_go ?_) | (with_reducible refine asg_go ?_) | (with_reducible refine drop_go ?_) | (with_reducible refine ret_go ?_) | (with_reducible refine tup_go ?_) | (with_reducible refine cb_go ?_) | (with_reducible refine rt_int ?_) | (with_reducible refine rt_bl ?_) | (with_reducible refine rt_non ?_) | (with_reducible refine rt_tup ?_) | (with_reducible refine rt_str ?_) | (with_reducible refine rt_lst ?_) | (with_reducible refine rt_new ?_) | (with_reducible refine l1_go ?_) | (with_reducible refine l2_go ?_) | (with_reducible refine l3_go ?_) | (with_reducible refine l4_go ?_) | (with_reducible refine l5_go ?_) | (with_reducible refine l6_go ?_) | (with_reducible refine if_T ?_) | (with_reducible refine if_F ?_) | (with_reducible refine if_n ?_) | (with_reducible refine not_go ?_) | (with_reducible refine or_go ?_) | (with_reducible refine and_go ?_) | (with_reducible refine notv_go ?_) | (with_reducible refine andv_go ?_) | (with_reducible refine orv_go ?_) | (with_reducible refine iff_go ?_) | (with_reducible refine chain_go ?_) | (with_reducible refine add_go ?_) | (with_reducible refine sub_go ?_) | (with_reducible refine lt_go ?_) | (with_reducible refine gt_go ?_) | (with_reducible refine ge_go ?_) | (with_reducible refine le_go ?_) | (with_reducible refine eq_go ?_) | (with_reducible refine ne_go ?_) | (with_reducible refine eqs_go ?_) | (with_reducible refine nes_go ?_) | (with_reducible refine eqb_go ?_) | (with_reducible refine neb_go ?_) | (with_reducible refine int_go ?_) | (with_reducible refine inti_go ?_) | (with_reducible refine band_go ?_) | (with_reducible refine bor_go ?_) | (with_reducible refine iadd_go ?_) | (with_reducible refine min_go ?_) | (with_reducible refine max_go ?_) | (with_reducible refine abs_go ?_) | (with_reducible refine neg_go ?_) | (with_reducible refine bits_go ?_) | ((with_reducible apply mulg); next => first | assumption | exact .inl (.inl ⟨by omega, by omega⟩) | exact .inl (.inr ⟨by omega, by omega⟩)) | ((with_reducible apply divg); next => first | assumption | exact divok (by omega) (by omega)) | ((with_reducible apply modg); next => first | assumption | omega) | ((with_reducible apply shl1g); next => omega) | ((with_reducible apply shlng); next => first | assumption | exact .inl ⟨by omega, by omega, by omega⟩) | ((with_reducible apply shlg); next => first | assumption | exact .inl ⟨by omega, by omega, by omega⟩) | (with_reducible refine shrng ?_) | ((with_reducible apply shrg); next => first | assumption | omega) | ((with_reducible apply pow_g); next => first | assumption | exact ⟨by omega, by omega, by omega⟩) | (with_reducible refine two_go ?_) | (with_reducible refine lenl_go ?_) | (with_reducible refine lenf_go ?_) | (with_reducible refine lent_go ?_) | (with_reducible refine lenr_go ?_) | (with_reducible refine idxl_go at0 ?_) | (with_reducible refine idxt_go at0 ?_) | (with_reducible refine idxf_go at0 ?_) | (with_reducible refine idxl_go at1 ?_) | (with_reducible refine idxt_go at1 ?_) | (with_reducible refine idxf_go at1 ?_) | (with_reducible refine idxl_go at2 ?_) | (with_reducible refine idxt_go at2 ?_) | (with_reducible refine idxf_go at2 ?_) | (with_reducible refine idxl_go at3 ?_) | (with_reducible refine idxt_go at3 ?_) | (with_reducible refine idxf_go at3 ?_) | (with_reducible refine idxl_go at4 ?_) | (with_reducible refine idxt_go at4 ?_) | (with_reducible refine idxf_go at4 ?_) | (with_reducible refine idxl_go at5 ?_) | (with_reducible refine idxt_go at5 ?_) | (with_reducible refine idxf_go at5 ?_) | (with_reducible refine idxl_go at_last ?_) | ((with_reducible apply sz_go); next => exact Nat.le_of_ble_eq_true rfl) | (with_reducible refine lstk_go ?_) | (with_reducible refine newt_go ?_) | (with_reducible refine listl_go ?_) | (with_reducible refine listf_go ?_) | (with_reducible refine sl_go ?_) | (with_reducible refine nopart_go ?_) | (with_reducible refine part_go ?_) | (with_reducible refine sll_go ?_) | (with_reducible refine rev_go ?_) | (with_reducible refine mt_go ?_) | (with_reducible refine ist_set ?_) | (with_reducible refine rz1_go ?_) | (with_reducible refine raise_go ?_) | (with_reducible refine nil_s ?_) | (with_reducible refine for_go ?_) | (with_reducible refine iseq_go ?_) | (with_reducible refine skl_go ?_) | (with_reducible refine skf_go ?_) | (with_reducible refine skt_go ?_) | (with_reducible refine ir1_go ?_) | (with_reducible refine ir2_go ?_) | (with_reducible refine ir3_go ?_) | (with_reducible refine ienum_go ?_) | (with_reducible refine par2_go ?_) | (with_reducible refine par3_go ?_) | ((with_reducible apply app_set); next => first | omega | (simp only [List.length_append, List.length_cons, List.length_nil, List.length_map]; omega)) | ((with_reducible apply aug_go); next => exact rfl) | ((with_reducible apply isi_T); (next => exact rfl); (next => exact rfl)) | ((with_reducible apply isi_F); (next => exact rfl); (next => exact rfl)) | (with_reducible refine p_width (by assumption) ?_) | (with_reducible refine p_cut (by assumption) ?_) | (with_reducible refine p_gap_of (by assumption) ?_) | (with_reducible refine p_sum_of (by assumption) ?_) | ((with_reducible apply p_low_product); (next => assumption); (next => first | assumption | exact .inl (.inl ⟨by omega, by omega⟩) | exact .inl (.inr ⟨by omega, by omega⟩))) | ((with_reducible apply p_high_product); (next => assumption); (next => first | assumption | exact .inl (.inl ⟨by omega, by omega⟩) | exact .inl (.inr ⟨by omega, by omega⟩))) | ((with_reducible apply if_D); next => first | assumption | omega) | ((with_reducible apply if_N); next => first | assumption | omega) | ((with_reducible apply if_t); next => assumption) | ((with_reducible apply if_f); next => assumption) | (dsimp only)))
local macro_rules | `(tactic| walk_at "vs") => `(tactic| repeat' (first | (with_reducible refine nx_go ?_) | (with_reducible refine seq_go ?_) | (with_reducible refine set_go ?_) | (with_reducible refine call_go ?_) | (with_reducible refine cons_go ?_) | (with_reducible refine nil_go ?_) | ((with_reducible apply var_go); next => exact rfl) | (with_reducible refine con_go ?_) | (with_reducible refine op_go ?_) | (with_reducible refine isbl_go ?_) | (with_reducible refine if_go ?_) | (with_reducible refine isB_go ?_) | (with_reducible refine tru_go ?_) | (with_reducible refine trub_go ?_) | (with_reducible refine tri_go ?_) | (with_reducible refine asg_go ?_) | (with_reducible refine drop_go ?_) | (with_reducible refine ret_go ?_) | (with_reducible refine tup_go ?_) | (with_reducible refine cb_go ?_) | (with_reducible refine rt_int ?_) | (with_reducible refine rt_bl ?_) | (with_reducible refine rt_non ?_) | (with_reducible refine rt_tup ?_) | (with_reducible refine rt_str ?_) | (with_reducible refine rt_lst ?_) | (with_reducible refine rt_new ?_) | (with_reducible refine l1_go ?_) | (with_reducible refine l2_go ?_) | (with_reducible refine l3_go ?_) | (with_reducible refine l4_go ?_) | (with_reducible refine l5_go ?_) | (with_reducible refine l6_go ?_) | (with_reducible refine if_T ?_) | (with_reducible refine if_F ?_) | (with_reducible refine if_n ?_) | (with_reducible refine not_go ?_) | (with_reducible refine or_go ?_) | (with_reducible refine and_go ?_) | (with_reducible refine notv_go ?_) | (with_reducible refine andv_go ?_) | (with_reducible refine orv_go ?_) | (with_reducible refine iff_go ?_) | (with_reducible refine chain_go ?_) | (with_reducible refine add_go ?_) | (with_reducible refine sub_go ?_) | (with_reducible refine lt_go ?_) | (with_reducible refine gt_go ?_) | (with_reducible refine ge_go ?_) | (with_reducible refine le_go ?_) | (with_reducible refine eq_go ?_) | (with_reducible refine ne_go ?_) | (with_reducible refine eqs_go ?_) | (with_reducible refine nes_go ?_) | (with_reducible refine eqb_go ?_) | (with_reducible refine neb_go ?_) | (with_reducible refine int_go ?_) | (with_reducible refine inti_go ?_) | (with_reducible refine band_go ?_) | (with_reducible refine bor_go ?_) | (with_reducible refine iadd_go ?_) | (with_reducible refine min_go ?_) | (with_reducible refine max_go ?_) | (with_reducible refine abs_go ?_) | (with_reducible refine neg_go ?_) | (with_reducible refine bits_go ?_) | ((with_reducible apply mulg); next => first | assumption | exact .inl (.inl ⟨by omega, by omega⟩) | exact .inl (.inr ⟨by omega, by omega⟩)) | ((with_reducible apply divg); next => first | assumption | exact divok (by omega) (by omega)) | ((with_reducible apply modg); next => first | assumption | omega) | ((with_reducible apply shl1g); next => omega) | ((with_reducible apply shlng); next => first | assumption | exact .inl ⟨by omega, by omega, by omega⟩) | ((with_reducible apply shlg); next => first | assumption | exact .inl ⟨by omega, by omega, by omega⟩) | (with_reducible refine shrng ?_) | ((with_reducible apply shrg); next => first | assumption | omega) | ((with_reducible apply pow_g); next => first | assumption | exact ⟨by omega, by omega, by omega⟩) | (with_reducible refine two_go ?_) | (with_reducible refine lenl_go ?_) | (with_reducible refine lenf_go ?_) | (with_reducible refine lent_go ?_) | (with_reducible refine lenr_go ?_) | (with_reducible refine idxl_go at0 ?_) | (with_reducible refine idxt_go at0 ?_) | (with_reducible refine idxf_go at0 ?_) | (with_reducible refine idxl_go at1 ?_) | (with_reducible refine idxt_go at1 ?_) | (with_reducible refine idxf_go at1 ?_) | (with_reducible refine idxl_go at2 ?_) | (with_reducible refine idxt_go at2 ?_) | (with_reducible refine idxf_go at2 ?_) | (with_reducible refine idxl_go at3 ?_) | (with_reducible refine idxt_go at3 ?_) | (with_reducible refine idxf_go at3 ?_) | (with_reducible refine idxl_go at4 ?_) | (with_reducible refine idxt_go at4 ?_) | (with_reducible refine idxf_go at4 ?_) | (with_reducible refine idxl_go at5 ?_) | (with_reducible refine idxt_go at5 ?_) | (with_reducible refine idxf_go at5 ?_) | (with_reducible refine idxl_go at_last ?_) | ((with_reducible apply sz_go); next => exact Nat.le_of_ble_eq_true rfl) | (with_reducible refine lstk_go ?_) | (with_reducible refine newt_go ?_) | (with_reducible refine listl_go ?_) | (with_reducible refine listf_go ?_) | (with_reducible refine sl_go ?_) | (with_reducible refine nopart_go ?_) | (with_reducible refine part_go ?_) | (with_reducible refine sll_go ?_) | (with_reducible refine rev_go ?_) | (with_reducible refine mt_go ?_) | (with_reducible refine ist_set ?_) | (with_reducible refine rz1_go ?_) | (with_reducible refine raise_go ?_) | (with_reducible refine nil_s ?_) | (with_reducible refine for_go ?_) | (with_reducible refine iseq_go ?_) | (with_reducible refine skl_go ?_) | (with_reducible refine skf_go ?_) | (with_reducible refine skt_go ?_) | (with_reducible refine ir1_go ?_) | (with_reducible refine ir2_go ?_) | (with_reducible refine ir3_go ?_) | (with_reducible refine ienum_go ?_) | (with_reducible refine par2_go ?_) | (with_reducible refine par3_go ?_) | ((with_reducible apply app_set); next => first | omega | (simp only [List.length_append, List.length_cons, List.length_nil, List.length_map]; omega)) | ((with_reducible apply aug_go); next => exact rfl) | ((with_reducible apply isi_T); (next => exact rfl); (next => exact rfl)) | ((with_reducible apply isi_F); (next => exact rfl); (next => exact rfl)) | (with_reducible refine p_width (by assumption) ?_) | (with_reducible refine p_cut (by assumption) ?_) | (with_reducible refine p_gap_of (by assumption) ?_) | (with_reducible refine p_sum_of (by assumption) ?_) | ((with_reducible apply p_low_product); (next => assumption); (next => first | assumption | exact .inl (.inl ⟨by omega, by omega⟩) | exact .inl (.inr ⟨by omega, by omega⟩))) | ((with_reducible apply p_high_product); (next => assumption); (next => first | assumption | exact .inl (.inl ⟨by omega, by omega⟩) | exact .inl (.inr ⟨by omega, by omega⟩))) | ((with_reducible apply if_D); next => first | assumption | omega) | ((with_reducible apply if_N); next => first | assumption | omega) | ((with_reducible apply if_t); next => assumption) | ((with_reducible apply if_f); next => assumption) | (with_reducible refine if_dec (fun _ => ?_) (fun _ => ?_)) | (dsimp only)))
--pps
section
variable {K : PySem.W.Frag} {m : Mem} {R : ARes → Mem → Prop} {W : Nat}
/-! ### what == reads -/
def simD : Nat → D → Bool
  | _, .non => true
  | _, .bl _ => true
  | _, .int _ => true
  | n + 1, .lst xs => xs.all (simD n)
  | n + 1, .frl xs => xs.all (simD n)
  | n + 1, .tup xs => xs.all (simD n)
  | _, _ => false
theorem simD_ok : ∀ {n : Nat} {d : D}, simD n d = true → ∃ p, toP d = some p ∧ p.canLay0 = true ∧ p.depth ≤ n := by
  have parts : ∀ (n : Nat), (∀ d, simD n d = true → ∃ p, toP d = some p ∧ p.canLay0 = true ∧ p.depth ≤ n) → ∀ xs : List D, xs.all (simD n) = true → ∃ ps, toPs xs = some ps ∧ PyData.canLayAll0 ps = true ∧ PyData.depthAll ps ≤ n ∧ ps.length = xs.length := by
    intro n ih xs
    induction xs with
    | nil => intro _; exact ⟨[], by rw [toPs], rfl, Nat.zero_le _, rfl⟩
    | cons d ds ih2 =>
      intro h
      rw [List.all_cons, Bool.and_eq_true] at h
      obtain ⟨p, p1, p2, p3⟩ := ih d h.1
      obtain ⟨ps, q1, q2, q3, q4⟩ := ih2 h.2
      refine ⟨p :: ps, by rw [toPs, p1, q1], ?_, ?_, by rw [List.length_cons, List.length_cons, q4]⟩
      · rw [PyData.canLayAll0, p2, q2]; rfl
      · rw [PyData.depthAll]
        exact Nat.max_le.mpr ⟨p3, q3⟩
  have leaf : ∀ (n : Nat) (d : D), (d = .non ∨ (∃ b, d = .bl b) ∨ ∃ i, d = .int i) → ∃ p, toP d = some p ∧ p.canLay0 = true ∧ p.depth ≤ n := by
    rintro n d (rfl | ⟨b, rfl⟩ | ⟨i, rfl⟩)
    · exact ⟨.none, by rw [toP], rfl, Nat.zero_le _⟩
    · exact ⟨.bool b, by rw [toP], rfl, Nat.zero_le _⟩
    · exact ⟨.int i, by rw [toP], rfl, Nat.zero_le _⟩
  intro n
  induction n with
  | zero =>
    intro d h
    cases d with
    | non => exact leaf _ _ (.inl rfl)
    | bl b => exact leaf _ _ (.inr (.inl ⟨b, rfl⟩))
    | int b => exact leaf _ _ (.inr (.inr ⟨b, rfl⟩))
    | _ => exact absurd h (by unfold simD; exact Bool.false_ne_true)
  | succ n ih =>
    intro d h
    cases d with
    | non => exact leaf _ _ (.inl rfl)
    | bl b => exact leaf _ _ (.inr (.inl ⟨b, rfl⟩))
    | int b => exact leaf _ _ (.inr (.inr ⟨b, rfl⟩))
    | lst xs =>
      obtain ⟨ps, q1, q2, q3, q4⟩ := parts n (fun d => ih) xs (by unfold simD at h; exact h)
      exact ⟨.list ps, by rw [toP, q1]; rfl, by rw [PyData.canLay0]; exact q2, by rw [PyData.depth]; omega⟩
    | frl xs =>
      obtain ⟨ps, q1, q2, q3, q4⟩ := parts n (fun d => ih) xs (by unfold simD at h; exact h)
      exact ⟨.list ps, by rw [toP, q1]; rfl, by rw [PyData.canLay0]; exact q2, by rw [PyData.depth]; omega⟩
    | tup xs =>
      obtain ⟨ps, q1, q2, q3, q4⟩ := parts n (fun d => ih) xs (by unfold simD at h; exact h)
      exact ⟨.tuple ps, by rw [toP, q1]; rfl, by rw [PyData.canLay0]; exact q2, by rw [PyData.depth]; omega⟩
    | _ => exact absurd h (by unfold simD; exact Bool.false_ne_true)
theorem sim_eqD {n : Nat} {a b : D} {k : Bool → Prop} (hn : n ≤ 60) (ha : simD n a = true) (hb : simD n b = true) (h : ∀ p q, toP a = some p → toP b = some q → k (PyData.eqv p q)) : eqD m a b k := by
  obtain ⟨p, p1, p2, p3⟩ := simD_ok ha
  obtain ⟨q, q1, q2, q3⟩ := simD_ok hb
  exact ⟨p, q, p1, q1, by unfold SeqAt.shaped; rw [p2, decide_eq_true (by omega)]; rfl, by unfold SeqAt.shaped; rw [q2, decide_eq_true (by omega)]; rfl, h p q p1 q1⟩
theorem eqv_nil {xs : List D} {p q : PyData} (hp : toP (.lst xs) = some p) (hq : toP (.lst []) = some q) : PyData.eqv p q = decide (xs = []) := by
  rw [toP] at hp hq
  rw [toPs] at hq
  cases hq
  cases xs with
  | nil => rw [toPs] at hp; cases hp; rfl
  | cons d ds =>
    obtain ⟨ps, q1, rfl⟩ := Option.map_eq_some_iff.mp hp
    obtain ⟨q, r, rfl, _, _⟩ := toPs_cons q1
    rfl
theorem eqnil_go {xs : List D} {k : KE} (hs : simD 8 (.lst xs) = true) (h : k (.bl (decide (xs = []))) m) : oEq m (res m (.lst xs)) (res m (.lst [])) k := by
  show eqD m (.lst xs) (.lst []) fun q => k (.bl q) m
  exact sim_eqD (n := 8) (by omega) hs (by rfl) (fun p q hp hq => by rw [eqv_nil hp hq]; exact h)
theorem nenil_go {xs : List D} {k : KE} (hs : simD 8 (.lst xs) = true) (h : k (.bl (!decide (xs = []))) m) : oNe m (res m (.lst xs)) (res m (.lst [])) k := by
  show eqD m (.lst xs) (.lst []) fun q => k (.bl (!q)) m
  exact sim_eqD (n := 8) (by omega) hs (by rfl) (fun p q hp hq => by rw [eqv_nil hp hq]; exact h)
theorem sim_ints {n : Nat} {ws : List Int} : (ws.map D.int).all (simD n) = true := by
  rw [List.all_map, List.all_eq_true]
  intro x _
  show simD n (.int x) = true
  cases n <;> rfl
theorem sim_dl {n : Nat} {ws : List Int} : simD (n + 1) (dl ws) = true := sim_ints
theorem sim_rows {n : Nat} {l : List (Int × Int)} : simD (n + 2) (.lst (l.map rowD)) = true := by
  show (l.map rowD).all (simD (n + 1)) = true
  rw [List.all_map, List.all_eq_true]
  intro x _
  show simD (n + 1) (rowD x) = true
  cases n <;> rfl

/-! ### moved right -/
theorem cdiv_small {i j : Int} (h0 : 0 < j) (h1 : j < 1000000) : CDiv i j := ⟨h0, by omega⟩
theorem dm_go {x y : Int} {k : KE} (h0 : 0 < y) (h1 : y < 1000000) (h : k (.tup [.int (x / y), .int (x % y)]) m) : cDivmod m ([D.int x, D.int y].map (res m)) k := ⟨.inl (cdiv_small h0 h1), h⟩
theorem p_long_right {ws : List Int} {t : Nat} (hW : Wd W) (hw : Lm.Wok (2 ^ W) ws) (hc : Lm.trim ws = ws) (hl : ws.length ≤ 1000000) (ht : t < W)
    (h : ∀ vs, Lm.Wok (2 ^ W) vs → Lm.trim vs = vs → Lm.num (2 ^ W) vs = Lm.num (2 ^ W) ws / 2 ^ t → vs.length ≤ ws.length → R (.ret (dl vs)) m) : sp_long_right K [.int W, dl ws, .int (t : Nat)] m R := by
  obtain ⟨g, g1, g2, g3, g4⟩ := hW.pw
  have hlo := hW.lo
  have hhi := hW.hi
  have hpt : (0 : Int) < 2 ^ t := Int.pow_pos (by omega)
  have hpc : (0 : Int) < 2 ^ (W - t) := Int.pow_pos (by omega)
  have hBp : (2 : Int) ^ W = 2 ^ t * 2 ^ (W - t) := by rw [← Int.pow_add]; congr 1; omega
  show w_long_right K [some (.int W), some (dl ws), some (.int (t : Nat)), none, none, none, none, none, none, none] m _
  unfold w_long_right
  walk_at "vg"
  refine p_need_long_ok hW hw hc ?_
  walk_at "vg"
  refine dm_go (by omega) (by omega) ?_
  rw [Int.ediv_eq_zero_of_lt (by omega) (by omega), Int.emod_eq_of_lt (by omega) (by omega)]
  walk_at "vg"
  refine newf_go fun a ha => ?_
  walk_at "vg"
  rw [List.length_map]
  refine ⟨by omega, by omega, by omega, by omega, ?_⟩
  have hn : ((ws.length : Int) - 0).toNat = ws.length := by omega
  rw [hn]
  refine rng_turns (fun i v m' => ∃ acc k8 k9, m' = setM m a (dl acc) ∧ v = [some (.int W), some (dl ws), some (.int (t : Nat)), some (dl ws), some (.int 0), some (.int (t : Nat)), some (.int (2 ^ W - 1)), some (.raw (.ref a)), k8, k9] ∧ acc ++ Lm.shr (2 ^ W) (2 ^ t) (ws.drop i) = Lm.shr (2 ^ W) (2 ^ t) ws ∧ acc.length = i) ⟨[], none, none, rfl, rfl, rfl, rfl⟩ ?_ ?_
  · rintro i v1 m2 hi ⟨acc, k8, k9, rfl, rfl, e1, e2⟩
    rw [List.drop_eq_getElem_cons hi] at e1
    have w01 := hw ws[i] (List.getElem_mem hi)
    have ei : (0 : Int) + (i : Int) = (i : Int) := by omega
    rw [ei]
    have hd : ws.getD (i + 1) 0 = (ws.drop (i + 1)).headD 0 := by
      rw [List.getD_eq_getElem?_getD, List.headD_eq_head?_getD, List.head?_drop]
    have z0 : 0 ≤ ws.getD (i + 1) 0 ∧ ws.getD (i + 1) 0 < 2 ^ W := by
      rw [List.getD_eq_getElem?_getD]
      by_cases c : i + 1 < ws.length
      · rw [List.getElem?_eq_getElem c]
        exact hw _ (List.getElem_mem c)
      · rw [List.getElem?_eq_none (by omega)]
        show 0 ≤ (0 : Int) ∧ (0 : Int) < 2 ^ W
        omega
    show w_long_right_2 K [some (.int W), some (dl ws), some (.int (t : Nat)), some (dl ws), some (.int 0), some (.int (t : Nat)), some (.int (2 ^ W - 1)), some (.raw (.ref a)), some (.int (i : Nat)), k9] _ _
    unfold w_long_right_2
    walk_at "vg"
    have ei2 : (i : Int) + 1 = ((i + 1 : Nat) : Int) := by omega
    rw [ei2]
    refine p_word_at ?_
    walk_at "vg"
    refine idxl_go (at_dl hi) ?_
    walk_at "vg"
    rw [or_low z0.1 w01.1 w01.2]
    rw [PySem.W.kbt_mask, snoc_map (f := D.int)]
    refine ⟨_, _, Gh.refl, acc ++ [(ws.getD (i + 1) 0 * 2 ^ W + ws[i]) / 2 ^ t % 2 ^ W], some (.int (i : Nat)), some (.int (ws.getD (i + 1) 0 * 2 ^ W + ws[i])), rfl, ?_, ?_, by rw [List.length_append, List.length_singleton, e2]⟩
    · rfl
    · rw [← e1, hd, List.append_assoc]
      rfl
  · rintro v1 m2 ⟨acc, k8, k9, rfl, rfl, e1, e2⟩
    rw [List.drop_length] at e1
    have e3 : acc = Lm.shr (2 ^ W) (2 ^ t) ws := by rw [← e1]; exact (List.append_nil _).symm
    subst e3
    refine nx_frz 7 rfl ha ?_
    unfold w_long_right_1
    walk_at "vg"
    refine p_trimmed ?_
    walk_at "vg"
    refine h _ (Lm.wok_trim (Lm.shr_wok (by omega))) Lm.trim_trim ?_ ?_
    · rw [Lm.num_trim]
      exact Lm.shr_num hBp hpt hpc hw
    · have := Lm.trim_len (ws := Lm.shr (2 ^ W) (2 ^ t) ws)
      rw [Lm.shr_len] at this
      exact this
end
end Ab
end

section
namespace Ab
open PySem PySem.Spec PyProof.Rows L2
local macro_rules | `(tactic| walk_at "vg") => `(tactic| repeat' (first | (with_reducible refine nx_go ?_) | (with_reducible refine seq_go ?_) | (with_reducible refine set_go ?_) | (with_reducible refine call_go ?_) | (with_reducible refine cons_go ?_) | (with_reducible refine nil_go ?_) | ((with_reducible apply var_go); next => exact rfl) | (with_reducible refine con_go ?_) | (with_reducible refine op_go ?_) | (with_reducible refine isbl_go ?_) | (with_reducible refine if_go ?_) | (with_reducible refine isB_go ?_) | (with_reducible refine tru_go ?_) | (with_reducible refine trub_go ?_) | (with_reducible refine tri_go ?_) | (with_reducible refine asg_go ?_) | (with_reducible refine drop_go ?_) | (with_reducible refine ret_go ?_) | (with_reducible refine tup_go ?_) | (with_reducible refine cb_go ?_) | (with_reducible refine rt_int ?_) | (with_reducible refine rt_bl ?_) | (with_reducible refine rt_non ?_) | (with_reducible refine rt_tup ?_) | (with_reducible refine rt_str ?_) | (with_reducible refine rt_lst ?_) | (with_reducible refine rt_new ?_) | (with_reducible refine l1_go ?_) | (with_reducible refine l2_go ?_) | (with_reducible refine l3_go ?_) | (with_reducible refine l4_go ?_) | (with_reducible refine l5_go ?_) | (with_reducible refine l6_go ?_) | (with_reducible refine if_T ?_) | (with_reducible refine if_F ?_) | (with_reducible refine if_n ?_) | (with_reducible refine not_go ?_) | (with_reducible refine or_go ?_) | (with_reducible refine and_go ?_) | (with_reducible refine notv_go ?_) | (with_reducible refine andv_go ?_) | (with_reducible refine orv_go ?_) | (with_reducible refine iff_go ?_) | (with_reducible refine chain_go ?_) | (with_reducible refine add_go ?_) | (with_reducible refine sub_go ?_) | (with_reducible refine lt_go ?_) | (with_reducible refine gt_go ?_) | (with_reducible refine ge_go ?_) | (with_reducible refine le_go ?_) | (with_reducible refine eq_go ?_) | (with_reducible refine ne_go ?_) | (with_reducible refine eqs_go ?_) | (with_reducible refine nes_go ?_) | (with_reducible refine eqb_go ?_) | (with_reducible refine neb_go ?_) | (with_reducible refine int_go ?_) | (with_reducible refine inti_go ?_) | (with_reducible refine band_go ?_) | (with_reducible refine bor_go ?_) | (with_reducible refine iadd_go ?_) | (with_reducible refine min_go ?_) | (with_reducible refine max_go ?_) | (with_reducible refine abs_go ?_) | (with_reducible refine neg_go ?_) | (with_reducible refine bits_go ?_) | ((with_reducible apply mulg); next => first | assumption | exact .inl (.inl ⟨by omega, by omega⟩) | exact .inl (.inr ⟨by omega, by omega⟩)) | ((with_reducible apply divg); next => first | assumption | exact divok (by omega) (by omega)) | ((with_reducible apply modg); next => first | assumption | omega) | ((with_reducible apply shl1g); next => omega) | ((with_reducible apply shlng); next => first | assumption | exact .inl ⟨by omega, by omega, by omega⟩) | ((with_reducible apply shlg); next => first | assumption | exact .inl ⟨by omega, by omega, by omega⟩) | (with_reducible refine shrng ?_) | ((with_reducible apply shrg); next => first | assumption | omega) | ((with_reducible apply pow_g); next => first | assumption | exact ⟨by omega, by omega, by omega⟩) | (with_reducible refine two_go ?_) | (with_reducible refine lenl_go ?_) | (with_reducible refine lenf_go ?_) | (with_reducible refine lent_go ?_) | (with_reducible refine lenr_go ?_) | (with_reducible refine idxl_go at0 ?_) | (with_reducible refine idxt_go at0 ?_) | (with_reducible refine idxf_go at0 ?_) | (with_reducible refine idxl_go at1 ?_) | (with_reducible refine idxt_go at1 ?_) | (with_reducible refine idxf_go at1 ?_) | (with_reducible refine idxl_go at2 ?_) | (with_reducible refine idxt_go at2 ?_) | (with_reducible refine idxf_go at2 ?_) | (with_reducible refine idxl_go at3 ?_) | (with_reducible refine idxt_go at3 ?_) | (with_reducible refine idxf_go at3 ?_) | (with_reducible refine idxl_go at4 ?_) | (with_reducible refine idxt_go at4 ?_) | (with_reducible refine idxf_go at4 ?_) | (with_reducible refine idxl_go at5 ?_) | (with_reducible refine idxt_go at5 ?_) | (with_reducible refine idxf_go at5 ?_) | (with_reducible refine idxl_go at_last ?_) | ((with_reducible apply sz_go); next => exact Nat.le_of_ble_eq_true rfl) | (with_reducible refine lstk_go ?_) | (with_reducible refine newt_go ?_) | (with_reducible refine listl_go ?_) | (with_reducible refine listf_go ?_) | (with_reducible refine sl_go ?_) | (with_reducible refine nopart_go ?_) | (with_reducible refine part_go ?_) | (with_reducible refine sll_go ?_) | (with_reducible refine rev_go ?_) | (with_reducible refine mt_go ?_) | (with_reducible refine ist_set ?_) | (with_reducible refine rz1_go ?_) | (with_reducible refine raise_go ?_) | (with_reducible refine nil_s ?_) | (with_reducible refine for_go ?_) | (with_reducible refine iseq_go ?_) | (with_reducible refine skl_go ?_) | (with_reducible refine skf_go ?_) | (with_reducible refine skt_go ?_) | (with_reducible refine ir1_go ?_) | (with_reducible refine ir2_go ?_) | (with_reducible refine ir3_go ?_) | (with_reducible refine ienum_go ?_) | (with_reducible refine par2_go ?_) | (with_reducible refine par3_go ?_) | ((with_reducible apply app_set); next => first | omega | (simp only [List.length_append, List.length_cons, List.length_nil, List.length_map]; omega)) | ((with_reducible apply aug_go); next => exact rfl) | ((with_reducible apply isi_T); (next => exact rfl); (next => exact rfl)) | ((with_reducible apply isi_F); (next => exact rfl); (next => exact rfl)) | (with_reducible refine p_width (by assumption) ?_) | (with_reducible refine p_cut (by assumption) ?_) | (with_reducible refine p_gap_of (by assumption) ?_) | (with_reducible refine p_sum_of (by assumption) ?_) | ((with_reducible apply p_low_product); (next => assumption); (next => first | assumption | exact .inl (.inl ⟨by omega, by omega⟩) | exact .inl (.inr ⟨by omega, by omega⟩))) | ((with_reducible apply p_high_product); (next => assumption); (next => first | assumption | exact .inl (.inl ⟨by omega, by omega⟩) | exact .inl (.inr ⟨by omega, by omega⟩))) | ((with_reducible apply if_D); next => first | assumption | omega) | ((with_reducible apply if_N); next => first | assumption | omega) | ((with_reducible apply if_t); next => assumption) | ((with_reducible apply if_f); next => assumption) | (dsimp only)))
local macro_rules | `(tactic| walk_at "vh") => `(tactic| repeat' (first | (with_reducible refine seq_go ?_) | (with_reducible refine set_go ?_) | (with_reducible refine call_go ?_) | (with_reducible refine cons_go ?_) | (with_reducible refine nil_go ?_) | ((with_reducible apply var_go); next => exact rfl) | (with_reducible refine con_go ?_) | (with_reducible refine op_go ?_) | (with_reducible refine isbl_go ?_) | (with_reducible refine if_go ?_) | (with_reducible refine isB_go ?_) | (with_reducible refine tru_go ?_) | (with_reducible refine trub_go ?_) | (with_reducible refine tri_go ?_) | (with_reducible refine asg_go ?_) | (with_reducible refine drop_go ?_) | (with_reducible refine ret_go ?_) | (with_reducible refine tup_go ?_) | (with_reducible refine cb_go ?_) | (with_reducible refine rt_int ?_) | (with_reducible refine rt_bl ?_) | (with_reducible refine rt_non ?_) | (with_reducible refine rt_tup ?_) | (with_reducible refine rt_str ?_) | (with_reducible refine rt_lst ?_) | (with_reducible refine rt_new ?_) | (with_reducible refine l1_go ?_) | (with_reducible refine l2_go ?_) | (with_reducible refine l3_go ?_) | (with_reducible refine l4_go ?_) | (with_reducible refine l5_go ?_) | (with_reducible refine l6_go ?_) | (with_reducible refine if_T ?_) | (with_reducible refine if_F ?_) | (with_reducible refine if_n ?_) | (with_reducible refine not_go ?_) | (with_reducible refine or_go ?_) | (with_reducible refine and_go ?_) | (with_reducible refine notv_go ?_) | (with_reducible refine andv_go ?_) | (with_reducible refine orv_go ?_) | (with_reducible refine iff_go ?_) | (with_reducible refine chain_go ?_) | (with_reducible refine add_go ?_) | (with_reducible refine sub_go ?_) | (with_reducible refine lt_go ?_) | (with_reducible refine gt_go ?_) | (with_reducible refine ge_go ?_) | (with_reducible refine le_go ?_) | (with_reducible refine eq_go ?_) | (with_reducible refine ne_go ?_) | (with_reducible refine eqs_go ?_) | (with_reducible refine nes_go ?_) | (with_reducible refine eqb_go ?_) | (with_reducible refine neb_go ?_) | (with_reducible refine int_go ?_) | (with_reducible refine inti_go ?_) | (with_reducible refine band_go ?_) | (with_reducible refine bor_go ?_) | (with_reducible refine iadd_go ?_) | (with_reducible refine min_go ?_) | (with_reducible refine max_go ?_) | (with_reducible refine abs_go ?_) | (with_reducible refine neg_go ?_) | (with_reducible refine bits_go ?_) | ((with_reducible apply mulg); next => first | assumption | exact .inl (.inl ⟨by omega, by omega⟩) | exact .inl (.inr ⟨by omega, by omega⟩)) | ((with_reducible apply divg); next => first | assumption | exact divok (by omega) (by omega)) | ((with_reducible apply modg); next => first | assumption | omega) | ((with_reducible apply shl1g); next => omega) | ((with_reducible apply shlng); next => first | assumption | exact .inl ⟨by omega, by omega, by omega⟩) | ((with_reducible apply shlg); next => first | assumption | exact .inl ⟨by omega, by omega, by omega⟩) | (with_reducible refine shrng ?_) | ((with_reducible apply shrg); next => first | assumption | omega) | ((with_reducible apply pow_g); next => first | assumption | exact ⟨by omega, by omega, by omega⟩) | (with_reducible refine two_go ?_) | (with_reducible refine lenl_go ?_) | (with_reducible refine lenf_go ?_) | (with_reducible refine lent_go ?_) | (with_reducible refine lenr_go ?_) | (with_reducible refine idxl_go at0 ?_) | (with_reducible refine idxt_go at0 ?_) | (with_reducible refine idxf_go at0 ?_) | (with_reducible refine idxl_go at1 ?_) | (with_reducible refine idxt_go at1 ?_) | (with_reducible refine idxf_go at1 ?_) | (with_reducible refine idxl_go at2 ?_) | (with_reducible refine idxt_go at2 ?_) | (with_reducible refine idxf_go at2 ?_) | (with_reducible refine idxl_go at3 ?_) | (with_reducible refine idxt_go at3 ?_) | (with_reducible refine idxf_go at3 ?_) | (with_reducible refine idxl_go at4 ?_) | (with_reducible refine idxt_go at4 ?_) | (with_reducible refine idxf_go at4 ?_) | (with_reducible refine idxl_go at5 ?_) | (with_reducible refine idxt_go at5 ?_) | (with_reducible refine idxf_go at5 ?_) | (with_reducible refine idxl_go at_last ?_) | ((with_reducible apply sz_go); next => exact Nat.le_of_ble_eq_true rfl) | (with_reducible refine lstk_go ?_) | (with_reducible refine newt_go ?_) | (with_reducible refine listl_go ?_) | (with_reducible refine listf_go ?_) | (with_reducible refine sl_go ?_) | (with_reducible refine nopart_go ?_) | (with_reducible refine part_go ?_) | (with_reducible refine sll_go ?_) | (with_reducible refine rev_go ?_) | (with_reducible refine mt_go ?_) | (with_reducible refine ist_set ?_) | (with_reducible refine rz1_go ?_) | (with_reducible refine raise_go ?_) | (with_reducible refine nil_s ?_) | (with_reducible refine for_go ?_) | (with_reducible refine iseq_go ?_) | (with_reducible refine skl_go ?_) | (with_reducible refine skf_go ?_) | (with_reducible refine skt_go ?_) | (with_reducible refine ir1_go ?_) | (with_reducible refine ir2_go ?_) | (with_reducible refine ir3_go ?_) | (with_reducible refine ienum_go ?_) | (with_reducible refine par2_go ?_) | (with_reducible refine par3_go ?_) | ((with_reducible apply app_set); next => first | omega | (simp only [List.length_append, List.length_cons, List.length_nil, List.length_map]; omega)) | ((with_reducible apply aug_go); next => exact rfl) | ((with_reducible apply isi_T); (next => exact rfl); (next => exact rfl)) | ((with_reducible apply isi_F); (next => exact rfl); (next => exact rfl)) | (with_reducible refine p_width (by assumption) ?_) | (with_reducible refine p_cut (by assumption) ?_) | (with_reducible refine p_gap_of (by assumption) ?_) | (with_reducible refine p_sum_of (by assumption) ?_) | ((with_reducible apply p_low_product); (next => assumption); (next => first | assumption | exact .inl (.inl ⟨by omega, by omega⟩) | exact .inl (.inr ⟨by omega, by omega⟩))) | ((with_reducible apply p_high_product); (next => assumption); (next => first | assumption | exact .inl (.inl ⟨by omega, by omega⟩) | exact .inl (.inr ⟨by omega, by omega⟩))) | ((with_reducible apply if_D); next => first | assumption | omega) | ((with_reducible apply if_N); next => first | assumption | omega) | ((with_reducible apply if_t); next => assumption) | ((with_reducible apply if_f); next => assumption) | (dsimp only)))
local macro_rules | `(tactic| walk_at "vs") => `(tactic| repeat' (first | (with_reducible refine nx_go ?_) | (with_reducible refine seq_go ?_) | (with_reducible refine set_go ?_) | (with_reducible refine call_go ?_) | (with_reducible refine cons_go ?_) | (with_reducible refine nil_go ?_) | ((with_reducible apply var_go); next => exact rfl) | (with_reducible refine con_go ?_) | (with_reducible refine op_go ?_) | (with_reducible refine isbl_go ?_) | (with_reducible refine if_go ?_) | (with_reducible refine isB_go ?_) | (with_reducible refine tru_go ?_) | (with_reducible refine trub_go ?_) | (with_reducible refine tri_go ?_) | (with_reducible refine asg_go ?_) | (with_reducible refine drop_go ?_) | (with_reducible refine ret_go ?_) | (with_reducible refine tup_go ?_) | (with_reducible refine cb_go ?_) | (with_reducible refine rt_int ?_) | (with_reducible refine rt_bl ?_) | (with_reducible refine rt_non ?_) | (with_reducible refine rt_tup ?_) | (with_reducible refine rt_str ?_) | (with_reducible refine rt_lst ?_) | (with_reducible refine rt_new ?_) | (with_reducible refine l1_go ?_) | (with_reducible refine l2_go ?_) | (with_reducible refine l3_go ?_) | (with_reducible refine l4_go ?_) | (with_reducible refine l5_go ?_) | (with_reducible refine l6_go ?_) | (with_reducible refine if_T ?_) | (with_reducible refine if_F ?_) | (with_reducible refine if_n ?_) | (with_reducible refine not_go ?_) | (with_reducible refine or_go ?_) | (with_reducible refine and_go ?_) | (with_reducible refine notv_go ?_) | (with_reducible refine andv_go ?_) | (with_reducible refine orv_go ?_) | (with_reducible refine iff_go ?_) | (with_reducible refine chain_go ?_) | (with_reducible refine add_go ?_) | (with_reducible refine sub_go ?_) | (with_reducible refine lt_go ?_) | (with_reducible refine gt_go ?_) | (with_reducible refine ge_go ?_) | (with_reducible refine le_go ?_) | (with_reducible refine eq_go ?_) | (with_reducible refine ne_go ?_) | (with_reducible refine eqs_go ?_) | (with_reducible refine nes_go ?_) | (with_reducible refine eqb_go ?_) | (with_reducible refine neb_go ?_) | (with_reducible refine int_go ?_) | (with_reducible refine inti_go ?_) | (with_reducible refine band_go ?_) | (with_reducible refine bor_go ?_) | (with_reducible refine iadd_go ?_) | (with_reducible refine min_go ?_) | (with_reducible refine max_go ?_) | (with_reducible refine abs_go ?_) | (with_reducible refine neg_go ?_) | (with_reducible refine bits_go ?_) | ((with_reducible apply mulg); next => first | assumption | exact .inl (.inl ⟨by omega, by omega⟩) | exact .inl (.inr ⟨by omega, by omega⟩)) | ((with_reducible apply divg); next => first | assumption | exact divok (by omega) (by omega)) | ((with_reducible apply modg); next => first | assumption | omega) | ((with_reducible apply shl1g); next => omega) | ((with_reducible apply shlng); next => first | assumption | exact .inl ⟨by omega, by omega, by omega⟩) | ((with_reducible apply shlg); next => first | assumption | exact .inl ⟨by omega, by omega, by omega⟩) | (with_reducible refine shrng ?_) | ((with_reducible apply shrg); next => first | assumption | omega) | ((with_reducible apply pow_g); next => first | assumption | exact ⟨by omega, by omega, by omega⟩) | (with_reducible refine two_go ?_) | (with_reducible refine lenl_go ?_) | (with_reducible refine lenf_go ?_) | (with_reducible refine lent_go ?_) | (with_reducible refine lenr_go ?_) | (with_reducible refine idxl_go at0 ?_) | (with_reducible refine idxt_go at0 ?_) | (with_reducible refine idxf_go at0 ?_) | (with_reducible refine idxl_go at1 ?_) | (with_reducible refine idxt_go at1 ?_) | (with_reducible refine idxf_go at1 ?_) | (with_reducible refine idxl_go at2 ?_) | (with_reducible refine idxt_go at2 ?_) | (with_reducible refine idxf_go at2 ?_) | (with_reducible refine idxl_go at3 ?_) | (with_reducible refine idxt_go at3 ?_) | (with_reducible refine idxf_go at3 ?_) | (with_reducible refine idxl_go at4 ?_) | (with_reducible refine idxt_go at4 ?_) | (with_reducible refine idxf_go at4 ?_) | (with_reducible refine idxl_go at5 ?_) | (with_reducible refine idxt_go at5 ?_) | (with_reducible refine idxf_go at5 ?_) | (with_reducible refine idxl_go at_last ?_) | ((with_reducible apply sz_go); next => exact Nat.le_of_ble_eq_true rfl) | (with_reducible refine lstk_go ?_) | (with_reducible refine newt_go ?_) | (with_reducible refine listl_go ?_) | (with_reducible refine listf_go ?_) | (with_reducible refine sl_go ?_) | (with_reducible refine nopart_go ?_) | (with_reducible refine part_go ?_) | (with_reducible refine sll_go ?_) | (with_reducible refine rev_go ?_) | (with_reducible refine mt_go ?_) | (with_reducible refine ist_set ?_) | (with_reducible refine rz1_go ?_) | (with_reducible refine raise_go ?_) | (with_reducible refine nil_s ?_) | (with_reducible refine for_go ?_) | (with_reducible refine iseq_go ?_) | (with_reducible refine skl_go ?_) | (with_reducible refine skf_go ?_) | (with_reducible refine skt_go ?_) | (with_reducible refine ir1_go ?_) | (with_reducible refine ir2_go ?_) | (with_reducible refine ir3_go ?_) | (with_reducible refine ienum_go ?_) | (with_reducible refine par2_go ?_) | (with_reducible refine par3_go ?_) | ((with_reducible apply app_set); next => first | omega | (simp only [List.length_append, List.length_cons, List.length_nil, List.length_map]; omega)) | ((with_reducible apply aug_go); next => exact rfl) | ((with_reducible apply isi_T); (next => exact rfl); (next => exact rfl)) | ((with_reducible apply isi_F); (next => exact rfl); (next => exact rfl)) | (with_reducible refine p_width (by assumption) ?_) | (with_reducible refine p_cut (by assumption) ?_) | (with_reducible refine p_gap_of (by assumption) ?_) | (with_reducible refine p_sum_of (by assumption) ?_) | ((with_reducible apply p_low_product); (next => assumption); (next => first | assumption | exact .inl (.inl ⟨by omega, by omega⟩) | exact .inl (.inr ⟨by omega, by omega⟩))) | ((with_reducible apply p_high_product); (next => assumption); (next => first | assumption | exact .inl (.inl ⟨by omega, by omega⟩) | exact .inl (.inr ⟨by omega, by omega⟩))) | ((with_reducible apply if_D); next => first | assumption | omega) | ((with_reducible apply if_N); next => first | assumption | omega) | ((with_reducible apply if_t); next => assumption) | ((with_reducible apply if_f); next => assumption) | (with_reducible refine if_dec (fun _ => ?_) (fun _ => ?_)) | (dsimp only)))
--pps
section
variable {K : PySem.W.Frag} {m : Mem} {R : ARes → Mem → Prop} {W : Nat}
theorem lt_pow {t W : Nat} {d : Int} (hd : (2 : Int) ^ t ≤ d) (h : d < 2 ^ W) : t < W := by
  by_cases c : t < W
  · exact c
  · exfalso
    have := Lm.pow_mono (B := 2) (by omega) (show W ≤ t by omega)
    omega
/-- the parts of a divisor -/
structure Two (W : Nat) (d e : Int) (t : Nat) : Prop where
  hd : d = 2 ^ t * e
  ho : e % 2 = 1
  h0 : 1 ≤ e
  h1 : e ≤ 2 ^ W - 1
  ht : t < W
theorem two_ex {d : Int} (d0 : 1 ≤ d) (d1 : d ≤ 2 ^ W - 1) : ∃ t e, Two W d e t := by
  obtain ⟨t, e, hd, ho⟩ := Lm.twos_ex d.toNat (d := d) (by omega) (by omega)
  have hp : (0 : Int) < 2 ^ t := Int.pow_pos (by omega)
  have e0 : 1 ≤ e := by
    by_cases c : 1 ≤ e
    · exact c
    · exfalso
      have : 2 ^ t * e ≤ 2 ^ t * 0 := Int.mul_le_mul_of_nonneg_left (by omega) (by omega)
      omega
  have e2 : 1 * e ≤ 2 ^ t * e := Int.mul_le_mul_of_nonneg_right (by omega) (by omega)
  have e3 : 2 ^ t * 1 ≤ 2 ^ t * e := Int.mul_le_mul_of_nonneg_left (by omega) (by omega)
  exact ⟨t, e, hd, ho, e0, by omega, lt_pow (d := d) (by omega) (by omega)⟩
theorem Two.div {d e : Int} {t : Nat} (h : Two W d e t) : d / 2 ^ t = e := by
  have hp : (0 : Int) < 2 ^ t := Int.pow_pos (by omega)
  rw [h.hd]
  exact Int.mul_ediv_cancel_left _ (by omega)
/-- 2 ^ t * e divides exactly if 2 ^ t does and e the rest -/
theorem two_dvd {n e : Int} {t : Nat} (he : 0 < e) : n % (2 ^ t * e) = 0 ↔ n % 2 ^ t = 0 ∧ n / 2 ^ t % e = 0 := by
  have hp : (0 : Int) < 2 ^ t := Int.pow_pos (by omega)
  generalize (2 : Int) ^ t = p at *
  constructor
  · intro h
    obtain ⟨k, hk⟩ := Int.dvd_of_emod_eq_zero h
    have e1 : n = p * (e * k) := by rw [hk]; grind
    rw [e1]
    exact ⟨Int.mul_emod_right _ _, by rw [Int.mul_ediv_cancel_left _ (by omega)]; exact Int.mul_emod_right _ _⟩
  · rintro ⟨h1, h2⟩
    obtain ⟨k, hk⟩ := Int.dvd_of_emod_eq_zero h2
    have := Int.emod_add_mul_ediv n p
    rw [h1, hk] at this
    have e1 : n = p * e * k := by rw [← this]; grind
    rw [e1]
    exact Int.mul_emod_right _ _
theorem rows_last {l : List (Int × Int)} (h : l.map rowD ≠ []) : ∃ p pre, l.map rowD = pre ++ [.tup [.int p, .int (Lm.lastC 0 l)]] := by
  have hne : l ≠ [] := by rintro rfl; exact h rfl
  refine ⟨(l.getLast hne).1, l.dropLast.map rowD, ?_⟩
  have e := List.dropLast_concat_getLast hne
  have e2 : Lm.lastC 0 l = (l.getLast hne).2 := by
    conv => lhs; rw [← e]
    exact lastC_snoc
  rw [e2]
  conv => lhs; rw [← e, List.map_append]
  rfl
theorem lastC_nil {l : List (Int × Int)} (h : l.map rowD = []) : Lm.lastC 0 l = 0 := by
  have : l = [] := by simpa using h
  subst this
  rfl
/-- the last look of divides_long -/
theorem rows_end {l : List (Int × Int)} {v : Ab.Env} {i : Nat} {P : SK} (hv : look v i = some (.lst (l.map rowD))) (h : P.rt (.bl (decide (Lm.lastC 0 l = 0))) m) :
    sRet (wOrV (wOp oEq (wVar i) (wLst true wNil)) (wOp oEq (wOp oIdx (wOp oIdx (wVar i) (wNeg (wCon (.int 1)))) (wCon (.int 1))) (wCon (.int 0)))) v m P := by
  refine ret_go (orv_go (op_go (var_go hv (lstk_go (nil_go (sz_go (Nat.le_of_ble_eq_true rfl) (newt_go (eqnil_go sim_rows (trub_go ?_)))))))))
  refine if_dec (fun c => ?_) (fun c => ?_)
  · rw [lastC_nil c] at h
    rw [decide_eq_true c]
    rw [decide_eq_true rfl] at h
    exact rt_bl h
  · obtain ⟨p, pre, e⟩ := rows_last c
    refine op_go (op_go (op_go (var_go hv ?_)))
    rw [e]
    walk_at "vg"
    exact h
theorem p_divides_long {d : Int} {ws : List Int} (hW : Wd W) (d0 : 1 ≤ d) (d1 : d ≤ 2 ^ W - 1) (hw : Lm.Wok (2 ^ W) ws) (hc : Lm.trim ws = ws) (hl : ws.length ≤ 1000000)
    (h : R (.ret (.bl (decide (Lm.num (2 ^ W) ws % d = 0)))) m) : sp_divides_long K [.int W, dl ws, .int d] m R := by
  obtain ⟨t, e, T⟩ := two_ex d0 d1
  have hB := hW.one
  have hle := hW.le
  have htW := T.ht
  have hBp : (2 : Int) ^ W = 2 ^ t * 2 ^ (W - t) := by rw [← Int.pow_add]; congr 1; have := T.ht; omega
  have low := Lm.num_low hBp (ws := ws)
  have he := T.h0
  have hdv := two_dvd (n := Lm.num (2 ^ W) ws) (t := t) (e := e) (by omega)
  rw [← T.hd] at hdv
  show w_divides_long K [some (.int W), some (dl ws), some (.int d), none, none, none] m _
  unfold w_divides_long
  walk_at "vg"
  refine p_need_long_ok hW hw hc ?_
  walk_at "vg"
  refine p_need_divisor hW rfl (fun _ => ?_) (fun n => absurd ⟨d, rfl, d0, d1⟩ n)
  walk_at "vg"
  refine p_exact hW d0 d1 T.hd T.ho (fun x => ?_)
  walk_at "vg"
  refine p_word_at (i := 0) ?_
  walk_at "vg"
  rw [PySem.W.kbt_mask, ← low]
  refine if_dec (fun c => ?_) (fun c => ?_)
  · walk_at "vg"
    unfold w_divides_long_1
    walk_at "vg"
    refine p_long_right hW hw hc hl T.ht (fun vs k1 k2 k3 k4 => ?_)
    walk_at "vg"
    rw [T.div]
    refine p_low_rows hW T.h0 T.h1 T.ho k1 (by omega) (fun x a hx ha => ?_)
    walk_at "vh"
    refine nx_frz 5 rfl ha (rows_end rfl ?_)
    have z := Lm.low_zero rfl hB (by omega) T.ho (by have := T.h1; omega) hx.h2 k1
    rw [k3] at z
    have e1 : decide (Lm.lastC 0 (Lm.lowR (2 ^ W) e x 0 vs) = 0) = decide (Lm.num (2 ^ W) ws % d = 0) := by
      apply decide_eq_decide.mpr
      rw [z, hdv]
      exact ⟨fun q => ⟨c, q⟩, fun q => q.2⟩
    show R (.ret (.bl (decide (Lm.lastC 0 (Lm.lowR (2 ^ W) e x 0 vs) = 0)))) m
    rw [e1]
    exact h
  · walk_at "vg"
    rw [decide_eq_false (by rw [hdv]; exact fun q => c q.1)] at h
    exact h
theorem p_exact_long {d : Int} {ws : List Int} (hW : Wd W) (d0 : 1 ≤ d) (d1 : d ≤ 2 ^ W - 1) (hw : Lm.Wok (2 ^ W) ws) (hc : Lm.trim ws = ws) (hl : ws.length ≤ 1000000)
    (h1 : Lm.num (2 ^ W) ws % d = 0 → ∀ vs, Lm.Wok (2 ^ W) vs → Lm.trim vs = vs → Lm.num (2 ^ W) vs = Lm.num (2 ^ W) ws / d → R (.ret (dl vs)) m) (h2 : Lm.num (2 ^ W) ws % d ≠ 0 → R (.ret .non) m) : sp_exact_long K [.int W, dl ws, .int d] m R := by
  obtain ⟨t, e, T⟩ := two_ex d0 d1
  have hB := hW.one
  have hle := hW.le
  have htW := T.ht
  have he := T.h0
  have hdv := two_dvd (n := Lm.num (2 ^ W) ws) (t := t) (e := e) (by omega)
  rw [← T.hd] at hdv
  show w_exact_long K [some (.int W), some (dl ws), some (.int d), none, none, none, none, none] m _
  unfold w_exact_long
  walk_at "vg"
  refine p_need_long_ok hW hw hc ?_
  walk_at "vg"
  refine p_need_divisor hW rfl (fun _ => ?_) (fun n => absurd ⟨d, rfl, d0, d1⟩ n)
  walk_at "vg"
  refine p_divides_long hW d0 d1 hw hc hl ?_
  walk_at "vg"
  refine if_dec (fun c => ?_) (fun c => ?_)
  · walk_at "vg"
    unfold w_exact_long_1
    walk_at "vg"
    refine p_exact hW d0 d1 T.hd T.ho (fun x => ?_)
    walk_at "vg"
    refine p_long_right hW hw hc hl T.ht (fun vs k1 k2 k3 k4 => ?_)
    walk_at "vg"
    rw [T.div]
    refine p_low_rows hW T.h0 T.h1 T.ho k1 (by omega) (fun x a hx ha => ?_)
    walk_at "vh"
    refine nx_frz 5 rfl ha ?_
    obtain ⟨q1, q2, q3, q4⟩ := Lm.low_num hB (by omega) (by have := T.h1; omega) hx.h2 k1 (Int.le_refl 0) (by omega : (0 : Int) < e)
    have z := (Lm.low_zero rfl hB (by omega) T.ho (by have := T.h1; omega) hx.h2 k1).mpr (by rw [k3]; exact (hdv.mp c).2)
    have hrl : (Lm.lowR (2 ^ W) e x 0 vs).length ≤ 1000000 := by rw [Lm.lowR_len]; omega
    generalize Lm.lowR (2 ^ W) e x 0 vs = rows at *
    refine ret_go (call_go (cons_go ?_))
    show iSeq (wVar 5) _ _ _ _
    refine iseq_go (var_go rfl (skl_go ?_))
    refine lc_map (fun p => .int p.1) (by omega) (fun i hi kk Z hk => ?_) ?_
    · refine two_go ?_
      exact if_T hk
    · walk_at "vg"
      have er : rows.map (fun p => D.int p.1) = (rows.map (·.1)).map D.int := by rw [List.map_map]; rfl
      rw [er]
      refine p_trimmed ?_
      walk_at "vg"
      refine h1 c _ (Lm.wok_trim fun w hw' => ?_) Lm.trim_trim ?_
      · obtain ⟨p, hp, rfl⟩ := List.mem_map.mp hw'
        exact (q4 p hp).1
      · rw [Lm.num_trim]
        rw [z, k3] at q1
        have dm := Int.emod_add_mul_ediv (Lm.num (2 ^ W) ws) (2 ^ t)
        rw [(hdv.mp c).1] at dm
        have e3 : Lm.num (2 ^ W) ws = d * Lm.num (2 ^ W) (rows.map (·.1)) := by
          rw [T.hd]
          have : Lm.num (2 ^ W) (rows.map (·.1)) * e = Lm.num (2 ^ W) ws / 2 ^ t := by omega
          rw [← dm, ← this]
          grind
        have dn : d ≠ 0 := by omega
        conv => rhs; rw [e3]
        rw [Int.mul_ediv_cancel_left _ dn]
  · walk_at "vg"
    exact h2 c
end
end Ab
end

section
namespace Ab
open PySem PySem.Spec PyProof.Rows L2
local macro_rules | `(tactic| walk_at "vg") => `(tactic| repeat' (first | (with_reducible refine nx_go ?_) | (with_reducible refine seq_go ?_) | (with_reducible refine set_go ?_) | (with_reducible refine call_go ?_) | (with_reducible refine cons_go ?_) | (with_reducible refine nil_go ?_) | ((with_reducible apply var_go); next => exact rfl) | (with_reducible refine con_go ?_) | (with_reducible refine op_go ?_) | (with_reducible refine isbl_go ?_) | (with_reducible refine if_go ?_) | (with_reducible refine isB_go ?_) | (with_reducible refine tru_go ?_) | (with_reducible refine trub_go ?_) | (with_reducible refine tri_go ?_) | (with_reducible refine asg_go ?_) | (with_reducible refine drop_go ?_) | (with_reducible refine ret_go ?_) | (with_reducible refine tup_go ?_) | (with_reducible refine cb_go ?_) | (with_reducible refine rt_int ?_) | (with_reducible refine rt_bl ?_) | (with_reducible refine rt_non ?_) | (with_reducible refine rt_tup ?_) | (with_reducible refine rt_str ?_) | (with_reducible refine rt_lst ?_) | (with_reducible refine rt_new ?_) | (with_reducible refine l1_go ?_) | (with_reducible refine l2_go ?_) | (with_reducible refine l3_go ?_) | (with_reducible refine l4_go ?_) | (with_reducible refine l5_go ?_) | (with_reducible refine l6_go ?_) | (with_reducible refine if_T ?_) | (with_reducible refine if_F ?_) | (with_reducible refine if_n ?_) | (with_reducible refine not_go ?_) | (with_reducible refine or_go ?_) | (with_reducible refine and_go ?_) | (with_reducible refine notv_go ?_) | (with_reducible refine andv_go ?_) | (with_reducible refine orv_go ?_) | (with_reducible refine iff_go ?_) | (with_reducible refine chain_go ?_) | (with_reducible refine add_go ?_) | (with_reducible refine sub_go ?_) | (with_reducible refine lt_go ?_) | (with_reducible refine gt_go ?_) | (with_reducible refine ge_go ?_) | (with_reducible refine le_go ?_) | (with_reducible refine eq_go ?_) | (with_reducible refine ne_go ?_) | (with_reducible refine eqs_go ?_) | (with_reducible refine nes_go ?_) | (with_reducible refine eqb_go ?_) | (with_reducible refine neb_go ?_) | (with_reducible refine int_go ?_) | (with_reducible refine inti_go ?_) | (with_reducible refine band_go ?_) | (with_reducible refine bor_go ?_) | (with_reducible refine iadd_go ?_) | (with_reducible refine min_go ?_) | (with_reducible refine max_go ?_) | (with_reducible refine abs_go ?_) | (with_reducible refine neg_go ?_) | (with_reducible refine bits_go ?_) | ((with_reducible apply mulg); next => first | assumption | exact .inl (.inl ⟨by omega, by omega⟩) | exact .inl (.inr ⟨by omega, by omega⟩)) | ((with_reducible apply divg); next => first | assumption | exact divok (by omega) (by omega)) | ((with_reducible apply modg); next => first | assumption | omega) | ((with_reducible apply shl1g); next => omega) | ((with_reducible apply shlng); next => first | assumption | exact .inl ⟨by omega, by omega, by omega⟩) | ((with_reducible apply shlg); next => first | assumption | exact .inl ⟨by omega, by omega, by omega⟩) | (with_reducible refine shrng ?_) | ((with_reducible apply shrg); next => first | assumption | omega) | ((with_reducible apply pow_g); next => first | assumption | exact ⟨by omega, by omega, by omega⟩) | (with_reducible refine two_go ?_) | (with_reducible refine lenl_go ?_) | (with_reducible refine lenf_go ?_) | (with_reducible refine lent_go ?_) | (with_reducible refine lenr_go ?_) | (with_reducible refine idxl_go at0 ?_) | (with_reducible refine idxt_go at0 ?_) | (with_reducible refine idxf_go at0 ?_) | (with_reducible refine idxl_go at1 ?_) | (with_reducible refine idxt_go at1 ?_) | (with_reducible refine idxf_go at1 ?_) | (with_reducible refine idxl_go at2 ?_) | (with_reducible refine idxt_go at2 ?_) | (with_reducible refine idxf_go at2 ?_) | (with_reducible refine idxl_go at3 ?_) | (with_reducible refine idxt_go at3 ?_) | (with_reducible refine idxf_go at3 ?_) | (with_reducible refine idxl_go at4 ?_) | (with_reducible refine idxt_go at4 ?_) | (with_reducible refine idxf_go at4 ?_) | (with_reducible refine idxl_go at5 ?_) | (with_reducible refine idxt_go at5 ?_) | (with_reducible refine idxf_go at5 ?_) | (with_reducible refine idxl_go at_last ?_) | ((with_reducible apply sz_go); next => exact Nat.le_of_ble_eq_true rfl) | (with_reducible refine lstk_go ?_) | (with_reducible refine newt_go ?_) | (with_reducible refine listl_go ?_) | (with_reducible refine listf_go ?_) | (with_reducible refine sl_go ?_) | (with_reducible refine nopart_go ?_) | (with_reducible refine part_go ?_) | (with_reducible refine sll_go ?_) | (with_reducible refine rev_go ?_) | (with_reducible refine mt_go ?_) | (with_reducible refine ist_set ?_) | (with_reducible refine rz1_go ?_) | (with_reducible refine raise_go ?_) | (with_reducible refine nil_s ?_) | (with_reducible refine for_go ?_) | (with_reducible refine iseq_go ?_) | (with_reducible refine skl_go ?_) | (with_reducible refine skf_go ?_) | (with_reducible refine skt_go ?_) | (with_reducible refine ir1_go ?_) | (with_reducible refine ir2_go ?_) | (with_reducible refine ir3_go ?_) | (with_reducible refine ienum_go ?_) | (with_reducible refine par2_go ?_) | (with_reducible refine par3_go ?_) | ((with_reducible apply app_set); next => first | omega | (simp only [List.length_append, List.length_cons, List.length_nil, List.length_map]; omega)) | ((with_reducible apply aug_go); next => exact rfl) | ((with_reducible apply isi_T); (next => exact rfl); (next => exact rfl)) | ((with_reducible apply isi_F); (next => exact rfl); (next => exact rfl)) | (with_reducible refine p_width (by assumption) ?_) | (with_reducible refine p_cut (by assumption) ?_) | (with_reducible refine p_gap_of (by assumption) ?_) | (with_reducible refine p_sum_of (by assumption) ?_) | ((with_reducible apply p_low_product); (next => assumption); (next => first | assumption | exact .inl (.inl ⟨by omega, by omega⟩) | exact .inl (.inr ⟨by omega, by omega⟩))) | ((with_reducible apply p_high_product); (next => assumption); (next => first | assumption | exact .inl (.inl ⟨by omega, by omega⟩) | exact .inl (.inr ⟨by omega, by omega⟩))) | ((with_reducible apply if_D); next => first | assumption | omega) | ((with_reducible apply if_N); next => first | assumption | omega) | ((with_reducible apply if_t); next => assumption) | ((with_reducible apply if_f); next => assumption) | (dsimp only)))
local macro_rules | `(tactic| walk_at "vh") => `(tactic| repeat' (first | (with_reducible refine seq_go ?_) | (with_reducible refine set_go ?_) | (with_reducible refine call_go ?_) | (with_reducible refine cons_go ?_) | (with_reducible refine nil_go ?_) | ((with_reducible apply var_go); next => exact rfl) | (with_reducible refine con_go ?_) | (with_reducible refine op_go ?_) | (with_reducible refine isbl_go ?_) | (with_reducible refine if_go ?_) | (with_reducible refine isB_go ?_) | (with_reducible refine tru_go ?_) | (with_reducible refine trub_go ?_) | (with_reducible refine tri_go ?_) | (with_reducible refine asg_go ?_) | (with_reducible refine drop_go ?_) | (with_reducible refine ret_go ?_) | (with_reducible refine tup_go ?_) | (with_reducible refine cb_go ?_) | (with_reducible refine rt_int ?_) | (with_reducible refine rt_bl ?_) | (with_reducible refine rt_non ?_) | (with_reducible refine rt_tup ?_) | (with_reducible refine rt_str ?_) | (with_reducible refine rt_lst ?_) | (with_reducible refine rt_new ?_) | (with_reducible refine l1_go ?_) | (with_reducible refine l2_go ?_) | (with_reducible refine l3_go ?_) | (with_reducible refine l4_go ?_) | (with_reducible refine l5_go ?_) | (with_reducible refine l6_go ?_) | (with_reducible refine if_T ?_) | (with_reducible refine if_F ?_) | (with_reducible refine if_n ?_) | (with_reducible refine not_go ?_) | (with_reducible refine or_go ?_) | (with_reducible refine and_go ?_) | (with_reducible refine notv_go ?_) | (with_reducible refine andv_go ?_) | (with_reducible refine orv_go ?_) | (with_reducible refine iff_go ?_) | (with_reducible refine chain_go ?_) | (with_reducible refine add_go ?_) | (with_reducible refine sub_go ?_) | (with_reducible refine lt_go ?_) | (with_reducible refine gt_go ?_) | (with_reducible refine ge_go ?_) | (with_reducible refine le_go ?_) | (with_reducible refine eq_go ?_) | (with_reducible refine ne_go ?_) | (with_reducible refine eqs_go ?_) | (with_reducible refine nes_go ?_) | (with_reducible refine eqb_go ?_) | (with_reducible refine neb_go ?_) | (with_reducible refine int_go ?_) | (with_reducible refine inti_go ?_) | (with_reducible refine band_go ?_) | (with_reducible refine bor_go ?_) | (with_reducible refine iadd_go ?_) | (with_reducible refine min_go ?_) | (with_reducible refine max_go ?_) | (with_reducible refine abs_go ?_) | (with_reducible refine neg_go ?_) | (with_reducible refine bits_go ?_) | ((with_reducible apply mulg); next => first | assumption | exact .inl (.inl ⟨by omega, by omega⟩) | exact .inl (.inr ⟨by omega, by omega⟩)) | ((with_reducible apply divg); next => first | assumption | exact divok (by omega) (by omega)) | ((with_reducible apply modg); next => first | assumption | omega) | ((with_reducible apply shl1g); next => omega) | ((with_reducible apply shlng); next => first | assumption | exact .inl ⟨by omega, by omega, by omega⟩) | ((with_reducible apply shlg); next => first | assumption | exact .inl ⟨by omega, by omega, by omega⟩) | (with_reducible refine shrng ?_) | ((with_reducible apply shrg); next => first | assumption | omega) | ((with_reducible apply pow_g); next => first | assumption | exact ⟨by omega, by omega, by omega⟩) | (with_reducible refine two_go ?_) | (with_reducible refine lenl_go ?_) | (with_reducible refine lenf_go ?_) | (with_reducible refine lent_go ?_) | (with_reducible refine lenr_go ?_) | (with_reducible refine idxl_go at0 ?_) | (with_reducible refine idxt_go at0 ?_) | (with_reducible refine idxf_go at0 ?_) | (with_reducible refine idxl_go at1 ?_) | (with_reducible refine idxt_go at1 ?_) | (with_reducible refine idxf_go at1 ?_) | (with_reducible refine idxl_go at2 ?_) | (with_reducible refine idxt_go at2 ?_) | (with_reducible refine idxf_go at2 ?_) | (with_reducible refine idxl_go at3 ?_) | (with_reducible refine idxt_go at3 ?_) | (with_reducible refine idxf_go at3 ?_) | (with_reducible refine idxl_go at4 ?_) | (with_reducible refine idxt_go at4 ?_) | (with_reducible refine idxf_go at4 ?_) | (with_reducible refine idxl_go at5 ?_) | (with_reducible refine idxt_go at5 ?_) | (with_reducible refine idxf_go at5 ?_) | (with_reducible refine idxl_go at_last ?_) | ((with_reducible apply sz_go); next => exact Nat.le_of_ble_eq_true rfl) | (with_reducible refine lstk_go ?_) | (with_reducible refine newt_go ?_) | (with_reducible refine listl_go ?_) | (with_reducible refine listf_go ?_) | (with_reducible refine sl_go ?_) | (with_reducible refine nopart_go ?_) | (with_reducible refine part_go ?_) | (with_reducible refine sll_go ?_) | (with_reducible refine rev_go ?_) | (with_reducible refine mt_go ?_) | (with_reducible refine ist_set ?_) | (with_reducible refine rz1_go ?_) | (with_reducible refine raise_go ?_) | (with_reducible refine nil_s ?_) | (with_reducible refine for_go ?_) | (with_reducible refine iseq_go ?_) | (with_reducible refine skl_go ?_) | (with_reducible refine skf_go ?_) | (with_reducible refine skt_go ?_) | (with_reducible refine ir1_go ?_) | (with_reducible refine ir2_go ?_) | (with_reducible refine ir3_go ?_) | (with_reducible refine ienum_go ?_) | (with_reducible refine par2_go ?_) | (with_reducible refine par3_go ?_) | ((with_reducible apply app_set); next => first | omega | (simp only [List.length_append, List.length_cons, List.length_nil, List.length_map]; omega)) | ((with_reducible apply aug_go); next => exact rfl) | ((with_reducible apply isi_T); (next => exact rfl); (next => exact rfl)) | ((with_reducible apply isi_F); (next => exact rfl); (next => exact rfl)) | (with_reducible refine p_width (by assumption) ?_) | (with_reducible refine p_cut (by assumption) ?_) | (with_reducible refine p_gap_of (by assumption) ?_) | (with_reducible refine p_sum_of (by assumption) ?_) | ((with_reducible apply p_low_product); (next => assumption); (next => first | assumption | exact .inl (.inl ⟨by omega, by omega⟩) | exact .inl (.inr ⟨by omega, by omega⟩))) | ((with_reducible apply p_high_product); (next => assumption); (next => first | assumption | exact .inl (.inl ⟨by omega, by omega⟩) | exact .inl (.inr ⟨by omega, by omega⟩))) | ((with_reducible apply if_D); next => first | assumption | omega) | ((with_reducible apply if_N); next => first | assumption | omega) | ((with_reducible apply if_t); next => assumption) | ((with_reducible apply if_f); next => assumption) | (dsimp only)))
local macro_rules | `(tactic| walk_at "vs") => `(tactic| repeat' (first | (with_reducible refine nx_go ?_) | (with_reducible refine seq_go ?_) | (with_reducible refine set_go ?_) | (with_reducible refine call_go ?_) | (with_reducible refine cons_go ?_) | (with_reducible refine nil_go ?_) | ((with_reducible apply var_go); next => exact rfl) | (with_reducible refine con_go ?_) | (with_reducible refine op_go ?_) | (with_reducible refine isbl_go ?_) | (with_reducible refine if_go ?_) | (with_reducible refine isB_go ?_) | (with_reducible refine tru_go ?_) | (with_reducible refine trub_go ?_) | (with_reducible refine tri_go ?_) | (with_reducible refine asg_go ?_) | (with_reducible refine drop_go ?_) | (with_reducible refine ret_go ?_) | (with_reducible refine tup_go ?_) | (with_reducible refine cb_go ?_) | (with_reducible refine rt_int ?_) | (with_reducible refine rt_bl ?_) | (with_reducible refine rt_non ?_) | (with_reducible refine rt_tup ?_) | (with_reducible refine rt_str ?_) | (with_reducible refine rt_lst ?_) | (with_reducible refine rt_new ?_) | (with_reducible refine l1_go ?_) | (with_reducible refine l2_go ?_) | (with_reducible refine l3_go ?_) | (with_reducible refine l4_go ?_) | (with_reducible refine l5_go ?_) | (with_reducible refine l6_go ?_) | (with_reducible refine if_T ?_) | (with_reducible refine if_F ?_) | (with_reducible refine if_n ?_) | (with_reducible refine not_go ?_) | (with_reducible refine or_go ?_) | (with_reducible refine and_go ?_) | (with_reducible refine notv_go ?_) | (with_reducible refine andv_go ?_) | (with_reducible refine orv_go ?_) | (with_reducible refine iff_go ?_) | (with_reducible refine chain_go ?_) | (with_reducible refine add_go ?_) | (with_reducible refine sub_go ?_) | (with_reducible refine lt_go ?_) | (with_reducible refine gt_go ?_) | (with_reducible refine ge_go ?_) | (with_reducible refine le_go ?_) | (with_reducible refine eq_go ?_) | (with_reducible refine ne_go ?_) | (with_reducible refine eqs_go ?_) | (with_reducible refine nes_go ?_) | (with_reducible refine eqb_go ?_) | (with_reducible refine neb_go ?_) | (with_reducible refine int_go ?_) | (with_reducible refine inti_go ?_) | (with_reducible refine band_go ?_) | (with_reducible refine bor_go ?_) | (with_reducible refine iadd_go ?_) | (with_reducible refine min_go ?_) | (with_reducible refine max_go ?_) | (with_reducible refine abs_go ?_) | (with_reducible refine neg_go ?_) | (with_reducible refine bits_go ?_) | ((with_reducible apply mulg); next => first | assumption | exact .inl (.inl ⟨by omega, by omega⟩) | exact .inl (.inr ⟨by omega, by omega⟩)) | ((with_reducible apply divg); next => first | assumption | exact divok (by omega) (by omega)) | ((with_reducible apply modg); next => first | assumption | omega) | ((with_reducible apply shl1g); next => omega) | ((with_reducible apply shlng); next => first | assumption | exact .inl ⟨by omega, by omega, by omega⟩) | ((with_reducible apply shlg); next => first | assumption | exact .inl ⟨by omega, by omega, by omega⟩) | (with_reducible refine shrng ?_) | ((with_reducible apply shrg); next => first | assumption | omega) | ((with_reducible apply pow_g); next => first | assumption | exact ⟨by omega, by omega, by omega⟩) | (with_reducible refine two_go ?_) | (with_reducible refine lenl_go ?_) | (with_reducible refine lenf_go ?_) | (with_reducible refine lent_go ?_) | (with_reducible refine lenr_go ?_) | (with_reducible refine idxl_go at0 ?_) | (with_reducible refine idxt_go at0 ?_) | (with_reducible refine idxf_go at0 ?_) | (with_reducible refine idxl_go at1 ?_) | (with_reducible refine idxt_go at1 ?_) | (with_reducible refine idxf_go at1 ?_) | (with_reducible refine idxl_go at2 ?_) | (with_reducible refine idxt_go at2 ?_) | (with_reducible refine idxf_go at2 ?_) | (with_reducible refine idxl_go at3 ?_) | (with_reducible refine idxt_go at3 ?_) | (with_reducible refine idxf_go at3 ?_) | (with_reducible refine idxl_go at4 ?_) | (with_reducible refine idxt_go at4 ?_) | (with_reducible refine idxf_go at4 ?_) | (with_reducible refine idxl_go at5 ?_) | (with_reducible refine idxt_go at5 ?_) | (with_reducible refine idxf_go at5 ?_) | (with_reducible refine idxl_go at_last ?_) | ((with_reducible apply sz_go); next => exact Nat.le_of_ble_eq_true rfl) | (with_reducible refine lstk_go ?_) | (with_reducible refine newt_go ?_) | (with_reducible refine listl_go ?_) | (with_reducible refine listf_go ?_) | (with_reducible refine sl_go ?_) | (with_reducible refine nopart_go ?_) | (with_reducible refine part_go ?_) | (with_reducible refine sll_go ?_) | (with_reducible refine rev_go ?_) | (with_reducible refine mt_go ?_) | (with_reducible refine ist_set ?_) | (with_reducible refine rz1_go ?_) | (with_reducible refine raise_go ?_) | (with_reducible refine nil_s ?_) | (with_reducible refine for_go ?_) | (with_reducible refine iseq_go ?_) | (with_reducible refine skl_go ?_) | (with_reducible refine skf_go ?_) | (with_reducible refine skt_go ?_) | (with_reducible refine ir1_go ?_) | (with_reducible refine ir2_go ?_) | (with_reducible refine ir3_go ?_) | (with_reducible refine ienum_go ?_) | (with_reducible refine par2_go ?_) | (with_reducible refine par3_go ?_) | ((with_reducible apply app_set); next => first | omega | (simp only [List.length_append, List.length_cons, List.length_nil, List.length_map]; omega)) | ((with_reducible apply aug_go); next => exact rfl) | ((with_reducible apply isi_T); (next => exact rfl); (next => exact rfl)) | ((with_reducible apply isi_F); (next => exact rfl); (next => exact rfl)) | (with_reducible refine p_width (by assumption) ?_) | (with_reducible refine p_cut (by assumption) ?_) | (with_reducible refine p_gap_of (by assumption) ?_) | (with_reducible refine p_sum_of (by assumption) ?_) | ((with_reducible apply p_low_product); (next => assumption); (next => first | assumption | exact .inl (.inl ⟨by omega, by omega⟩) | exact .inl (.inr ⟨by omega, by omega⟩))) | ((with_reducible apply p_high_product); (next => assumption); (next => first | assumption | exact .inl (.inl ⟨by omega, by omega⟩) | exact .inl (.inr ⟨by omega, by omega⟩))) | ((with_reducible apply if_D); next => first | assumption | omega) | ((with_reducible apply if_N); next => first | assumption | omega) | ((with_reducible apply if_t); next => assumption) | ((with_reducible apply if_f); next => assumption) | (with_reducible refine if_dec (fun _ => ?_) (fun _ => ?_)) | (dsimp only)))
--pps
section
variable {K : PySem.W.Frag} {m : Mem} {R : ARes → Mem → Prop} {W : Nat}
theorem enum_turns {ws : List Int} {g : WG} {b : WS} {P : SK} {v : Ab.Env} {m : Mem} (I : Nat → Ab.Env → Mem → Prop) (h0 : I 0 v m)
    (h1 : ∀ i (hi : i < ws.length) v1 m2, I i v1 m2 → g (.tup [.int (i : Nat), .int ws[i]]) v1 m2 fun v2 m3 => b v2 m3 ⟨fun v3 m4 => ∃ v4 m5, Gh v3 m4 v4 m5 ∧ I (i + 1) v4 m5, P.rt, P.nx, fun v3 m4 => ∃ v4 m5, Gh v3 m4 v4 m5 ∧ I (i + 1) v4 m5, P.ex⟩) (h2 : ∀ v1 m2, I ws.length v1 m2 → P.nx v1 m2) : Turns g b P (enumD 0 (ws.map D.int)) v m := by
  refine turns I h0 (fun i d v1 m2 hi hI => ?_) (fun v1 m2 h => h2 v1 m2 (by rwa [enumD_len, List.length_map] at h))
  have hl : i < ws.length := by
    have := (List.getElem?_eq_some_iff.mp hi).1
    rwa [enumD_len, List.length_map] at this
  have q := enumD_get (ws.map D.int) 0 i (.int ws[i]) (by rw [List.getElem?_map, List.getElem?_eq_getElem hl]; rfl)
  rw [q] at hi
  cases hi
  rw [Nat.zero_add]
  exact h1 i hl v1 m2 hI
theorem same_tail {d : Int} {a b : List Int} {P : SK} {x1 x2 : D} {x6 x7 x8 x9 x10 x11 x12 x13 : Option D} (hW : Wd W) (d0 : 1 ≤ d) (d1 : d ≤ 2 ^ W - 1) (ho : d % 2 = 1) (ha : Lm.Wok (2 ^ W) a) (hb : Lm.Wok (2 ^ W) b) (hl : b.length ≤ a.length) (la : a.length ≤ 1000000) (hn : Lm.num (2 ^ W) b ≤ Lm.num (2 ^ W) a)
    (h : P.rt (.bl (decide ((Lm.num (2 ^ W) a - Lm.num (2 ^ W) b) % d = 0))) m) :
    w_same_rest_3 K [some (.int W), some x1, some x2, some (.int d), some (dl a), some (dl b), x6, x7, x8, x9, x10, x11, x12, x13] m P := by
  have hB := hW.one
  unfold w_same_rest_3
  walk_at "vg"
  refine newf_go fun p hp => ?_
  walk_at "vg"
  refine enum_turns (fun i v m' => ∃ acc y8 y9 y10 y11 y12 c, m' = setM m p (dl acc) ∧ v = [some (.int W), some x1, some x2, some (.int d), some (dl a), some (dl b), some (.raw (.ref p)), some (.int c), y8, y9, y10, y11, y12, x13] ∧ acc ++ Lm.sub (2 ^ W) c (a.drop i) (b.drop i) = Lm.sub (2 ^ W) 0 a b ∧ acc.length = i) ⟨[], _, _, _, _, _, _, rfl, rfl, rfl, rfl⟩ ?_ ?_
  · rintro i hi v1 m2 ⟨acc, y8, y9, y10, y11, y12, c, rfl, rfl, e1, e2⟩
    rw [List.drop_eq_getElem_cons hi] at e1
    walk_at "vg"
    unfold w_same_rest_2
    walk_at "vg"
    refine p_word_at ?_
    walk_at "vg"
    rw [snoc_map (f := D.int)]
    have hd : b.getD i 0 = (b.drop i).headD 0 := by
      rw [List.getD_eq_getElem?_getD, List.headD_eq_head?_getD, List.head?_drop]
    have e4 : ∀ p : Prop, [Decidable p] → (if decide p = true then (1 : Int) else 0) = if p then 1 else 0 := fun p _ => by simp
    simp only [e4]
    refine ⟨_, _, Gh.refl, acc ++ [((a[i] - b.getD i 0) % 2 ^ W - c) % 2 ^ W], _, _, _, _, _, _, rfl, rfl, ?_, by rw [List.length_append, List.length_singleton, e2]⟩
    rw [← e1, hd, List.append_assoc]
    have e5 : b.drop (i + 1) = (b.drop i).tail := by rw [List.tail_drop]
    rw [e5]
    rfl
  · rintro v1 m2 ⟨acc, y8, y9, y10, y11, y12, c, rfl, rfl, e1, e2⟩
    rw [List.drop_length] at e1
    have e3 : acc = Lm.sub (2 ^ W) 0 a b := by rw [← e1]; exact (List.append_nil _).symm
    subst e3
    refine nx_frz 6 rfl hp ?_
    unfold w_same_rest_1
    walk_at "vg"
    refine p_trimmed ?_
    walk_at "vg"
    have k1 : Lm.Wok (2 ^ W) (Lm.trim (Lm.sub (2 ^ W) 0 a b)) := Lm.wok_trim (Lm.sub_wok (by omega))
    have k2 := Lm.trim_len (ws := Lm.sub (2 ^ W) 0 a b)
    rw [Lm.sub_len] at k2
    refine p_low_rows hW d0 d1 ho k1 (by omega) (fun x q hx hq => ?_)
    walk_at "vh"
    refine nx_frz 13 rfl hq (rows_end rfl ?_)
    have z := Lm.low_zero rfl hB (by omega) ho (by omega) hx.h2 k1
    rw [Lm.num_trim, Lm.sub_eq hB ha hb hl hn] at z
    have e6 : decide (Lm.lastC 0 (Lm.lowR (2 ^ W) d x 0 (Lm.trim (Lm.sub (2 ^ W) 0 a b))) = 0) = decide ((Lm.num (2 ^ W) a - Lm.num (2 ^ W) b) % d = 0) := decide_eq_decide.mpr z
    rw [e6]
    exact h
theorem p_same_rest {d : Int} {a b : List Int} (hW : Wd W) (d0 : 1 ≤ d) (d1 : d ≤ 2 ^ W - 1) (ho : d % 2 = 1) (ha : Lm.Wok (2 ^ W) a) (hb : Lm.Wok (2 ^ W) b) (ca : Lm.trim a = a) (cb : Lm.trim b = b) (la : a.length ≤ 1000000) (lb : b.length ≤ 1000000)
    (h : R (.ret (.bl (decide ((Lm.num (2 ^ W) a - Lm.num (2 ^ W) b) % d = 0)))) m) : sp_same_rest K [.int W, dl a, dl b, .int d] m R := by
  have hB := hW.one
  have len : ∀ a b : List Int, Lm.Wok (2 ^ W) a → Lm.Wok (2 ^ W) b → Lm.trim b = b → Lm.num (2 ^ W) b ≤ Lm.num (2 ^ W) a → b.length ≤ a.length := fun a b ha hb cb hn => by
    by_cases c : b.length ≤ a.length
    · exact c
    · exfalso
      have := Lm.num_shorter hB ha hb cb (by omega)
      omega
  show w_same_rest K [some (.int W), some (dl a), some (dl b), some (.int d), none, none, none, none, none, none, none, none, none, none] m _
  unfold w_same_rest
  walk_at "vg"
  refine p_need_long_ok hW ha ca ?_
  walk_at "vg"
  refine p_need_long_ok hW hb cb ?_
  walk_at "vg"
  refine p_need_odd hW rfl (fun _ => ?_) (fun n => absurd ⟨d, rfl, d0, d1, ho⟩ n)
  walk_at "vg"
  refine p_compared hW ha hb ca cb la lb (fun c hc _ => ?_)
  walk_at "vg"
  refine if_dec (fun q => ?_) (fun q => ?_)
  · have hn := hc.mp q
    walk_at "vg"
    have e : decide ((Lm.num (2 ^ W) a - Lm.num (2 ^ W) b) % d = 0) = decide ((Lm.num (2 ^ W) b - Lm.num (2 ^ W) a) % d = 0) := by
      apply decide_eq_decide.mpr
      have e1 : Lm.num (2 ^ W) b - Lm.num (2 ^ W) a = -(Lm.num (2 ^ W) a - Lm.num (2 ^ W) b) := by omega
      rw [e1]
      constructor
      · intro z
        exact Int.emod_eq_zero_of_dvd (Int.dvd_neg.mpr (Int.dvd_of_emod_eq_zero z))
      · intro z
        exact Int.emod_eq_zero_of_dvd (Int.dvd_neg.mp (Int.dvd_of_emod_eq_zero z))
    rw [e] at h
    exact same_tail hW d0 d1 ho hb ha (len b a hb ha ca (by omega)) lb (by omega) h
  · have hn : Lm.num (2 ^ W) b ≤ Lm.num (2 ^ W) a := by
      have := fun z => q (hc.mpr z)
      omega
    walk_at "vg"
    exact same_tail hW d0 d1 ho ha hb (len a b ha hb cb hn) la hn h
end
end Ab
end

section
namespace Ab
open PySem PySem.Spec PyProof.Rows L2
local macro_rules | `(tactic| walk_at "vg") => `(tactic| repeat' (first | (with_reducible refine nx_go ?_) | (with_reducible refine seq_go ?_) | (with_reducible refine set_go ?_) | (with_reducible refine call_go ?_) | (with_reducible refine cons_go ?_) | (with_reducible refine nil_go ?_) | ((with_reducible apply var_go); next => exact rfl) | (with_reducible refine con_go ?_) | (with_reducible refine op_go ?_) | (with_reducible refine isbl_go ?_) | (with_reducible refine if_go ?_) | (with_reducible refine isB_go ?_) | (with_reducible refine tru_go ?_) | (with_reducible refine trub_go ?_) | (with_reducible refine tri_go ?_) | (with_reducible refine asg_go ?_) | (with_reducible refine drop_go ?_) | (with_reducible refine ret_go ?_) | (with_reducible refine tup_go ?_) | (with_reducible refine cb_go ?_) | (with_reducible refine rt_int ?_) | (with_reducible refine rt_bl ?_) | (with_reducible refine rt_non ?_) | (with_reducible refine rt_tup ?_) | (with_reducible refine rt_str ?_) | (with_reducible refine rt_lst ?_) | (with_reducible refine rt_new ?_) | (with_reducible refine l1_go ?_) | (with_reducible refine l2_go ?_) | (with_reducible refine l3_go ?_) | (with_reducible refine l4_go ?_) | (with_reducible refine l5_go ?_) | (with_reducible refine l6_go ?_) | (with_reducible refine if_T ?_) | (with_reducible refine if_F ?_) | (with_reducible refine if_n ?_) | (with_reducible refine not_go ?_) | (with_reducible refine or_go ?_) | (with_reducible refine and_go ?_) | (with_reducible refine notv_go ?_) | (with_reducible refine andv_go ?_) | (with_reducible refine orv_go ?_) | (with_reducible refine iff_go ?_) | (with_reducible refine chain_go ?_) | (with_reducible refine add_go ?_) | (with_reducible refine sub_go ?_) | (with_reducible refine lt_go ?_) | (with_reducible refine gt_go ?_) | (with_reducible refine ge_go ?_) | (with_reducible refine le_go ?_) | (with_reducible refine eq_go ?_) | (with_reducible refine ne_go ?_) | (with_reducible refine eqs_go ?_) | (with_reducible refine nes_go ?_) | (with_reducible refine eqb_go ?_) | (with_reducible refine neb_go ?_) | (with_reducible refine int_go ?_) | (with_reducible refine inti_go ?_) | (with_reducible refine band_go ?_) | (with_reducible refine bor_go ?_) | (with_reducible refine iadd_go ?_) | (with_reducible refine min_go ?_) | (with_reducible refine max_go ?_) | (with_reducible refine abs_go ?_) | (with_reducible refine neg_go ?_) | (with_reducible refine bits_go ?_) | ((with_reducible apply mulg); next => first | assumption | exact .inl (.inl ⟨by omega, by omega⟩) | exact .inl (.inr ⟨by omega, by omega⟩)) | ((with_reducible apply divg); next => first | assumption | exact divok (by omega) (by omega)) | ((with_reducible apply modg); next => first | assumption | omega) | ((with_reducible apply shl1g); next => omega) | ((with_reducible apply shlng); next => first | assumption | exact .inl ⟨by omega, by omega, by omega⟩) | ((with_reducible apply shlg); next => first | assumption | exact .inl ⟨by omega, by omega, by omega⟩) | (with_reducible refine shrng ?_) | ((with_reducible apply shrg); next => first | assumption | omega) | ((with_reducible apply pow_g); next => first | assumption | exact ⟨by omega, by omega, by omega⟩) | (with_reducible refine two_go ?_) | (with_reducible refine lenl_go ?_) | (with_reducible refine lenf_go ?_) | (with_reducible refine lent_go ?_) | (with_reducible refine lenr_go ?_) | (with_reducible refine idxl_go at0 ?_) | (with_reducible refine idxt_go at0 ?_) | (with_reducible refine idxf_go at0 ?_) | (with_reducible refine idxl_go at1 ?_) | (with_reducible refine idxt_go at1 ?_) | (with_reducible refine idxf_go at1 ?_) | (with_reducible refine idxl_go at2 ?_) | (with_reducible refine idxt_go at2 ?_) | (with_reducible refine idxf_go at2 ?_) | (with_reducible refine idxl_go at3 ?_) | (with_reducible refine idxt_go at3 ?_) | (with_reducible refine idxf_go at3 ?_) | (with_reducible refine idxl_go at4 ?_) | (with_reducible refine idxt_go at4 ?_) | (with_reducible refine idxf_go at4 ?_) | (with_reducible refine idxl_go at5 ?_) | (with_reducible refine idxt_go at5 ?_) | (with_reducible refine idxf_go at5 ?_) | (with_reducible refine idxl_go at_last ?_) | ((with_reducible apply sz_go); next => exact Nat.le_of_ble_eq_true rfl) | (with_reducible refine lstk_go ?_) | (with_reducible refine newt_go ?_) | (with_reducible refine listl_go ?_) | (with_reducible refine listf_go ?_) | (with_reducible refine sl_go ?_) | (with_reducible refine nopart_go ?_) | (with_reducible refine part_go ?_) | (with_reducible refine sll_go ?_) | (with_reducible refine rev_go ?_) | (with_reducible refine mt_go ?_) | (with_reducible refine ist_set ?_) | (with_reducible refine rz1_go ?_) | (with_reducible refine raise_go ?_) | (with_reducible refine nil_s ?_) | (with_reducible refine for_go ?_) | (with_reducible refine iseq_go ?_) | (with_reducible refine skl_go ?_) | (with_reducible refine skf_go ?_) | (with_reducible refine skt_go ?_) | (with_reducible refine ir1_go ?_) | (with_reducible refine ir2_go ?_) | (with_reducible refine ir3_go ?_) | (with_reducible refine ienum_go ?_) | (with_reducible refine par2_go ?_) | (with_reducible refine par3_go ?_) | ((with_reducible apply app_set); next => first | omega | (simp only [List.length_append, List.length_cons, List.length_nil, List.length_map]; omega)) | ((with_reducible apply aug_go); next => exact rfl) | ((with_reducible apply isi_T); (next => exact rfl); (next => exact rfl)) | ((with_reducible apply isi_F); (next => exact rfl); (next => exact rfl)) | (with_reducible refine p_width (by assumption) ?_) | (with_reducible refine p_cut (by assumption) ?_) | (with_reducible refine p_gap_of (by assumption) ?_) | (with_reducible refine p_sum_of (by assumption) ?_) | ((with_reducible apply p_low_product); (next => assumption); (next => first | assumption | exact .inl (.inl ⟨by omega, by omega⟩) | exact .inl (.inr ⟨by omega, by omega⟩))) | ((with_reducible apply p_high_product); (next => assumption); (next => first | assumption | exact .inl (.inl ⟨by omega, by omega⟩) | exact .inl (.inr ⟨by omega, by omega⟩))) | ((with_reducible apply if_D); next => first | assumption | omega) | ((with_reducible apply if_N); next => first | assumption | omega) | ((with_reducible apply if_t); next => assumption) | ((with_reducible apply if_f); next => assumption) | (dsimp only)))
local macro_rules | `(tactic| walk_at "vh") => `(tactic| repeat' (first | (with_reducible refine seq_go ?_) | (with_reducible refine set_go ?_) | (with_reducible refine call_go ?_) | (with_reducible refine cons_go ?_) | (with_reducible refine nil_go ?_) | ((with_reducible apply var_go); next => exact rfl) | (with_reducible refine con_go ?_) | (with_reducible refine op_go ?_) | (with_reducible refine isbl_go ?_) | (with_reducible refine if_go ?_) | (with_reducible refine isB_go ?_) | (with_reducible refine tru_go ?_) | (with_reducible refine trub_go ?_) | (with_reducible refine tri_go ?_) | (with_reducible refine asg_go ?_) | (with_reducible refine drop_go ?_) | (with_reducible refine ret_go ?_) | (with_reducible refine tup_go ?_) | (with_reducible refine cb_go ?_) | (with_reducible refine rt_int ?_) | (with_reducible refine rt_bl ?_) | (with_reducible refine rt_non ?_) | (with_reducible refine rt_tup ?_) | (with_reducible refine rt_str ?_) | (with_reducible refine rt_lst ?_) | (with_reducible refine rt_new ?_) | (with_reducible refine l1_go ?_) | (with_reducible refine l2_go ?_) | (with_reducible refine l3_go ?_) | (with_reducible refine l4_go ?_) | (with_reducible refine l5_go ?_) | (with_reducible refine l6_go ?_) | (with_reducible refine if_T ?_) | (with_reducible refine if_F ?_) | (with_reducible refine if_n ?_) | (with_reducible refine not_go ?_) | (with_reducible refine or_go ?_) | (with_reducible refine and_go ?_) | (with_reducible refine notv_go ?_) | (with_reducible refine andv_go ?_) | (with_reducible refine orv_go ?_) | (with_reducible refine iff_go ?_) | (with_reducible refine chain_go ?_) | (with_reducible refine add_go ?_) | (with_reducible refine sub_go ?_) | (with_reducible refine lt_go ?_) | (with_reducible refine gt_go ?_) | (with_reducible refine ge_go ?_) | (with_reducible refine le_go ?_) | (with_reducible refine eq_go ?_) | (with_reducible refine ne_go ?_) | (with_reducible refine eqs_go ?_) | (with_reducible refine nes_go ?_) | (with_reducible refine eqb_go ?_) | (with_reducible refine neb_go ?_) | (with_reducible refine int_go ?_) | (with_reducible refine inti_go ?_) | (with_reducible refine band_go ?_) | (with_reducible refine bor_go ?_) | (with_reducible refine iadd_go ?_) | (with_reducible refine min_go ?_) | (with_reducible refine max_go ?_) | (with_reducible refine abs_go ?_) | (with_reducible refine neg_go ?_) | (with_reducible refine bits_go ?_) | ((with_reducible apply mulg); next => first | assumption | exact .inl (.inl ⟨by omega, by omega⟩) | exact .inl (.inr ⟨by omega, by omega⟩)) | ((with_reducible apply divg); next => first | assumption | exact divok (by omega) (by omega)) | ((with_reducible apply modg); next => first | assumption | omega) | ((with_reducible apply shl1g); next => omega) | ((with_reducible apply shlng); next => first | assumption | exact .inl ⟨by omega, by omega, by omega⟩) | ((with_reducible apply shlg); next => first | assumption | exact .inl ⟨by omega, by omega, by omega⟩) | (with_reducible refine shrng ?_) | ((with_reducible apply shrg); next => first | assumption | omega) | ((with_reducible apply pow_g); next => first | assumption | exact ⟨by omega, by omega, by omega⟩) | (with_reducible refine two_go ?_) | (with_reducible refine lenl_go ?_) | (with_reducible refine lenf_go ?_) | (with_reducible refine lent_go ?_) | (with_reducible refine lenr_go ?_) | (with_reducible refine idxl_go at0 ?_) | (with_reducible refine idxt_go at0 ?_) | (with_reducible refine idxf_go at0 ?_) | (with_reducible refine idxl_go at1 ?_) | (with_reducible refine idxt_go at1 ?_) | (with_reducible refine idxf_go at1 ?_) | (with_reducible refine idxl_go at2 ?_) | (with_reducible refine idxt_go at2 ?_) | (with_reducible refine idxf_go at2 ?_) | (with_reducible refine idxl_go at3 ?_) | (with_reducible refine idxt_go at3 ?_) | (with_reducible refine idxf_go at3 ?_) | (with_reducible refine idxl_go at4 ?_) | (with_reducible refine idxt_go at4 ?_) | (with_reducible refine idxf_go at4 ?_) | (with_reducible refine idxl_go at5 ?_) | (with_reducible refine idxt_go at5 ?_) | (with_reducible refine idxf_go at5 ?_) | (with_reducible refine idxl_go at_last ?_) | ((with_reducible apply sz_go); next => exact Nat.le_of_ble_eq_true rfl) | (with_reducible refine lstk_go ?_) | (with_reducible refine newt_go ?_) | (with_reducible refine listl_go ?_) | (with_reducible refine listf_go ?_) | (with_reducible refine sl_go ?_) | (with_reducible refine nopart_go ?_) | (with_reducible refine part_go ?_) | (with_reducible refine sll_go ?_) | (with_reducible refine rev_go ?_) | (with_reducible refine mt_go ?_) | (with_reducible refine ist_set ?_) | (with_reducible refine rz1_go ?_) | (with_reducible refine raise_go ?_) | (with_reducible refine nil_s ?_) | (with_reducible refine for_go ?_) | (with_reducible refine iseq_go ?_) | (with_reducible refine skl_go ?_) | (with_reducible refine skf_go ?_) | (with_reducible refine skt_go ?_) | (with_reducible refine ir1_go ?_) | (with_reducible refine ir2_go ?_) | (with_reducible refine ir3_go ?_) | (with_reducible refine ienum_go ?_) | (with_reducible refine par2_go ?_) | (with_reducible refine par3_go ?_) | ((with_reducible apply app_set); next => first | omega | (simp only [List.length_append, List.length_cons, List.length_nil, List.length_map]; omega)) | ((with_reducible apply aug_go); next => exact rfl) | ((with_reducible apply isi_T); (next => exact rfl); (next => exact rfl)) | ((with_reducible apply isi_F); (next => exact rfl); (next => exact rfl)) | (with_reducible refine p_width (by assumption) ?_) | (with_reducible refine p_cut (by assumption) ?_) | (with_reducible refine p_gap_of (by assumption) ?_) | (with_reducible refine p_sum_of (by assumption) ?_) | ((with_reducible apply p_low_product); (next => assumption); (next => first | assumption | exact .inl (.inl ⟨by omega, by omega⟩) | exact .inl (.inr ⟨by omega, by omega⟩))) | ((with_reducible apply p_high_product); (next => assumption); (next => first | assumption | exact .inl (.inl ⟨by omega, by omega⟩) | exact .inl (.inr ⟨by omega, by omega⟩))) | ((with_reducible apply if_D); next => first | assumption | omega) | ((with_reducible apply if_N); next => first | assumption | omega) | ((with_reducible apply if_t); next => assumption) | ((with_reducible apply if_f); next => assumption) | (dsimp only)))
local macro_rules | `(tactic| walk_at "vs") => `(tactic| repeat' (first | (with_reducible refine nx_go ?_) | (with_reducible refine seq_go ?_) | (with_reducible refine set_go ?_) | (with_reducible refine call_go ?_) | (with_reducible refine cons_go ?_) | (with_reducible refine nil_go ?_) | ((with_reducible apply var_go); next => exact rfl) | (with_reducible refine con_go ?_) | (with_reducible refine op_go ?_) | (with_reducible refine isbl_go ?_) | (with_reducible refine if_go ?_) | (with_reducible refine isB_go ?_) | (with_reducible refine tru_go ?_) | (with_reducible refine trub_go ?_) | (with_reducible refine tri_go ?_) | (with_reducible refine asg_go ?_) | (with_reducible refine drop_go ?_) | (with_reducible refine ret_go ?_) | (with_reducible refine tup_go ?_) | (with_reducible refine cb_go ?_) | (with_reducible refine rt_int ?_) | (with_reducible refine rt_bl ?_) | (with_reducible refine rt_non ?_) | (with_reducible refine rt_tup ?_) | (with_reducible refine rt_str ?_) | (with_reducible refine rt_lst ?_) | (with_reducible refine rt_new ?_) | (with_reducible refine l1_go ?_) | (with_reducible refine l2_go ?_) | (with_reducible refine l3_go ?_) | (with_reducible refine l4_go ?_) | (with_reducible refine l5_go ?_) | (with_reducible refine l6_go ?_) | (with_reducible refine if_T ?_) | (with_reducible refine if_F ?_) | (with_reducible refine if_n ?_) | (with_reducible refine not_go ?_) | (with_reducible refine or_go ?_) | (with_reducible refine and_go ?_) | (with_reducible refine notv_go ?_) | (with_reducible refine andv_go ?_) | (with_reducible refine orv_go ?_) | (with_reducible refine iff_go ?_) | (with_reducible refine chain_go ?_) | (with_reducible refine add_go ?_) | (with_reducible refine sub_go ?_) | (with_reducible refine lt_go ?_) | (with_reducible refine gt_go ?_) | (with_reducible refine ge_go ?_) | (with_reducible refine le_go ?_) | (with_reducible refine eq_go ?_) | (with_reducible refine ne_go ?_) | (with_reducible refine eqs_go ?_) | (with_reducible refine nes_go ?_) | (with_reducible refine eqb_go ?_) | (with_reducible refine neb_go ?_) | (with_reducible refine int_go ?_) | (with_reducible refine inti_go ?_) | (with_reducible refine band_go ?_) | (with_reducible refine bor_go ?_) | (with_reducible refine iadd_go ?_) | (with_reducible refine min_go ?_) | (with_reducible refine max_go ?_) | (with_reducible refine abs_go ?_) | (with_reducible refine neg_go ?_) | (with_reducible refine bits_go ?_) | ((with_reducible apply mulg); next => first | assumption | exact .inl (.inl ⟨by omega, by omega⟩) | exact .inl (.inr ⟨by omega, by omega⟩)) | ((with_reducible apply divg); next => first | assumption | exact divok (by omega) (by omega)) | ((with_reducible apply modg); next => first | assumption | omega) | ((with_reducible apply shl1g); next => omega) | ((with_reducible apply shlng); next => first | assumption | exact .inl ⟨by omega, by omega, by omega⟩) | ((with_reducible apply shlg); next => first | assumption | exact .inl ⟨by omega, by omega, by omega⟩) | (with_reducible refine shrng ?_) | ((with_reducible apply shrg); next => first | assumption | omega) | ((with_reducible apply pow_g); next => first | assumption | exact ⟨by omega, by omega, by omega⟩) | (with_reducible refine two_go ?_) | (with_reducible refine lenl_go ?_) | (with_reducible refine lenf_go ?_) | (with_reducible refine lent_go ?_) | (with_reducible refine lenr_go ?_) | (with_reducible refine idxl_go at0 ?_) | (with_reducible refine idxt_go at0 ?_) | (with_reducible refine idxf_go at0 ?_) | (with_reducible refine idxl_go at1 ?_) | (with_reducible refine idxt_go at1 ?_) | (with_reducible refine idxf_go at1 ?_) | (with_reducible refine idxl_go at2 ?_) | (with_reducible refine idxt_go at2 ?_) | (with_reducible refine idxf_go at2 ?_) | (with_reducible refine idxl_go at3 ?_) | (with_reducible refine idxt_go at3 ?_) | (with_reducible refine idxf_go at3 ?_) | (with_reducible refine idxl_go at4 ?_) | (with_reducible refine idxt_go at4 ?_) | (with_reducible refine idxf_go at4 ?_) | (with_reducible refine idxl_go at5 ?_) | (with_reducible refine idxt_go at5 ?_) | (with_reducible refine idxf_go at5 ?_) | (with_reducible refine idxl_go at_last ?_) | ((with_reducible apply sz_go); next => exact Nat.le_of_ble_eq_true rfl) | (with_reducible refine lstk_go ?_) | (with_reducible refine newt_go ?_) | (with_reducible refine listl_go ?_) | (with_reducible refine listf_go ?_) | (with_reducible refine sl_go ?_) | (with_reducible refine nopart_go ?_) | (with_reducible refine part_go ?_) | (with_reducible refine sll_go ?_) | (with_reducible refine rev_go ?_) | (with_reducible refine mt_go ?_) | (with_reducible refine ist_set ?_) | (with_reducible refine rz1_go ?_) | (with_reducible refine raise_go ?_) | (with_reducible refine nil_s ?_) | (with_reducible refine for_go ?_) | (with_reducible refine iseq_go ?_) | (with_reducible refine skl_go ?_) | (with_reducible refine skf_go ?_) | (with_reducible refine skt_go ?_) | (with_reducible refine ir1_go ?_) | (with_reducible refine ir2_go ?_) | (with_reducible refine ir3_go ?_) | (with_reducible refine ienum_go ?_) | (with_reducible refine par2_go ?_) | (with_reducible refine par3_go ?_) | ((with_reducible apply app_set); next => first | omega | (simp only [List.length_append, List.length_cons, List.length_nil, List.length_map]; omega)) | ((with_reducible apply aug_go); next => exact rfl) | ((with_reducible apply isi_T); (next => exact rfl); (next => exact rfl)) | ((with_reducible apply isi_F); (next => exact rfl); (next => exact rfl)) | (with_reducible refine p_width (by assumption) ?_) | (with_reducible refine p_cut (by assumption) ?_) | (with_reducible refine p_gap_of (by assumption) ?_) | (with_reducible refine p_sum_of (by assumption) ?_) | ((with_reducible apply p_low_product); (next => assumption); (next => first | assumption | exact .inl (.inl ⟨by omega, by omega⟩) | exact .inl (.inr ⟨by omega, by omega⟩))) | ((with_reducible apply p_high_product); (next => assumption); (next => first | assumption | exact .inl (.inl ⟨by omega, by omega⟩) | exact .inl (.inr ⟨by omega, by omega⟩))) | ((with_reducible apply if_D); next => first | assumption | omega) | ((with_reducible apply if_N); next => first | assumption | omega) | ((with_reducible apply if_t); next => assumption) | ((with_reducible apply if_f); next => assumption) | (with_reducible refine if_dec (fun _ => ?_) (fun _ => ?_)) | (dsimp only)))
--pps
section
variable {K : PySem.W.Frag} {m : Mem} {R : ARes → Mem → Prop} {W : Nat}
theorem p_law_words {n : Int} (hW : Wd W) (h : R (.ret (dl (Lm.lw (2 ^ W) 4000 n))) m) : sp_law_words K [.int n, .int W] m R := by
  obtain ⟨g, g1, g2, g3, g4⟩ := hW.pw
  have hle := hW.le
  show w_law_words K [some (.int n), some (.int W), none, none] m _
  unfold w_law_words
  walk_at "vg"
  refine newf_go fun a ha => ?_
  walk_at "vg"
  refine ⟨by omega, by omega, ?_⟩
  show Turns _ _ _ (rngD 0 1 4000) _ _
  refine rng_turns (fun i v m' => ∃ acc x k3, m' = setM m a (dl acc) ∧ v = [some (.int x), some (.int W), some (.raw (.ref a)), k3] ∧ acc ++ Lm.lw (2 ^ W) (4000 - i) x = Lm.lw (2 ^ W) 4000 n ∧ acc.length ≤ i) ⟨[], n, none, rfl, rfl, rfl, Nat.le_refl _⟩ ?_ ?_
  · rintro i v1 m2 hi ⟨acc, x, k3, rfl, rfl, e1, e2⟩
    obtain ⟨k, hk⟩ : ∃ k, 4000 - i = k + 1 := ⟨4000 - i - 1, by omega⟩
    have hk2 : 4000 - (i + 1) = k := by omega
    rw [hk, Lm.lw] at e1
    show w_law_words_2 K [some (.int x), some (.int W), some (.raw (.ref a)), some (.int (0 + (i : Int)))] _ _
    unfold w_law_words_2
    walk_at "vg"
    refine if_dec (fun c => ?_) (fun c => ?_)
    · rw [if_pos c] at e1
      walk_at "vg"
      rw [snoc_map (f := D.int)]
      refine ⟨_, _, Gh.refl, acc ++ [x % 2 ^ W], x / 2 ^ W, some (.int (0 + (i : Int))), rfl, rfl, ?_, by rw [List.length_append, List.length_singleton]; omega⟩
      rw [hk2, List.append_assoc]
      exact e1
    · rw [if_neg c] at e1
      walk_at "vg"
      refine ⟨_, _, Gh.refl, acc, x, _, rfl, rfl, ?_, by omega⟩
      rw [hk2, ← e1]
      congr 1
      cases k with
      | zero => rfl
      | succ k => rw [Lm.lw, if_neg c]
  · rintro v1 m2 ⟨acc, x, k3, rfl, rfl, e1, e2⟩
    refine nx_go ?_
    unfold w_law_words_1
    walk_at "vg"
    refine rt_set ha ?_
    have : acc = Lm.lw (2 ^ W) 4000 n := by rw [← e1]; exact (List.append_nil _).symm
    rw [this]
    exact h
theorem revl_go {xs : List D} {z : Bool} {k : KE} (h : newK z (.lst xs.reverse) m k) : (match res m (D.lst xs) with
  | .lst xs => newK z (.lst xs.reverse) m k
  | .frl xs => newK z (.lst xs.reverse) m k
  | _ => False) := h
theorem p_law_number {ws : List Int} (hW : Wd W) (h : R (.ret (.int (Lm.num (2 ^ W) ws))) m) : sp_law_number K [dl ws, .int W] m R := by
  obtain ⟨g, g1, g2, g3, g4⟩ := hW.pw
  have hle := hW.le
  show w_law_number K [some (dl ws), some (.int W), none, none] m _
  unfold w_law_number
  walk_at "vg"
  refine revl_go ?_
  walk_at "vg"
  rw [← List.map_reverse]
  refine rest_turns (fun pre r v m' => m' = m ∧ ∃ k3, v = [some (dl ws), some (.int W), some (.int (Lm.num (2 ^ W) pre.reverse)), k3]) ⟨rfl, none, rfl⟩ ?_ ?_
  · rintro pre w r v1 m2 he ⟨rfl, k3, rfl⟩
    show w_law_number_2 K [some (dl ws), some (.int W), some (.int (Lm.num (2 ^ W) pre.reverse)), some (.int w)] _ _
    unfold w_law_number_2
    walk_at "vg"
    refine ⟨_, _, Gh.refl, rfl, some (.int w), ?_⟩
    rw [List.reverse_append]
    show _ = [_, _, some (D.int (w + 2 ^ W * Lm.num (2 ^ W) pre.reverse)), _]
    have e : Lm.num (2 ^ W) pre.reverse * 2 ^ W + w = w + 2 ^ W * Lm.num (2 ^ W) pre.reverse := by grind
    rw [← e]
    rfl
  · rintro v1 m2 ⟨rfl, k3, rfl⟩
    rw [List.reverse_reverse]
    refine nx_go ?_
    unfold w_law_number_1
    walk_at "vg"
    exact h
theorem idx_take {xs : List D} {i : Int} {k : KE} (h0 : 0 ≤ i) (h1 : i < xs.length) (hk : ∀ y ∈ xs, k y m) : oIdx m (res m (.lst xs)) (res m (.int i)) k :=
  ⟨xs[i.toNat]'(by omega), at_nat h0 (List.getElem?_eq_getElem _), hk _ (List.getElem_mem _)⟩
theorem box_mono {a : Addr} {n k : Nat} (h : Box m a n) (hk : n ≤ k) : Box m a k := by
  obtain ⟨b0, b1, b2, b3, e, v0, v2, v3, v4, v5⟩ := h
  exact ⟨b0, b1, b2, b3, e, v0, v2, v3, v4, by omega⟩
theorem box_same {m' : Mem} {a : Addr} {n : Nat} (h : Box m a n) (e : m' a = m a) : Box m' a n := by
  obtain ⟨b0, b1, b2, b3, q, v⟩ := h
  exact ⟨b0, b1, b2, b3, e.trans q, v⟩
theorem box_ne {a b : Addr} {n : Nat} (h : Box m a n) (hb : m b = none) : a ≠ b := by
  rintro rfl
  obtain ⟨_, _, _, _, e, _⟩ := h
  rw [hb] at e
  cases e
/-- one number of a box -/
theorem tk {a : Addr} {n : Nat} {many : Int} (hb : Box m a n) (hn : n < 1000000000) (h0 : 0 < many) (h1 : many < 1099511627776)
    (h : ∀ d m', 0 ≤ d → d < many → (∀ b, b ≠ a → m' b = m b) → Box m' a (n + 1) → R (.ret (.int d)) m') : sp_law_take K [.raw (.ref a), .int many] m R := by
  refine p_law_take hb (by omega) h0 (divok h0 h1) h
theorem tnW (hW : Wd W) : ((W : Int) - 1).toNat = W - 1 := by have := hW.lo; omega
theorem shlW1 {k : KE} {v : Int} (hW : Wd W) (h : k (.int (2 ^ (W - 1))) m) (e : v = (W : Int) - 1) : oShl m (res m (.int 1)) (res m (.int v)) k := by
  subst e
  have := hW.lo
  have := hW.hi
  refine ⟨.inl ⟨by omega, by omega, by decide⟩, ?_⟩
  rw [tnW hW, Int.one_mul]
  exact h
theorem p_law_divisor {a : Addr} {n : Nat} (hW : Wd W) (hb : Box m a n) (hn : n < 1000000) (h : ∀ d m', 1 ≤ d → d ≤ 2 ^ W - 1 → (∀ b, b ≠ a → m' b = m b) → Box m' a (n + 2) → R (.ret (.int d)) m') : sp_law_divisor K [.raw (.ref a), .int W] m R := by
  obtain ⟨g, g1, g2, g3, g4⟩ := hW.pw
  have hle := hW.le
  show w_law_divisor K [some (.raw (.ref a)), some (.int W), none, none] m _
  unfold w_law_divisor
  walk_at "vg"
  refine shlW1 hW ?_ rfl
  walk_at "vg"
  refine shlW1 hW ?_ rfl
  walk_at "vg"
  refine shlW1 hW ?_ rfl
  walk_at "vg"
  have rest : ∀ y : Int, y = 10 ∧ (4 : Int) < W ∨ y = 5 → ∀ P : SK, (∀ d m', P.rt d m' = R (.ret d) m') → (sRet (wIf (wIsB (wOp oEq (wCall 2 (sp_law_take K) (wCons (wVar 0) (wCons (wCon (.int 2)) wNil))) (wCon (.int 0)))) (wOp oIdx (wVar 3) (wCall 2 (sp_law_take K) (wCons (wVar 0) (wCons (wCon (.int 9)) wNil)))) (wOp (oAdd false) (wCon (.int 1)) (wCall 2 (sp_law_take K) (wCons (wVar 0) (wCons (wVar 2) wNil)))))) [some (.raw (.ref a)), some (.int W), some (.int (2 ^ W - 1)), some (.lst [.int 1, .int 2, .int 3, .int (2 ^ W - 1), .int (2 ^ W - 1 - 1), .int (2 ^ (W - 1)), .int (2 ^ (W - 1) + 1), .int (2 ^ (W - 1) - 1), .int y])] m P := by
    intro y hy P hP
    walk_at "vg"
    refine tk hb (by omega) (by omega) (by omega) (fun t m1 t0 t1 q1 b1 => ?_)
    walk_at "vg"
    refine if_dec (fun c => ?_) (fun c => ?_)
    · walk_at "vg"
      refine tk b1 (by omega) (by omega) (by omega) (fun u m2 u0 u1 q2 b2 => ?_)
      walk_at "vg"
      refine idx_take u0 u1 (fun o ho => ?_)
      have hp : (32 : Int) ≤ 2 ^ W ∨ (W : Int) ≤ 4 := by
        by_cases c : 5 ≤ W
        · left
          have := Lm.pow_mono (B := 2) (by omega) c
          omega
        · right; omega
      obtain ⟨d, rfl, d0, d1⟩ : ∃ d : Int, o = .int d ∧ 1 ≤ d ∧ d ≤ 2 ^ W - 1 := by
        simp only [List.mem_cons, List.not_mem_nil, or_false] at ho
        rcases ho with rfl | rfl | rfl | rfl | rfl | rfl | rfl | rfl | rfl
        · exact ⟨_, rfl, by omega, by omega⟩
        · exact ⟨_, rfl, by omega, by omega⟩
        · exact ⟨_, rfl, by omega, by omega⟩
        · exact ⟨_, rfl, by omega, by omega⟩
        · exact ⟨_, rfl, by omega, by omega⟩
        · exact ⟨_, rfl, by omega, by omega⟩
        · exact ⟨_, rfl, by omega, by omega⟩
        · exact ⟨_, rfl, by omega, by omega⟩
        · exact ⟨_, rfl, by omega, by omega⟩
      refine rt_int ?_
      rw [hP]
      exact h d m2 d0 d1 (fun b hb => (q2 b hb).trans (q1 b hb)) b2
    · walk_at "vg"
      refine tk b1 (by omega) (by omega) (by omega) (fun u m2 u0 u1 q2 b2 => ?_)
      walk_at "vg"
      rw [hP]
      exact h _ m2 (by omega) (by omega) (fun b hb => (q2 b hb).trans (q1 b hb)) b2
  refine if_dec (fun c => ?_) (fun c => ?_)
  · walk_at "vh"
    exact nx_go (rest 10 (.inl ⟨rfl, c⟩) _ (fun _ _ => rfl))
  · walk_at "vh"
    exact nx_go (rest 5 (.inr rfl) _ (fun _ _ => rfl))
end
end Ab
end

section
namespace Ab
open PySem PySem.Spec PyProof.Rows L2
local macro_rules | `(tactic| walk_at "vg") => `(tactic| repeat' (first | (with_reducible refine nx_go ?_) | (with_reducible refine seq_go ?_) | (with_reducible refine set_go ?_) | (with_reducible refine call_go ?_) | (with_reducible refine cons_go ?_) | (with_reducible refine nil_go ?_) | ((with_reducible apply var_go); next => exact rfl) | (with_reducible refine con_go ?_) | (with_reducible refine op_go ?_) | (with_reducible refine isbl_go ?_) | (with_reducible refine if_go ?_) | (with_reducible refine isB_go ?_) | (with_reducible refine tru_go ?_) | (with_reducible refine trub_go ?_) | (with_reducible refine tri_go ?_) | (with_reducible refine asg_go ?_) | (with_reducible refine drop_go ?_) | (with_reducible refine ret_go ?_) | (with_reducible refine tup_go ?_) | (with_reducible refine cb_go ?_) | (with_reducible refine rt_int ?_) | (with_reducible refine rt_bl ?_) | (with_reducible refine rt_non ?_) | (with_reducible refine rt_tup ?_) | (with_reducible refine rt_str ?_) | (with_reducible refine rt_lst ?_) | (with_reducible refine rt_new ?_) | (with_reducible refine l1_go ?_) | (with_reducible refine l2_go ?_) | (with_reducible refine l3_go ?_) | (with_reducible refine l4_go ?_) | (with_reducible refine l5_go ?_) | (with_reducible refine l6_go ?_) | (with_reducible refine if_T ?_) | (with_reducible refine if_F ?_) | (with_reducible refine if_n ?_) | (with_reducible refine not_go ?_) | (with_reducible refine or_go ?_) | (with_reducible refine and_go ?_) | (with_reducible refine notv_go ?_) | (with_reducible refine andv_go ?_) | (with_reducible refine orv_go ?_) | (with_reducible refine iff_go ?_) | (with_reducible refine chain_go ?_) | (with_reducible refine add_go ?_) | (with_reducible refine sub_go ?_) | (with_reducible refine lt_go ?_) | (with_reducible refine gt_go ?_) | (with_reducible refine ge_go ?_) | (with_reducible refine le_go ?_) | (with_reducible refine eq_go ?_) | (with_reducible refine ne_go ?_) | (with_reducible refine eqs_go ?_) | (with_reducible refine nes_go ?_) | (with_reducible refine eqb_go ?_) | (with_reducible refine neb_go ?_) | (with_reducible refine int_go ?_) | (with_reducible refine inti_go ?_) | (with_reducible refine band_go ?_) | (with_reducible refine bor_go ?_) | (with_reducible refine iadd_go ?_) | (with_reducible refine min_go ?_) | (with_reducible refine max_go ?_) | (with_reducible refine abs_go ?_) | (with_reducible refine neg_go ?_) | (with_reducible refine bits_go ?_) | ((with_reducible apply mulg); next => first | assumption | exact .inl (.inl ⟨by omega, by omega⟩) | exact .inl (.inr ⟨by omega, by omega⟩)) | ((with_reducible apply divg); next => first | assumption | exact divok (by omega) (by omega)) | ((with_reducible apply modg); next => first | assumption | omega) | ((with_reducible apply shl1g); next => omega) | ((with_reducible apply shlng); next => first | assumption | exact .inl ⟨by omega, by omega, by omega⟩) | ((with_reducible apply shlg); next => first | assumption | exact .inl ⟨by omega, by omega, by omega⟩) | (with_reducible refine shrng ?_) | ((with_reducible apply shrg); next => first | assumption | omega) | ((with_reducible apply pow_g); next => first | assumption | exact ⟨by omega, by omega, by omega⟩) | (with_reducible refine two_go ?_) | (with_reducible refine lenl_go ?_) | (with_reducible refine lenf_go ?_) | (with_reducible refine lent_go ?_) | (with_reducible refine lenr_go ?_) | (with_reducible refine idxl_go at0 ?_) | (with_reducible refine idxt_go at0 ?_) | (with_reducible refine idxf_go at0 ?_) | (with_reducible refine idxl_go at1 ?_) | (with_reducible refine idxt_go at1 ?_) | (with_reducible refine idxf_go at1 ?_) | (with_reducible refine idxl_go at2 ?_) | (with_reducible refine idxt_go at2 ?_) | (with_reducible refine idxf_go at2 ?_) | (with_reducible refine idxl_go at3 ?_) | (with_reducible refine idxt_go at3 ?_) | (with_reducible refine idxf_go at3 ?_) | (with_reducible refine idxl_go at4 ?_) | (with_reducible refine idxt_go at4 ?_) | (with_reducible refine idxf_go at4 ?_) | (with_reducible refine idxl_go at5 ?_) | (with_reducible refine idxt_go at5 ?_) | (with_reducible refine idxf_go at5 ?_) | (with_reducible refine idxl_go at_last ?_) | ((with_reducible apply sz_go); next => exact Nat.le_of_ble_eq_true rfl) | (with_reducible refine lstk_go ?_) | (with_reducible refine newt_go ?_) | (with_reducible refine listl_go ?_) | (with_reducible refine listf_go ?_) | (with_reducible refine sl_go ?_) | (with_reducible refine nopart_go ?_) | (with_reducible refine part_go ?_) | (with_reducible refine sll_go ?_) | (with_reducible refine rev_go ?_) | (with_reducible refine mt_go ?_) | (with_reducible refine ist_set ?_) | (with_reducible refine rz1_go ?_) | (with_reducible refine raise_go ?_) | (with_reducible refine nil_s ?_) | (with_reducible refine for_go ?_) | (with_reducible refine iseq_go ?_) | (with_reducible refine skl_go ?_) | (with_reducible refine skf_go ?_) | (with_reducible refine skt_go ?_) | (with_reducible refine ir1_go ?_) | (with_reducible refine ir2_go ?_) | (with_reducible refine ir3_go ?_) | (with_reducible refine ienum_go ?_) | (with_reducible refine par2_go ?_) | (with_reducible refine par3_go ?_) | ((with_reducible apply app_set); next => first | omega | (simp only [List.length_append, List.length_cons, List.length_nil, List.length_map]; omega)) | ((with_reducible apply aug_go); next => exact rfl) | ((with_reducible apply isi_T); (next => exact rfl); (next => exact rfl)) | ((with_reducible apply isi_F); (next => exact rfl); (next => exact rfl)) | (with_reducible refine p_width (by assumption) ?_) | (with_reducible refine p_cut (by assumption) ?_) | (with_reducible refine p_gap_of (by assumption) ?_) | (with_reducible refine p_sum_of (by assumption) ?_) | ((with_reducible apply p_low_product); (next => assumption); (next => first | assumption | exact .inl (.inl ⟨by omega, by omega⟩) | exact .inl (.inr ⟨by omega, by omega⟩))) | ((with_reducible apply p_high_product); (next => assumption); (next => first | assumption | exact .inl (.inl ⟨by omega, by omega⟩) | exact .inl (.inr ⟨by omega, by omega⟩))) | ((with_reducible apply if_D); next => first | assumption | omega) | ((with_reducible apply if_N); next => first | assumption | omega) | ((with_reducible apply if_t); next => assumption) | ((with_reducible apply if_f); next => assumption) | (dsimp only)))
local macro_rules | `(tactic| walk_at "vh") => `(tactic| repeat' (first | (with_reducible refine seq_go ?_) | (with_reducible refine set_go ?_) | (with_reducible refine call_go ?_) | (with_reducible refine cons_go ?_) | (with_reducible refine nil_go ?_) | ((with_reducible apply var_go); next => exact rfl) | (with_reducible refine con_go ?_) | (with_reducible refine op_go ?_) | (with_reducible refine isbl_go ?_) | (with_reducible refine if_go ?_) | (with_reducible refine isB_go ?_) | (with_reducible refine tru_go ?_) | (with_reducible refine trub_go ?_) | (with_reducible refine tri_go ?_) | (with_reducible refine asg_go ?_) | (with_reducible refine drop_go ?_) | (with_reducible refine ret_go ?_) | (with_reducible refine tup_go ?_) | (with_reducible refine cb_go ?_) | (with_reducible refine rt_int ?_) | (with_reducible refine rt_bl ?_) | (with_reducible refine rt_non ?_) | (with_reducible refine rt_tup ?_) | (with_reducible refine rt_str ?_) | (with_reducible refine rt_lst ?_) | (with_reducible refine rt_new ?_) | (with_reducible refine l1_go ?_) | (with_reducible refine l2_go ?_) | (with_reducible refine l3_go ?_) | (with_reducible refine l4_go ?_) | (with_reducible refine l5_go ?_) | (with_reducible refine l6_go ?_) | (with_reducible refine if_T ?_) | (with_reducible refine if_F ?_) | (with_reducible refine if_n ?_) | (with_reducible refine not_go ?_) | (with_reducible refine or_go ?_) | (with_reducible refine and_go ?_) | (with_reducible refine notv_go ?_) | (with_reducible refine andv_go ?_) | (with_reducible refine orv_go ?_) | (with_reducible refine iff_go ?_) | (with_reducible refine chain_go ?_) | (with_reducible refine add_go ?_) | (with_reducible refine sub_go ?_) | (with_reducible refine lt_go ?_) | (with_reducible refine gt_go ?_) | (with_reducible refine ge_go ?_) | (with_reducible refine le_go ?_) | (with_reducible refine eq_go ?_) | (with_reducible refine ne_go ?_) | (with_reducible refine eqs_go ?_) | (with_reducible refine nes_go ?_) | (with_reducible refine eqb_go ?_) | (with_reducible refine neb_go ?_) | (with_reducible refine int_go ?_) | (with_reducible refine inti_go ?_) | (with_reducible refine band_go ?_) | (with_reducible refine bor_go ?_) | (with_reducible refine iadd_go ?_) | (with_reducible refine min_go ?_) | (with_reducible refine max_go ?_) | (with_reducible refine abs_go ?_) | (with_reducible refine neg_go ?_) | (with_reducible refine bits_go ?_) | ((with_reducible apply mulg); next => first | assumption | exact .inl (.inl ⟨by omega, by omega⟩) | exact .inl (.inr ⟨by omega, by omega⟩)) | ((with_reducible apply divg); next => first | assumption | exact divok (by omega) (by omega)) | ((with_reducible apply modg); next => first | assumption | omega) | ((with_reducible apply shl1g); next => omega) | ((with_reducible apply shlng); next => first | assumption | exact .inl ⟨by omega, by omega, by omega⟩) | ((with_reducible apply shlg); next => first | assumption | exact .inl ⟨by omega, by omega, by omega⟩) | (with_reducible refine shrng ?_) | ((with_reducible apply shrg); next => first | assumption | omega) | ((with_reducible apply pow_g); next => first | assumption | exact ⟨by omega, by omega, by omega⟩) | (with_reducible refine two_go ?_) | (with_reducible refine lenl_go ?_) | (with_reducible refine lenf_go ?_) | (with_reducible refine lent_go ?_) | (with_reducible refine lenr_go ?_) | (with_reducible refine idxl_go at0 ?_) | (with_reducible refine idxt_go at0 ?_) | (with_reducible refine idxf_go at0 ?_) | (with_reducible refine idxl_go at1 ?_) | (with_reducible refine idxt_go at1 ?_) | (with_reducible refine idxf_go at1 ?_) | (with_reducible refine idxl_go at2 ?_) | (with_reducible refine idxt_go at2 ?_) | (with_reducible refine idxf_go at2 ?_) | (with_reducible refine idxl_go at3 ?_) | (with_reducible refine idxt_go at3 ?_) | (with_reducible refine idxf_go at3 ?_) | (with_reducible refine idxl_go at4 ?_) | (with_reducible refine idxt_go at4 ?_) | (with_reducible refine idxf_go at4 ?_) | (with_reducible refine idxl_go at5 ?_) | (with_reducible refine idxt_go at5 ?_) | (with_reducible refine idxf_go at5 ?_) | (with_reducible refine idxl_go at_last ?_) | ((with_reducible apply sz_go); next => exact Nat.le_of_ble_eq_true rfl) | (with_reducible refine lstk_go ?_) | (with_reducible refine newt_go ?_) | (with_reducible refine listl_go ?_) | (with_reducible refine listf_go ?_) | (with_reducible refine sl_go ?_) | (with_reducible refine nopart_go ?_) | (with_reducible refine part_go ?_) | (with_reducible refine sll_go ?_) | (with_reducible refine rev_go ?_) | (with_reducible refine mt_go ?_) | (with_reducible refine ist_set ?_) | (with_reducible refine rz1_go ?_) | (with_reducible refine raise_go ?_) | (with_reducible refine nil_s ?_) | (with_reducible refine for_go ?_) | (with_reducible refine iseq_go ?_) | (with_reducible refine skl_go ?_) | (with_reducible refine skf_go ?_) | (with_reducible refine skt_go ?_) | (with_reducible refine ir1_go ?_) | (with_reducible refine ir2_go ?_) | (with_reducible refine ir3_go ?_) | (with_reducible refine ienum_go ?_) | (with_reducible refine par2_go ?_) | (with_reducible refine par3_go ?_) | ((with_reducible apply app_set); next => first | omega | (simp only [List.length_append, List.length_cons, List.length_nil, List.length_map]; omega)) | ((with_reducible apply aug_go); next => exact rfl) | ((with_reducible apply isi_T); (next => exact rfl); (next => exact rfl)) | ((with_reducible apply isi_F); (next => exact rfl); (next => exact rfl)) | (with_reducible refine p_width (by assumption) ?_) | (with_reducible refine p_cut (by assumption) ?_) | (with_reducible refine p_gap_of (by assumption) ?_) | (with_reducible refine p_sum_of (by assumption) ?_) | ((with_reducible apply p_low_product); (next => assumption); (next => first | assumption | exact .inl (.inl ⟨by omega, by omega⟩) | exact .inl (.inr ⟨by omega, by omega⟩))) | ((with_reducible apply p_high_product); (next => assumption); (next => first | assumption | exact .inl (.inl ⟨by omega, by omega⟩) | exact .inl (.inr ⟨by omega, by omega⟩))) | ((with_reducible apply if_D); next => first | assumption | omega) | ((with_reducible apply if_N); next => first | assumption | omega) | ((with_reducible apply if_t); next => assumption) | ((with_reducible apply if_f); next => assumption) | (dsimp only)))
local macro_rules | `(tactic| walk_at "vs") => `(tactic| repeat' (first | (with_reducible refine nx_go ?_) | (with_reducible refine seq_go ?_) | (with_reducible refine set_go ?_) | (with_reducible refine call_go ?_) | (with_reducible refine cons_go ?_) | (with_reducible refine nil_go ?_) | ((with_reducible apply var_go); next => exact rfl) | (with_reducible refine con_go ?_) | (with_reducible refine op_go ?_) | (with_reducible refine isbl_go ?_) | (with_reducible refine if_go ?_) | (with_reducible refine isB_go ?_) | (with_reducible refine tru_go ?_) | (with_reducible refine trub_go ?_) | (with_reducible refine tri_go ?_) | (with_reducible refine asg_go ?_) | (with_reducible refine drop_go ?_) | (with_reducible refine ret_go ?_) | (with_reducible refine tup_go ?_) | (with_reducible refine cb_go ?_) | (with_reducible refine rt_int ?_) | (with_reducible refine rt_bl ?_) | (with_reducible refine rt_non ?_) | (with_reducible refine rt_tup ?_) | (with_reducible refine rt_str ?_) | (with_reducible refine rt_lst ?_) | (with_reducible refine rt_new ?_) | (with_reducible refine l1_go ?_) | (with_reducible refine l2_go ?_) | (with_reducible refine l3_go ?_) | (with_reducible refine l4_go ?_) | (with_reducible refine l5_go ?_) | (with_reducible refine l6_go ?_) | (with_reducible refine if_T ?_) | (with_reducible refine if_F ?_) | (with_reducible refine if_n ?_) | (with_reducible refine not_go ?_) | (with_reducible refine or_go ?_) | (with_reducible refine and_go ?_) | (with_reducible refine notv_go ?_) | (with_reducible refine andv_go ?_) | (with_reducible refine orv_go ?_) | (with_reducible refine iff_go ?_) | (with_reducible refine chain_go ?_) | (with_reducible refine add_go ?_) | (with_reducible refine sub_go ?_) | (with_reducible refine lt_go ?_) | (with_reducible refine gt_go ?_) | (with_reducible refine ge_go ?_) | (with_reducible refine le_go ?_) | (with_reducible refine eq_go ?_) | (with_reducible refine ne_go ?_) | (with_reducible refine eqs_go ?_) | (with_reducible refine nes_go ?_) | (with_reducible refine eqb_go ?_) | (with_reducible refine neb_go ?_) | (with_reducible refine int_go ?_) | (with_reducible refine inti_go ?_) | (with_reducible refine band_go ?_) | (with_reducible refine bor_go ?_) | (with_reducible refine iadd_go ?_) | (with_reducible refine min_go ?_) | (with_reducible refine max_go ?_) | (with_reducible refine abs_go ?_) | (with_reducible refine neg_go ?_) | (with_reducible refine bits_go ?_) | ((with_reducible apply mulg); next => first | assumption | exact .inl (.inl ⟨by omega, by omega⟩) | exact .inl (.inr ⟨by omega, by omega⟩)) | ((with_reducible apply divg); next => first | assumption | exact divok (by omega) (by omega)) | ((with_reducible apply modg); next => first | assumption | omega) | ((with_reducible apply shl1g); next => omega) | ((with_reducible apply shlng); next => first | assumption | exact .inl ⟨by omega, by omega, by omega⟩) | ((with_reducible apply shlg); next => first | assumption | exact .inl ⟨by omega, by omega, by omega⟩) | (with_reducible refine shrng ?_) | ((with_reducible apply shrg); next => first | assumption | omega) | ((with_reducible apply pow_g); next => first | assumption | exact ⟨by omega, by omega, by omega⟩) | (with_reducible refine two_go ?_) | (with_reducible refine lenl_go ?_) | (with_reducible refine lenf_go ?_) | (with_reducible refine lent_go ?_) | (with_reducible refine lenr_go ?_) | (with_reducible refine idxl_go at0 ?_) | (with_reducible refine idxt_go at0 ?_) | (with_reducible refine idxf_go at0 ?_) | (with_reducible refine idxl_go at1 ?_) | (with_reducible refine idxt_go at1 ?_) | (with_reducible refine idxf_go at1 ?_) | (with_reducible refine idxl_go at2 ?_) | (with_reducible refine idxt_go at2 ?_) | (with_reducible refine idxf_go at2 ?_) | (with_reducible refine idxl_go at3 ?_) | (with_reducible refine idxt_go at3 ?_) | (with_reducible refine idxf_go at3 ?_) | (with_reducible refine idxl_go at4 ?_) | (with_reducible refine idxt_go at4 ?_) | (with_reducible refine idxf_go at4 ?_) | (with_reducible refine idxl_go at5 ?_) | (with_reducible refine idxt_go at5 ?_) | (with_reducible refine idxf_go at5 ?_) | (with_reducible refine idxl_go at_last ?_) | ((with_reducible apply sz_go); next => exact Nat.le_of_ble_eq_true rfl) | (with_reducible refine lstk_go ?_) | (with_reducible refine newt_go ?_) | (with_reducible refine listl_go ?_) | (with_reducible refine listf_go ?_) | (with_reducible refine sl_go ?_) | (with_reducible refine nopart_go ?_) | (with_reducible refine part_go ?_) | (with_reducible refine sll_go ?_) | (with_reducible refine rev_go ?_) | (with_reducible refine mt_go ?_) | (with_reducible refine ist_set ?_) | (with_reducible refine rz1_go ?_) | (with_reducible refine raise_go ?_) | (with_reducible refine nil_s ?_) | (with_reducible refine for_go ?_) | (with_reducible refine iseq_go ?_) | (with_reducible refine skl_go ?_) | (with_reducible refine skf_go ?_) | (with_reducible refine skt_go ?_) | (with_reducible refine ir1_go ?_) | (with_reducible refine ir2_go ?_) | (with_reducible refine ir3_go ?_) | (with_reducible refine ienum_go ?_) | (with_reducible refine par2_go ?_) | (with_reducible refine par3_go ?_) | ((with_reducible apply app_set); next => first | omega | (simp only [List.length_append, List.length_cons, List.length_nil, List.length_map]; omega)) | ((with_reducible apply aug_go); next => exact rfl) | ((with_reducible apply isi_T); (next => exact rfl); (next => exact rfl)) | ((with_reducible apply isi_F); (next => exact rfl); (next => exact rfl)) | (with_reducible refine p_width (by assumption) ?_) | (with_reducible refine p_cut (by assumption) ?_) | (with_reducible refine p_gap_of (by assumption) ?_) | (with_reducible refine p_sum_of (by assumption) ?_) | ((with_reducible apply p_low_product); (next => assumption); (next => first | assumption | exact .inl (.inl ⟨by omega, by omega⟩) | exact .inl (.inr ⟨by omega, by omega⟩))) | ((with_reducible apply p_high_product); (next => assumption); (next => first | assumption | exact .inl (.inl ⟨by omega, by omega⟩) | exact .inl (.inr ⟨by omega, by omega⟩))) | ((with_reducible apply if_D); next => first | assumption | omega) | ((with_reducible apply if_N); next => first | assumption | omega) | ((with_reducible apply if_t); next => assumption) | ((with_reducible apply if_f); next => assumption) | (with_reducible refine if_dec (fun _ => ?_) (fun _ => ?_)) | (dsimp only)))
--pps
section
variable {K : PySem.W.Frag} {m : Mem} {R : ARes → Mem → Prop} {W : Nat}
theorem sub_last {i : Nat} {p : Addr} {xs : List D} {y d : D} {v : Ab.Env} {k : Ab.Env → Mem → Prop} (hi : look v i = some (.raw (.ref p))) (hp : m p = some (.lst (xs ++ [y]))) (h : k v (setM m p (.lst (xs ++ [d])))) :
    gSubL (wVar i) (wNeg (wCon (.int 1))) d v m k := by
  unfold gSubL
  refine var_go hi ?_
  refine neg_go (con_go ?_)
  show mutL m (.raw (.ref p)) _
  rw [mutL_some hp]
  refine ⟨xs.length, ?_, ?_⟩
  · unfold ixN
    rw [if_neg (by omega), if_pos (by simp only [List.length_append, List.length_cons, List.length_nil]; omega)]
    congr 1
    simp only [List.length_append, List.length_cons, List.length_nil]
    omega
  · have e : (xs ++ [y]).set xs.length d = xs ++ [d] := by simp
    rw [e]
    exact h
theorem neq_lr {d : D} {xs : List D} {k : KE} (L : LR m d xs) (hs : simD 8 (.lst xs) = true) (h : k (.bl (!decide (xs = []))) m) : oNe m (res m d) (res m (.lst [])) k := by
  rw [L.rs]
  exact nenil_go hs h
theorem p_law_long {a : Addr} {n most : Nat} (hW : Wd W) (hb : Box m a n) (hn : n < 100000000) (hm : most ≤ 100) (h : ∀ ws m', (∀ b, b ≠ a → m b ≠ none → m' b = m b) → Box m' a (n + 400) → Lm.Wok (2 ^ W) ws → Lm.trim ws = ws → ws.length ≤ most → R (.ret (dl ws)) m') : sp_law_long K [.raw (.ref a), .int W, .int (most : Nat)] m R := by
  obtain ⟨g, g1, g2, g3, g4⟩ := hW.pw
  have hle := hW.le
  show w_law_long K [some (.raw (.ref a)), some (.int W), some (.int (most : Nat)), none, none, none] m _
  unfold w_law_long
  walk_at "vg"
  refine newf_go fun p hp => ?_
  walk_at "vg"
  refine shlW1 hW ?_ rfl
  walk_at "vg"
  refine shlW1 hW ?_ rfl
  walk_at "vg"
  have hap := box_ne hb hp
  refine tk (box_same hb (setM_ne hap)) (by omega) (by omega) (by omega) (fun t m1 t0 t1 q1 b1 => ?_)
  walk_at "vg"
  refine ⟨by omega, by omega, ?_⟩
  have hp1 : m1 p = some (.lst []) := by rw [q1 p (Ne.symm hap)]; exact setM_same
  obtain ⟨N, rfl⟩ : ∃ N : Nat, t = N := ⟨t.toNat, by omega⟩
  rw [Int.toNat_natCast]
  refine rng_turns (fun i v m' => ∃ acc k5, m' p = some (dl acc) ∧ v = [some (.raw (.ref a)), some (.int W), some (.int (most : Nat)), some (.raw (.ref p)), some (.lst [.int 0, .int 1, .int (2 ^ W - 1), .int (2 ^ (W - 1)), .int (2 ^ (W - 1) - 1)]), k5] ∧ Lm.Wok (2 ^ W) acc ∧ acc.length = i ∧ Box m' a (n + 1 + 3 * i) ∧ (∀ b, b ≠ a → b ≠ p → m' b = m b)) ⟨[], _, hp1, rfl, Lm.Wok.nil, rfl, b1, fun b h1 h2 => by rw [q1 b h1, setM_ne h2]⟩ ?_ ?_
  · rintro i v1 m2 hi ⟨acc, k5, e1, rfl, e3, e4, e5, e6⟩
    show w_law_long_3 K [some (.raw (.ref a)), some (.int W), some (.int (most : Nat)), some (.raw (.ref p)), some (.lst [.int 0, .int 1, .int (2 ^ W - 1), .int (2 ^ (W - 1)), .int (2 ^ (W - 1) - 1)]), some (.int (0 + (i : Int)))] _ _
    unfold w_law_long_3
    walk_at "vg"
    refine ist_at e1 ?_
    walk_at "vg"
    refine tk e5 (by omega) (by omega) (by omega) (fun t2 m3 u0 u1 q3 b3 => ?_)
    walk_at "vg"
    have fin : ∀ (y : Int) (m4 : Mem), 0 ≤ y → y < 2 ^ W → (∀ b, b ≠ a → m4 b = m2 b) → Box m4 a (n + 1 + 3 * (i + 1)) → ∃ v4 m5, Gh [some (.raw (.ref a)), some (.int W), some (.int (most : Nat)), some (.raw (.ref p)), some (.lst [.int 0, .int 1, .int (2 ^ W - 1), .int (2 ^ (W - 1)), .int (2 ^ (W - 1) - 1)]), some (.int (0 + (i : Int)))] (setM m4 p (.lst (acc.map D.int ++ [.int y]))) v4 m5 ∧ ∃ acc k5, m5 p = some (dl acc) ∧ v4 = [some (.raw (.ref a)), some (.int W), some (.int (most : Nat)), some (.raw (.ref p)), some (.lst [.int 0, .int 1, .int (2 ^ W - 1), .int (2 ^ (W - 1)), .int (2 ^ (W - 1) - 1)]), k5] ∧ Lm.Wok (2 ^ W) acc ∧ acc.length = i + 1 ∧ Box m5 a (n + 1 + 3 * (i + 1)) ∧ (∀ b, b ≠ a → b ≠ p → m5 b = m b) := by
      intro y m4 y0 y1 q4 b4
      refine ⟨_, _, Gh.refl, acc ++ [y], _, ?_, rfl, Lm.wok_append.mpr ⟨e3, Lm.wok_cons.mpr ⟨⟨y0, y1⟩, Lm.Wok.nil⟩⟩, by rw [List.length_append, List.length_singleton, e4], box_same b4 (setM_ne hap), fun b h1 h2 => by rw [setM_ne h2, q4 b h1, e6 b h1 h2]⟩
      rw [setM_same, snoc_map (f := D.int)]
    refine if_dec (fun c => ?_) (fun c => ?_)
    · walk_at "vg"
      refine tk b3 (by omega) (by omega) (by omega) (fun t3 m4 u2 u3 q4 b4 => ?_)
      walk_at "vg"
      refine idx_take u2 u3 (fun o ho => ?_)
      obtain ⟨y, rfl, y0, y1⟩ : ∃ y : Int, o = .int y ∧ 0 ≤ y ∧ y < 2 ^ W := by
        simp only [List.mem_cons, List.not_mem_nil, or_false] at ho
        rcases ho with rfl | rfl | rfl | rfl | rfl
        · exact ⟨_, rfl, by omega, by omega⟩
        · exact ⟨_, rfl, by omega, by omega⟩
        · exact ⟨_, rfl, by omega, by omega⟩
        · exact ⟨_, rfl, by omega, by omega⟩
        · exact ⟨_, rfl, by omega, by omega⟩
      walk_at "vg"
      refine app_at (by rw [q4 p (Ne.symm hap), q3 p (Ne.symm hap)]; exact e1) (by rw [List.length_map]; omega) ?_
      exact fin y m4 y0 y1 (fun b hb => by rw [q4 b hb, q3 b hb]) (box_mono b4 (by omega))
    · walk_at "vg"
      refine tk b3 (by omega) (by omega) (by omega) (fun t3 m4 u2 u3 q4 b4 => ?_)
      walk_at "vg"
      refine app_at (by rw [q4 p (Ne.symm hap), q3 p (Ne.symm hap)]; exact e1) (by rw [List.length_map]; omega) ?_
      exact fin t3 m4 u2 u3 (fun b hb => by rw [q4 b hb, q3 b hb]) (box_mono b4 (by omega))
  · rintro v1 m2 ⟨acc, k5, e1, rfl, e3, e4, e5, e6⟩
    refine nx_go ?_
    have last : ∀ (ws : List Int) m3, m3 p = some (dl ws) → Lm.Wok (2 ^ W) ws → Lm.trim ws = ws → ws.length ≤ most → Box m3 a (n + 400) → (∀ b, b ≠ a → b ≠ p → m3 b = m b) → w_law_long_1 K [some (.raw (.ref a)), some (.int W), some (.int (most : Nat)), some (.raw (.ref p)), some (.lst [.int 0, .int 1, .int (2 ^ W - 1), .int (2 ^ (W - 1)), .int (2 ^ (W - 1) - 1)]), k5] m3 ⟨fun _ m => R (.ret .non) m, fun d m => R (.ret d) m, fun _ _ => False, fun _ _ => False, fun x _ m => R (.exc x) m⟩ := by
      intro ws m3 h1 h2 h3 h4 h5 h6
      unfold w_law_long_1
      walk_at "vg"
      refine rt_at h1 (h ws _ (fun b hb hne => ?_) (box_same h5 (delM_ne hap)) h2 h3 h4)
      have hbp : b ≠ p := by rintro rfl; exact hne hp
      rw [delM_ne hbp, h6 b hb hbp]
    unfold w_law_long_2
    walk_at "vg"
    refine neq_lr ⟨res_some e1⟩ sim_ints ?_
    walk_at "vg"
    refine if_dec (fun c => ?_) (fun c => ?_)
    · have : acc = [] := by simpa using c
      subst this
      walk_at "vh"
      exact nx_go (last [] m2 e1 Lm.Wok.nil rfl (Nat.zero_le _) (box_mono e5 (by omega)) e6)
    · have hne : acc ≠ [] := by rintro rfl; exact c rfl
      obtain ⟨vs, w, rfl⟩ : ∃ vs w, acc = vs ++ [w] := ⟨acc.dropLast, acc.getLast hne, (List.dropLast_concat_getLast hne).symm⟩
      have e1' : m2 p = some (.lst (vs.map D.int ++ [.int w])) := by rw [e1]; simp
      have hl : vs.length + 1 = N := by simpa using e4
      walk_at "vg"
      refine idx_lr ⟨res_some e1'⟩ at_last ?_
      walk_at "vg"
      refine if_dec (fun c2 => ?_) (fun c2 => ?_)
      · walk_at "vg"
        refine tk e5 (by omega) (by omega) (by omega) (fun t2 m3 u0 u1 q3 b3 => ?_)
        walk_at "vg"
        refine sub_last rfl (by rw [q3 p (Ne.symm hap)]; exact e1') ?_
        refine nx_go (last (vs ++ [1 + t2]) _ (by rw [setM_same]; simp) ?_ (Lm.trim_snoc (by omega)) (by rw [List.length_append, List.length_singleton]; omega) (box_same (box_mono b3 (by omega)) (setM_ne hap)) (fun b h1 h2 => by rw [setM_ne h2, q3 b h1, e6 b h1 h2]))
        exact Lm.wok_append.mpr ⟨(Lm.wok_append.mp e3).1, Lm.wok_cons.mpr ⟨⟨by omega, by omega⟩, Lm.Wok.nil⟩⟩
      · walk_at "vh"
        exact nx_go (last (vs ++ [w]) m2 e1 e3 (Lm.trim_snoc c2) (by rw [List.length_append, List.length_singleton]; omega) (box_mono e5 (by omega)) e6)
theorem pow2_ge {i : Nat} (h : 6 ≤ i) : 64 ≤ 2 ^ i := by
  have := Nat.pow_le_pow_right (show 0 < 2 by omega) h
  omega
theorem p_law_low {d : Int} {ws : List Int} (hW : Wd W) (d0 : 1 ≤ d) (d1 : d ≤ 2 ^ W - 1) (ho : d % 2 = 1) (hw : Lm.Wok (2 ^ W) ws) (hl : ws.length ≤ 1000000)
    (h : ∀ x, Inv W d x → R (.ret (.lst ((Lm.lowR (2 ^ W) d x 0 ws).map rowD))) m) : sp_law_low K [.int W, dl ws, .int d] m R := by
  obtain ⟨g, g1, g2, g3, g4⟩ := hW.pw
  have hlo := hW.lo
  have hhi := hW.hi
  have hle := hW.le
  have hB := hW.one
  show w_law_low K [some (.int W), some (dl ws), some (.int d), none, none, none, none, none, none, none] m _
  unfold w_law_low
  walk_at "vg"
  refine newf_go fun a ha => ?_
  walk_at "vg"
  refine ⟨by omega, by omega, ?_⟩
  show Turns _ _ _ (rngD 0 1 6) _ _
  refine rng_turns (fun i v m' => m' = setM m a (.lst []) ∧ ∃ x e k7, v = [some (.int W), some (dl ws), some (.int d), some (.int (2 ^ W)), some (.raw (.ref a)), some (.int 0), some (.int x), k7, none, none] ∧ 0 ≤ x ∧ x < 2 ^ W ∧ e ≤ W ∧ (2 ^ i ≤ e ∨ e = W) ∧ (2 : Int) ^ e ∣ 1 - x * d) ⟨rfl, 1, 1, none, rfl, by omega, by omega, by omega, .inl (Nat.le_refl _), ⟨(1 - 1 * d) / 2, by omega⟩⟩ ?_ ?_
  · rintro i v1 m2 hi ⟨rfl, x, e, k7, rfl, x0, x1, e0, e1, hx⟩
    show w_law_low_4 K [some (.int W), some (dl ws), some (.int d), some (.int (2 ^ W)), some (.raw (.ref a)), some (.int 0), some (.int x), some (.int (0 + (i : Int))), none, none] _ _
    unfold w_law_low_4
    walk_at "vg"
    have r0 := Int.emod_nonneg (x * (2 - d * x)) (show (2 : Int) ^ W ≠ 0 by omega)
    have r1 := Int.emod_lt_of_pos (x * (2 - d * x)) (show (0 : Int) < 2 ^ W by omega)
    have nt := Lm.dvd_pow_le (Nat.min_le_left (2 * e) W) (Lm.newton hx)
    refine ⟨_, _, Gh.refl, rfl, _, min (2 * e) W, _, rfl, r0, r1, Nat.min_le_right _ _, ?_, Lm.dvd_mod (Nat.min_le_right _ _) nt⟩
    have : 2 ^ (i + 1) = 2 * 2 ^ i := by rw [Nat.pow_succ]; omega
    rw [this]
    omega
  · rintro v1 m2 ⟨rfl, x, e, k7, rfl, x0, x1, e0, e1, hx⟩
    have : e = W := by
      have : (2 : Nat) ^ 6 = 64 := rfl
      omega
    subst this
    have ix : Inv e d x := ⟨x0, x1, Lm.inv_of_dvd hx⟩
    refine nx_go ?_
    unfold w_law_low_3
    walk_at "vg"
    refine rest_turns (fun pre rest v m' => ∃ k8 k9, m' = setM m a (.lst ((Lm.lowR (2 ^ e) d x 0 pre).map rowD)) ∧ v = [some (.int e), some (dl ws), some (.int d), some (.int (2 ^ e)), some (.raw (.ref a)), some (.int (Lm.lastC 0 (Lm.lowR (2 ^ e) d x 0 pre))), some (.int x), k7, k8, k9]) ⟨_, _, rfl, rfl⟩ ?_ ?_
    · rintro pre w r v1 m2 he ⟨k8, k9, rfl, rfl⟩
      have hpre : Lm.Wok (2 ^ e) (pre ++ w :: r) := by rw [he]; exact hw
      obtain ⟨wp, wr⟩ := Lm.wok_append.mp hpre
      have w01 := (Lm.wok_cons.mp wr).1
      obtain ⟨_, c0, c1, _⟩ := Lm.low_num hB (by omega) (by omega) ix.h2 wp (Int.le_refl 0) (by omega : (0 : Int) < d)
      have hlen : pre.length < 1000000 := by
        have := congrArg List.length he
        rw [List.length_append, List.length_cons] at this
        omega
      show w_law_low_2 K [some (.int e), some (dl ws), some (.int d), some (.int (2 ^ e)), some (.raw (.ref a)), some (.int (Lm.lastC 0 (Lm.lowR (2 ^ e) d x 0 pre))), some (.int x), k7, some (.int w), k9] _ _
      rw [lowR_append]
      generalize hrows : Lm.lowR (2 ^ e) d x 0 pre = rows at *
      have hrl : rows.length ≤ 1000000 := by rw [← hrows, Lm.lowR_len]; omega
      generalize Lm.lastC 0 rows = c at *
      have r0 := Int.emod_nonneg ((w - c) * x) (show (2 : Int) ^ e ≠ 0 by omega)
      have r1 := Int.emod_lt_of_pos ((w - c) * x) (show (0 : Int) < 2 ^ e by omega)
      unfold w_law_low_2
      walk_at "vg"
      have e2 : (if decide (w < c) = true then (1 : Int) else 0) = if w < c then 1 else 0 := by simp
      have e3 : Lm.lastC 0 (rows ++ Lm.lowR (2 ^ e) d x c [w]) = (w - c) * x % 2 ^ e * d / 2 ^ e + (if w < c then 1 else 0) := by
        show Lm.lastC 0 (rows ++ [(_, _)]) = _
        rw [lastC_snoc]
      refine ⟨_, _, Gh.refl, some (.int w), some (.int ((w - c) * x % 2 ^ e)), ?_, ?_⟩
      · rw [e2, List.map_append]
        rfl
      · rw [e3, ← e2]
        rfl
    · rintro v1 m2 ⟨k8, k9, rfl, rfl⟩
      refine nx_go ?_
      unfold w_law_low_1
      walk_at "vg"
      exact rt_set ha (h x ix)
end
end Ab
end

section
namespace Ab
open PySem PySem.Spec PyProof.Rows L2
local macro_rules | `(tactic| walk_at "vg") => `(tactic| repeat' (first | (with_reducible refine nx_go ?_) | (with_reducible refine seq_go ?_) | (with_reducible refine set_go ?_) | (with_reducible refine call_go ?_) | (with_reducible refine cons_go ?_) | (with_reducible refine nil_go ?_) | ((with_reducible apply var_go); next => exact rfl) | (with_reducible refine con_go ?_) | (with_reducible refine op_go ?_) | (with_reducible refine isbl_go ?_) | (with_reducible refine if_go ?_) | (with_reducible refine isB_go ?_) | (with_reducible refine tru_go ?_) | (with_reducible refine trub_go ?_) | (with_reducible refine tri_go ?_) | (with_reducible refine asg_go ?_) | (with_reducible refine drop_go ?_) | (with_reducible refine ret_go ?_) | (with_reducible refine tup_go ?_) | (with_reducible refine cb_go ?_) | (with_reducible refine rt_int ?_) | (with_reducible refine rt_bl ?_) | (with_reducible refine rt_non ?_) | (with_reducible refine rt_tup ?_) | (with_reducible refine rt_str ?_) | (with_reducible refine rt_lst ?_) | (with_reducible refine rt_new ?_) | (with_reducible refine l1_go ?_) | (with_reducible refine l2_go ?_) | (with_reducible refine l3_go ?_) | (with_reducible refine l4_go ?_) | (with_reducible refine l5_go ?_) | (with_reducible refine l6_go ?_) | (with_reducible refine if_T ?_) | (with_reducible refine if_F ?_) | (with_reducible refine if_n ?_) | (with_reducible refine not_go ?_) | (with_reducible refine or_go ?_) | (with_reducible refine and_go ?_) | (with_reducible refine notv_go ?_) | (with_reducible refine andv_go ?_) | (with_reducible refine orv_go ?_) | (with_reducible refine iff_go ?_) | (with_reducible refine chain_go ?_) | (with_reducible refine add_go ?_) | (with_reducible refine sub_go ?_) | (with_reducible refine lt_go ?_) | (with_reducible refine gt_go ?_) | (with_reducible refine ge_go ?_) | (with_reducible refine le_go ?_) | (with_reducible refine eq_go ?_) | (with_reducible refine ne_go ?_) | (with_reducible refine eqs_go ?_) | (with_reducible refine nes_go ?_) | (with_reducible refine eqb_go ?_) | (with_reducible refine neb_go ?_) | (with_reducible refine int_go ?_) | (with_reducible refine inti_go ?_) | (with_reducible refine band_go ?_) | (with_reducible refine bor_go ?_) | (with_reducible refine iadd_go ?_) | (with_reducible refine min_go ?_) | (with_reducible refine max_go ?_) | (with_reducible refine abs_go ?_) | (with_reducible refine neg_go ?_) | (with_reducible refine bits_go ?_) | ((with_reducible apply mulg); next => first | assumption | exact .inl (.inl ⟨by omega, by omega⟩) | exact .inl (.inr ⟨by omega, by omega⟩)) | ((with_reducible apply divg); next => first | assumption | exact divok (by omega) (by omega)) | ((with_reducible apply modg); next => first | assumption | omega) | ((with_reducible apply shl1g); next => omega) | ((with_reducible apply shlng); next => first | assumption | exact .inl ⟨by omega, by omega, by omega⟩) | ((with_reducible apply shlg); next => first | assumption | exact .inl ⟨by omega, by omega, by omega⟩) | (with_reducible refine shrng ?_) | ((with_reducible apply shrg); next => first | assumption | omega) | ((with_reducible apply pow_g); next => first | assumption | exact ⟨by omega, by omega, by omega⟩) | (with_reducible refine two_go ?_) | (with_reducible refine lenl_go ?_) | (with_reducible refine lenf_go ?_) | (with_reducible refine lent_go ?_) | (with_reducible refine lenr_go ?_) | (with_reducible refine idxl_go at0 ?_) | (with_reducible refine idxt_go at0 ?_) | (with_reducible refine idxf_go at0 ?_) | (with_reducible refine idxl_go at1 ?_) | (with_reducible refine idxt_go at1 ?_) | (with_reducible refine idxf_go at1 ?_) | (with_reducible refine idxl_go at2 ?_) | (with_reducible refine idxt_go at2 ?_) | (with_reducible refine idxf_go at2 ?_) | (with_reducible refine idxl_go at3 ?_) | (with_reducible refine idxt_go at3 ?_) | (with_reducible refine idxf_go at3 ?_) | (with_reducible refine idxl_go at4 ?_) | (with_reducible refine idxt_go at4 ?_) | (with_reducible refine idxf_go at4 ?_) | (with_reducible refine idxl_go at5 ?_) | (with_reducible refine idxt_go at5 ?_) | (with_reducible refine idxf_go at5 ?_) | (with_reducible refine idxl_go at_last ?_) | ((with_reducible apply sz_go); next => exact Nat.le_of_ble_eq_true rfl) | (with_reducible refine lstk_go ?_) | (with_reducible refine newt_go ?_) | (with_reducible refine listl_go ?_) | (with_reducible refine listf_go ?_) | (with_reducible refine sl_go ?_) | (with_reducible refine nopart_go ?_) | (with_reducible refine part_go ?_) | (with_reducible refine sll_go ?_) | (with_reducible refine rev_go ?_) | (with_reducible refine mt_go ?_) | (with_reducible refine ist_set ?_) | (with_reducible refine rz1_go ?_) | (with_reducible refine raise_go ?_) | (with_reducible refine nil_s ?_) | (with_reducible refine for_go ?_) | (with_reducible refine iseq_go ?_) | (with_reducible refine skl_go ?_) | (with_reducible refine skf_go ?_) | (with_reducible refine skt_go ?_) | (with_reducible refine ir1_go ?_) | (with_reducible refine ir2_go ?_) | (with_reducible refine ir3_go ?_) | (with_reducible refine ienum_go ?_) | (with_reducible refine par2_go ?_) | (with_reducible refine par3_go ?_) | ((with_reducible apply app_set); next => first | omega | (simp only [List.length_append, List.length_cons, List.length_nil, List.length_map]; omega)) | ((with_reducible apply aug_go); next => exact rfl) | ((with_reducible apply isi_T); (next => exact rfl); (next => exact rfl)) | ((with_reducible apply isi_F); (next => exact rfl); (next => exact rfl)) | (with_reducible refine p_width (by assumption) ?_) | (with_reducible refine p_cut (by assumption) ?_) | (with_reducible refine p_gap_of (by assumption) ?_) | (with_reducible refine p_sum_of (by assumption) ?_) | ((with_reducible apply p_low_product); (next => assumption); (next => first | assumption | exact .inl (.inl ⟨by omega, by omega⟩) | exact .inl (.inr ⟨by omega, by omega⟩))) | ((with_reducible apply p_high_product); (next => assumption); (next => first | assumption | exact .inl (.inl ⟨by omega, by omega⟩) | exact .inl (.inr ⟨by omega, by omega⟩))) | ((with_reducible apply if_D); next => first | assumption | omega) | ((with_reducible apply if_N); next => first | assumption | omega) | ((with_reducible apply if_t); next => assumption) | ((with_reducible apply if_f); next => assumption) | (dsimp only)))
local macro_rules | `(tactic| walk_at "vh") => `(tactic| repeat' (first | (with_reducible refine seq_go ?_) | (with_reducible refine set_go ?_) | (with_reducible refine call_go ?_) | (with_reducible refine cons_go ?_) | (with_reducible refine nil_go ?_) | ((with_reducible apply var_go); next => exact rfl) | (with_reducible refine con_go ?_) | (with_reducible refine op_go ?_) | (with_reducible refine isbl_go ?_) | (with_reducible refine if_go ?_) | (with_reducible refine isB_go ?_) | (with_reducible refine tru_go ?_) | (with_reducible refine trub_go ?_) | (with_reducible refine tri_go ?_) | (with_reducible refine asg_go ?_) | (with_reducible refine drop_go ?_) | (with_reducible refine ret_go ?_) | (with_reducible refine tup_go ?_) | (with_reducible refine cb_go ?_) | (with_reducible refine rt_int ?_) | (with_reducible refine rt_bl ?_) | (with_reducible refine rt_non ?_) | (with_reducible refine rt_tup ?_) | (with_reducible refine rt_str ?_) | (with_reducible refine rt_lst ?_) | (with_reducible refine rt_new ?_) | (with_reducible refine l1_go ?_) | (with_reducible refine l2_go ?_) | (with_reducible refine l3_go ?_) | (with_reducible refine l4_go ?_) | (with_reducible refine l5_go ?_) | (with_reducible refine l6_go ?_) | (with_reducible refine if_T ?_) | (with_reducible refine if_F ?_) | (with_reducible refine if_n ?_) | (with_reducible refine not_go ?_) | (with_reducible refine or_go ?_) | (with_reducible refine and_go ?_) | (with_reducible refine notv_go ?_) | (with_reducible refine andv_go ?_) | (with_reducible refine orv_go ?_) | (with_reducible refine iff_go ?_) | (with_reducible refine chain_go ?_) | (with_reducible refine add_go ?_) | (with_reducible refine sub_go ?_) | (with_reducible refine lt_go ?_) | (with_reducible refine gt_go ?_) | (with_reducible refine ge_go ?_) | (with_reducible refine le_go ?_) | (with_reducible refine eq_go ?_) | (with_reducible refine ne_go ?_) | (with_reducible refine eqs_go ?_) | (with_reducible refine nes_go ?_) | (with_reducible refine eqb_go ?_) | (with_reducible refine neb_go ?_) | (with_reducible refine int_go ?_) | (with_reducible refine inti_go ?_) | (with_reducible refine band_go ?_) | (with_reducible refine bor_go ?_) | (with_reducible refine iadd_go ?_) | (with_reducible refine min_go ?_) | (with_reducible refine max_go ?_) | (with_reducible refine abs_go ?_) | (with_reducible refine neg_go ?_) | (with_reducible refine bits_go ?_) | ((with_reducible apply mulg); next => first | assumption | exact .inl (.inl ⟨by omega, by omega⟩) | exact .inl (.inr ⟨by omega, by omega⟩)) | ((with_reducible apply divg); next => first | assumption | exact divok (by omega) (by omega)) | ((with_reducible apply modg); next => first | assumption | omega) | ((with_reducible apply shl1g); next => omega) | ((with_reducible apply shlng); next => first | assumption | exact .inl ⟨by omega, by omega, by omega⟩) | ((with_reducible apply shlg); next => first | assumption | exact .inl ⟨by omega, by omega, by omega⟩) | (with_reducible refine shrng ?_) | ((with_reducible apply shrg); next => first | assumption | omega) | ((with_reducible apply pow_g); next => first | assumption | exact ⟨by omega, by omega, by omega⟩) | (with_reducible refine two_go ?_) | (with_reducible refine lenl_go ?_) | (with_reducible refine lenf_go ?_) | (with_reducible refine lent_go ?_) | (with_reducible refine lenr_go ?_) | (with_reducible refine idxl_go at0 ?_) | (with_reducible refine idxt_go at0 ?_) | (with_reducible refine idxf_go at0 ?_) | (with_reducible refine idxl_go at1 ?_) | (with_reducible refine idxt_go at1 ?_) | (with_reducible refine idxf_go at1 ?_) | (with_reducible refine idxl_go at2 ?_) | (with_reducible refine idxt_go at2 ?_) | (with_reducible refine idxf_go at2 ?_) | (with_reducible refine idxl_go at3 ?_) | (with_reducible refine idxt_go at3 ?_) | (with_reducible refine idxf_go at3 ?_) | (with_reducible refine idxl_go at4 ?_) | (with_reducible refine idxt_go at4 ?_) | (with_reducible refine idxf_go at4 ?_) | (with_reducible refine idxl_go at5 ?_) | (with_reducible refine idxt_go at5 ?_) | (with_reducible refine idxf_go at5 ?_) | (with_reducible refine idxl_go at_last ?_) | ((with_reducible apply sz_go); next => exact Nat.le_of_ble_eq_true rfl) | (with_reducible refine lstk_go ?_) | (with_reducible refine newt_go ?_) | (with_reducible refine listl_go ?_) | (with_reducible refine listf_go ?_) | (with_reducible refine sl_go ?_) | (with_reducible refine nopart_go ?_) | (with_reducible refine part_go ?_) | (with_reducible refine sll_go ?_) | (with_reducible refine rev_go ?_) | (with_reducible refine mt_go ?_) | (with_reducible refine ist_set ?_) | (with_reducible refine rz1_go ?_) | (with_reducible refine raise_go ?_) | (with_reducible refine nil_s ?_) | (with_reducible refine for_go ?_) | (with_reducible refine iseq_go ?_) | (with_reducible refine skl_go ?_) | (with_reducible refine skf_go ?_) | (with_reducible refine skt_go ?_) | (with_reducible refine ir1_go ?_) | (with_reducible refine ir2_go ?_) | (with_reducible refine ir3_go ?_) | (with_reducible refine ienum_go ?_) | (with_reducible refine par2_go ?_) | (with_reducible refine par3_go ?_) | ((with_reducible apply app_set); next => first | omega | (simp only [List.length_append, List.length_cons, List.length_nil, List.length_map]; omega)) | ((with_reducible apply aug_go); next => exact rfl) | ((with_reducible apply isi_T); (next => exact rfl); (next => exact rfl)) | ((with_reducible apply isi_F); (next => exact rfl); (next => exact rfl)) | (with_reducible refine p_width (by assumption) ?_) | (with_reducible refine p_cut (by assumption) ?_) | (with_reducible refine p_gap_of (by assumption) ?_) | (with_reducible refine p_sum_of (by assumption) ?_) | ((with_reducible apply p_low_product); (next => assumption); (next => first | assumption | exact .inl (.inl ⟨by omega, by omega⟩) | exact .inl (.inr ⟨by omega, by omega⟩))) | ((with_reducible apply p_high_product); (next => assumption); (next => first | assumption | exact .inl (.inl ⟨by omega, by omega⟩) | exact .inl (.inr ⟨by omega, by omega⟩))) | ((with_reducible apply if_D); next => first | assumption | omega) | ((with_reducible apply if_N); next => first | assumption | omega) | ((with_reducible apply if_t); next => assumption) | ((with_reducible apply if_f); next => assumption) | (dsimp only)))
local macro_rules | `(tactic| walk_at "vs") => `(tactic| repeat' (first | (with_reducible refine nx_go ?_) | (with_reducible refine seq_go ?_) | (with_reducible refine set_go ?_) | (with_reducible refine call_go ?_) | (with_reducible refine cons_go ?_) | (with_reducible refine nil_go ?_) | ((with_reducible apply var_go); next => exact rfl) | (with_reducible refine con_go ?_) | (with_reducible refine op_go ?_) | (with_reducible refine isbl_go ?_) | (with_reducible refine if_go ?_) | (with_reducible refine isB_go ?_) | (with_reducible refine tru_go ?_) | (with_reducible refine trub_go ?_) | (with_reducible refine tri_go ?_) | (with_reducible refine asg_go ?_) | (with_reducible refine drop_go ?_) | (with_reducible refine ret_go ?_) | (with_reducible refine tup_go ?_) | (with_reducible refine cb_go ?_) | (with_reducible refine rt_int ?_) | (with_reducible refine rt_bl ?_) | (with_reducible refine rt_non ?_) | (with_reducible refine rt_tup ?_) | (with_reducible refine rt_str ?_) | (with_reducible refine rt_lst ?_) | (with_reducible refine rt_new ?_) | (with_reducible refine l1_go ?_) | (with_reducible refine l2_go ?_) | (with_reducible refine l3_go ?_) | (with_reducible refine l4_go ?_) | (with_reducible refine l5_go ?_) | (with_reducible refine l6_go ?_) | (with_reducible refine if_T ?_) | (with_reducible refine if_F ?_) | (with_reducible refine if_n ?_) | (with_reducible refine not_go ?_) | (with_reducible refine or_go ?_) | (with_reducible refine and_go ?_) | (with_reducible refine notv_go ?_) | (with_reducible refine andv_go ?_) | (with_reducible refine orv_go ?_) | (with_reducible refine iff_go ?_) | (with_reducible refine chain_go ?_) | (with_reducible refine add_go ?_) | (with_reducible refine sub_go ?_) | (with_reducible refine lt_go ?_) | (with_reducible refine gt_go ?_) | (with_reducible refine ge_go ?_) | (with_reducible refine le_go ?_) | (with_reducible refine eq_go ?_) | (with_reducible refine ne_go ?_) | (with_reducible refine eqs_go ?_) | (with_reducible refine nes_go ?_) | (with_reducible refine eqb_go ?_) | (with_reducible refine neb_go ?_) | (with_reducible refine int_go ?_) | (with_reducible refine inti_go ?_) | (with_reducible refine band_go ?_) | (with_reducible refine bor_go ?_) | (with_reducible refine iadd_go ?_) | (with_reducible refine min_go ?_) | (with_reducible refine max_go ?_) | (with_reducible refine abs_go ?_) | (with_reducible refine neg_go ?_) | (with_reducible refine bits_go ?_) | ((with_reducible apply mulg); next => first | assumption | exact .inl (.inl ⟨by omega, by omega⟩) | exact .inl (.inr ⟨by omega, by omega⟩)) | ((with_reducible apply divg); next => first | assumption | exact divok (by omega) (by omega)) | ((with_reducible apply modg); next => first | assumption | omega) | ((with_reducible apply shl1g); next => omega) | ((with_reducible apply shlng); next => first | assumption | exact .inl ⟨by omega, by omega, by omega⟩) | ((with_reducible apply shlg); next => first | assumption | exact .inl ⟨by omega, by omega, by omega⟩) | (with_reducible refine shrng ?_) | ((with_reducible apply shrg); next => first | assumption | omega) | ((with_reducible apply pow_g); next => first | assumption | exact ⟨by omega, by omega, by omega⟩) | (with_reducible refine two_go ?_) | (with_reducible refine lenl_go ?_) | (with_reducible refine lenf_go ?_) | (with_reducible refine lent_go ?_) | (with_reducible refine lenr_go ?_) | (with_reducible refine idxl_go at0 ?_) | (with_reducible refine idxt_go at0 ?_) | (with_reducible refine idxf_go at0 ?_) | (with_reducible refine idxl_go at1 ?_) | (with_reducible refine idxt_go at1 ?_) | (with_reducible refine idxf_go at1 ?_) | (with_reducible refine idxl_go at2 ?_) | (with_reducible refine idxt_go at2 ?_) | (with_reducible refine idxf_go at2 ?_) | (with_reducible refine idxl_go at3 ?_) | (with_reducible refine idxt_go at3 ?_) | (with_reducible refine idxf_go at3 ?_) | (with_reducible refine idxl_go at4 ?_) | (with_reducible refine idxt_go at4 ?_) | (with_reducible refine idxf_go at4 ?_) | (with_reducible refine idxl_go at5 ?_) | (with_reducible refine idxt_go at5 ?_) | (with_reducible refine idxf_go at5 ?_) | (with_reducible refine idxl_go at_last ?_) | ((with_reducible apply sz_go); next => exact Nat.le_of_ble_eq_true rfl) | (with_reducible refine lstk_go ?_) | (with_reducible refine newt_go ?_) | (with_reducible refine listl_go ?_) | (with_reducible refine listf_go ?_) | (with_reducible refine sl_go ?_) | (with_reducible refine nopart_go ?_) | (with_reducible refine part_go ?_) | (with_reducible refine sll_go ?_) | (with_reducible refine rev_go ?_) | (with_reducible refine mt_go ?_) | (with_reducible refine ist_set ?_) | (with_reducible refine rz1_go ?_) | (with_reducible refine raise_go ?_) | (with_reducible refine nil_s ?_) | (with_reducible refine for_go ?_) | (with_reducible refine iseq_go ?_) | (with_reducible refine skl_go ?_) | (with_reducible refine skf_go ?_) | (with_reducible refine skt_go ?_) | (with_reducible refine ir1_go ?_) | (with_reducible refine ir2_go ?_) | (with_reducible refine ir3_go ?_) | (with_reducible refine ienum_go ?_) | (with_reducible refine par2_go ?_) | (with_reducible refine par3_go ?_) | ((with_reducible apply app_set); next => first | omega | (simp only [List.length_append, List.length_cons, List.length_nil, List.length_map]; omega)) | ((with_reducible apply aug_go); next => exact rfl) | ((with_reducible apply isi_T); (next => exact rfl); (next => exact rfl)) | ((with_reducible apply isi_F); (next => exact rfl); (next => exact rfl)) | (with_reducible refine p_width (by assumption) ?_) | (with_reducible refine p_cut (by assumption) ?_) | (with_reducible refine p_gap_of (by assumption) ?_) | (with_reducible refine p_sum_of (by assumption) ?_) | ((with_reducible apply p_low_product); (next => assumption); (next => first | assumption | exact .inl (.inl ⟨by omega, by omega⟩) | exact .inl (.inr ⟨by omega, by omega⟩))) | ((with_reducible apply p_high_product); (next => assumption); (next => first | assumption | exact .inl (.inl ⟨by omega, by omega⟩) | exact .inl (.inr ⟨by omega, by omega⟩))) | ((with_reducible apply if_D); next => first | assumption | omega) | ((with_reducible apply if_N); next => first | assumption | omega) | ((with_reducible apply if_t); next => assumption) | ((with_reducible apply if_f); next => assumption) | (with_reducible refine if_dec (fun _ => ?_) (fun _ => ?_)) | (dsimp only)))
--pps
section
variable {K : PySem.W.Frag} {m : Mem} {R : ARes → Mem → Prop} {W : Nat}
/-- alike, the first one's lists perhaps such as may be changed -/
inductive SmR (m : Mem) : Nat → D → D → Prop
  | base {n : Nat} {d e : D} (h : Sm n d e) : SmR m n d e
  | seq {n : Nat} {d e : D} {xs ys : List D} {T : String} (hT : T = "list" ∨ T = "tuple") (hd : tyD (res m d) = some T) (he : tyD e = some T) (hdx : lstOf (res m d) = some xs ∨ res m d = .tup xs) (hey : lstOf e = some ys ∨ e = .tup ys) (hl : xs.length = ys.length) (hz : ys.length ≤ 1000000)
      (h : ∀ (i : Nat) x y, xs[i]? = some x → ys[i]? = some y → SmR m n x y) : SmR m (n + 1) d e
theorem isiR {d d' : D} {T : String} {q : Bool} {k : KE} (hr : res m d = d') (h : isiQ d' T = some q) (hk : k (.bl q) m) : cIsi K m ([d, .raw (.ty T)].map (res m)) k := by
  show cIsi K m [res m d, .raw (.ty T)] k
  rw [hr]
  unfold isiQ at h
  split at h
  · rename_i a e
    split at h
    · rename_i hm
      cases h
      exact ⟨a, e, hm, hk⟩
    · cases h
  · cases h
theorem same_partsR {d d' e : D} {xs ys : List D} {P : SK} {R : ARes → Mem → Prop} (hP : ∀ d m, P.rt d m = R (.ret d) m) (hr : res m d = d') (hdx : lstOf d' = some xs ∨ d' = .tup xs) (hey : lstOf e = some ys ∨ e = .tup ys) (hl : xs.length = ys.length) (hz : ys.length ≤ 1000000)
    {sp : ASp} (h : ∀ (i : Nat) x y, xs[i]? = some x → ys[i]? = some y → ∀ Q : ARes → Mem → Prop, Q (.ret (.bl true)) m → sp [x, y] m Q) (hR : R (.ret (.bl true)) m) : w_law_same_1 K sp [some d, some e, none] m P := by
  have fd : (∀ m k, cLen m [d'] k = k (.int xs.length) m) ∧ (∀ m i k, oIdx m d' (.int i) k = ∃ y, atI xs i = some y ∧ k y m) := by
    rcases hdx with q | rfl
    · cases d' <;> cases q <;> exact ⟨fun _ _ => rfl, fun _ _ _ => rfl⟩
    · exact ⟨fun _ _ => rfl, fun _ _ _ => rfl⟩
  have fe : (∀ m, res m e = e) ∧ (∀ m k, cLen m [e] k = k (.int ys.length) m) ∧ (∀ m i k, oIdx m e (.int i) k = ∃ y, atI ys i = some y ∧ k y m) := by
    rcases hey with q | rfl
    · cases e <;> cases q <;> exact ⟨fun _ => rfl, fun _ _ => rfl, fun _ _ _ => rfl⟩
    · exact ⟨fun _ => rfl, fun _ _ => rfl, fun _ _ _ => rfl⟩
  unfold w_law_same_1
  simp only [sRet, wAndV, wOp, wCB, wCons, wNil, wVar, look0, lookS, List.map_cons, List.map_nil, hr, fd.1, fe.1, fd.2, fe.2.1, res_int, oEq, tru_bl, hl, decide_true, true_implies, Bool.true_eq_false, false_implies, and_true, wLc, iR1]
  refine ⟨by omega, by omega, fun i acc m2 => acc = [] ∧ m2 = m, ⟨rfl, rfl⟩, ?_, ?_⟩
  · rintro i z acc m2 hi ⟨rfl, rfl⟩
    obtain ⟨hi, rfl⟩ := rng_at hi
    have hy : i < ys.length := by omega
    have hx : i < xs.length := by omega
    have nat : ((0 : Int) + (i : Int) * 1).toNat = i := by omega
    simp only [gN, wipeE, List.set_cons_zero, List.set_cons_succ, wNot, wTru, wCall, wCons, wNil, wOp, wVar, look0, lookS, hr, fe.1, res_int, fd.2, fe.2.2]
    refine ⟨xs[i], at_nat (by omega) (by rw [nat]; exact List.getElem?_eq_getElem hx), ys[i], at_nat (by omega) (by rw [nat]; exact List.getElem?_eq_getElem hy), rfl, ?_⟩
    refine h i _ _ (List.getElem?_eq_getElem hx) (List.getElem?_eq_getElem hy) _ ?_
    simp [tru_bl]
  · rintro acc m2 ⟨rfl, rfl⟩
    simp only [newK_t, wLst, wNil, res_lst]
    refine ⟨size_line (Nat.zero_le _), eqD_nil ?_⟩
    refine ⟨_, _, GhD.refl, ?_⟩
    rw [hP]
    exact hR
theorem isiQ_of {d : D} {T : String} (h : tyD d = some T) (hT : T = "list" ∨ T = "tuple") : isiQ d "list" = some (decide (T = "list")) ∧ isiQ d "tuple" = some (decide (T = "tuple")) ∧ isiQ d "bool" = some false ∧ isiQ d "int" = some false ∧ isiQ d "str" = some false := by
  unfold isiQ
  rw [h]
  rcases hT with rfl | rfl <;> decide
theorem p_law_sameR : ∀ {n : Nat} {d e : D} {R : ARes → Mem → Prop}, SmR m n d e → R (.ret (.bl true)) m → sr_law_same K n [d, e] m R
  | n, d, e, R, .base h, hR => p_law_same h hR
  | n + 1, d, e, R, .seq (xs := xs) (ys := ys) hT hd he hdx hey hl hz h, hR => by
    obtain ⟨a1, a2, a3, a4, a5⟩ := isiQ_of hd hT
    obtain ⟨b1, b2, b3, b4, b5⟩ := isiQ_of he hT
    have re : res m e = e := by
      rcases hey with q | rfl
      · cases e <;> first | rfl | cases q
      · rfl
    have isn : ∀ k : KE, k (.bl false) m → oIs m (res m e) (res m .non) k := by
      intro k hk
      rw [re]
      rcases hey with q | rfl
      · cases e <;> first | exact ⟨false, rfl, hk⟩ | cases q
      · exact ⟨false, rfl, hk⟩
    have fin := same_partsR (K := K) (m := m) (R := R) (P := ⟨fun _ m => R (.ret .non) m, fun d m => R (.ret d) m, fun _ _ => False, fun _ _ => False, fun x _ m => R (.exc x) m⟩) (sp := sr_law_same K n) (fun _ _ => rfl) rfl hdx hey hl hz (fun i x y q1 q2 Q hQ => p_law_sameR (h i x y q1 q2) hQ) hR
    show w_law_same K (sr_law_same K n) [some d, some e, none] m _
    unfold w_law_same
    refine seq_go (if_go (or_go (isB_go (op_go (var_go rfl (con_go (isn _ ?_)))))))
    refine isbl_go (if_F (tru_go (cb_go (cons_go (var_go rfl (cons_go (con_go (nil_go (isiR re b3 (trub_go (if_F (nil_s (nx_go ?_)))))))))))))
    unfold w_law_same_4
    refine seq_go (if_go (tru_go (cb_go (cons_go (var_go rfl (cons_go (con_go (nil_go (isiR re b4 (trub_go (if_F (nil_s (nx_go ?_)))))))))))))
    unfold w_law_same_3
    refine seq_go (if_go (tru_go (cb_go (cons_go (var_go rfl (cons_go (con_go (nil_go (isiR re b5 (trub_go (if_F (nil_s (nx_go ?_)))))))))))))
    unfold w_law_same_2
    refine seq_go (if_go (or_go (isB_go (op_go (cb_go (cons_go (var_go rfl (cons_go (con_go (nil_go (isiR rfl a1 ?_)))))))))))
    refine cb_go (cons_go (var_go rfl (cons_go (con_go (nil_go (isiR re b1 (neb_go ?_)))))))
    rw [decide_eq_true (rfl : decide _ = decide _)]
    refine isbl_go (if_F (isB_go (op_go (cb_go (cons_go (var_go rfl (cons_go (con_go (nil_go (isiR rfl a2 ?_))))))))))
    refine cb_go (cons_go (var_go rfl (cons_go (con_go (nil_go (isiR re b2 (neb_go ?_)))))))
    rw [decide_eq_true (rfl : decide _ = decide _)]
    exact isbl_go (if_F (nil_s (nx_go fin)))
end
end Ab
end

section
namespace Ab
open PySem PySem.Spec PyProof.Rows L2
local macro_rules | `(tactic| walk_at "vg") => `(tactic| repeat' (first | (with_reducible refine nx_go ?_) | (with_reducible refine seq_go ?_) | (with_reducible refine set_go ?_) | (with_reducible refine call_go ?_) | (with_reducible refine cons_go ?_) | (with_reducible refine nil_go ?_) | ((with_reducible apply var_go); next => exact rfl) | (with_reducible refine con_go ?_) | (with_reducible refine op_go ?_) | (with_reducible refine isbl_go ?_) | (with_reducible refine if_go ?_) | (with_reducible refine isB_go ?_) | (with_reducible refine tru_go ?_) | (with_reducible refine trub_go ?_) | (with_reducible refine tri_go ?_) | (with_reducible refine asg_go ?_) | (with_reducible refine drop_go ?_) | (with_reducible refine ret_go ?_) | (with_reducible refine tup_go ?_) | (with_reducible refine cb_go ?_) | (with_reducible refine rt_int ?_) | (with_reducible refine rt_bl ?_) | (with_reducible refine rt_non ?_) | (with_reducible refine rt_tup ?_) | (with_reducible refine rt_str ?_) | (with_reducible refine rt_lst ?_) | (with_reducible refine rt_new ?_) | (with_reducible refine l1_go ?_) | (with_reducible refine l2_go ?_) | (with_reducible refine l3_go ?_) | (with_reducible refine l4_go ?_) | (with_reducible refine l5_go ?_) | (with_reducible refine l6_go ?_) | (with_reducible refine if_T ?_) | (with_reducible refine if_F ?_) | (with_reducible refine if_n ?_) | (with_reducible refine not_go ?_) | (with_reducible refine or_go ?_) | (with_reducible refine and_go ?_) | (with_reducible refine notv_go ?_) | (with_reducible refine andv_go ?_) | (with_reducible refine orv_go ?_) | (with_reducible refine iff_go ?_) | (with_reducible refine chain_go ?_) | (with_reducible refine add_go ?_) | (with_reducible refine sub_go ?_) | (with_reducible refine lt_go ?_) | (with_reducible refine gt_go ?_) | (with_reducible refine ge_go ?_) | (with_reducible refine le_go ?_) | (with_reducible refine eq_go ?_) | (with_reducible refine ne_go ?_) | (with_reducible refine eqs_go ?_) | (with_reducible refine nes_go ?_) | (with_reducible refine eqb_go ?_) | (with_reducible refine neb_go ?_) | (with_reducible refine int_go ?_) | (with_reducible refine inti_go ?_) | (with_reducible refine band_go ?_) | (with_reducible refine bor_go ?_) | (with_reducible refine iadd_go ?_) | (with_reducible refine min_go ?_) | (with_reducible refine max_go ?_) | (with_reducible refine abs_go ?_) | (with_reducible refine neg_go ?_) | (with_reducible refine bits_go ?_) | ((with_reducible apply mulg); next => first | assumption | exact .inl (.inl ⟨by omega, by omega⟩) | exact .inl (.inr ⟨by omega, by omega⟩)) | ((with_reducible apply divg); next => first | assumption | exact divok (by omega) (by omega)) | ((with_reducible apply modg); next => first | assumption | omega) | ((with_reducible apply shl1g); next => omega) | ((with_reducible apply shlng); next => first | assumption | exact .inl ⟨by omega, by omega, by omega⟩) | ((with_reducible apply shlg); next => first | assumption | exact .inl ⟨by omega, by omega, by omega⟩) | (with_reducible refine shrng ?_) | ((with_reducible apply shrg); next => first | assumption | omega) | ((with_reducible apply pow_g); next => first | assumption | exact ⟨by omega, by omega, by omega⟩) | (with_reducible refine two_go ?_) | (with_reducible refine lenl_go ?_) | (with_reducible refine lenf_go ?_) | (with_reducible refine lent_go ?_) | (with_reducible refine lenr_go ?_) | (with_reducible refine idxl_go at0 ?_) | (with_reducible refine idxt_go at0 ?_) | (with_reducible refine idxf_go at0 ?_) | (with_reducible refine idxl_go at1 ?_) | (with_reducible refine idxt_go at1 ?_) | (with_reducible refine idxf_go at1 ?_) | (with_reducible refine idxl_go at2 ?_) | (with_reducible refine idxt_go at2 ?_) | (with_reducible refine idxf_go at2 ?_) | (with_reducible refine idxl_go at3 ?_) | (with_reducible refine idxt_go at3 ?_) | (with_reducible refine idxf_go at3 ?_) | (with_reducible refine idxl_go at4 ?_) | (with_reducible refine idxt_go at4 ?_) | (with_reducible refine idxf_go at4 ?_) | (with_reducible refine idxl_go at5 ?_) | (with_reducible refine idxt_go at5 ?_) | (with_reducible refine idxf_go at5 ?_) | (with_reducible refine idxl_go at_last ?_) | ((with_reducible apply sz_go); next => exact Nat.le_of_ble_eq_true rfl) | (with_reducible refine lstk_go ?_) | (with_reducible refine newt_go ?_) | (with_reducible refine listl_go ?_) | (with_reducible refine listf_go ?_) | (with_reducible refine sl_go ?_) | (with_reducible refine nopart_go ?_) | (with_reducible refine part_go ?_) | (with_reducible refine sll_go ?_) | (with_reducible refine rev_go ?_) | (with_reducible refine mt_go ?_) | (with_reducible refine ist_set ?_) | (with_reducible refine rz1_go ?_) | (with_reducible refine raise_go ?_) | (with_reducible refine nil_s ?_) | (with_reducible refine for_go ?_) | (with_reducible refine iseq_go ?_) | (with_reducible refine skl_go ?_) | (with_reducible refine skf_go ?_) | (with_reducible refine skt_go ?_) | (with_reducible refine ir1_go ?_) | (with_reducible refine ir2_go ?_) | (with_reducible refine ir3_go ?_) | (with_reducible refine ienum_go ?_) | (with_reducible refine par2_go ?_) | (with_reducible refine par3_go ?_) | ((with_reducible apply app_set); next => first | omega | (simp only [List.length_append, List.length_cons, List.length_nil, List.length_map]; omega)) | ((with_reducible apply aug_go); next => exact rfl) | ((with_reducible apply isi_T); (next => exact rfl); (next => exact rfl)) | ((with_reducible apply isi_F); (next => exact rfl); (next => exact rfl)) | (with_reducible refine p_width (by assumption) ?_) | (with_reducible refine p_cut (by assumption) ?_) | (with_reducible refine p_gap_of (by assumption) ?_) | (with_reducible refine p_sum_of (by assumption) ?_) | ((with_reducible apply p_low_product); (next => assumption); (next => first | assumption | exact .inl (.inl ⟨by omega, by omega⟩) | exact .inl (.inr ⟨by omega, by omega⟩))) | ((with_reducible apply p_high_product); (next => assumption); (next => first | assumption | exact .inl (.inl ⟨by omega, by omega⟩) | exact .inl (.inr ⟨by omega, by omega⟩))) | ((with_reducible apply if_D); next => first | assumption | omega) | ((with_reducible apply if_N); next => first | assumption | omega) | ((with_reducible apply if_t); next => assumption) | ((with_reducible apply if_f); next => assumption) | (dsimp only)))
local macro_rules | `(tactic| walk_at "vh") => `(tactic| repeat' (first | (with_reducible refine seq_go ?_) | (with_reducible refine set_go ?_) | (with_reducible refine call_go ?_) | (with_reducible refine cons_go ?_) | (with_reducible refine nil_go ?_) | ((with_reducible apply var_go); next => exact rfl) | (with_reducible refine con_go ?_) | (with_reducible refine op_go ?_) | (with_reducible refine isbl_go ?_) | (with_reducible refine if_go ?_) | (with_reducible refine isB_go ?_) | (with_reducible refine tru_go ?_) | (with_reducible refine trub_go ?_) | (with_reducible refine tri_go ?_) | (with_reducible refine asg_go ?_) | (with_reducible refine drop_go ?_) | (with_reducible refine ret_go ?_) | (with_reducible refine tup_go ?_) | (with_reducible refine cb_go ?_) | (with_reducible refine rt_int ?_) | (with_reducible refine rt_bl ?_) | (with_reducible refine rt_non ?_) | (with_reducible refine rt_tup ?_) | (with_reducible refine rt_str ?_) | (with_reducible refine rt_lst ?_) | (with_reducible refine rt_new ?_) | (with_reducible refine l1_go ?_) | (with_reducible refine l2_go ?_) | (with_reducible refine l3_go ?_) | (with_reducible refine l4_go ?_) | (with_reducible refine l5_go ?_) | (with_reducible refine l6_go ?_) | (with_reducible refine if_T ?_) | (with_reducible refine if_F ?_) | (with_reducible refine if_n ?_) | (with_reducible refine not_go ?_) | (with_reducible refine or_go ?_) | (with_reducible refine and_go ?_) | (with_reducible refine notv_go ?_) | (with_reducible refine andv_go ?_) | (with_reducible refine orv_go ?_) | (with_reducible refine iff_go ?_) | (with_reducible refine chain_go ?_) | (with_reducible refine add_go ?_) | (with_reducible refine sub_go ?_) | (with_reducible refine lt_go ?_) | (with_reducible refine gt_go ?_) | (with_reducible refine ge_go ?_) | (with_reducible refine le_go ?_) | (with_reducible refine eq_go ?_) | (with_reducible refine ne_go ?_) | (with_reducible refine eqs_go ?_) | (with_reducible refine nes_go ?_) | (with_reducible refine eqb_go ?_) | (with_reducible refine neb_go ?_) | (with_reducible refine int_go ?_) | (with_reducible refine inti_go ?_) | (with_reducible refine band_go ?_) | (with_reducible refine bor_go ?_) | (with_reducible refine iadd_go ?_) | (with_reducible refine min_go ?_) | (with_reducible refine max_go ?_) | (with_reducible refine abs_go ?_) | (with_reducible refine neg_go ?_) | (with_reducible refine bits_go ?_) | ((with_reducible apply mulg); next => first | assumption | exact .inl (.inl ⟨by omega, by omega⟩) | exact .inl (.inr ⟨by omega, by omega⟩)) | ((with_reducible apply divg); next => first | assumption | exact divok (by omega) (by omega)) | ((with_reducible apply modg); next => first | assumption | omega) | ((with_reducible apply shl1g); next => omega) | ((with_reducible apply shlng); next => first | assumption | exact .inl ⟨by omega, by omega, by omega⟩) | ((with_reducible apply shlg); next => first | assumption | exact .inl ⟨by omega, by omega, by omega⟩) | (with_reducible refine shrng ?_) | ((with_reducible apply shrg); next => first | assumption | omega) | ((with_reducible apply pow_g); next => first | assumption | exact ⟨by omega, by omega, by omega⟩) | (with_reducible refine two_go ?_) | (with_reducible refine lenl_go ?_) | (with_reducible refine lenf_go ?_) | (with_reducible refine lent_go ?_) | (with_reducible refine lenr_go ?_) | (with_reducible refine idxl_go at0 ?_) | (with_reducible refine idxt_go at0 ?_) | (with_reducible refine idxf_go at0 ?_) | (with_reducible refine idxl_go at1 ?_) | (with_reducible refine idxt_go at1 ?_) | (with_reducible refine idxf_go at1 ?_) | (with_reducible refine idxl_go at2 ?_) | (with_reducible refine idxt_go at2 ?_) | (with_reducible refine idxf_go at2 ?_) | (with_reducible refine idxl_go at3 ?_) | (with_reducible refine idxt_go at3 ?_) | (with_reducible refine idxf_go at3 ?_) | (with_reducible refine idxl_go at4 ?_) | (with_reducible refine idxt_go at4 ?_) | (with_reducible refine idxf_go at4 ?_) | (with_reducible refine idxl_go at5 ?_) | (with_reducible refine idxt_go at5 ?_) | (with_reducible refine idxf_go at5 ?_) | (with_reducible refine idxl_go at_last ?_) | ((with_reducible apply sz_go); next => exact Nat.le_of_ble_eq_true rfl) | (with_reducible refine lstk_go ?_) | (with_reducible refine newt_go ?_) | (with_reducible refine listl_go ?_) | (with_reducible refine listf_go ?_) | (with_reducible refine sl_go ?_) | (with_reducible refine nopart_go ?_) | (with_reducible refine part_go ?_) | (with_reducible refine sll_go ?_) | (with_reducible refine rev_go ?_) | (with_reducible refine mt_go ?_) | (with_reducible refine ist_set ?_) | (with_reducible refine rz1_go ?_) | (with_reducible refine raise_go ?_) | (with_reducible refine nil_s ?_) | (with_reducible refine for_go ?_) | (with_reducible refine iseq_go ?_) | (with_reducible refine skl_go ?_) | (with_reducible refine skf_go ?_) | (with_reducible refine skt_go ?_) | (with_reducible refine ir1_go ?_) | (with_reducible refine ir2_go ?_) | (with_reducible refine ir3_go ?_) | (with_reducible refine ienum_go ?_) | (with_reducible refine par2_go ?_) | (with_reducible refine par3_go ?_) | ((with_reducible apply app_set); next => first | omega | (simp only [List.length_append, List.length_cons, List.length_nil, List.length_map]; omega)) | ((with_reducible apply aug_go); next => exact rfl) | ((with_reducible apply isi_T); (next => exact rfl); (next => exact rfl)) | ((with_reducible apply isi_F); (next => exact rfl); (next => exact rfl)) | (with_reducible refine p_width (by assumption) ?_) | (with_reducible refine p_cut (by assumption) ?_) | (with_reducible refine p_gap_of (by assumption) ?_) | (with_reducible refine p_sum_of (by assumption) ?_) | ((with_reducible apply p_low_product); (next => assumption); (next => first | assumption | exact .inl (.inl ⟨by omega, by omega⟩) | exact .inl (.inr ⟨by omega, by omega⟩))) | ((with_reducible apply p_high_product); (next => assumption); (next => first | assumption | exact .inl (.inl ⟨by omega, by omega⟩) | exact .inl (.inr ⟨by omega, by omega⟩))) | ((with_reducible apply if_D); next => first | assumption | omega) | ((with_reducible apply if_N); next => first | assumption | omega) | ((with_reducible apply if_t); next => assumption) | ((with_reducible apply if_f); next => assumption) | (dsimp only)))
local macro_rules | `(tactic| walk_at "vs") => `(tactic| repeat' (first | (with_reducible refine nx_go ?_) | (with_reducible refine seq_go ?_) | (with_reducible refine set_go ?_) | (with_reducible refine call_go ?_) | (with_reducible refine cons_go ?_) | (with_reducible refine nil_go ?_) | ((with_reducible apply var_go); next => exact rfl) | (with_reducible refine con_go ?_) | (with_reducible refine op_go ?_) | (with_reducible refine isbl_go ?_) | (with_reducible refine if_go ?_) | (with_reducible refine isB_go ?_) | (with_reducible refine tru_go ?_) | (with_reducible refine trub_go ?_) | (with_reducible refine tri_go ?_) | (with_reducible refine asg_go ?_) | (with_reducible refine drop_go ?_) | (with_reducible refine ret_go ?_) | (with_reducible refine tup_go ?_) | (with_reducible refine cb_go ?_) | (with_reducible refine rt_int ?_) | (with_reducible refine rt_bl ?_) | (with_reducible refine rt_non ?_) | (with_reducible refine rt_tup ?_) | (with_reducible refine rt_str ?_) | (with_reducible refine rt_lst ?_) | (with_reducible refine rt_new ?_) | (with_reducible refine l1_go ?_) | (with_reducible refine l2_go ?_) | (with_reducible refine l3_go ?_) | (with_reducible refine l4_go ?_) | (with_reducible refine l5_go ?_) | (with_reducible refine l6_go ?_) | (with_reducible refine if_T ?_) | (with_reducible refine if_F ?_) | (with_reducible refine if_n ?_) | (with_reducible refine not_go ?_) | (with_reducible refine or_go ?_) | (with_reducible refine and_go ?_) | (with_reducible refine notv_go ?_) | (with_reducible refine andv_go ?_) | (with_reducible refine orv_go ?_) | (with_reducible refine iff_go ?_) | (with_reducible refine chain_go ?_) | (with_reducible refine add_go ?_) | (with_reducible refine sub_go ?_) | (with_reducible refine lt_go ?_) | (with_reducible refine gt_go ?_) | (with_reducible refine ge_go ?_) | (with_reducible refine le_go ?_) | (with_reducible refine eq_go ?_) | (with_reducible refine ne_go ?_) | (with_reducible refine eqs_go ?_) | (with_reducible refine nes_go ?_) | (with_reducible refine eqb_go ?_) | (with_reducible refine neb_go ?_) | (with_reducible refine int_go ?_) | (with_reducible refine inti_go ?_) | (with_reducible refine band_go ?_) | (with_reducible refine bor_go ?_) | (with_reducible refine iadd_go ?_) | (with_reducible refine min_go ?_) | (with_reducible refine max_go ?_) | (with_reducible refine abs_go ?_) | (with_reducible refine neg_go ?_) | (with_reducible refine bits_go ?_) | ((with_reducible apply mulg); next => first | assumption | exact .inl (.inl ⟨by omega, by omega⟩) | exact .inl (.inr ⟨by omega, by omega⟩)) | ((with_reducible apply divg); next => first | assumption | exact divok (by omega) (by omega)) | ((with_reducible apply modg); next => first | assumption | omega) | ((with_reducible apply shl1g); next => omega) | ((with_reducible apply shlng); next => first | assumption | exact .inl ⟨by omega, by omega, by omega⟩) | ((with_reducible apply shlg); next => first | assumption | exact .inl ⟨by omega, by omega, by omega⟩) | (with_reducible refine shrng ?_) | ((with_reducible apply shrg); next => first | assumption | omega) | ((with_reducible apply pow_g); next => first | assumption | exact ⟨by omega, by omega, by omega⟩) | (with_reducible refine two_go ?_) | (with_reducible refine lenl_go ?_) | (with_reducible refine lenf_go ?_) | (with_reducible refine lent_go ?_) | (with_reducible refine lenr_go ?_) | (with_reducible refine idxl_go at0 ?_) | (with_reducible refine idxt_go at0 ?_) | (with_reducible refine idxf_go at0 ?_) | (with_reducible refine idxl_go at1 ?_) | (with_reducible refine idxt_go at1 ?_) | (with_reducible refine idxf_go at1 ?_) | (with_reducible refine idxl_go at2 ?_) | (with_reducible refine idxt_go at2 ?_) | (with_reducible refine idxf_go at2 ?_) | (with_reducible refine idxl_go at3 ?_) | (with_reducible refine idxt_go at3 ?_) | (with_reducible refine idxf_go at3 ?_) | (with_reducible refine idxl_go at4 ?_) | (with_reducible refine idxt_go at4 ?_) | (with_reducible refine idxf_go at4 ?_) | (with_reducible refine idxl_go at5 ?_) | (with_reducible refine idxt_go at5 ?_) | (with_reducible refine idxf_go at5 ?_) | (with_reducible refine idxl_go at_last ?_) | ((with_reducible apply sz_go); next => exact Nat.le_of_ble_eq_true rfl) | (with_reducible refine lstk_go ?_) | (with_reducible refine newt_go ?_) | (with_reducible refine listl_go ?_) | (with_reducible refine listf_go ?_) | (with_reducible refine sl_go ?_) | (with_reducible refine nopart_go ?_) | (with_reducible refine part_go ?_) | (with_reducible refine sll_go ?_) | (with_reducible refine rev_go ?_) | (with_reducible refine mt_go ?_) | (with_reducible refine ist_set ?_) | (with_reducible refine rz1_go ?_) | (with_reducible refine raise_go ?_) | (with_reducible refine nil_s ?_) | (with_reducible refine for_go ?_) | (with_reducible refine iseq_go ?_) | (with_reducible refine skl_go ?_) | (with_reducible refine skf_go ?_) | (with_reducible refine skt_go ?_) | (with_reducible refine ir1_go ?_) | (with_reducible refine ir2_go ?_) | (with_reducible refine ir3_go ?_) | (with_reducible refine ienum_go ?_) | (with_reducible refine par2_go ?_) | (with_reducible refine par3_go ?_) | ((with_reducible apply app_set); next => first | omega | (simp only [List.length_append, List.length_cons, List.length_nil, List.length_map]; omega)) | ((with_reducible apply aug_go); next => exact rfl) | ((with_reducible apply isi_T); (next => exact rfl); (next => exact rfl)) | ((with_reducible apply isi_F); (next => exact rfl); (next => exact rfl)) | (with_reducible refine p_width (by assumption) ?_) | (with_reducible refine p_cut (by assumption) ?_) | (with_reducible refine p_gap_of (by assumption) ?_) | (with_reducible refine p_sum_of (by assumption) ?_) | ((with_reducible apply p_low_product); (next => assumption); (next => first | assumption | exact .inl (.inl ⟨by omega, by omega⟩) | exact .inl (.inr ⟨by omega, by omega⟩))) | ((with_reducible apply p_high_product); (next => assumption); (next => first | assumption | exact .inl (.inl ⟨by omega, by omega⟩) | exact .inl (.inr ⟨by omega, by omega⟩))) | ((with_reducible apply if_D); next => first | assumption | omega) | ((with_reducible apply if_N); next => first | assumption | omega) | ((with_reducible apply if_t); next => assumption) | ((with_reducible apply if_f); next => assumption) | (with_reducible refine if_dec (fun _ => ?_) (fun _ => ?_)) | (dsimp only)))
--pps
section
variable {K : PySem.W.Frag} {m : Mem} {R : ARes → Mem → Prop} {W : Nat}
theorem toPs_ints : ∀ ws : List Int, toPs (ws.map D.int) = some (ws.map PyData.int)
  | [] => by rw [List.map_nil, toPs]; rfl
  | w :: r => by rw [List.map_cons, toPs, toPs_ints r, toP]; rfl
theorem eqv_ints : ∀ a b : List Int, PyData.eqvAll (a.map PyData.int) (b.map PyData.int) = decide (a = b)
  | [], [] => rfl
  | [], _ :: _ => rfl
  | _ :: _, [] => rfl
  | x :: a, y :: b => by
    show (PyData.eqv (.int x) (.int y) && PyData.eqvAll (a.map PyData.int) (b.map PyData.int)) = _
    rw [eqv_ints a b]
    show ((x == y) && decide (a = b)) = decide (x :: a = y :: b)
    by_cases h : x = y
    · subst h; simp
    · simp [h]
theorem eqdl_go {a b : List Int} {k : KE} (h : k (.bl (decide (a = b))) m) : oEq m (res m (dl a)) (res m (dl b)) k := by
  show eqD m (dl a) (dl b) fun q => k (.bl q) m
  refine sim_eqD (n := 8) (by omega) sim_dl sim_dl (fun p q hp hq => ?_)
  rw [toP, toPs_ints] at hp hq
  cases hp; cases hq
  rw [PyData.eqv, eqv_ints]
  exact h
theorem nedl_go {a b : List Int} {k : KE} (h : k (.bl (!decide (a = b))) m) : oNe m (res m (dl a)) (res m (dl b)) k := by
  show eqD m (dl a) (dl b) fun q => k (.bl (!q)) m
  refine sim_eqD (n := 8) (by omega) sim_dl sim_dl (fun p q hp hq => ?_)
  rw [toP, toPs_ints] at hp hq
  cases hp; cases hq
  rw [PyData.eqv, eqv_ints]
  exact h
theorem eqdl0_go {a : List Int} {k : KE} (h : k (.bl (decide (a = []))) m) : oEq m (res m (dl a)) (res m (.lst [])) k := eqdl_go (b := []) h
theorem nedl0_go {a : List Int} {k : KE} (h : k (.bl (!decide (a = []))) m) : oNe m (res m (dl a)) (res m (.lst [])) k := nedl_go (b := []) h
theorem sm_seq {n : Nat} {xs : List D} (hl : xs.length ≤ 1000000) (h : ∀ x ∈ xs, Sm n x x) : Sm (n + 1) (.lst xs) (.lst xs) :=
  .seq (T := "list") (.inl rfl) rfl rfl (.inl rfl) (.inl rfl) rfl hl (fun i x y h1 h2 => by
    rw [h1] at h2
    cases h2
    exact h x (List.mem_of_getElem? h1))
theorem sm_tup {n : Nat} {xs : List D} (hl : xs.length ≤ 1000000) (h : ∀ x ∈ xs, Sm n x x) : Sm (n + 1) (.tup xs) (.tup xs) :=
  .seq (T := "tuple") (.inr rfl) rfl rfl (.inr rfl) (.inr rfl) rfl hl (fun i x y h1 h2 => by
    rw [h1] at h2
    cases h2
    exact h x (List.mem_of_getElem? h1))
theorem sm_dl {n : Nat} {ws : List Int} (hl : ws.length ≤ 1000000) : Sm (n + 2) (dl ws) (dl ws) :=
  sm_seq (by rw [List.length_map]; exact hl) (fun x hx => by
    obtain ⟨j, _, rfl⟩ := List.mem_map.mp hx
    exact .int)
theorem sm_rows {n : Nat} {l : List (Int × Int)} (hl : l.length ≤ 1000000) : Sm (n + 3) (.lst (l.map rowD)) (.lst (l.map rowD)) :=
  sm_seq (by rw [List.length_map]; exact hl) (fun x hx => by
    obtain ⟨j, _, rfl⟩ := List.mem_map.mp hx
    refine sm_tup (by show 2 ≤ 1000000; omega) (fun y hy => ?_)
    simp only [List.mem_cons, List.not_mem_nil, or_false] at hy
    rcases hy with rfl | rfl <;> exact .int)
/-- a list that may be changed, and what it is to hold -/
theorem smR_at {n : Nat} {p : Addr} {xs : List D} (hp : m p = some (.lst xs)) (hl : xs.length ≤ 1000000) (h : ∀ x ∈ xs, Sm n x x) : SmR m (n + 1) (.raw (.ref p)) (.lst xs) :=
  .seq (T := "list") (.inl rfl) (by rw [res_some hp]; rfl) rfl (.inl (by rw [res_some hp]; rfl)) (.inl rfl) rfl hl (fun i x y h1 h2 => by
    rw [h1] at h2
    cases h2
    exact .base (h x (List.mem_of_getElem? h1)))
theorem sm_row {n : Nat} {p : Int × Int} : Sm (n + 2) (rowD p) (rowD p) := sm_tup (by show 2 ≤ 1000000; omega) (fun y hy => by
    simp only [List.mem_cons, List.not_mem_nil, or_false] at hy
    rcases hy with rfl | rfl <;> exact .int)
theorem inv_same {d x y : Int} (hx : Inv W d x) (hy : Inv W d y) : x = y := Lm.inv_uniq (Int.pow_pos (by omega)) hx.h2 hy.h2 hx.h0 hx.h1 hy.h0 hy.h1
/-- the words of a number of at most 4000 words -/
theorem lw_facts {n : Int} (hW : Wd W) (h0 : 0 ≤ n) {k : Nat} (hk : k ≤ 4000) (h1 : n < (2 ^ W) ^ k) : Lm.Wok (2 ^ W) (Lm.lw (2 ^ W) 4000 n) ∧ Lm.trim (Lm.lw (2 ^ W) 4000 n) = Lm.lw (2 ^ W) 4000 n ∧ Lm.num (2 ^ W) (Lm.lw (2 ^ W) 4000 n) = n ∧ (Lm.lw (2 ^ W) 4000 n).length ≤ k := by
  have hB := hW.one
  have h2 : n < (2 ^ W) ^ 4000 := Int.lt_of_lt_of_le h1 (Lm.pow_mono (by omega) hk)
  exact ⟨Lm.lw_wok (by omega), Lm.lw_can hB h2, Lm.lw_num hB h0 h2, Lm.lw_len hB h1⟩
end
end Ab
end

section
namespace K53
open PySem PySem.Spec PyProof.Rows L2 Ab
abbrev OL : PySem.W.OpenLaw := PySem.Challenge.rw_undivided_k53_whole_from_the_low_end
def top (i : Nat) : Stmt := PySem.Challenge.pw_undivided_k53_whole_from_the_low_end.main.body.getD i (.Pass ⟨0, 0, 0, 0⟩)
def CONS : List (Str × D) := [("LEAST_WIDTH", (.int 4)), ("GREATEST_WIDTH", (.int 32))]
def EXCS : List (Str × List Str) := [("NoWidth", ["found"]), ("NoDivisor", ["found"]), ("NoLong", ["found"])]
def XS : List Str := ["NoWidth", "NoDivisor", "NoLong"]
def FS : List Str := ["found"]
abbrev mkC (K : PySem.W.Frag) (N : List Str) (i : Nat) (muts : List Nat) (rmut : Bool) (fns : List (Str × Nat × ASp)) : TC := ⟨K, N, scopeOf (top i), muts, rmut, fns, CONS, EXCS, XS, FS⟩
/-! ### _law_box: 0 great -/
def N_law_box : List Str := ["great"]
def c_law_box (K : PySem.W.Frag) : TC := mkC K N_law_box 38 [] true []
theorem t_law_box (K : PySem.W.Frag) : trB (c_law_box K) (bodyOf (top 38)) = some (w_law_box K) := by kernel_rfl
/-! ### _law_take: 0 box, 1 many, 2 digit, 3 mixed, 4 number -/
def N_law_take : List Str := ["box", "many", "digit", "mixed", "number"]
def c_law_take (K : PySem.W.Frag) : TC := mkC K N_law_take 39 [0] false []
theorem t_law_take (K : PySem.W.Frag) : trB (c_law_take K) (bodyOf (top 39)) = some (w_law_take K) := by kernel_rfl
/-! ### _law_cell: 0 script, 1 k -/
def N_law_cell : List Str := ["script", "k"]
def c_law_cell (K : PySem.W.Frag) : TC := mkC K N_law_cell 37 [] false []
theorem t_law_cell (K : PySem.W.Frag) : trB (c_law_cell K) (bodyOf (top 37)) = some (w_law_cell K) := by kernel_rfl
/-! ### _law_long: 0 box, 1 width, 2 most, 3 found, 4 ends, 5 k -/
def N_law_long : List Str := ["box", "width", "most", "found", "ends", "k"]
def c_law_long (K : PySem.W.Frag) : TC := mkC K N_law_long 43 [3] true [("_law_take", 2, sp_law_take K)]
theorem t_law_long (K : PySem.W.Frag) : trB (c_law_long K) (bodyOf (top 43)) = some (w_law_long K) := by kernel_rfl
/-! ### _law_divisor: 0 box, 1 width, 2 most, 3 some -/
def N_law_divisor : List Str := ["box", "width", "most", "some"]
def c_law_divisor (K : PySem.W.Frag) : TC := mkC K N_law_divisor 44 [] true [("_law_take", 2, sp_law_take K)]
theorem t_law_divisor (K : PySem.W.Frag) : trB (c_law_divisor K) (bodyOf (top 44)) = some (w_law_divisor K) := by kernel_rfl
/-! ### _law_words: 0 number, 1 width, 2 found, 3 turn -/
def N_law_words : List Str := ["number", "width", "found", "turn"]
def c_law_words (K : PySem.W.Frag) : TC := mkC K N_law_words 41 [2] true []
theorem t_law_words (K : PySem.W.Frag) : trB (c_law_words K) (bodyOf (top 41)) = some (w_law_words K) := by kernel_rfl
/-! ### _law_number: 0 words, 1 width, 2 found, 3 word -/
def N_law_number : List Str := ["words", "width", "found", "word"]
def c_law_number (K : PySem.W.Frag) : TC := mkC K N_law_number 42 [] true []
theorem t_law_number (K : PySem.W.Frag) : trB (c_law_number K) (bodyOf (top 42)) = some (w_law_number K) := by kernel_rfl
/-! ### _law_low: 0 width, 1 words, 2 d, 3 many, 4 rows, 5 carry, 6 by, 7 k, 8 word, 9 digit -/
def N_law_low : List Str := ["width", "words", "d", "many", "rows", "carry", "by", "k", "word", "digit"]
def c_law_low (K : PySem.W.Frag) : TC := mkC K N_law_low 45 [4] true []
theorem t_law_low (K : PySem.W.Frag) : trB (c_law_low K) (bodyOf (top 45)) = some (w_law_low K) := by kernel_rfl
/-! ### is_whole: 0 thing -/
def N_is_whole : List Str := ["thing"]
def c_is_whole (K : PySem.W.Frag) : TC := mkC K N_is_whole 8 [] true []
theorem t_is_whole (K : PySem.W.Frag) : trB (c_is_whole K) (bodyOf (top 8)) = some (w_is_whole K) := by kernel_rfl
/-! ### need_width: 0 width -/
def N_need_width : List Str := ["width"]
def c_need_width (K : PySem.W.Frag) : TC := mkC K N_need_width 9 [] true [("is_whole", 1, sp_is_whole K)]
theorem t_need_width (K : PySem.W.Frag) : trB (c_need_width K) (bodyOf (top 9)) = some (w_need_width K) := by kernel_rfl
/-! ### is_long: 0 width, 1 thing, 2 word -/
def N_is_long : List Str := ["width", "thing", "word"]
def c_is_long (K : PySem.W.Frag) : TC := mkC K N_is_long 15 [] true [("need_width", 1, sp_need_width K), ("is_whole", 1, sp_is_whole K)]
theorem t_is_long (K : PySem.W.Frag) : trB (c_is_long K) (bodyOf (top 15)) = some (w_is_long K) := by kernel_rfl
/-! ### need_long: 0 width, 1 thing -/
def N_need_long : List Str := ["width", "thing"]
def c_need_long (K : PySem.W.Frag) : TC := mkC K N_need_long 16 [] true [("is_long", 2, sp_is_long K)]
theorem t_need_long (K : PySem.W.Frag) : trB (c_need_long K) (bodyOf (top 16)) = some (w_need_long K) := by kernel_rfl
/-! ### is_between: 0 number, 1 least, 2 greatest -/
def N_is_between : List Str := ["number", "least", "greatest"]
def c_is_between (K : PySem.W.Frag) : TC := mkC K N_is_between 22 [] true [("is_whole", 1, sp_is_whole K)]
theorem t_is_between (K : PySem.W.Frag) : trB (c_is_between K) (bodyOf (top 22)) = some (w_is_between K) := by kernel_rfl
/-! ### need_divisor: 0 width, 1 d -/
def N_need_divisor : List Str := ["width", "d"]
def c_need_divisor (K : PySem.W.Frag) : TC := mkC K N_need_divisor 23 [] true [("need_width", 1, sp_need_width K), ("is_between", 3, sp_is_between K)]
theorem t_need_divisor (K : PySem.W.Frag) : trB (c_need_divisor K) (bodyOf (top 23)) = some (w_need_divisor K) := by kernel_rfl
/-! ### need_odd: 0 width, 1 d -/
def N_need_odd : List Str := ["width", "d"]
def c_need_odd (K : PySem.W.Frag) : TC := mkC K N_need_odd 30 [] true [("need_divisor", 2, sp_need_divisor K)]
theorem t_need_odd (K : PySem.W.Frag) : trB (c_need_odd K) (bodyOf (top 30)) = some (w_need_odd K) := by kernel_rfl
/-! ### cut: 0 width, 1 number -/
def N_cut : List Str := ["width", "number"]
def c_cut (K : PySem.W.Frag) : TC := mkC K N_cut 10 [] true []
theorem t_cut (K : PySem.W.Frag) : trB (c_cut K) (bodyOf (top 10)) = some (w_cut K) := by kernel_rfl
/-! ### low_product: 0 width, 1 a, 2 b -/
def N_low_product : List Str := ["width", "a", "b"]
def c_low_product (K : PySem.W.Frag) : TC := mkC K N_low_product 12 [] true [("need_width", 1, sp_need_width K), ("cut", 2, sp_cut K)]
theorem t_low_product (K : PySem.W.Frag) : trB (c_low_product K) (bodyOf (top 12)) = some (w_low_product K) := by kernel_rfl
/-! ### gap_of: 0 width, 1 a, 2 b -/
def N_gap_of : List Str := ["width", "a", "b"]
def c_gap_of (K : PySem.W.Frag) : TC := mkC K N_gap_of 11 [] true [("need_width", 1, sp_need_width K), ("cut", 2, sp_cut K)]
theorem t_gap_of (K : PySem.W.Frag) : trB (c_gap_of K) (bodyOf (top 11)) = some (w_gap_of K) := by kernel_rfl
/-! ### inverse_steps: 0 width, 1 d, 2 steps, 3 product -/
def N_inverse_steps : List Str := ["width", "d", "steps", "product"]
def c_inverse_steps (K : PySem.W.Frag) : TC := mkC K N_inverse_steps 26 [2] true [("need_divisor", 2, sp_need_divisor K), ("low_product", 3, sp_low_product K), ("gap_of", 3, sp_gap_of K)]
theorem t_inverse_steps (K : PySem.W.Frag) : trB (c_inverse_steps K) (bodyOf (top 26)) = some (w_inverse_steps K) := by kernel_rfl
/-! ### inverse: 0 width, 1 d -/
def N_inverse : List Str := ["width", "d"]
def c_inverse (K : PySem.W.Frag) : TC := mkC K N_inverse 27 [] true [("inverse_steps", 2, sp_inverse_steps K)]
theorem t_inverse (K : PySem.W.Frag) : trB (c_inverse K) (bodyOf (top 27)) = some (w_inverse K) := by kernel_rfl
/-! ### high_product: 0 width, 1 a, 2 b -/
def N_high_product : List Str := ["width", "a", "b"]
def c_high_product (K : PySem.W.Frag) : TC := mkC K N_high_product 13 [] true [("need_width", 1, sp_need_width K)]
theorem t_high_product (K : PySem.W.Frag) : trB (c_high_product K) (bodyOf (top 13)) = some (w_high_product K) := by kernel_rfl
/-! ### low_rows: 0 width, 1 words, 2 d, 3 by, 4 carry, 5 rows, 6 word, 7 left, 8 borrow, 9 digit -/
def N_low_rows : List Str := ["width", "words", "d", "by", "carry", "rows", "word", "left", "borrow", "digit"]
def c_low_rows (K : PySem.W.Frag) : TC := mkC K N_low_rows 31 [5] true [("inverse", 2, sp_inverse K), ("gap_of", 3, sp_gap_of K), ("low_product", 3, sp_low_product K), ("high_product", 3, sp_high_product K)]
theorem t_low_rows (K : PySem.W.Frag) : trB (c_low_rows K) (bodyOf (top 31)) = some (w_low_rows K) := by kernel_rfl
/-! ### low_divided: 0 width, 1 top, 2 d, 3 words -/
def N_low_divided : List Str := ["width", "top", "d", "words"]
def c_low_divided (K : PySem.W.Frag) : TC := mkC K N_low_divided 32 [] true [("need_width", 1, sp_need_width K), ("need_long", 2, sp_need_long K), ("need_odd", 2, sp_need_odd K), ("low_rows", 3, sp_low_rows K)]
theorem t_low_divided (K : PySem.W.Frag) : trB (c_low_divided K) (bodyOf (top 32)) = some (w_low_divided K) := by kernel_rfl
/-! ### _law_same: 0 told, 1 due, 2 k -/
def N_law_same : List Str := ["told", "due", "k"]
def c_law_same (K : PySem.W.Frag) (sp : ASp) : TC := mkC K N_law_same 40 [] false [("_law_same", 2, sp)]
theorem t_law_same (K : PySem.W.Frag) (sp : ASp) : trB (c_law_same K sp) (bodyOf (top 40)) = some (w_law_same K sp) := by kernel_rfl
/-! ### twos_in: 0 d, 1 twos -/
def N_twos_in : List Str := ["d", "twos"]
def c_twos_in (K : PySem.W.Frag) : TC := mkC K N_twos_in 24 [] true []
theorem t_twos_in (K : PySem.W.Frag) : trB (c_twos_in K) (bodyOf (top 24)) = some (w_twos_in K) := by kernel_rfl
/-! ### exact: 0 width, 1 d, 2 twos -/
def N_exact : List Str := ["width", "d", "twos"]
def c_exact (K : PySem.W.Frag) : TC := mkC K N_exact 28 [] true [("need_divisor", 2, sp_need_divisor K), ("twos_in", 1, sp_twos_in K), ("inverse", 2, sp_inverse K)]
theorem t_exact (K : PySem.W.Frag) : trB (c_exact K) (bodyOf (top 28)) = some (w_exact K) := by kernel_rfl
/-! ### trimmed: 0 words, 1 last -/
def N_trimmed : List Str := ["words", "last"]
def c_trimmed (K : PySem.W.Frag) : TC := mkC K N_trimmed 18 [] true []
theorem t_trimmed (K : PySem.W.Frag) : trB (c_trimmed K) (bodyOf (top 18)) = some (w_trimmed K) := by kernel_rfl
/-! ### word_at: 0 words, 1 place -/
def N_word_at : List Str := ["words", "place"]
def c_word_at (K : PySem.W.Frag) : TC := mkC K N_word_at 17 [] true []
theorem t_word_at (K : PySem.W.Frag) : trB (c_word_at K) (bodyOf (top 17)) = some (w_word_at K) := by kernel_rfl
/-! ### long_right: 0 width, 1 one, 2 many, 3 words, 4 places, 5 bits, 6 most, 7 found, 8 place, 9 both -/
def N_long_right : List Str := ["width", "one", "many", "words", "places", "bits", "most", "found", "place", "both"]
def c_long_right (K : PySem.W.Frag) : TC := mkC K N_long_right 20 [7] true [("need_long", 2, sp_need_long K), ("trimmed", 1, sp_trimmed K), ("word_at", 2, sp_word_at K)]
theorem t_long_right (K : PySem.W.Frag) : trB (c_long_right K) (bodyOf (top 20)) = some (w_long_right K) := by kernel_rfl
/-! ### divides_long: 0 width, 1 top, 2 d, 3 words, 4 twos, 5 rows -/
def N_divides_long : List Str := ["width", "top", "d", "words", "twos", "rows"]
def c_divides_long (K : PySem.W.Frag) : TC := mkC K N_divides_long 33 [] true [("need_width", 1, sp_need_width K), ("need_long", 2, sp_need_long K), ("need_divisor", 2, sp_need_divisor K), ("low_rows", 3, sp_low_rows K), ("exact", 2, sp_exact K), ("long_right", 3, sp_long_right K), ("word_at", 2, sp_word_at K)]
theorem t_divides_long (K : PySem.W.Frag) : trB (c_divides_long K) (bodyOf (top 33)) = some (w_divides_long K) := by kernel_rfl
/-! ### exact_long: 0 width, 1 top, 2 d, 3 words, 4 twos, 5 rows, 6 digit, 7 carry -/
def N_exact_long : List Str := ["width", "top", "d", "words", "twos", "rows", "digit", "carry"]
def c_exact_long (K : PySem.W.Frag) : TC := mkC K N_exact_long 34 [] true [("need_width", 1, sp_need_width K), ("need_long", 2, sp_need_long K), ("need_divisor", 2, sp_need_divisor K), ("low_rows", 3, sp_low_rows K), ("trimmed", 1, sp_trimmed K), ("divides_long", 3, sp_divides_long K), ("exact", 2, sp_exact K), ("long_right", 3, sp_long_right K)]
theorem t_exact_long (K : PySem.W.Frag) : trB (c_exact_long K) (bodyOf (top 34)) = some (w_exact_long K) := by kernel_rfl
/-! ### compared: 0 one, 1 other, 2 place -/
def N_compared : List Str := ["one", "other", "place"]
def c_compared (K : PySem.W.Frag) : TC := mkC K N_compared 19 [] true []
theorem t_compared (K : PySem.W.Frag) : trB (c_compared K) (bodyOf (top 19)) = some (w_compared K) := by kernel_rfl
/-! ### same_rest: 0 width, 1 one, 2 other, 3 d, 4 first, 5 second, 6 gap, 7 borrow, 8 place, 9 word, 10 left, 11 once, 12 twice, 13 rows -/
def N_same_rest : List Str := ["width", "one", "other", "d", "first", "second", "gap", "borrow", "place", "word", "left", "once", "twice", "rows"]
def c_same_rest (K : PySem.W.Frag) : TC := mkC K N_same_rest 35 [6] true [("need_width", 1, sp_need_width K), ("need_odd", 2, sp_need_odd K), ("low_rows", 3, sp_low_rows K), ("need_long", 2, sp_need_long K), ("compared", 2, sp_compared K), ("gap_of", 3, sp_gap_of K), ("trimmed", 1, sp_trimmed K), ("word_at", 2, sp_word_at K)]
theorem t_same_rest (K : PySem.W.Frag) : trB (c_same_rest K) (bodyOf (top 35)) = some (w_same_rest K) := by kernel_rfl
/-! ### law: 0 script, 1 k, 2 box, 3 width, 4 great, 5 many, 6 most, 7 top, 8 d, 9 way, 10 number, 11 before, 12 odd, 13 by, 14 due, 15 told, 16 last, 17 goes, 18 other, 19 digit, 20 carry -/
def N_law : List Str := ["script", "k", "box", "width", "great", "many", "most", "top", "d", "way", "number", "before", "odd", "by", "due", "told", "last", "goes", "other", "digit", "carry"]
def w_law_1 (K : PySem.W.Frag) : WS :=
  (sRet (wCon (.bl true)))
def w_law_2 (K : PySem.W.Frag) : WS :=
  (sIf (wOr (wIsB (wOp oNe (wVar 7) (wVar 11))) (wNot (wTru (wCall 2 (sr_law_same K 8) (wCons (wCall 3 (sp_low_divided K) (wCons (wVar 3) (wCons (wVar 7) (wCons (wVar 12) wNil)))) (wCons (wCall 3 (sp_law_low K) (wCons (wVar 3) (wCons (wVar 7) (wCons (wVar 12) wNil)))) wNil)))))) (sRet (wCon (.bl false))) sNil)
def w_law_3 (K : PySem.W.Frag) : WS :=
  (sSeq (sSet 18 (wIf (wIsB (wOp oEq (wCall 2 (sp_law_take K) (wCons (wVar 2) (wCons (wCon (.int 2)) wNil))) (wCon (.int 0)))) (wCall 2 (sp_law_words K) (wCons (wOp (oAdd true) (wVar 10) (wOp (oMul true) (wVar 12) (wCall 2 (sp_law_take K) (wCons (wVar 2) (wCons (wVar 5) wNil))))) (wCons (wVar 3) wNil))) (wCall 3 (sp_law_long K) (wCons (wVar 2) (wCons (wVar 3) (wCons (wVar 6) wNil))))))
  (sSeq (sSet 18 (wIf (wOr (wIsB (wOp oEq (wSl true (wVar 18) wNoPart (wPart (wCon (.int 40)))) (wLst true wNil))) (wIsB (wOp oGt (wOp oIdx (wSl true (wVar 18) wNoPart (wPart (wCon (.int 40)))) (wNeg (wCon (.int 1)))) (wCon (.int 0))))) (wSl true (wVar 18) wNoPart (wPart (wCon (.int 40)))) (wLst true wNil)))
  (sSeq (sSet 14 (wOp oEq (wOp oMod (wCB cInt (wCons (wOp oSub (wVar 10) (wCall 2 (sp_law_number K) (wCons (wVar 18) (wCons (wVar 3) wNil)))) wNil)) (wVar 12)) (wCon (.int 0))))
  (sSeq (sIf (wOr (wNot (wTru (wCall 2 (sr_law_same K 8) (wCons (wCall 4 (sp_same_rest K) (wCons (wVar 3) (wCons (wVar 7) (wCons (wVar 18) (wCons (wVar 12) wNil))))) (wCons (wVar 14) wNil))))) (wNot (wTru (wCall 2 (sr_law_same K 8) (wCons (wCall 4 (sp_same_rest K) (wCons (wVar 3) (wCons (wVar 18) (wCons (wVar 7) (wCons (wVar 12) wNil))))) (wCons (wVar 14) wNil)))))) (sRet (wCon (.bl false))) sNil)
  (w_law_2 K)))))
def w_law_4 (K : PySem.W.Frag) : WS :=
  (sIf (wNot (wTru (wCall 2 (sr_law_same K 8) (wCons (wCall 3 (sp_exact_long K) (wCons (wVar 3) (wCons (wVar 7) (wCons (wVar 13) wNil)))) (wCons (wIf (wTru (wVar 17)) (wCall 2 (sp_law_words K) (wCons (wOp oDiv (wVar 10) (wVar 13)) (wCons (wVar 3) wNil))) (wCon .non)) wNil))))) (sRet (wCon (.bl false))) sNil)
def w_law_5 (K : PySem.W.Frag) : WS :=
  (sSeq (sSet 17 (wOp oEq (wOp oMod (wCB cInt (wCons (wVar 10) wNil)) (wVar 13)) (wCon (.int 0))))
  (sSeq (sIf (wNot (wTru (wCall 2 (sr_law_same K 8) (wCons (wCall 3 (sp_divides_long K) (wCons (wVar 3) (wCons (wVar 7) (wCons (wVar 13) wNil)))) (wCons (wVar 17) wNil))))) (sRet (wCon (.bl false))) sNil)
  (w_law_4 K)))
def w_law_6 (K : PySem.W.Frag) : WS :=
  (sSeq (sFor (iSeq (wLst true (wCons (wVar 8) (wCons (wVar 12) (wCons (wCon (.int 1)) (wCons (wCon (.int 2)) wNil)))))) (gN 13) (w_law_5 K))
  (w_law_3 K))
def w_law_7 (K : PySem.W.Frag) : WS :=
  (sDrop (wMt "list" mInsert (wVar 15) (wCons (wCon (.int 0)) (wCons (wCon (.int 1)) wNil))))
def w_law_8 (K : PySem.W.Frag) : WS :=
  (sSeq (sIf (wOr (wIsB (wOp oGe (wVar 16) (wVar 13))) (wIsB (wOp oNe (wOp oEq (wVar 16) (wCon (.int 0))) (wOp oEq (wOp oMod (wCB cInt (wCons (wVar 10) wNil)) (wVar 13)) (wCon (.int 0)))))) (sRet (wCon (.bl false))) sNil)
  (w_law_7 K))
def w_law_9 (K : PySem.W.Frag) : WS :=
  (sSeq (sSet 16 (wIf (wIsB (wOp oNe (wVar 14) (wLst true wNil))) (wOp oIdx (wOp oIdx (wVar 14) (wNeg (wCon (.int 1)))) (wCon (.int 1))) (wCon (.int 0))))
  (sSeq (sIf (wIsB (wOp oNe (wOp (oMul true) (wCall 2 (sp_law_number K) (wCons (wLc true (iSeq (wVar 14)) [19, 20] (gT 2 (gs1 (gN 19) (gs1 (gN 20) gs0))) wYes (wVar 19)) (wCons (wVar 3) wNil))) (wVar 13)) (wOp (oAdd true) (wVar 10) (wOp (oMul true) (wVar 16) (wOp oShl (wCon (.int 1)) (wOp (oMul true) (wVar 3) (wCB cLen (wCons (wVar 7) wNil)))))))) (sRet (wCon (.bl false))) sNil)
  (w_law_8 K)))
def w_law_10 (K : PySem.W.Frag) : WS :=
  (sSeq (sSet 14 (wCall 3 (sp_law_low K) (wCons (wVar 3) (wCons (wVar 7) (wCons (wVar 13) wNil)))))
  (sSeq (sSet 15 (wCall 3 (sp_low_divided K) (wCons (wVar 3) (wCons (wVar 7) (wCons (wVar 13) wNil)))))
  (sSeq (sIf (wNot (wTru (wCall 2 (sr_law_same K 8) (wCons (wVar 15) (wCons (wVar 14) wNil))))) (sRet (wCon (.bl false))) sNil)
  (w_law_9 K))))
def w_law_11 (K : PySem.W.Frag) : WS :=
  (sSeq (sPar [10, 11] (wCons (wCall 2 (sp_law_number K) (wCons (wVar 7) (wCons (wVar 3) wNil))) (wCons (wCB (cList true) (wCons (wVar 7) wNil)) wNil)))
  (sSeq (sSet 12 (wIf (wIsB (wOp oEq (wOp oMod (wCB cInt (wCons (wVar 8) wNil)) (wCon (.int 2))) (wCon (.int 1)))) (wVar 8) (wIf (wIsB (wOp oLt (wOp (oAdd true) (wVar 8) (wCon (.int 1))) (wVar 5))) (wOp (oAdd true) (wVar 8) (wCon (.int 1))) (wOp oSub (wVar 8) (wCon (.int 1))))))
  (sSeq (sFor (iSeq (wLst true (wCons (wVar 12) wNil))) (gN 13) (w_law_10 K))
  (w_law_6 K))))
def w_law_12 (K : PySem.W.Frag) : WS :=
  (sSeq (sSet 2 (wCall 1 (sp_law_box K) (wCons (wCall 2 (sp_law_cell K) (wCons (wVar 0) (wCons (wVar 1) wNil))) wNil)))
  (sSeq (sPar [3, 4] (wCons (wOp (oAdd true) (wCon (.int 4)) (wCall 2 (sp_law_take K) (wCons (wVar 2) (wCons (wCon (.int 29)) wNil)))) (wCons (wOp oEq (wCall 2 (sp_law_take K) (wCons (wVar 2) (wCons (wCon (.int 8)) wNil))) (wCon (.int 0))) wNil)))
  (sSeq (sPar [5, 6] (wCons (wOp oShl (wCon (.int 1)) (wVar 3)) (wCons (wIf (wTru (wVar 4)) (wCon (.int 40)) (wCon (.int 12))) wNil)))
  (sSeq (sPar [7, 8] (wCons (wCall 3 (sp_law_long K) (wCons (wVar 2) (wCons (wVar 3) (wCons (wVar 6) wNil)))) (wCons (wCall 2 (sp_law_divisor K) (wCons (wVar 2) (wCons (wVar 3) wNil))) wNil)))
  (sSeq (sSet 9 (wCall 2 (sp_law_take K) (wCons (wVar 2) (wCons (wCon (.int 4)) wNil))))
  (sSeq (sIf (wIsB (wOp oLt (wVar 9) (wCon (.int 2)))) (sSeq (sSet 10 (wOp (oAdd true) (wOp (oMul true) (wCall 2 (sp_law_number K) (wCons (wSl true (wVar 7) wNoPart (wPart (wOp oSub (wVar 6) (wCon (.int 1))))) (wCons (wVar 3) wNil))) (wVar 8)) (wOp (oMul true) (wVar 9) (wCall 2 (sp_law_take K) (wCons (wVar 2) (wCons (wVar 8) wNil))))))
  (sSet 7 (wCall 2 (sp_law_words K) (wCons (wVar 10) (wCons (wVar 3) wNil))))) sNil)
  (w_law_11 K)))))))
def w_law (K : PySem.W.Frag) : WS :=
  (sSeq (sFor (iR1 (wCB cMax (wCons (wCon (.int 1)) (wCons (wCB cMin (wCons (wCon (.int 3)) (wCons (wCB cLen (wCons (wVar 0) wNil)) wNil))) wNil)))) (gN 1) (w_law_12 K))
  (w_law_1 K))
def c_law (K : PySem.W.Frag) : TC := mkC K N_law 46 [15] true [("_law_box", 1, sp_law_box K), ("_law_take", 2, sp_law_take K), ("_law_cell", 2, sp_law_cell K), ("_law_long", 3, sp_law_long K), ("_law_divisor", 2, sp_law_divisor K), ("_law_words", 2, sp_law_words K), ("_law_number", 2, sp_law_number K), ("_law_low", 3, sp_law_low K), ("low_divided", 3, sp_low_divided K), ("_law_same", 2, sr_law_same K 8), ("divides_long", 3, sp_divides_long K), ("exact_long", 3, sp_exact_long K), ("same_rest", 4, sp_same_rest K)]
theorem t_law (K : PySem.W.Frag) : trB (c_law K) (bodyOf (top 46)) = some (w_law K) := by kernel_rfl
def sp_law (K : PySem.W.Frag) : ASp := spOf 21 (w_law K)
end K53
end

section
namespace K53
open PySem PySem.Spec PyProof.Rows L2 Ab
theorem S_law_box : FnScope N_law_box ["great"] (scopeOf (top 38)) := ⟨rfl, rfl, rfl, by decide +kernel, rfl, by decide +kernel, by decide +kernel⟩
theorem b_law_box : BindsN "_law_box" (top 38) ["great"] := fun _ _ _ _ _ _ us hl => match us, hl with | [_], _ => rfl
theorem S_law_take : FnScope N_law_take ["box", "many"] (scopeOf (top 39)) := ⟨rfl, rfl, rfl, by decide +kernel, rfl, by decide +kernel, by decide +kernel⟩
theorem b_law_take : BindsN "_law_take" (top 39) ["box", "many"] := fun _ _ _ _ _ _ us hl => match us, hl with | [_, _], _ => rfl
theorem S_law_cell : FnScope N_law_cell ["script", "k"] (scopeOf (top 37)) := ⟨rfl, rfl, rfl, by decide +kernel, rfl, by decide +kernel, by decide +kernel⟩
theorem b_law_cell : BindsN "_law_cell" (top 37) ["script", "k"] := fun _ _ _ _ _ _ us hl => match us, hl with | [_, _], _ => rfl
theorem S_law_long : FnScope N_law_long ["box", "width", "most"] (scopeOf (top 43)) := ⟨rfl, rfl, rfl, by decide +kernel, rfl, by decide +kernel, by decide +kernel⟩
theorem b_law_long : BindsN "_law_long" (top 43) ["box", "width", "most"] := fun _ _ _ _ _ _ us hl => match us, hl with | [_, _, _], _ => rfl
theorem S_law_divisor : FnScope N_law_divisor ["box", "width"] (scopeOf (top 44)) := ⟨rfl, rfl, rfl, by decide +kernel, rfl, by decide +kernel, by decide +kernel⟩
theorem b_law_divisor : BindsN "_law_divisor" (top 44) ["box", "width"] := fun _ _ _ _ _ _ us hl => match us, hl with | [_, _], _ => rfl
theorem S_law_words : FnScope N_law_words ["number", "width"] (scopeOf (top 41)) := ⟨rfl, rfl, rfl, by decide +kernel, rfl, by decide +kernel, by decide +kernel⟩
theorem b_law_words : BindsN "_law_words" (top 41) ["number", "width"] := fun _ _ _ _ _ _ us hl => match us, hl with | [_, _], _ => rfl
theorem S_law_number : FnScope N_law_number ["words", "width"] (scopeOf (top 42)) := ⟨rfl, rfl, rfl, by decide +kernel, rfl, by decide +kernel, by decide +kernel⟩
theorem b_law_number : BindsN "_law_number" (top 42) ["words", "width"] := fun _ _ _ _ _ _ us hl => match us, hl with | [_, _], _ => rfl
theorem S_law_low : FnScope N_law_low ["width", "words", "d"] (scopeOf (top 45)) := ⟨rfl, rfl, rfl, by decide +kernel, rfl, by decide +kernel, by decide +kernel⟩
theorem b_law_low : BindsN "_law_low" (top 45) ["width", "words", "d"] := fun _ _ _ _ _ _ us hl => match us, hl with | [_, _, _], _ => rfl
theorem S_is_whole : FnScope N_is_whole ["thing"] (scopeOf (top 8)) := ⟨rfl, rfl, rfl, by decide +kernel, rfl, by decide +kernel, by decide +kernel⟩
theorem b_is_whole : BindsN "is_whole" (top 8) ["thing"] := fun _ _ _ _ _ _ us hl => match us, hl with | [_], _ => rfl
theorem S_need_width : FnScope N_need_width ["width"] (scopeOf (top 9)) := ⟨rfl, rfl, rfl, by decide +kernel, rfl, by decide +kernel, by decide +kernel⟩
theorem b_need_width : BindsN "need_width" (top 9) ["width"] := fun _ _ _ _ _ _ us hl => match us, hl with | [_], _ => rfl
theorem S_is_long : FnScope N_is_long ["width", "thing"] (scopeOf (top 15)) := ⟨rfl, rfl, rfl, by decide +kernel, rfl, by decide +kernel, by decide +kernel⟩
theorem b_is_long : BindsN "is_long" (top 15) ["width", "thing"] := fun _ _ _ _ _ _ us hl => match us, hl with | [_, _], _ => rfl
theorem S_need_long : FnScope N_need_long ["width", "thing"] (scopeOf (top 16)) := ⟨rfl, rfl, rfl, by decide +kernel, rfl, by decide +kernel, by decide +kernel⟩
theorem b_need_long : BindsN "need_long" (top 16) ["width", "thing"] := fun _ _ _ _ _ _ us hl => match us, hl with | [_, _], _ => rfl
theorem S_is_between : FnScope N_is_between ["number", "least", "greatest"] (scopeOf (top 22)) := ⟨rfl, rfl, rfl, by decide +kernel, rfl, by decide +kernel, by decide +kernel⟩
theorem b_is_between : BindsN "is_between" (top 22) ["number", "least", "greatest"] := fun _ _ _ _ _ _ us hl => match us, hl with | [_, _, _], _ => rfl
theorem S_need_divisor : FnScope N_need_divisor ["width", "d"] (scopeOf (top 23)) := ⟨rfl, rfl, rfl, by decide +kernel, rfl, by decide +kernel, by decide +kernel⟩
theorem b_need_divisor : BindsN "need_divisor" (top 23) ["width", "d"] := fun _ _ _ _ _ _ us hl => match us, hl with | [_, _], _ => rfl
theorem S_need_odd : FnScope N_need_odd ["width", "d"] (scopeOf (top 30)) := ⟨rfl, rfl, rfl, by decide +kernel, rfl, by decide +kernel, by decide +kernel⟩
theorem b_need_odd : BindsN "need_odd" (top 30) ["width", "d"] := fun _ _ _ _ _ _ us hl => match us, hl with | [_, _], _ => rfl
theorem S_cut : FnScope N_cut ["width", "number"] (scopeOf (top 10)) := ⟨rfl, rfl, rfl, by decide +kernel, rfl, by decide +kernel, by decide +kernel⟩
theorem b_cut : BindsN "cut" (top 10) ["width", "number"] := fun _ _ _ _ _ _ us hl => match us, hl with | [_, _], _ => rfl
theorem S_low_product : FnScope N_low_product ["width", "a", "b"] (scopeOf (top 12)) := ⟨rfl, rfl, rfl, by decide +kernel, rfl, by decide +kernel, by decide +kernel⟩
theorem b_low_product : BindsN "low_product" (top 12) ["width", "a", "b"] := fun _ _ _ _ _ _ us hl => match us, hl with | [_, _, _], _ => rfl
theorem S_gap_of : FnScope N_gap_of ["width", "a", "b"] (scopeOf (top 11)) := ⟨rfl, rfl, rfl, by decide +kernel, rfl, by decide +kernel, by decide +kernel⟩
theorem b_gap_of : BindsN "gap_of" (top 11) ["width", "a", "b"] := fun _ _ _ _ _ _ us hl => match us, hl with | [_, _, _], _ => rfl
theorem S_inverse_steps : FnScope N_inverse_steps ["width", "d"] (scopeOf (top 26)) := ⟨rfl, rfl, rfl, by decide +kernel, rfl, by decide +kernel, by decide +kernel⟩
theorem b_inverse_steps : BindsN "inverse_steps" (top 26) ["width", "d"] := fun _ _ _ _ _ _ us hl => match us, hl with | [_, _], _ => rfl
theorem S_inverse : FnScope N_inverse ["width", "d"] (scopeOf (top 27)) := ⟨rfl, rfl, rfl, by decide +kernel, rfl, by decide +kernel, by decide +kernel⟩
theorem b_inverse : BindsN "inverse" (top 27) ["width", "d"] := fun _ _ _ _ _ _ us hl => match us, hl with | [_, _], _ => rfl
theorem S_high_product : FnScope N_high_product ["width", "a", "b"] (scopeOf (top 13)) := ⟨rfl, rfl, rfl, by decide +kernel, rfl, by decide +kernel, by decide +kernel⟩
theorem b_high_product : BindsN "high_product" (top 13) ["width", "a", "b"] := fun _ _ _ _ _ _ us hl => match us, hl with | [_, _, _], _ => rfl
theorem S_low_rows : FnScope N_low_rows ["width", "words", "d"] (scopeOf (top 31)) := ⟨rfl, rfl, rfl, by decide +kernel, rfl, by decide +kernel, by decide +kernel⟩
theorem b_low_rows : BindsN "low_rows" (top 31) ["width", "words", "d"] := fun _ _ _ _ _ _ us hl => match us, hl with | [_, _, _], _ => rfl
theorem S_low_divided : FnScope N_low_divided ["width", "top", "d"] (scopeOf (top 32)) := ⟨rfl, rfl, rfl, by decide +kernel, rfl, by decide +kernel, by decide +kernel⟩
theorem b_low_divided : BindsN "low_divided" (top 32) ["width", "top", "d"] := fun _ _ _ _ _ _ us hl => match us, hl with | [_, _, _], _ => rfl
theorem S_law_same : FnScope N_law_same ["told", "due"] (scopeOf (top 40)) := ⟨rfl, rfl, rfl, by decide +kernel, rfl, by decide +kernel, by decide +kernel⟩
theorem b_law_same : BindsN "_law_same" (top 40) ["told", "due"] := fun _ _ _ _ _ _ us hl => match us, hl with | [_, _], _ => rfl
theorem S_twos_in : FnScope N_twos_in ["d"] (scopeOf (top 24)) := ⟨rfl, rfl, rfl, by decide +kernel, rfl, by decide +kernel, by decide +kernel⟩
theorem b_twos_in : BindsN "twos_in" (top 24) ["d"] := fun _ _ _ _ _ _ us hl => match us, hl with | [_], _ => rfl
theorem S_exact : FnScope N_exact ["width", "d"] (scopeOf (top 28)) := ⟨rfl, rfl, rfl, by decide +kernel, rfl, by decide +kernel, by decide +kernel⟩
theorem b_exact : BindsN "exact" (top 28) ["width", "d"] := fun _ _ _ _ _ _ us hl => match us, hl with | [_, _], _ => rfl
theorem S_trimmed : FnScope N_trimmed ["words"] (scopeOf (top 18)) := ⟨rfl, rfl, rfl, by decide +kernel, rfl, by decide +kernel, by decide +kernel⟩
theorem b_trimmed : BindsN "trimmed" (top 18) ["words"] := fun _ _ _ _ _ _ us hl => match us, hl with | [_], _ => rfl
theorem S_word_at : FnScope N_word_at ["words", "place"] (scopeOf (top 17)) := ⟨rfl, rfl, rfl, by decide +kernel, rfl, by decide +kernel, by decide +kernel⟩
theorem b_word_at : BindsN "word_at" (top 17) ["words", "place"] := fun _ _ _ _ _ _ us hl => match us, hl with | [_, _], _ => rfl
theorem S_long_right : FnScope N_long_right ["width", "one", "many"] (scopeOf (top 20)) := ⟨rfl, rfl, rfl, by decide +kernel, rfl, by decide +kernel, by decide +kernel⟩
theorem b_long_right : BindsN "long_right" (top 20) ["width", "one", "many"] := fun _ _ _ _ _ _ us hl => match us, hl with | [_, _, _], _ => rfl
theorem S_divides_long : FnScope N_divides_long ["width", "top", "d"] (scopeOf (top 33)) := ⟨rfl, rfl, rfl, by decide +kernel, rfl, by decide +kernel, by decide +kernel⟩
theorem b_divides_long : BindsN "divides_long" (top 33) ["width", "top", "d"] := fun _ _ _ _ _ _ us hl => match us, hl with | [_, _, _], _ => rfl
theorem S_exact_long : FnScope N_exact_long ["width", "top", "d"] (scopeOf (top 34)) := ⟨rfl, rfl, rfl, by decide +kernel, rfl, by decide +kernel, by decide +kernel⟩
theorem b_exact_long : BindsN "exact_long" (top 34) ["width", "top", "d"] := fun _ _ _ _ _ _ us hl => match us, hl with | [_, _, _], _ => rfl
theorem S_compared : FnScope N_compared ["one", "other"] (scopeOf (top 19)) := ⟨rfl, rfl, rfl, by decide +kernel, rfl, by decide +kernel, by decide +kernel⟩
theorem b_compared : BindsN "compared" (top 19) ["one", "other"] := fun _ _ _ _ _ _ us hl => match us, hl with | [_, _], _ => rfl
theorem S_same_rest : FnScope N_same_rest ["width", "one", "other", "d"] (scopeOf (top 35)) := ⟨rfl, rfl, rfl, by decide +kernel, rfl, by decide +kernel, by decide +kernel⟩
theorem b_same_rest : BindsN "same_rest" (top 35) ["width", "one", "other", "d"] := fun _ _ _ _ _ _ us hl => match us, hl with | [_, _, _, _], _ => rfl
theorem S_law : FnScope N_law ["script"] (scopeOf (top 46)) := ⟨rfl, rfl, rfl, by decide +kernel, rfl, by decide +kernel, by decide +kernel⟩
theorem b_law : BindsN "law" (top 46) ["script"] := fun _ _ _ _ _ _ us hl => match us, hl with | [_], _ => rfl
structure Al (K : PySem.W.Frag) (mg : Str → Option Value) : Prop where
  d_law_box : DF K mg "_law_box" (top 38)
  d_law_take : DF K mg "_law_take" (top 39)
  d_law_cell : DF K mg "_law_cell" (top 37)
  d_law_long : DF K mg "_law_long" (top 43)
  d_law_divisor : DF K mg "_law_divisor" (top 44)
  d_law_words : DF K mg "_law_words" (top 41)
  d_law_number : DF K mg "_law_number" (top 42)
  d_law_low : DF K mg "_law_low" (top 45)
  d_is_whole : DF K mg "is_whole" (top 8)
  d_need_width : DF K mg "need_width" (top 9)
  d_is_long : DF K mg "is_long" (top 15)
  d_need_long : DF K mg "need_long" (top 16)
  d_is_between : DF K mg "is_between" (top 22)
  d_need_divisor : DF K mg "need_divisor" (top 23)
  d_need_odd : DF K mg "need_odd" (top 30)
  d_cut : DF K mg "cut" (top 10)
  d_low_product : DF K mg "low_product" (top 12)
  d_gap_of : DF K mg "gap_of" (top 11)
  d_inverse_steps : DF K mg "inverse_steps" (top 26)
  d_inverse : DF K mg "inverse" (top 27)
  d_high_product : DF K mg "high_product" (top 13)
  d_low_rows : DF K mg "low_rows" (top 31)
  d_low_divided : DF K mg "low_divided" (top 32)
  d_law_same : DF K mg "_law_same" (top 40)
  d_twos_in : DF K mg "twos_in" (top 24)
  d_exact : DF K mg "exact" (top 28)
  d_trimmed : DF K mg "trimmed" (top 18)
  d_word_at : DF K mg "word_at" (top 17)
  d_long_right : DF K mg "long_right" (top 20)
  d_divides_long : DF K mg "divides_long" (top 33)
  d_exact_long : DF K mg "exact_long" (top 34)
  d_compared : DF K mg "compared" (top 19)
  d_same_rest : DF K mg "same_rest" (top 35)
  d_law : DF K mg "law" (top 46)
section
variable {P : Program} {w : World} {K : PySem.W.Frag} {mg : Str → Option Value} {base : Heap}
theorem a_law_box (A : Al K mg) (G : Gen P w K mg base CONS EXCS XS FS) : CalA P w K mg base 3 "_law_box" 1 (sp_law_box K) := cal_of (k := 2) A.d_law_box (G.tab rfl rfl rfl rfl (by omega) .nil) rfl rfl S_law_box b_law_box (t_law_box K)
theorem a_law_take (A : Al K mg) (G : Gen P w K mg base CONS EXCS XS FS) : CalA P w K mg base 3 "_law_take" 2 (sp_law_take K) := cal_of (k := 2) A.d_law_take (G.tab rfl rfl rfl rfl (by omega) .nil) rfl rfl S_law_take b_law_take (t_law_take K)
theorem a_law_cell (A : Al K mg) (G : Gen P w K mg base CONS EXCS XS FS) : CalA P w K mg base 3 "_law_cell" 2 (sp_law_cell K) := cal_of (k := 2) A.d_law_cell (G.tab rfl rfl rfl rfl (by omega) .nil) rfl rfl S_law_cell b_law_cell (t_law_cell K)
theorem a_law_long (A : Al K mg) (G : Gen P w K mg base CONS EXCS XS FS) : CalA P w K mg base 4 "_law_long" 3 (sp_law_long K) := cal_of (k := 3) A.d_law_long (G.tab rfl rfl rfl rfl (by omega) (.cons (a_law_take A G) (by omega) .nil)) rfl rfl S_law_long b_law_long (t_law_long K)
theorem a_law_divisor (A : Al K mg) (G : Gen P w K mg base CONS EXCS XS FS) : CalA P w K mg base 4 "_law_divisor" 2 (sp_law_divisor K) := cal_of (k := 3) A.d_law_divisor (G.tab rfl rfl rfl rfl (by omega) (.cons (a_law_take A G) (by omega) .nil)) rfl rfl S_law_divisor b_law_divisor (t_law_divisor K)
theorem a_law_words (A : Al K mg) (G : Gen P w K mg base CONS EXCS XS FS) : CalA P w K mg base 3 "_law_words" 2 (sp_law_words K) := cal_of (k := 2) A.d_law_words (G.tab rfl rfl rfl rfl (by omega) .nil) rfl rfl S_law_words b_law_words (t_law_words K)
theorem a_law_number (A : Al K mg) (G : Gen P w K mg base CONS EXCS XS FS) : CalA P w K mg base 3 "_law_number" 2 (sp_law_number K) := cal_of (k := 2) A.d_law_number (G.tab rfl rfl rfl rfl (by omega) .nil) rfl rfl S_law_number b_law_number (t_law_number K)
theorem a_law_low (A : Al K mg) (G : Gen P w K mg base CONS EXCS XS FS) : CalA P w K mg base 3 "_law_low" 3 (sp_law_low K) := cal_of (k := 2) A.d_law_low (G.tab rfl rfl rfl rfl (by omega) .nil) rfl rfl S_law_low b_law_low (t_law_low K)
theorem a_is_whole (A : Al K mg) (G : Gen P w K mg base CONS EXCS XS FS) : CalA P w K mg base 3 "is_whole" 1 (sp_is_whole K) := cal_of (k := 2) A.d_is_whole (G.tab rfl rfl rfl rfl (by omega) .nil) rfl rfl S_is_whole b_is_whole (t_is_whole K)
theorem a_need_width (A : Al K mg) (G : Gen P w K mg base CONS EXCS XS FS) : CalA P w K mg base 4 "need_width" 1 (sp_need_width K) := cal_of (k := 3) A.d_need_width (G.tab rfl rfl rfl rfl (by omega) (.cons (a_is_whole A G) (by omega) .nil)) rfl rfl S_need_width b_need_width (t_need_width K)
theorem a_is_long (A : Al K mg) (G : Gen P w K mg base CONS EXCS XS FS) : CalA P w K mg base 5 "is_long" 2 (sp_is_long K) := cal_of (k := 4) A.d_is_long (G.tab rfl rfl rfl rfl (by omega) (.cons (a_need_width A G) (by omega) (.cons (a_is_whole A G) (by omega) .nil))) rfl rfl S_is_long b_is_long (t_is_long K)
theorem a_need_long (A : Al K mg) (G : Gen P w K mg base CONS EXCS XS FS) : CalA P w K mg base 6 "need_long" 2 (sp_need_long K) := cal_of (k := 5) A.d_need_long (G.tab rfl rfl rfl rfl (by omega) (.cons (a_is_long A G) (by omega) .nil)) rfl rfl S_need_long b_need_long (t_need_long K)
theorem a_is_between (A : Al K mg) (G : Gen P w K mg base CONS EXCS XS FS) : CalA P w K mg base 4 "is_between" 3 (sp_is_between K) := cal_of (k := 3) A.d_is_between (G.tab rfl rfl rfl rfl (by omega) (.cons (a_is_whole A G) (by omega) .nil)) rfl rfl S_is_between b_is_between (t_is_between K)
theorem a_need_divisor (A : Al K mg) (G : Gen P w K mg base CONS EXCS XS FS) : CalA P w K mg base 5 "need_divisor" 2 (sp_need_divisor K) := cal_of (k := 4) A.d_need_divisor (G.tab rfl rfl rfl rfl (by omega) (.cons (a_need_width A G) (by omega) (.cons (a_is_between A G) (by omega) .nil))) rfl rfl S_need_divisor b_need_divisor (t_need_divisor K)
theorem a_need_odd (A : Al K mg) (G : Gen P w K mg base CONS EXCS XS FS) : CalA P w K mg base 6 "need_odd" 2 (sp_need_odd K) := cal_of (k := 5) A.d_need_odd (G.tab rfl rfl rfl rfl (by omega) (.cons (a_need_divisor A G) (by omega) .nil)) rfl rfl S_need_odd b_need_odd (t_need_odd K)
theorem a_cut (A : Al K mg) (G : Gen P w K mg base CONS EXCS XS FS) : CalA P w K mg base 3 "cut" 2 (sp_cut K) := cal_of (k := 2) A.d_cut (G.tab rfl rfl rfl rfl (by omega) .nil) rfl rfl S_cut b_cut (t_cut K)
theorem a_low_product (A : Al K mg) (G : Gen P w K mg base CONS EXCS XS FS) : CalA P w K mg base 5 "low_product" 3 (sp_low_product K) := cal_of (k := 4) A.d_low_product (G.tab rfl rfl rfl rfl (by omega) (.cons (a_need_width A G) (by omega) (.cons (a_cut A G) (by omega) .nil))) rfl rfl S_low_product b_low_product (t_low_product K)
theorem a_gap_of (A : Al K mg) (G : Gen P w K mg base CONS EXCS XS FS) : CalA P w K mg base 5 "gap_of" 3 (sp_gap_of K) := cal_of (k := 4) A.d_gap_of (G.tab rfl rfl rfl rfl (by omega) (.cons (a_need_width A G) (by omega) (.cons (a_cut A G) (by omega) .nil))) rfl rfl S_gap_of b_gap_of (t_gap_of K)
theorem a_inverse_steps (A : Al K mg) (G : Gen P w K mg base CONS EXCS XS FS) : CalA P w K mg base 6 "inverse_steps" 2 (sp_inverse_steps K) := cal_of (k := 5) A.d_inverse_steps (G.tab rfl rfl rfl rfl (by omega) (.cons (a_need_divisor A G) (by omega) (.cons (a_low_product A G) (by omega) (.cons (a_gap_of A G) (by omega) .nil)))) rfl rfl S_inverse_steps b_inverse_steps (t_inverse_steps K)
theorem a_inverse (A : Al K mg) (G : Gen P w K mg base CONS EXCS XS FS) : CalA P w K mg base 7 "inverse" 2 (sp_inverse K) := cal_of (k := 6) A.d_inverse (G.tab rfl rfl rfl rfl (by omega) (.cons (a_inverse_steps A G) (by omega) .nil)) rfl rfl S_inverse b_inverse (t_inverse K)
theorem a_high_product (A : Al K mg) (G : Gen P w K mg base CONS EXCS XS FS) : CalA P w K mg base 5 "high_product" 3 (sp_high_product K) := cal_of (k := 4) A.d_high_product (G.tab rfl rfl rfl rfl (by omega) (.cons (a_need_width A G) (by omega) .nil)) rfl rfl S_high_product b_high_product (t_high_product K)
theorem a_low_rows (A : Al K mg) (G : Gen P w K mg base CONS EXCS XS FS) : CalA P w K mg base 8 "low_rows" 3 (sp_low_rows K) := cal_of (k := 7) A.d_low_rows (G.tab rfl rfl rfl rfl (by omega) (.cons (a_inverse A G) (by omega) (.cons (a_gap_of A G) (by omega) (.cons (a_low_product A G) (by omega) (.cons (a_high_product A G) (by omega) .nil))))) rfl rfl S_low_rows b_low_rows (t_low_rows K)
theorem a_low_divided (A : Al K mg) (G : Gen P w K mg base CONS EXCS XS FS) : CalA P w K mg base 9 "low_divided" 3 (sp_low_divided K) := cal_of (k := 8) A.d_low_divided (G.tab rfl rfl rfl rfl (by omega) (.cons (a_need_width A G) (by omega) (.cons (a_need_long A G) (by omega) (.cons (a_need_odd A G) (by omega) (.cons (a_low_rows A G) (by omega) .nil))))) rfl rfl S_low_divided b_low_divided (t_low_divided K)
theorem a_law_same (A : Al K mg) (G : Gen P w K mg base CONS EXCS XS FS) : ∀ n, CalA P w K mg base (3 + n) "_law_same" 2 (sr_law_same K n)
  | 0 => cal_none A.d_law_same b_law_same
  | n + 1 => cal_of (k := 3 + n) A.d_law_same (G.tab rfl rfl rfl rfl (by omega) (.cons (a_law_same A G n) (Nat.le_refl _) .nil)) rfl rfl S_law_same b_law_same (t_law_same K (sr_law_same K n))
theorem a_twos_in (A : Al K mg) (G : Gen P w K mg base CONS EXCS XS FS) : CalA P w K mg base 3 "twos_in" 1 (sp_twos_in K) := cal_of (k := 2) A.d_twos_in (G.tab rfl rfl rfl rfl (by omega) .nil) rfl rfl S_twos_in b_twos_in (t_twos_in K)
theorem a_exact (A : Al K mg) (G : Gen P w K mg base CONS EXCS XS FS) : CalA P w K mg base 8 "exact" 2 (sp_exact K) := cal_of (k := 7) A.d_exact (G.tab rfl rfl rfl rfl (by omega) (.cons (a_need_divisor A G) (by omega) (.cons (a_twos_in A G) (by omega) (.cons (a_inverse A G) (by omega) .nil)))) rfl rfl S_exact b_exact (t_exact K)
theorem a_trimmed (A : Al K mg) (G : Gen P w K mg base CONS EXCS XS FS) : CalA P w K mg base 3 "trimmed" 1 (sp_trimmed K) := cal_of (k := 2) A.d_trimmed (G.tab rfl rfl rfl rfl (by omega) .nil) rfl rfl S_trimmed b_trimmed (t_trimmed K)
theorem a_word_at (A : Al K mg) (G : Gen P w K mg base CONS EXCS XS FS) : CalA P w K mg base 3 "word_at" 2 (sp_word_at K) := cal_of (k := 2) A.d_word_at (G.tab rfl rfl rfl rfl (by omega) .nil) rfl rfl S_word_at b_word_at (t_word_at K)
theorem a_long_right (A : Al K mg) (G : Gen P w K mg base CONS EXCS XS FS) : CalA P w K mg base 7 "long_right" 3 (sp_long_right K) := cal_of (k := 6) A.d_long_right (G.tab rfl rfl rfl rfl (by omega) (.cons (a_need_long A G) (by omega) (.cons (a_trimmed A G) (by omega) (.cons (a_word_at A G) (by omega) .nil)))) rfl rfl S_long_right b_long_right (t_long_right K)
theorem a_divides_long (A : Al K mg) (G : Gen P w K mg base CONS EXCS XS FS) : CalA P w K mg base 9 "divides_long" 3 (sp_divides_long K) := cal_of (k := 8) A.d_divides_long (G.tab rfl rfl rfl rfl (by omega) (.cons (a_need_width A G) (by omega) (.cons (a_need_long A G) (by omega) (.cons (a_need_divisor A G) (by omega) (.cons (a_low_rows A G) (by omega) (.cons (a_exact A G) (by omega) (.cons (a_long_right A G) (by omega) (.cons (a_word_at A G) (by omega) .nil)))))))) rfl rfl S_divides_long b_divides_long (t_divides_long K)
theorem a_exact_long (A : Al K mg) (G : Gen P w K mg base CONS EXCS XS FS) : CalA P w K mg base 10 "exact_long" 3 (sp_exact_long K) := cal_of (k := 9) A.d_exact_long (G.tab rfl rfl rfl rfl (by omega) (.cons (a_need_width A G) (by omega) (.cons (a_need_long A G) (by omega) (.cons (a_need_divisor A G) (by omega) (.cons (a_low_rows A G) (by omega) (.cons (a_trimmed A G) (by omega) (.cons (a_divides_long A G) (by omega) (.cons (a_exact A G) (by omega) (.cons (a_long_right A G) (by omega) .nil))))))))) rfl rfl S_exact_long b_exact_long (t_exact_long K)
theorem a_compared (A : Al K mg) (G : Gen P w K mg base CONS EXCS XS FS) : CalA P w K mg base 3 "compared" 2 (sp_compared K) := cal_of (k := 2) A.d_compared (G.tab rfl rfl rfl rfl (by omega) .nil) rfl rfl S_compared b_compared (t_compared K)
theorem a_same_rest (A : Al K mg) (G : Gen P w K mg base CONS EXCS XS FS) : CalA P w K mg base 9 "same_rest" 4 (sp_same_rest K) := cal_of (k := 8) A.d_same_rest (G.tab rfl rfl rfl rfl (by omega) (.cons (a_need_width A G) (by omega) (.cons (a_need_odd A G) (by omega) (.cons (a_low_rows A G) (by omega) (.cons (a_need_long A G) (by omega) (.cons (a_compared A G) (by omega) (.cons (a_gap_of A G) (by omega) (.cons (a_trimmed A G) (by omega) (.cons (a_word_at A G) (by omega) .nil))))))))) rfl rfl S_same_rest b_same_rest (t_same_rest K)
theorem a_law (A : Al K mg) (G : Gen P w K mg base CONS EXCS XS FS) {f : Addr} {fd : FuncData} (F : FunD K "law" "law" (argsOf (top 46)) (bodyOf (top 46)) (scopeOf (top 46)) [] [] f fd) : FnA P w K mg base 12 f fd ["script"] (toSp K 1 (sp_law K)) :=
  law_of (k := 11) A.d_law (G.tab rfl rfl rfl rfl (by omega) (.cons (a_law_box A G) (by omega) (.cons (a_law_take A G) (by omega) (.cons (a_law_cell A G) (by omega) (.cons (a_law_long A G) (by omega) (.cons (a_law_divisor A G) (by omega) (.cons (a_law_words A G) (by omega) (.cons (a_law_number A G) (by omega) (.cons (a_law_low A G) (by omega) (.cons (a_low_divided A G) (by omega) (.cons (a_law_same A G 8) (by omega) (.cons (a_divides_long A G) (by omega) (.cons (a_exact_long A G) (by omega) (.cons (a_same_rest A G) (by omega) .nil)))))))))))))) rfl rfl S_law (t_law K) F
end
def fa0 : List He.Fa := [.free "abs", .free "len", .free "max", .free "min", .free "sum", .free "divmod", .free "isinstance", .free "repr", .free "any", .free "all", .free "int", .free "str", .free "list", .free "tuple", .free "bool", .free "dict", .free "range", .free "enumerate", .free "zip", .glo "_law_box", .glo "_law_take", .glo "_law_cell", .glo "_law_long", .glo "_law_divisor", .glo "_law_words", .glo "_law_number", .glo "_law_low", .glo "is_whole", .glo "need_width", .glo "is_long"]
def fa1 : List He.Fa := [.glo "need_long", .glo "is_between", .glo "need_divisor", .glo "need_odd", .glo "cut", .glo "low_product", .glo "gap_of", .glo "inverse_steps", .glo "inverse", .glo "high_product", .glo "low_rows", .glo "low_divided", .glo "_law_same", .glo "twos_in", .glo "exact", .glo "trimmed", .glo "word_at", .glo "long_right", .glo "divides_long", .glo "exact_long", .glo "compared", .glo "same_rest", .glo "law", .glo "NoWidth", .glo "NoDivisor", .glo "NoLong", .glo "WiseError", .int "LEAST_WIDTH" 4, .int "GREATEST_WIDTH" 32]
def fa : List He.Fa := fa0 ++ fa1
def fn0 : List He.DefD := [⟨("_law_box", none), "_law_box", "_law_box", argsOf (top 38), bodyOf (top 38), scopeOf (top 38), [], []⟩, ⟨("_law_take", none), "_law_take", "_law_take", argsOf (top 39), bodyOf (top 39), scopeOf (top 39), [], []⟩, ⟨("_law_cell", none), "_law_cell", "_law_cell", argsOf (top 37), bodyOf (top 37), scopeOf (top 37), [], []⟩, ⟨("_law_long", none), "_law_long", "_law_long", argsOf (top 43), bodyOf (top 43), scopeOf (top 43), [], []⟩, ⟨("_law_divisor", none), "_law_divisor", "_law_divisor", argsOf (top 44), bodyOf (top 44), scopeOf (top 44), [], []⟩, ⟨("_law_words", none), "_law_words", "_law_words", argsOf (top 41), bodyOf (top 41), scopeOf (top 41), [], []⟩, ⟨("_law_number", none), "_law_number", "_law_number", argsOf (top 42), bodyOf (top 42), scopeOf (top 42), [], []⟩, ⟨("_law_low", none), "_law_low", "_law_low", argsOf (top 45), bodyOf (top 45), scopeOf (top 45), [], []⟩, ⟨("is_whole", none), "is_whole", "is_whole", argsOf (top 8), bodyOf (top 8), scopeOf (top 8), [], []⟩, ⟨("need_width", none), "need_width", "need_width", argsOf (top 9), bodyOf (top 9), scopeOf (top 9), [], []⟩, ⟨("is_long", none), "is_long", "is_long", argsOf (top 15), bodyOf (top 15), scopeOf (top 15), [], []⟩, ⟨("need_long", none), "need_long", "need_long", argsOf (top 16), bodyOf (top 16), scopeOf (top 16), [], []⟩, ⟨("is_between", none), "is_between", "is_between", argsOf (top 22), bodyOf (top 22), scopeOf (top 22), [], []⟩, ⟨("need_divisor", none), "need_divisor", "need_divisor", argsOf (top 23), bodyOf (top 23), scopeOf (top 23), [], []⟩, ⟨("need_odd", none), "need_odd", "need_odd", argsOf (top 30), bodyOf (top 30), scopeOf (top 30), [], []⟩, ⟨("cut", none), "cut", "cut", argsOf (top 10), bodyOf (top 10), scopeOf (top 10), [], []⟩, ⟨("low_product", none), "low_product", "low_product", argsOf (top 12), bodyOf (top 12), scopeOf (top 12), [], []⟩, ⟨("gap_of", none), "gap_of", "gap_of", argsOf (top 11), bodyOf (top 11), scopeOf (top 11), [], []⟩, ⟨("inverse_steps", none), "inverse_steps", "inverse_steps", argsOf (top 26), bodyOf (top 26), scopeOf (top 26), [], []⟩, ⟨("inverse", none), "inverse", "inverse", argsOf (top 27), bodyOf (top 27), scopeOf (top 27), [], []⟩, ⟨("high_product", none), "high_product", "high_product", argsOf (top 13), bodyOf (top 13), scopeOf (top 13), [], []⟩, ⟨("low_rows", none), "low_rows", "low_rows", argsOf (top 31), bodyOf (top 31), scopeOf (top 31), [], []⟩, ⟨("low_divided", none), "low_divided", "low_divided", argsOf (top 32), bodyOf (top 32), scopeOf (top 32), [], []⟩, ⟨("_law_same", none), "_law_same", "_law_same", argsOf (top 40), bodyOf (top 40), scopeOf (top 40), [], []⟩, ⟨("twos_in", none), "twos_in", "twos_in", argsOf (top 24), bodyOf (top 24), scopeOf (top 24), [], []⟩, ⟨("exact", none), "exact", "exact", argsOf (top 28), bodyOf (top 28), scopeOf (top 28), [], []⟩, ⟨("trimmed", none), "trimmed", "trimmed", argsOf (top 18), bodyOf (top 18), scopeOf (top 18), [], []⟩, ⟨("word_at", none), "word_at", "word_at", argsOf (top 17), bodyOf (top 17), scopeOf (top 17), [], []⟩, ⟨("long_right", none), "long_right", "long_right", argsOf (top 20), bodyOf (top 20), scopeOf (top 20), [], []⟩, ⟨("divides_long", none), "divides_long", "divides_long", argsOf (top 33), bodyOf (top 33), scopeOf (top 33), [], []⟩]
def fn1 : List He.DefD := [⟨("exact_long", none), "exact_long", "exact_long", argsOf (top 34), bodyOf (top 34), scopeOf (top 34), [], []⟩, ⟨("compared", none), "compared", "compared", argsOf (top 19), bodyOf (top 19), scopeOf (top 19), [], []⟩, ⟨("same_rest", none), "same_rest", "same_rest", argsOf (top 35), bodyOf (top 35), scopeOf (top 35), [], []⟩, ⟨("law", none), "law", "law", argsOf (top 46), bodyOf (top 46), scopeOf (top 46), [], []⟩, ⟨("NoWidth", some "__init__"), "__init__", "NoWidth.__init__", argsOf (inCls (top 2) 0), bodyOf (inCls (top 2) 0), scopeOf (inCls (top 2) 0), [], []⟩, ⟨("NoDivisor", some "__init__"), "__init__", "NoDivisor.__init__", argsOf (inCls (top 3) 0), bodyOf (inCls (top 3) 0), scopeOf (inCls (top 3) 0), [], []⟩, ⟨("NoLong", some "__init__"), "__init__", "NoLong.__init__", argsOf (inCls (top 4) 0), bodyOf (inCls (top 4) 0), scopeOf (inCls (top 4) 0), [], []⟩]
def fn : List He.DefD := fn0 ++ fn1
def bx (K : PySem.W.Frag) : Bool := xfAll K XS FS && baseB K (He.ga K "WiseError")
def loose0 : List Str := ["__name__", "WiseError", "NoWidth", "NoDivisor", "NoLong", "LEAST_WIDTH", "GREATEST_WIDTH", "is_whole", "need_width", "cut", "gap_of", "low_product", "high_product", "is_long", "need_long", "word_at", "trimmed", "compared", "long_right", "is_between", "need_divisor", "twos_in", "inverse_steps", "inverse", "exact", "need_odd", "low_rows", "low_divided", "divides_long", "exact_long"]
def loose1 : List Str := ["same_rest", "_law_cell", "_law_box", "_law_take", "_law_same", "_law_words", "_law_number", "_law_long", "_law_divisor", "_law_low"]
def loose : List Str := loose0 ++ loose1
abbrev R : PySem.W.OpenRow := PySem.W.OpenLaw.row OL
abbrev hk : PySem.W.Hook := hookX 5 fa fn bx
def ob (s : PySem.W.SharedT) : AlX := obsXG 5 fa fn bx (HandSHeadRun.getT s)
theorem ob_eq (s : PySem.W.SharedT) : ob s = hk.obs s.abs := obsXG_eq (HandSHeadRun.getT_eq s)
theorem run (w : World) : HandSHeadRun.RunEq R (PySem.W.view R.prog [46]) hk ob 3000 loose w := by
  intro os
  kernel_rfl
theorem ex_NoWidth {P : Program} {w : World} {K : PySem.W.Frag} {mg : Str → Option Value} {h base : Heap} (X : K.In h) (G : h.Ns mainGlobals mg) (c : SaysX fa fn bx K) (E : ∀ x ∈ XS, ExcF K x FS) (b : baseB K (He.ga K "WiseError") = true) : XCls P w K mg base 1 "NoWidth" ["found"] := by
  obtain ⟨fd, F⟩ := c.d.def_ 34
  exact xcls_one (st := (inCls (top 2) 0)) (fs := FS) (b := "WiseError") (E _ (by decide +kernel)) (by decide +kernel) (He.glo_ok X G (c.d.fact 53)) F (by kernel_rfl) ⟨rfl, rfl, rfl, by decide +kernel, rfl, by decide +kernel, by decide +kernel⟩ (by kernel_rfl) (by kernel_rfl) (by kernel_rfl) (by decide +kernel) (by decide +kernel) (baseB_ok b) (He.glo_ok X G (c.d.fact 56)) (fun _ _ _ _ _ _ us hl => match us, hl with | [_, _], _ => rfl)
theorem ex_NoDivisor {P : Program} {w : World} {K : PySem.W.Frag} {mg : Str → Option Value} {h base : Heap} (X : K.In h) (G : h.Ns mainGlobals mg) (c : SaysX fa fn bx K) (E : ∀ x ∈ XS, ExcF K x FS) (b : baseB K (He.ga K "WiseError") = true) : XCls P w K mg base 1 "NoDivisor" ["found"] := by
  obtain ⟨fd, F⟩ := c.d.def_ 35
  exact xcls_one (st := (inCls (top 3) 0)) (fs := FS) (b := "WiseError") (E _ (by decide +kernel)) (by decide +kernel) (He.glo_ok X G (c.d.fact 54)) F (by kernel_rfl) ⟨rfl, rfl, rfl, by decide +kernel, rfl, by decide +kernel, by decide +kernel⟩ (by kernel_rfl) (by kernel_rfl) (by kernel_rfl) (by decide +kernel) (by decide +kernel) (baseB_ok b) (He.glo_ok X G (c.d.fact 56)) (fun _ _ _ _ _ _ us hl => match us, hl with | [_, _], _ => rfl)
theorem ex_NoLong {P : Program} {w : World} {K : PySem.W.Frag} {mg : Str → Option Value} {h base : Heap} (X : K.In h) (G : h.Ns mainGlobals mg) (c : SaysX fa fn bx K) (E : ∀ x ∈ XS, ExcF K x FS) (b : baseB K (He.ga K "WiseError") = true) : XCls P w K mg base 1 "NoLong" ["found"] := by
  obtain ⟨fd, F⟩ := c.d.def_ 36
  exact xcls_one (st := (inCls (top 4) 0)) (fs := FS) (b := "WiseError") (E _ (by decide +kernel)) (by decide +kernel) (He.glo_ok X G (c.d.fact 55)) F (by kernel_rfl) ⟨rfl, rfl, rfl, by decide +kernel, rfl, by decide +kernel, by decide +kernel⟩ (by kernel_rfl) (by kernel_rfl) (by kernel_rfl) (by decide +kernel) (by decide +kernel) (baseB_ok b) (He.glo_ok X G (c.d.fact 56)) (fun _ _ _ _ _ _ us hl => match us, hl with | [_, _], _ => rfl)
section
variable {P : Program} {w : World} {K : PySem.W.Frag} {mg : Str → Option Value} {h : Heap}
theorem al_of (X : K.In h) (G : h.Ns mainGlobals mg) (c : SaysX fa fn bx K) : Al K mg where
  d_law_box := ⟨_, (c.d.def_ 0).imp fun _ F => ⟨F, He.glo_ok X G (c.d.fact 19)⟩⟩
  d_law_take := ⟨_, (c.d.def_ 1).imp fun _ F => ⟨F, He.glo_ok X G (c.d.fact 20)⟩⟩
  d_law_cell := ⟨_, (c.d.def_ 2).imp fun _ F => ⟨F, He.glo_ok X G (c.d.fact 21)⟩⟩
  d_law_long := ⟨_, (c.d.def_ 3).imp fun _ F => ⟨F, He.glo_ok X G (c.d.fact 22)⟩⟩
  d_law_divisor := ⟨_, (c.d.def_ 4).imp fun _ F => ⟨F, He.glo_ok X G (c.d.fact 23)⟩⟩
  d_law_words := ⟨_, (c.d.def_ 5).imp fun _ F => ⟨F, He.glo_ok X G (c.d.fact 24)⟩⟩
  d_law_number := ⟨_, (c.d.def_ 6).imp fun _ F => ⟨F, He.glo_ok X G (c.d.fact 25)⟩⟩
  d_law_low := ⟨_, (c.d.def_ 7).imp fun _ F => ⟨F, He.glo_ok X G (c.d.fact 26)⟩⟩
  d_is_whole := ⟨_, (c.d.def_ 8).imp fun _ F => ⟨F, He.glo_ok X G (c.d.fact 27)⟩⟩
  d_need_width := ⟨_, (c.d.def_ 9).imp fun _ F => ⟨F, He.glo_ok X G (c.d.fact 28)⟩⟩
  d_is_long := ⟨_, (c.d.def_ 10).imp fun _ F => ⟨F, He.glo_ok X G (c.d.fact 29)⟩⟩
  d_need_long := ⟨_, (c.d.def_ 11).imp fun _ F => ⟨F, He.glo_ok X G (c.d.fact 30)⟩⟩
  d_is_between := ⟨_, (c.d.def_ 12).imp fun _ F => ⟨F, He.glo_ok X G (c.d.fact 31)⟩⟩
  d_need_divisor := ⟨_, (c.d.def_ 13).imp fun _ F => ⟨F, He.glo_ok X G (c.d.fact 32)⟩⟩
  d_need_odd := ⟨_, (c.d.def_ 14).imp fun _ F => ⟨F, He.glo_ok X G (c.d.fact 33)⟩⟩
  d_cut := ⟨_, (c.d.def_ 15).imp fun _ F => ⟨F, He.glo_ok X G (c.d.fact 34)⟩⟩
  d_low_product := ⟨_, (c.d.def_ 16).imp fun _ F => ⟨F, He.glo_ok X G (c.d.fact 35)⟩⟩
  d_gap_of := ⟨_, (c.d.def_ 17).imp fun _ F => ⟨F, He.glo_ok X G (c.d.fact 36)⟩⟩
  d_inverse_steps := ⟨_, (c.d.def_ 18).imp fun _ F => ⟨F, He.glo_ok X G (c.d.fact 37)⟩⟩
  d_inverse := ⟨_, (c.d.def_ 19).imp fun _ F => ⟨F, He.glo_ok X G (c.d.fact 38)⟩⟩
  d_high_product := ⟨_, (c.d.def_ 20).imp fun _ F => ⟨F, He.glo_ok X G (c.d.fact 39)⟩⟩
  d_low_rows := ⟨_, (c.d.def_ 21).imp fun _ F => ⟨F, He.glo_ok X G (c.d.fact 40)⟩⟩
  d_low_divided := ⟨_, (c.d.def_ 22).imp fun _ F => ⟨F, He.glo_ok X G (c.d.fact 41)⟩⟩
  d_law_same := ⟨_, (c.d.def_ 23).imp fun _ F => ⟨F, He.glo_ok X G (c.d.fact 42)⟩⟩
  d_twos_in := ⟨_, (c.d.def_ 24).imp fun _ F => ⟨F, He.glo_ok X G (c.d.fact 43)⟩⟩
  d_exact := ⟨_, (c.d.def_ 25).imp fun _ F => ⟨F, He.glo_ok X G (c.d.fact 44)⟩⟩
  d_trimmed := ⟨_, (c.d.def_ 26).imp fun _ F => ⟨F, He.glo_ok X G (c.d.fact 45)⟩⟩
  d_word_at := ⟨_, (c.d.def_ 27).imp fun _ F => ⟨F, He.glo_ok X G (c.d.fact 46)⟩⟩
  d_long_right := ⟨_, (c.d.def_ 28).imp fun _ F => ⟨F, He.glo_ok X G (c.d.fact 47)⟩⟩
  d_divides_long := ⟨_, (c.d.def_ 29).imp fun _ F => ⟨F, He.glo_ok X G (c.d.fact 48)⟩⟩
  d_exact_long := ⟨_, (c.d.def_ 30).imp fun _ F => ⟨F, He.glo_ok X G (c.d.fact 49)⟩⟩
  d_compared := ⟨_, (c.d.def_ 31).imp fun _ F => ⟨F, He.glo_ok X G (c.d.fact 50)⟩⟩
  d_same_rest := ⟨_, (c.d.def_ 32).imp fun _ F => ⟨F, He.glo_ok X G (c.d.fact 51)⟩⟩
  d_law := ⟨_, (c.d.def_ 33).imp fun _ F => ⟨F, He.glo_ok X G (c.d.fact 52)⟩⟩
theorem gen_of (X : K.In h) (G : h.Ns mainGlobals mg) (c : SaysX fa fn bx K) (base : Heap) : Gen P w K mg base CONS EXCS XS FS := by
  obtain ⟨b1, b2⟩ := Bool.and_eq_true_iff.mp c.b
  obtain ⟨T, E⟩ := xfAll_ok X G b1
  refine ⟨free_all X G c.d 0 (fun i y hi => ?_), ConOk.get (.cons (con_int (He.int_ok X G (c.d.fact 57))) (.cons (con_int (He.int_ok X G (c.d.fact 58))) .nil)), ExOk.get (.cons (ex_NoWidth X G c E b2) (.cons (ex_NoDivisor X G c E b2) (.cons (ex_NoLong X G c E b2) .nil))), T⟩
  · match i, hi with
    | 0, hi => cases hi; rfl
    | 1, hi => cases hi; rfl
    | 2, hi => cases hi; rfl
    | 3, hi => cases hi; rfl
    | 4, hi => cases hi; rfl
    | 5, hi => cases hi; rfl
    | 6, hi => cases hi; rfl
    | 7, hi => cases hi; rfl
    | 8, hi => cases hi; rfl
    | 9, hi => cases hi; rfl
    | 10, hi => cases hi; rfl
    | 11, hi => cases hi; rfl
    | 12, hi => cases hi; rfl
    | 13, hi => cases hi; rfl
    | 14, hi => cases hi; rfl
    | 15, hi => cases hi; rfl
    | 16, hi => cases hi; rfl
    | 17, hi => cases hi; rfl
    | 18, hi => cases hi; rfl
    | n + 19, hi => simp [bltNames] at hi
end
open PySem PySem.W PySem.Calls PyProof.Rows in
theorem holds (plain : ∀ K, Ab.LawSp 63 (sp_law K)) : OL.Holds := by
  w_on; o_law
  refine HandSHeadRun.head_any (r := OpenLaw.row OL) (q := view (OpenLaw.row OL).prog [46]) (H := hk) (ob := ob) (M := 3000) (loose := loose) (d := HandSHeadRun.topDef (OpenLaw.row OL).prog 46) (kwd := []) ob_eq (by kernel_rfl) (fun s => by kernel_rfl) run (by kernel_rfl) (by kernel_rfl) (by kernel_rfl) (by rfl) (by first | assumption | decide +kernel) (by decide +kernel) ⟨rfl, rfl, rfl, rfl, rfl, by decide +kernel⟩ ?hw ?hc
  case hw => w_witness2
  case hc =>
    refine Ab.walkA (l := OL) (n := 63) (k := 12) (x := "script") rfl (by decide) (by kernel_rfl) ⟨rfl, by decide, by decide⟩ ?F
    intro w mg fa h Y G hmg0
    obtain ⟨K, KX, c⟩ := Y
    have hmg : mg ("law" : PySem.Str) = some (.ref fa) := (by kernel_rfl : (HandSHeadRun.topDef (OpenLaw.row OL).prog 46).name = ("law" : PySem.Str)) ▸ hmg0
    have A := al_of KX G c
    obtain ⟨f, fd, F, hm⟩ := A.d_law.ex
    cases hmg.symm.trans hm
    exact ⟨K, fd, sp_law K, KX, fun s u => FunD.bindsA F b_law s [u] rfl, plain K, fun base _ _ => a_law A (gen_of KX G c base) F⟩
end K53
end

section
namespace K53
open PySem PySem.Spec PyProof.Rows L2 Ab
local macro_rules | `(tactic| walk_at "vg") => `(tactic| repeat' (first | (with_reducible refine nx_go ?_) | (with_reducible refine seq_go ?_) | (with_reducible refine set_go ?_) | (with_reducible refine call_go ?_) | (with_reducible refine cons_go ?_) | (with_reducible refine nil_go ?_) | ((with_reducible apply var_go); next => exact rfl) | (with_reducible refine con_go ?_) | (with_reducible refine op_go ?_) | (with_reducible refine isbl_go ?_) | (with_reducible refine if_go ?_) | (with_reducible refine isB_go ?_) | (with_reducible refine tru_go ?_) | (with_reducible refine trub_go ?_) | (with_reducible refine tri_go ?_) | (with_reducible refine asg_go ?_) | (with_reducible refine drop_go ?_) | (with_reducible refine ret_go ?_) | (with_reducible refine tup_go ?_) | (with_reducible refine cb_go ?_) | (with_reducible refine rt_int ?_) | (with_reducible refine rt_bl ?_) | (with_reducible refine rt_non ?_) | (with_reducible refine rt_tup ?_) | (with_reducible refine rt_str ?_) | (with_reducible refine rt_lst ?_) | (with_reducible refine rt_new ?_) | (with_reducible refine l1_go ?_) | (with_reducible refine l2_go ?_) | (with_reducible refine l3_go ?_) | (with_reducible refine l4_go ?_) | (with_reducible refine l5_go ?_) | (with_reducible refine l6_go ?_) | (with_reducible refine if_T ?_) | (with_reducible refine if_F ?_) | (with_reducible refine if_n ?_) | (with_reducible refine not_go ?_) | (with_reducible refine or_go ?_) | (with_reducible refine and_go ?_) | (with_reducible refine notv_go ?_) | (with_reducible refine andv_go ?_) | (with_reducible refine orv_go ?_) | (with_reducible refine iff_go ?_) | (with_reducible refine chain_go ?_) | (with_reducible refine add_go ?_) | (with_reducible refine sub_go ?_) | (with_reducible refine lt_go ?_) | (with_reducible refine gt_go ?_) | (with_reducible refine ge_go ?_) | (with_reducible refine le_go ?_) | (with_reducible refine eq_go ?_) | (with_reducible refine ne_go ?_) | (with_reducible refine eqs_go ?_) | (with_reducible refine nes_go ?_) | (with_reducible refine eqb_go ?_) | (with_reducible refine neb_go ?_) | (with_reducible refine int_go ?_) | (with_reducible refine inti_go ?_) | (with_reducible refine band_go ?_) | (with_reducible refine bor_go ?_) | (with_reducible refine iadd_go ?_) | (with_reducible refine min_go ?_) | (with_reducible refine max_go ?_) | (with_reducible refine abs_go ?_) | (with_reducible refine neg_go ?_) | (with_reducible refine bits_go ?_) | ((with_reducible apply mulg); next => first | assumption | exact .inl (.inl ⟨by omega, by omega⟩) | exact .inl (.inr ⟨by omega, by omega⟩)) | ((with_reducible apply divg); next => first | assumption | exact divok (by omega) (by omega)) | ((with_reducible apply modg); next => first | assumption | omega) | ((with_reducible apply shl1g); next => omega) | ((with_reducible apply shlng); next => first | assumption | exact .inl ⟨by omega, by omega, by omega⟩) | ((with_reducible apply shlg); next => first | assumption | exact .inl ⟨by omega, by omega, by omega⟩) | (with_reducible refine shrng ?_) | ((with_reducible apply shrg); next => first | assumption | omega) | ((with_reducible apply pow_g); next => first | assumption | exact ⟨by omega, by omega, by omega⟩) | (with_reducible refine two_go ?_) | (with_reducible refine lenl_go ?_) | (with_reducible refine lenf_go ?_) | (with_reducible refine lent_go ?_) | (with_reducible refine lenr_go ?_) | (with_reducible refine idxl_go at0 ?_) | (with_reducible refine idxt_go at0 ?_) | (with_reducible refine idxf_go at0 ?_) | (with_reducible refine idxl_go at1 ?_) | (with_reducible refine idxt_go at1 ?_) | (with_reducible refine idxf_go at1 ?_) | (with_reducible refine idxl_go at2 ?_) | (with_reducible refine idxt_go at2 ?_) | (with_reducible refine idxf_go at2 ?_) | (with_reducible refine idxl_go at3 ?_) | (with_reducible refine idxt_go at3 ?_) | (with_reducible refine idxf_go at3 ?_) | (with_reducible refine idxl_go at4 ?_) | (with_reducible refine idxt_go at4 ?_) | (with_reducible refine idxf_go at4 ?_) | (with_reducible refine idxl_go at5 ?_) | (with_reducible refine idxt_go at5 ?_) | (with_reducible refine idxf_go at5 ?_) | (with_reducible refine idxl_go at_last ?_) | ((with_reducible apply sz_go); next => exact Nat.le_of_ble_eq_true rfl) | (with_reducible refine lstk_go ?_) | (with_reducible refine newt_go ?_) | (with_reducible refine listl_go ?_) | (with_reducible refine listf_go ?_) | (with_reducible refine sl_go ?_) | (with_reducible refine nopart_go ?_) | (with_reducible refine part_go ?_) | (with_reducible refine sll_go ?_) | (with_reducible refine rev_go ?_) | (with_reducible refine mt_go ?_) | (with_reducible refine ist_set ?_) | (with_reducible refine rz1_go ?_) | (with_reducible refine raise_go ?_) | (with_reducible refine nil_s ?_) | (with_reducible refine for_go ?_) | (with_reducible refine iseq_go ?_) | (with_reducible refine skl_go ?_) | (with_reducible refine skf_go ?_) | (with_reducible refine skt_go ?_) | (with_reducible refine ir1_go ?_) | (with_reducible refine ir2_go ?_) | (with_reducible refine ir3_go ?_) | (with_reducible refine ienum_go ?_) | (with_reducible refine par2_go ?_) | (with_reducible refine par3_go ?_) | ((with_reducible apply app_set); next => first | omega | (simp only [List.length_append, List.length_cons, List.length_nil, List.length_map]; omega)) | ((with_reducible apply aug_go); next => exact rfl) | ((with_reducible apply isi_T); (next => exact rfl); (next => exact rfl)) | ((with_reducible apply isi_F); (next => exact rfl); (next => exact rfl)) | (with_reducible refine p_width (by assumption) ?_) | (with_reducible refine p_cut (by assumption) ?_) | (with_reducible refine p_gap_of (by assumption) ?_) | (with_reducible refine p_sum_of (by assumption) ?_) | ((with_reducible apply p_low_product); (next => assumption); (next => first | assumption | exact .inl (.inl ⟨by omega, by omega⟩) | exact .inl (.inr ⟨by omega, by omega⟩))) | ((with_reducible apply p_high_product); (next => assumption); (next => first | assumption | exact .inl (.inl ⟨by omega, by omega⟩) | exact .inl (.inr ⟨by omega, by omega⟩))) | ((with_reducible apply if_D); next => first | assumption | omega) | ((with_reducible apply if_N); next => first | assumption | omega) | ((with_reducible apply if_t); next => assumption) | ((with_reducible apply if_f); next => assumption) | (dsimp only)))
local macro_rules | `(tactic| walk_at "vh") => `(tactic| repeat' (first | (with_reducible refine seq_go ?_) | (with_reducible refine set_go ?_) | (with_reducible refine call_go ?_) | (with_reducible refine cons_go ?_) | (with_reducible refine nil_go ?_) | ((with_reducible apply var_go); next => exact rfl) | (with_reducible refine con_go ?_) | (with_reducible refine op_go ?_) | (with_reducible refine isbl_go ?_) | (with_reducible refine if_go ?_) | (with_reducible refine isB_go ?_) | (with_reducible refine tru_go ?_) | (with_reducible refine trub_go ?_) | (with_reducible refine tri_go ?_) | (with_reducible refine asg_go ?_) | (with_reducible refine drop_go ?_) | (with_reducible refine ret_go ?_) | (with_reducible refine tup_go ?_) | (with_reducible refine cb_go ?_) | (with_reducible refine rt_int ?_) | (with_reducible refine rt_bl ?_) | (with_reducible refine rt_non ?_) | (with_reducible refine rt_tup ?_) | (with_reducible refine rt_str ?_) | (with_reducible refine rt_lst ?_) | (with_reducible refine rt_new ?_) | (with_reducible refine l1_go ?_) | (with_reducible refine l2_go ?_) | (with_reducible refine l3_go ?_) | (with_reducible refine l4_go ?_) | (with_reducible refine l5_go ?_) | (with_reducible refine l6_go ?_) | (with_reducible refine if_T ?_) | (with_reducible refine if_F ?_) | (with_reducible refine if_n ?_) | (with_reducible refine not_go ?_) | (with_reducible refine or_go ?_) | (with_reducible refine and_go ?_) | (with_reducible refine notv_go ?_) | (with_reducible refine andv_go ?_) | (with_reducible refine orv_go ?_) | (with_reducible refine iff_go ?_) | (with_reducible refine chain_go ?_) | (with_reducible refine add_go ?_) | (with_reducible refine sub_go ?_) | (with_reducible refine lt_go ?_) | (with_reducible refine gt_go ?_) | (with_reducible refine ge_go ?_) | (with_reducible refine le_go ?_) | (with_reducible refine eq_go ?_) | (with_reducible refine ne_go ?_) | (with_reducible refine eqs_go ?_) | (with_reducible refine nes_go ?_) | (with_reducible refine eqb_go ?_) | (with_reducible refine neb_go ?_) | (with_reducible refine int_go ?_) | (with_reducible refine inti_go ?_) | (with_reducible refine band_go ?_) | (with_reducible refine bor_go ?_) | (with_reducible refine iadd_go ?_) | (with_reducible refine min_go ?_) | (with_reducible refine max_go ?_) | (with_reducible refine abs_go ?_) | (with_reducible refine neg_go ?_) | (with_reducible refine bits_go ?_) | ((with_reducible apply mulg); next => first | assumption | exact .inl (.inl ⟨by omega, by omega⟩) | exact .inl (.inr ⟨by omega, by omega⟩)) | ((with_reducible apply divg); next => first | assumption | exact divok (by omega) (by omega)) | ((with_reducible apply modg); next => first | assumption | omega) | ((with_reducible apply shl1g); next => omega) | ((with_reducible apply shlng); next => first | assumption | exact .inl ⟨by omega, by omega, by omega⟩) | ((with_reducible apply shlg); next => first | assumption | exact .inl ⟨by omega, by omega, by omega⟩) | (with_reducible refine shrng ?_) | ((with_reducible apply shrg); next => first | assumption | omega) | ((with_reducible apply pow_g); next => first | assumption | exact ⟨by omega, by omega, by omega⟩) | (with_reducible refine two_go ?_) | (with_reducible refine lenl_go ?_) | (with_reducible refine lenf_go ?_) | (with_reducible refine lent_go ?_) | (with_reducible refine lenr_go ?_) | (with_reducible refine idxl_go at0 ?_) | (with_reducible refine idxt_go at0 ?_) | (with_reducible refine idxf_go at0 ?_) | (with_reducible refine idxl_go at1 ?_) | (with_reducible refine idxt_go at1 ?_) | (with_reducible refine idxf_go at1 ?_) | (with_reducible refine idxl_go at2 ?_) | (with_reducible refine idxt_go at2 ?_) | (with_reducible refine idxf_go at2 ?_) | (with_reducible refine idxl_go at3 ?_) | (with_reducible refine idxt_go at3 ?_) | (with_reducible refine idxf_go at3 ?_) | (with_reducible refine idxl_go at4 ?_) | (with_reducible refine idxt_go at4 ?_) | (with_reducible refine idxf_go at4 ?_) | (with_reducible refine idxl_go at5 ?_) | (with_reducible refine idxt_go at5 ?_) | (with_reducible refine idxf_go at5 ?_) | (with_reducible refine idxl_go at_last ?_) | ((with_reducible apply sz_go); next => exact Nat.le_of_ble_eq_true rfl) | (with_reducible refine lstk_go ?_) | (with_reducible refine newt_go ?_) | (with_reducible refine listl_go ?_) | (with_reducible refine listf_go ?_) | (with_reducible refine sl_go ?_) | (with_reducible refine nopart_go ?_) | (with_reducible refine part_go ?_) | (with_reducible refine sll_go ?_) | (with_reducible refine rev_go ?_) | (with_reducible refine mt_go ?_) | (with_reducible refine ist_set ?_) | (with_reducible refine rz1_go ?_) | (with_reducible refine raise_go ?_) | (with_reducible refine nil_s ?_) | (with_reducible refine for_go ?_) | (with_reducible refine iseq_go ?_) | (with_reducible refine skl_go ?_) | (with_reducible refine skf_go ?_) | (with_reducible refine skt_go ?_) | (with_reducible refine ir1_go ?_) | (with_reducible refine ir2_go ?_) | (with_reducible refine ir3_go ?_) | (with_reducible refine ienum_go ?_) | (with_reducible refine par2_go ?_) | (with_reducible refine par3_go ?_) | ((with_reducible apply app_set); next => first | omega | (simp only [List.length_append, List.length_cons, List.length_nil, List.length_map]; omega)) | ((with_reducible apply aug_go); next => exact rfl) | ((with_reducible apply isi_T); (next => exact rfl); (next => exact rfl)) | ((with_reducible apply isi_F); (next => exact rfl); (next => exact rfl)) | (with_reducible refine p_width (by assumption) ?_) | (with_reducible refine p_cut (by assumption) ?_) | (with_reducible refine p_gap_of (by assumption) ?_) | (with_reducible refine p_sum_of (by assumption) ?_) | ((with_reducible apply p_low_product); (next => assumption); (next => first | assumption | exact .inl (.inl ⟨by omega, by omega⟩) | exact .inl (.inr ⟨by omega, by omega⟩))) | ((with_reducible apply p_high_product); (next => assumption); (next => first | assumption | exact .inl (.inl ⟨by omega, by omega⟩) | exact .inl (.inr ⟨by omega, by omega⟩))) | ((with_reducible apply if_D); next => first | assumption | omega) | ((with_reducible apply if_N); next => first | assumption | omega) | ((with_reducible apply if_t); next => assumption) | ((with_reducible apply if_f); next => assumption) | (dsimp only)))
local macro_rules | `(tactic| walk_at "vs") => `(tactic| repeat' (first | (with_reducible refine nx_go ?_) | (with_reducible refine seq_go ?_) | (with_reducible refine set_go ?_) | (with_reducible refine call_go ?_) | (with_reducible refine cons_go ?_) | (with_reducible refine nil_go ?_) | ((with_reducible apply var_go); next => exact rfl) | (with_reducible refine con_go ?_) | (with_reducible refine op_go ?_) | (with_reducible refine isbl_go ?_) | (with_reducible refine if_go ?_) | (with_reducible refine isB_go ?_) | (with_reducible refine tru_go ?_) | (with_reducible refine trub_go ?_) | (with_reducible refine tri_go ?_) | (with_reducible refine asg_go ?_) | (with_reducible refine drop_go ?_) | (with_reducible refine ret_go ?_) | (with_reducible refine tup_go ?_) | (with_reducible refine cb_go ?_) | (with_reducible refine rt_int ?_) | (with_reducible refine rt_bl ?_) | (with_reducible refine rt_non ?_) | (with_reducible refine rt_tup ?_) | (with_reducible refine rt_str ?_) | (with_reducible refine rt_lst ?_) | (with_reducible refine rt_new ?_) | (with_reducible refine l1_go ?_) | (with_reducible refine l2_go ?_) | (with_reducible refine l3_go ?_) | (with_reducible refine l4_go ?_) | (with_reducible refine l5_go ?_) | (with_reducible refine l6_go ?_) | (with_reducible refine if_T ?_) | (with_reducible refine if_F ?_) | (with_reducible refine if_n ?_) | (with_reducible refine not_go ?_) | (with_reducible refine or_go ?_) | (with_reducible refine and_go ?_) | (with_reducible refine notv_go ?_) | (with_reducible refine andv_go ?_) | (with_reducible refine orv_go ?_) | (with_reducible refine iff_go ?_) | (with_reducible refine chain_go ?_) | (with_reducible refine add_go ?_) | (with_reducible refine sub_go ?_) | (with_reducible refine lt_go ?_) | (with_reducible refine gt_go ?_) | (with_reducible refine ge_go ?_) | (with_reducible refine le_go ?_) | (with_reducible refine eq_go ?_) | (with_reducible refine ne_go ?_) | (with_reducible refine eqs_go ?_) | (with_reducible refine nes_go ?_) | (with_reducible refine eqb_go ?_) | (with_reducible refine neb_go ?_) | (with_reducible refine int_go ?_) | (with_reducible refine inti_go ?_) | (with_reducible refine band_go ?_) | (with_reducible refine bor_go ?_) | (with_reducible refine iadd_go ?_) | (with_reducible refine min_go ?_) | (with_reducible refine max_go ?_) | (with_reducible refine abs_go ?_) | (with_reducible refine neg_go ?_) | (with_reducible refine bits_go ?_) | ((with_reducible apply mulg); next => first | assumption | exact .inl (.inl ⟨by omega, by omega⟩) | exact .inl (.inr ⟨by omega, by omega⟩)) | ((with_reducible apply divg); next => first | assumption | exact divok (by omega) (by omega)) | ((with_reducible apply modg); next => first | assumption | omega) | ((with_reducible apply shl1g); next => omega) | ((with_reducible apply shlng); next => first | assumption | exact .inl ⟨by omega, by omega, by omega⟩) | ((with_reducible apply shlg); next => first | assumption | exact .inl ⟨by omega, by omega, by omega⟩) | (with_reducible refine shrng ?_) | ((with_reducible apply shrg); next => first | assumption | omega) | ((with_reducible apply pow_g); next => first | assumption | exact ⟨by omega, by omega, by omega⟩) | (with_reducible refine two_go ?_) | (with_reducible refine lenl_go ?_) | (with_reducible refine lenf_go ?_) | (with_reducible refine lent_go ?_) | (with_reducible refine lenr_go ?_) | (with_reducible refine idxl_go at0 ?_) | (with_reducible refine idxt_go at0 ?_) | (with_reducible refine idxf_go at0 ?_) | (with_reducible refine idxl_go at1 ?_) | (with_reducible refine idxt_go at1 ?_) | (with_reducible refine idxf_go at1 ?_) | (with_reducible refine idxl_go at2 ?_) | (with_reducible refine idxt_go at2 ?_) | (with_reducible refine idxf_go at2 ?_) | (with_reducible refine idxl_go at3 ?_) | (with_reducible refine idxt_go at3 ?_) | (with_reducible refine idxf_go at3 ?_) | (with_reducible refine idxl_go at4 ?_) | (with_reducible refine idxt_go at4 ?_) | (with_reducible refine idxf_go at4 ?_) | (with_reducible refine idxl_go at5 ?_) | (with_reducible refine idxt_go at5 ?_) | (with_reducible refine idxf_go at5 ?_) | (with_reducible refine idxl_go at_last ?_) | ((with_reducible apply sz_go); next => exact Nat.le_of_ble_eq_true rfl) | (with_reducible refine lstk_go ?_) | (with_reducible refine newt_go ?_) | (with_reducible refine listl_go ?_) | (with_reducible refine listf_go ?_) | (with_reducible refine sl_go ?_) | (with_reducible refine nopart_go ?_) | (with_reducible refine part_go ?_) | (with_reducible refine sll_go ?_) | (with_reducible refine rev_go ?_) | (with_reducible refine mt_go ?_) | (with_reducible refine ist_set ?_) | (with_reducible refine rz1_go ?_) | (with_reducible refine raise_go ?_) | (with_reducible refine nil_s ?_) | (with_reducible refine for_go ?_) | (with_reducible refine iseq_go ?_) | (with_reducible refine skl_go ?_) | (with_reducible refine skf_go ?_) | (with_reducible refine skt_go ?_) | (with_reducible refine ir1_go ?_) | (with_reducible refine ir2_go ?_) | (with_reducible refine ir3_go ?_) | (with_reducible refine ienum_go ?_) | (with_reducible refine par2_go ?_) | (with_reducible refine par3_go ?_) | ((with_reducible apply app_set); next => first | omega | (simp only [List.length_append, List.length_cons, List.length_nil, List.length_map]; omega)) | ((with_reducible apply aug_go); next => exact rfl) | ((with_reducible apply isi_T); (next => exact rfl); (next => exact rfl)) | ((with_reducible apply isi_F); (next => exact rfl); (next => exact rfl)) | (with_reducible refine p_width (by assumption) ?_) | (with_reducible refine p_cut (by assumption) ?_) | (with_reducible refine p_gap_of (by assumption) ?_) | (with_reducible refine p_sum_of (by assumption) ?_) | ((with_reducible apply p_low_product); (next => assumption); (next => first | assumption | exact .inl (.inl ⟨by omega, by omega⟩) | exact .inl (.inr ⟨by omega, by omega⟩))) | ((with_reducible apply p_high_product); (next => assumption); (next => first | assumption | exact .inl (.inl ⟨by omega, by omega⟩) | exact .inl (.inr ⟨by omega, by omega⟩))) | ((with_reducible apply if_D); next => first | assumption | omega) | ((with_reducible apply if_N); next => first | assumption | omega) | ((with_reducible apply if_t); next => assumption) | ((with_reducible apply if_f); next => assumption) | (with_reducible refine if_dec (fun _ => ?_) (fun _ => ?_)) | (dsimp only)))
--pps
section
variable {K : PySem.W.Frag} {m : Mem} {R : ARes → Mem → Prop} {W : Nat} {P : SK}
variable {x0 x1 x2 x3 x4 x5 x6 x7 x8 x9 x10 x11 x12 x13 x14 x15 x16 x17 x18 x19 x20 : Option D}
theorem cut_take {xs : List D} {n : Nat} : Ab.cutD xs none (some (n : Int)) = xs.take n := by
  unfold Ab.cutD
  rw [HT.sIx_nat]
  show (xs.drop 0).take (min n xs.length - 0) = _
  rw [List.drop_zero, Nat.sub_zero]
  by_cases h : n ≤ xs.length
  · rw [Nat.min_eq_left h]
  · rw [Nat.min_eq_right (by omega), List.take_length, List.take_of_length_le (by omega)]
/-- a long, as the law has them -/
structure Lo (W : Nat) (ws : List Int) : Prop where
  w : Lm.Wok (2 ^ W) ws
  c : Lm.trim ws = ws
  l : ws.length ≤ 100
theorem Lo.l6 {ws : List Int} (h : Lo W ws) : ws.length ≤ 1000000 := by have := h.l; omega
/-- an odd divisor -/
structure Od (W : Nat) (d : Int) : Prop where
  h0 : 1 ≤ d
  h1 : d ≤ 2 ^ W - 1
  ho : d % 2 = 1
theorem q2 {ws : List Int} {d : Int} (hW : Wd W) (L : Lo W ws) (O : Od W d) (H : ∀ m', P.nx [x0, x1, x2, some (.int W), x4, x5, x6, some (dl ws), x8, x9, x10, some (dl ws), some (.int d), x13, x14, x15, x16, x17, x18, x19, x20] m') :
    w_law_2 K [x0, x1, x2, some (.int W), x4, x5, x6, some (dl ws), x8, x9, x10, some (dl ws), some (.int d), x13, x14, x15, x16, x17, x18, x19, x20] m P := by
  have hrl : ∀ x, (Lm.lowR (2 ^ W) d x 0 ws).length ≤ 1000000 := fun x => by rw [Lm.lowR_len]; exact L.l6
  unfold w_law_2
  walk_at "vg"
  refine nedl_go ?_
  walk_at "vg"
  refine if_D rfl ?_
  walk_at "vg"
  refine p_low_divided hW O.h0 O.h1 O.ho L.w L.c L.l6 (fun x a hx ha => ?_)
  walk_at "vg"
  refine p_law_low hW O.h0 O.h1 O.ho L.w L.l6 (fun y hy => ?_)
  obtain rfl := inv_same hx hy
  walk_at "vg"
  refine p_law_sameR (smR_at setM_same (by rw [List.length_map]; exact hrl x) (fun z hz => ?_)) ?_
  · obtain ⟨p, _, rfl⟩ := List.mem_map.mp hz
    exact sm_row
  · walk_at "vg"
    exact H _
theorem same_swap {a b d : Int} : decide ((a - b) % d = 0) = decide ((b - a) % d = 0) := by
  apply decide_eq_decide.mpr
  have e1 : b - a = -(a - b) := by omega
  rw [e1]
  constructor
  · intro z
    exact Int.emod_eq_zero_of_dvd (Int.dvd_neg.mpr (Int.dvd_of_emod_eq_zero z))
  · intro z
    exact Int.emod_eq_zero_of_dvd (Int.dvd_neg.mp (Int.dvd_of_emod_eq_zero z))
/-- behind other's making -/
theorem q3c {ws us : List Int} {d : Int} (hW : Wd W) (L : Lo W ws) (U : Lo W us) (O : Od W d) (H : ∀ y14 m', P.nx [x0, x1, x2, some (.int W), x4, x5, x6, some (dl ws), x8, x9, some (.int (Lm.num (2 ^ W) ws)), some (dl ws), some (.int d), x13, y14, x15, x16, x17, some (dl us), x19, x20] m') :
    (sSeq (sSet 14 (wOp oEq (wOp oMod (wCB cInt (wCons (wOp oSub (wVar 10) (wCall 2 (sp_law_number K) (wCons (wVar 18) (wCons (wVar 3) wNil)))) wNil)) (wVar 12)) (wCon (.int 0))))
  (sSeq (sIf (wOr (wNot (wTru (wCall 2 (sr_law_same K 8) (wCons (wCall 4 (sp_same_rest K) (wCons (wVar 3) (wCons (wVar 7) (wCons (wVar 18) (wCons (wVar 12) wNil))))) (wCons (wVar 14) wNil))))) (wNot (wTru (wCall 2 (sr_law_same K 8) (wCons (wCall 4 (sp_same_rest K) (wCons (wVar 3) (wCons (wVar 18) (wCons (wVar 7) (wCons (wVar 12) wNil))))) (wCons (wVar 14) wNil)))))) (sRet (wCon (.bl false))) sNil)
  (w_law_2 K))) [x0, x1, x2, some (.int W), x4, x5, x6, some (dl ws), x8, x9, some (.int (Lm.num (2 ^ W) ws)), some (dl ws), some (.int d), x13, x14, x15, x16, x17, some (dl us), x19, x20] m P := by
  have := O.h0
  walk_at "vg"
  refine p_law_number hW ?_
  walk_at "vg"
  refine p_same_rest hW O.h0 O.h1 O.ho L.w U.w L.c U.c L.l6 U.l6 ?_
  walk_at "vg"
  refine p_law_same Sm.bl ?_
  walk_at "vg"
  refine p_same_rest hW O.h0 O.h1 O.ho U.w L.w U.c L.c U.l6 L.l6 ?_
  walk_at "vg"
  rw [same_swap (a := Lm.num (2 ^ W) us)]
  refine p_law_same Sm.bl ?_
  walk_at "vg"
  exact q2 hW L O (fun m' => H _ m')
theorem Lo.take {ws : List Int} (h : Lm.Wok (2 ^ W) ws) {n : Nat} : Lm.Wok (2 ^ W) (ws.take n) := fun x hx => h x (List.mem_of_mem_take hx)
theorem q3b {ws us : List Int} {d : Int} (hW : Wd W) (L : Lo W ws) (hu : Lm.Wok (2 ^ W) us) (O : Od W d) (H : ∀ y14 y18 m', P.nx [x0, x1, x2, some (.int W), x4, x5, x6, some (dl ws), x8, x9, some (.int (Lm.num (2 ^ W) ws)), some (dl ws), some (.int d), x13, y14, x15, x16, x17, y18, x19, x20] m') :
    (sSeq (sSet 18 (wIf (wOr (wIsB (wOp oEq (wSl true (wVar 18) wNoPart (wPart (wCon (.int 40)))) (wLst true wNil))) (wIsB (wOp oGt (wOp oIdx (wSl true (wVar 18) wNoPart (wPart (wCon (.int 40)))) (wNeg (wCon (.int 1)))) (wCon (.int 0))))) (wSl true (wVar 18) wNoPart (wPart (wCon (.int 40)))) (wLst true wNil)))
  (sSeq (sSet 14 (wOp oEq (wOp oMod (wCB cInt (wCons (wOp oSub (wVar 10) (wCall 2 (sp_law_number K) (wCons (wVar 18) (wCons (wVar 3) wNil)))) wNil)) (wVar 12)) (wCon (.int 0))))
  (sSeq (sIf (wOr (wNot (wTru (wCall 2 (sr_law_same K 8) (wCons (wCall 4 (sp_same_rest K) (wCons (wVar 3) (wCons (wVar 7) (wCons (wVar 18) (wCons (wVar 12) wNil))))) (wCons (wVar 14) wNil))))) (wNot (wTru (wCall 2 (sr_law_same K 8) (wCons (wCall 4 (sp_same_rest K) (wCons (wVar 3) (wCons (wVar 18) (wCons (wVar 7) (wCons (wVar 12) wNil))))) (wCons (wVar 14) wNil)))))) (sRet (wCon (.bl false))) sNil)
  (w_law_2 K)))) [x0, x1, x2, some (.int W), x4, x5, x6, some (dl ws), x8, x9, some (.int (Lm.num (2 ^ W) ws)), some (dl ws), some (.int d), x13, x14, x15, x16, x17, some (dl us), x19, x20] m P := by
  have e40 : Ab.cutD (us.map D.int) none (some 40) = (us.take 40).map D.int := by
    have := cut_take (xs := us.map D.int) (n := 40)
    rw [List.map_take]
    exact this
  have fin : ∀ vs : List Int, Lm.Wok (2 ^ W) vs → Lm.trim vs = vs → vs.length ≤ 40 → ∀ m : Mem, Nx (sSeq (sSet 14 (wOp oEq (wOp oMod (wCB cInt (wCons (wOp oSub (wVar 10) (wCall 2 (sp_law_number K) (wCons (wVar 18) (wCons (wVar 3) wNil)))) wNil)) (wVar 12)) (wCon (.int 0))))
  (sSeq (sIf (wOr (wNot (wTru (wCall 2 (sr_law_same K 8) (wCons (wCall 4 (sp_same_rest K) (wCons (wVar 3) (wCons (wVar 7) (wCons (wVar 18) (wCons (wVar 12) wNil))))) (wCons (wVar 14) wNil))))) (wNot (wTru (wCall 2 (sr_law_same K 8) (wCons (wCall 4 (sp_same_rest K) (wCons (wVar 3) (wCons (wVar 18) (wCons (wVar 7) (wCons (wVar 12) wNil))))) (wCons (wVar 14) wNil)))))) (sRet (wCon (.bl false))) sNil)
  (w_law_2 K))) P [x0, x1, x2, some (.int W), x4, x5, x6, some (dl ws), x8, x9, some (.int (Lm.num (2 ^ W) ws)), some (dl ws), some (.int d), x13, x14, x15, x16, x17, some (dl vs), x19, x20] m :=
    fun vs h1 h2 h3 m => nx_go (q3c hW L ⟨h1, h2, by omega⟩ O (fun y14 m' => H y14 _ m'))
  refine seq_go (set_go (iff_go (or_go (isB_go (op_go (sl_go (var_go rfl (nopart_go (part_go (con_go ?_))))))))))
  refine sll_go (newt_go (lstk_go (nil_go (sz_go (Nat.le_of_ble_eq_true rfl) (newt_go ?_)))))
  rw [e40]
  refine eqdl0_go (isbl_go (if_dec (fun c => ?_) (fun c => ?_)))
  · refine if_T (sl_go (var_go rfl (nopart_go (part_go (con_go ?_)))))
    refine sll_go (newt_go ?_)
    rw [e40]
    exact fin _ (Lo.take hu) (by rw [c]; rfl) (by rw [List.length_take]; omega) m
  · obtain ⟨vs, w, e⟩ : ∃ vs w, us.take 40 = vs ++ [w] := ⟨(us.take 40).dropLast, (us.take 40).getLast c, (List.dropLast_concat_getLast c).symm⟩
    refine isB_go (op_go (op_go (sl_go (var_go rfl (nopart_go (part_go (con_go ?_)))))))
    refine sll_go (newt_go ?_)
    rw [e40, e, List.map_append]
    refine neg_go (con_go (idxl_go at_last (con_go (gt_go (isbl_go (if_dec (fun c2 => ?_) (fun c2 => ?_)))))))
    · refine sl_go (var_go rfl (nopart_go (part_go (con_go ?_))))
      refine sll_go (newt_go ?_)
      rw [e40]
      exact fin _ (Lo.take hu) (by rw [e]; exact Lm.trim_snoc (by omega)) (by rw [List.length_take]; omega) m
    · refine lstk_go (nil_go (sz_go (Nat.le_of_ble_eq_true rfl) (newt_go ?_)))
      exact fin [] Lm.Wok.nil rfl (Nat.zero_le _) m
theorem num_room {ws : List Int} (hW : Wd W) (L : Lo W ws) {x : Int} (h : x < 2 ^ W * 2 ^ W) : Lm.num (2 ^ W) ws + x < (2 ^ W) ^ (ws.length + 3) := by
  have hB := hW.one
  have h1 := Lm.num_lt (by omega) L.w
  have h2 : (2 ^ W : Int) ^ ws.length ≤ (2 ^ W) ^ (ws.length + 2) := Lm.pow_mono (by omega) (by omega)
  have h3 : (2 ^ W : Int) ^ 2 ≤ (2 ^ W) ^ (ws.length + 2) := Lm.pow_mono (by omega) (by omega)
  have h4 : (2 ^ W : Int) ^ 2 = 2 ^ W * 2 ^ W := by rw [Int.pow_succ, Int.pow_succ, Int.pow_zero, Int.one_mul]
  have h5 : (2 ^ W : Int) ^ (ws.length + 3) = (2 ^ W) ^ (ws.length + 2) * 2 ^ W := Int.pow_succ _ _
  have h6 : (0 : Int) < (2 ^ W) ^ (ws.length + 2) := Int.pow_pos (by omega)
  have h7 : (2 ^ W : Int) ^ (ws.length + 2) * 2 ≤ (2 ^ W) ^ (ws.length + 2) * 2 ^ W := Int.mul_le_mul_of_nonneg_left (by omega) (by omega)
  omega
theorem q3 {ws : List Int} {d : Int} {a : Addr} {n M : Nat} (hW : Wd W) (L : Lo W ws) (O : Od W d) (hb : Box m a n) (hn : n < 10000000) (hM : M ≤ 40) (H : ∀ y14 y18 m', P.nx [x0, x1, some (.raw (.ref a)), some (.int W), x4, some (.int (2 ^ W)), some (.int (M : Nat)), some (dl ws), x8, x9, some (.int (Lm.num (2 ^ W) ws)), some (dl ws), some (.int d), x13, y14, x15, x16, x17, y18, x19, x20] m') :
    w_law_3 K [x0, x1, some (.raw (.ref a)), some (.int W), x4, some (.int (2 ^ W)), some (.int (M : Nat)), some (dl ws), x8, x9, some (.int (Lm.num (2 ^ W) ws)), some (dl ws), some (.int d), x13, x14, x15, x16, x17, x18, x19, x20] m P := by
  obtain ⟨g, g1, g2, g3, g4⟩ := hW.pw
  have o0 := O.h0
  have o1 := O.h1
  unfold w_law_3
  refine seq_go (set_go (iff_go ?_))
  walk_at "vh"
  refine tk hb (by omega) (by omega) (by omega) (fun t m1 t0 t1 q1 b1 => ?_)
  walk_at "vh"
  refine if_dec (fun c => ?_) (fun c => ?_)
  · walk_at "vh"
    refine tk b1 (by omega) (by omega) (by omega) (fun u m2 u0 u1 q2 b2 => ?_)
    walk_at "vh"
    have p0 : 0 ≤ d * u := Int.mul_nonneg (by omega) u0
    have p1 : d * u ≤ (2 ^ W - 1) * (2 ^ W - 1) := by
      have a1 : d * u ≤ (2 ^ W - 1) * u := Int.mul_le_mul_of_nonneg_right (by omega) (by omega)
      have a2 : (2 ^ W - 1) * u ≤ (2 ^ W - 1) * (2 ^ W - 1) := Int.mul_le_mul_of_nonneg_left (by omega) (by omega)
      omega
    have p2 : (2 ^ W - 1 : Int) * (2 ^ W - 1) < 2 ^ W * 2 ^ W := by
      have : (2 ^ W - 1 : Int) * (2 ^ W - 1) = 2 ^ W * 2 ^ W - 2 ^ W - 2 ^ W + 1 := by generalize (2 ^ W : Int) = b; grind
      omega
    have n0 := Lm.num_nonneg (B := 2 ^ W) (by omega) L.w
    have ll := L.l
    obtain ⟨f1, f2, f3, f4⟩ := lw_facts (n := Lm.num (2 ^ W) ws + d * u) hW (by omega) (k := ws.length + 3) (by omega) (num_room hW L (by omega))
    refine p_law_words hW ?_
    refine nx_go ?_
    exact q3b hW L f1 O H
  · walk_at "vh"
    refine p_law_long hW b1 (by omega) (by omega) (fun vs m2 _ b2 f1 f2 f3 => ?_)
    refine nx_go ?_
    exact q3b hW L f1 O H
end
end K53
end

section
namespace K53
open PySem PySem.Spec PyProof.Rows L2 Ab
local macro_rules | `(tactic| walk_at "vg") => `(tactic| repeat' (first | (with_reducible refine nx_go ?_) | (with_reducible refine seq_go ?_) | (with_reducible refine set_go ?_) | (with_reducible refine call_go ?_) | (with_reducible refine cons_go ?_) | (with_reducible refine nil_go ?_) | ((with_reducible apply var_go); next => exact rfl) | (with_reducible refine con_go ?_) | (with_reducible refine op_go ?_) | (with_reducible refine isbl_go ?_) | (with_reducible refine if_go ?_) | (with_reducible refine isB_go ?_) | (with_reducible refine tru_go ?_) | (with_reducible refine trub_go ?_) | (with_reducible refine tri_go ?_) | (with_reducible refine asg_go ?_) | (with_reducible refine drop_go ?_) | (with_reducible refine ret_go ?_) | (with_reducible refine tup_go ?_) | (with_reducible refine cb_go ?_) | (with_reducible refine rt_int ?_) | (with_reducible refine rt_bl ?_) | (with_reducible refine rt_non ?_) | (with_reducible refine rt_tup ?_) | (with_reducible refine rt_str ?_) | (with_reducible refine rt_lst ?_) | (with_reducible refine rt_new ?_) | (with_reducible refine l1_go ?_) | (with_reducible refine l2_go ?_) | (with_reducible refine l3_go ?_) | (with_reducible refine l4_go ?_) | (with_reducible refine l5_go ?_) | (with_reducible refine l6_go ?_) | (with_reducible refine if_T ?_) | (with_reducible refine if_F ?_) | (with_reducible refine if_n ?_) | (with_reducible refine not_go ?_) | (with_reducible refine or_go ?_) | (with_reducible refine and_go ?_) | (with_reducible refine notv_go ?_) | (with_reducible refine andv_go ?_) | (with_reducible refine orv_go ?_) | (with_reducible refine iff_go ?_) | (with_reducible refine chain_go ?_) | (with_reducible refine add_go ?_) | (with_reducible refine sub_go ?_) | (with_reducible refine lt_go ?_) | (with_reducible refine gt_go ?_) | (with_reducible refine ge_go ?_) | (with_reducible refine le_go ?_) | (with_reducible refine eq_go ?_) | (with_reducible refine ne_go ?_) | (with_reducible refine eqs_go ?_) | (with_reducible refine nes_go ?_) | (with_reducible refine eqb_go ?_) | (with_reducible refine neb_go ?_) | (with_reducible refine int_go ?_) | (with_reducible refine inti_go ?_) | (with_reducible refine band_go ?_) | (with_reducible refine bor_go ?_) | (with_reducible refine iadd_go ?_) | (with_reducible refine min_go ?_) | (with_reducible refine max_go ?_) | (with_reducible refine abs_go ?_) | (with_reducible refine neg_go ?_) | (with_reducible refine bits_go ?_) | ((with_reducible apply mulg); next => first | assumption | exact .inl (.inl ⟨by omega, by omega⟩) | exact .inl (.inr ⟨by omega, by omega⟩)) | ((with_reducible apply divg); next => first | assumption | exact divok (by omega) (by omega)) | ((with_reducible apply modg); next => first | assumption | omega) | ((with_reducible apply shl1g); next => omega) | ((with_reducible apply shlng); next => first | assumption | exact .inl ⟨by omega, by omega, by omega⟩) | ((with_reducible apply shlg); next => first | assumption | exact .inl ⟨by omega, by omega, by omega⟩) | (with_reducible refine shrng ?_) | ((with_reducible apply shrg); next => first | assumption | omega) | ((with_reducible apply pow_g); next => first | assumption | exact ⟨by omega, by omega, by omega⟩) | (with_reducible refine two_go ?_) | (with_reducible refine lenl_go ?_) | (with_reducible refine lenf_go ?_) | (with_reducible refine lent_go ?_) | (with_reducible refine lenr_go ?_) | (with_reducible refine idxl_go at0 ?_) | (with_reducible refine idxt_go at0 ?_) | (with_reducible refine idxf_go at0 ?_) | (with_reducible refine idxl_go at1 ?_) | (with_reducible refine idxt_go at1 ?_) | (with_reducible refine idxf_go at1 ?_) | (with_reducible refine idxl_go at2 ?_) | (with_reducible refine idxt_go at2 ?_) | (with_reducible refine idxf_go at2 ?_) | (with_reducible refine idxl_go at3 ?_) | (with_reducible refine idxt_go at3 ?_) | (with_reducible refine idxf_go at3 ?_) | (with_reducible refine idxl_go at4 ?_) | (with_reducible refine idxt_go at4 ?_) | (with_reducible refine idxf_go at4 ?_) | (with_reducible refine idxl_go at5 ?_) | (with_reducible refine idxt_go at5 ?_) | (with_reducible refine idxf_go at5 ?_) | (with_reducible refine idxl_go at_last ?_) | ((with_reducible apply sz_go); next => exact Nat.le_of_ble_eq_true rfl) | (with_reducible refine lstk_go ?_) | (with_reducible refine newt_go ?_) | (with_reducible refine listl_go ?_) | (with_reducible refine listf_go ?_) | (with_reducible refine sl_go ?_) | (with_reducible refine nopart_go ?_) | (with_reducible refine part_go ?_) | (with_reducible refine sll_go ?_) | (with_reducible refine rev_go ?_) | (with_reducible refine mt_go ?_) | (with_reducible refine ist_set ?_) | (with_reducible refine rz1_go ?_) | (with_reducible refine raise_go ?_) | (with_reducible refine nil_s ?_) | (with_reducible refine for_go ?_) | (with_reducible refine iseq_go ?_) | (with_reducible refine skl_go ?_) | (with_reducible refine skf_go ?_) | (with_reducible refine skt_go ?_) | (with_reducible refine ir1_go ?_) | (with_reducible refine ir2_go ?_) | (with_reducible refine ir3_go ?_) | (with_reducible refine ienum_go ?_) | (with_reducible refine par2_go ?_) | (with_reducible refine par3_go ?_) | ((with_reducible apply app_set); next => first | omega | (simp only [List.length_append, List.length_cons, List.length_nil, List.length_map]; omega)) | ((with_reducible apply aug_go); next => exact rfl) | ((with_reducible apply isi_T); (next => exact rfl); (next => exact rfl)) | ((with_reducible apply isi_F); (next => exact rfl); (next => exact rfl)) | (with_reducible refine p_width (by assumption) ?_) | (with_reducible refine p_cut (by assumption) ?_) | (with_reducible refine p_gap_of (by assumption) ?_) | (with_reducible refine p_sum_of (by assumption) ?_) | ((with_reducible apply p_low_product); (next => assumption); (next => first | assumption | exact .inl (.inl ⟨by omega, by omega⟩) | exact .inl (.inr ⟨by omega, by omega⟩))) | ((with_reducible apply p_high_product); (next => assumption); (next => first | assumption | exact .inl (.inl ⟨by omega, by omega⟩) | exact .inl (.inr ⟨by omega, by omega⟩))) | ((with_reducible apply if_D); next => first | assumption | omega) | ((with_reducible apply if_N); next => first | assumption | omega) | ((with_reducible apply if_t); next => assumption) | ((with_reducible apply if_f); next => assumption) | (dsimp only)))
local macro_rules | `(tactic| walk_at "vh") => `(tactic| repeat' (first | (with_reducible refine seq_go ?_) | (with_reducible refine set_go ?_) | (with_reducible refine call_go ?_) | (with_reducible refine cons_go ?_) | (with_reducible refine nil_go ?_) | ((with_reducible apply var_go); next => exact rfl) | (with_reducible refine con_go ?_) | (with_reducible refine op_go ?_) | (with_reducible refine isbl_go ?_) | (with_reducible refine if_go ?_) | (with_reducible refine isB_go ?_) | (with_reducible refine tru_go ?_) | (with_reducible refine trub_go ?_) | (with_reducible refine tri_go ?_) | (with_reducible refine asg_go ?_) | (with_reducible refine drop_go ?_) | (with_reducible refine ret_go ?_) | (with_reducible refine tup_go ?_) | (with_reducible refine cb_go ?_) | (with_reducible refine rt_int ?_) | (with_reducible refine rt_bl ?_) | (with_reducible refine rt_non ?_) | (with_reducible refine rt_tup ?_) | (with_reducible refine rt_str ?_) | (with_reducible refine rt_lst ?_) | (with_reducible refine rt_new ?_) | (with_reducible refine l1_go ?_) | (with_reducible refine l2_go ?_) | (with_reducible refine l3_go ?_) | (with_reducible refine l4_go ?_) | (with_reducible refine l5_go ?_) | (with_reducible refine l6_go ?_) | (with_reducible refine if_T ?_) | (with_reducible refine if_F ?_) | (with_reducible refine if_n ?_) | (with_reducible refine not_go ?_) | (with_reducible refine or_go ?_) | (with_reducible refine and_go ?_) | (with_reducible refine notv_go ?_) | (with_reducible refine andv_go ?_) | (with_reducible refine orv_go ?_) | (with_reducible refine iff_go ?_) | (with_reducible refine chain_go ?_) | (with_reducible refine add_go ?_) | (with_reducible refine sub_go ?_) | (with_reducible refine lt_go ?_) | (with_reducible refine gt_go ?_) | (with_reducible refine ge_go ?_) | (with_reducible refine le_go ?_) | (with_reducible refine eq_go ?_) | (with_reducible refine ne_go ?_) | (with_reducible refine eqs_go ?_) | (with_reducible refine nes_go ?_) | (with_reducible refine eqb_go ?_) | (with_reducible refine neb_go ?_) | (with_reducible refine int_go ?_) | (with_reducible refine inti_go ?_) | (with_reducible refine band_go ?_) | (with_reducible refine bor_go ?_) | (with_reducible refine iadd_go ?_) | (with_reducible refine min_go ?_) | (with_reducible refine max_go ?_) | (with_reducible refine abs_go ?_) | (with_reducible refine neg_go ?_) | (with_reducible refine bits_go ?_) | ((with_reducible apply mulg); next => first | assumption | exact .inl (.inl ⟨by omega, by omega⟩) | exact .inl (.inr ⟨by omega, by omega⟩)) | ((with_reducible apply divg); next => first | assumption | exact divok (by omega) (by omega)) | ((with_reducible apply modg); next => first | assumption | omega) | ((with_reducible apply shl1g); next => omega) | ((with_reducible apply shlng); next => first | assumption | exact .inl ⟨by omega, by omega, by omega⟩) | ((with_reducible apply shlg); next => first | assumption | exact .inl ⟨by omega, by omega, by omega⟩) | (with_reducible refine shrng ?_) | ((with_reducible apply shrg); next => first | assumption | omega) | ((with_reducible apply pow_g); next => first | assumption | exact ⟨by omega, by omega, by omega⟩) | (with_reducible refine two_go ?_) | (with_reducible refine lenl_go ?_) | (with_reducible refine lenf_go ?_) | (with_reducible refine lent_go ?_) | (with_reducible refine lenr_go ?_) | (with_reducible refine idxl_go at0 ?_) | (with_reducible refine idxt_go at0 ?_) | (with_reducible refine idxf_go at0 ?_) | (with_reducible refine idxl_go at1 ?_) | (with_reducible refine idxt_go at1 ?_) | (with_reducible refine idxf_go at1 ?_) | (with_reducible refine idxl_go at2 ?_) | (with_reducible refine idxt_go at2 ?_) | (with_reducible refine idxf_go at2 ?_) | (with_reducible refine idxl_go at3 ?_) | (with_reducible refine idxt_go at3 ?_) | (with_reducible refine idxf_go at3 ?_) | (with_reducible refine idxl_go at4 ?_) | (with_reducible refine idxt_go at4 ?_) | (with_reducible refine idxf_go at4 ?_) | (with_reducible refine idxl_go at5 ?_) | (with_reducible refine idxt_go at5 ?_) | (with_reducible refine idxf_go at5 ?_) | (with_reducible refine idxl_go at_last ?_) | ((with_reducible apply sz_go); next => exact Nat.le_of_ble_eq_true rfl) | (with_reducible refine lstk_go ?_) | (with_reducible refine newt_go ?_) | (with_reducible refine listl_go ?_) | (with_reducible refine listf_go ?_) | (with_reducible refine sl_go ?_) | (with_reducible refine nopart_go ?_) | (with_reducible refine part_go ?_) | (with_reducible refine sll_go ?_) | (with_reducible refine rev_go ?_) | (with_reducible refine mt_go ?_) | (with_reducible refine ist_set ?_) | (with_reducible refine rz1_go ?_) | (with_reducible refine raise_go ?_) | (with_reducible refine nil_s ?_) | (with_reducible refine for_go ?_) | (with_reducible refine iseq_go ?_) | (with_reducible refine skl_go ?_) | (with_reducible refine skf_go ?_) | (with_reducible refine skt_go ?_) | (with_reducible refine ir1_go ?_) | (with_reducible refine ir2_go ?_) | (with_reducible refine ir3_go ?_) | (with_reducible refine ienum_go ?_) | (with_reducible refine par2_go ?_) | (with_reducible refine par3_go ?_) | ((with_reducible apply app_set); next => first | omega | (simp only [List.length_append, List.length_cons, List.length_nil, List.length_map]; omega)) | ((with_reducible apply aug_go); next => exact rfl) | ((with_reducible apply isi_T); (next => exact rfl); (next => exact rfl)) | ((with_reducible apply isi_F); (next => exact rfl); (next => exact rfl)) | (with_reducible refine p_width (by assumption) ?_) | (with_reducible refine p_cut (by assumption) ?_) | (with_reducible refine p_gap_of (by assumption) ?_) | (with_reducible refine p_sum_of (by assumption) ?_) | ((with_reducible apply p_low_product); (next => assumption); (next => first | assumption | exact .inl (.inl ⟨by omega, by omega⟩) | exact .inl (.inr ⟨by omega, by omega⟩))) | ((with_reducible apply p_high_product); (next => assumption); (next => first | assumption | exact .inl (.inl ⟨by omega, by omega⟩) | exact .inl (.inr ⟨by omega, by omega⟩))) | ((with_reducible apply if_D); next => first | assumption | omega) | ((with_reducible apply if_N); next => first | assumption | omega) | ((with_reducible apply if_t); next => assumption) | ((with_reducible apply if_f); next => assumption) | (dsimp only)))
local macro_rules | `(tactic| walk_at "vs") => `(tactic| repeat' (first | (with_reducible refine nx_go ?_) | (with_reducible refine seq_go ?_) | (with_reducible refine set_go ?_) | (with_reducible refine call_go ?_) | (with_reducible refine cons_go ?_) | (with_reducible refine nil_go ?_) | ((with_reducible apply var_go); next => exact rfl) | (with_reducible refine con_go ?_) | (with_reducible refine op_go ?_) | (with_reducible refine isbl_go ?_) | (with_reducible refine if_go ?_) | (with_reducible refine isB_go ?_) | (with_reducible refine tru_go ?_) | (with_reducible refine trub_go ?_) | (with_reducible refine tri_go ?_) | (with_reducible refine asg_go ?_) | (with_reducible refine drop_go ?_) | (with_reducible refine ret_go ?_) | (with_reducible refine tup_go ?_) | (with_reducible refine cb_go ?_) | (with_reducible refine rt_int ?_) | (with_reducible refine rt_bl ?_) | (with_reducible refine rt_non ?_) | (with_reducible refine rt_tup ?_) | (with_reducible refine rt_str ?_) | (with_reducible refine rt_lst ?_) | (with_reducible refine rt_new ?_) | (with_reducible refine l1_go ?_) | (with_reducible refine l2_go ?_) | (with_reducible refine l3_go ?_) | (with_reducible refine l4_go ?_) | (with_reducible refine l5_go ?_) | (with_reducible refine l6_go ?_) | (with_reducible refine if_T ?_) | (with_reducible refine if_F ?_) | (with_reducible refine if_n ?_) | (with_reducible refine not_go ?_) | (with_reducible refine or_go ?_) | (with_reducible refine and_go ?_) | (with_reducible refine notv_go ?_) | (with_reducible refine andv_go ?_) | (with_reducible refine orv_go ?_) | (with_reducible refine iff_go ?_) | (with_reducible refine chain_go ?_) | (with_reducible refine add_go ?_) | (with_reducible refine sub_go ?_) | (with_reducible refine lt_go ?_) | (with_reducible refine gt_go ?_) | (with_reducible refine ge_go ?_) | (with_reducible refine le_go ?_) | (with_reducible refine eq_go ?_) | (with_reducible refine ne_go ?_) | (with_reducible refine eqs_go ?_) | (with_reducible refine nes_go ?_) | (with_reducible refine eqb_go ?_) | (with_reducible refine neb_go ?_) | (with_reducible refine int_go ?_) | (with_reducible refine inti_go ?_) | (with_reducible refine band_go ?_) | (with_reducible refine bor_go ?_) | (with_reducible refine iadd_go ?_) | (with_reducible refine min_go ?_) | (with_reducible refine max_go ?_) | (with_reducible refine abs_go ?_) | (with_reducible refine neg_go ?_) | (with_reducible refine bits_go ?_) | ((with_reducible apply mulg); next => first | assumption | exact .inl (.inl ⟨by omega, by omega⟩) | exact .inl (.inr ⟨by omega, by omega⟩)) | ((with_reducible apply divg); next => first | assumption | exact divok (by omega) (by omega)) | ((with_reducible apply modg); next => first | assumption | omega) | ((with_reducible apply shl1g); next => omega) | ((with_reducible apply shlng); next => first | assumption | exact .inl ⟨by omega, by omega, by omega⟩) | ((with_reducible apply shlg); next => first | assumption | exact .inl ⟨by omega, by omega, by omega⟩) | (with_reducible refine shrng ?_) | ((with_reducible apply shrg); next => first | assumption | omega) | ((with_reducible apply pow_g); next => first | assumption | exact ⟨by omega, by omega, by omega⟩) | (with_reducible refine two_go ?_) | (with_reducible refine lenl_go ?_) | (with_reducible refine lenf_go ?_) | (with_reducible refine lent_go ?_) | (with_reducible refine lenr_go ?_) | (with_reducible refine idxl_go at0 ?_) | (with_reducible refine idxt_go at0 ?_) | (with_reducible refine idxf_go at0 ?_) | (with_reducible refine idxl_go at1 ?_) | (with_reducible refine idxt_go at1 ?_) | (with_reducible refine idxf_go at1 ?_) | (with_reducible refine idxl_go at2 ?_) | (with_reducible refine idxt_go at2 ?_) | (with_reducible refine idxf_go at2 ?_) | (with_reducible refine idxl_go at3 ?_) | (with_reducible refine idxt_go at3 ?_) | (with_reducible refine idxf_go at3 ?_) | (with_reducible refine idxl_go at4 ?_) | (with_reducible refine idxt_go at4 ?_) | (with_reducible refine idxf_go at4 ?_) | (with_reducible refine idxl_go at5 ?_) | (with_reducible refine idxt_go at5 ?_) | (with_reducible refine idxf_go at5 ?_) | (with_reducible refine idxl_go at_last ?_) | ((with_reducible apply sz_go); next => exact Nat.le_of_ble_eq_true rfl) | (with_reducible refine lstk_go ?_) | (with_reducible refine newt_go ?_) | (with_reducible refine listl_go ?_) | (with_reducible refine listf_go ?_) | (with_reducible refine sl_go ?_) | (with_reducible refine nopart_go ?_) | (with_reducible refine part_go ?_) | (with_reducible refine sll_go ?_) | (with_reducible refine rev_go ?_) | (with_reducible refine mt_go ?_) | (with_reducible refine ist_set ?_) | (with_reducible refine rz1_go ?_) | (with_reducible refine raise_go ?_) | (with_reducible refine nil_s ?_) | (with_reducible refine for_go ?_) | (with_reducible refine iseq_go ?_) | (with_reducible refine skl_go ?_) | (with_reducible refine skf_go ?_) | (with_reducible refine skt_go ?_) | (with_reducible refine ir1_go ?_) | (with_reducible refine ir2_go ?_) | (with_reducible refine ir3_go ?_) | (with_reducible refine ienum_go ?_) | (with_reducible refine par2_go ?_) | (with_reducible refine par3_go ?_) | ((with_reducible apply app_set); next => first | omega | (simp only [List.length_append, List.length_cons, List.length_nil, List.length_map]; omega)) | ((with_reducible apply aug_go); next => exact rfl) | ((with_reducible apply isi_T); (next => exact rfl); (next => exact rfl)) | ((with_reducible apply isi_F); (next => exact rfl); (next => exact rfl)) | (with_reducible refine p_width (by assumption) ?_) | (with_reducible refine p_cut (by assumption) ?_) | (with_reducible refine p_gap_of (by assumption) ?_) | (with_reducible refine p_sum_of (by assumption) ?_) | ((with_reducible apply p_low_product); (next => assumption); (next => first | assumption | exact .inl (.inl ⟨by omega, by omega⟩) | exact .inl (.inr ⟨by omega, by omega⟩))) | ((with_reducible apply p_high_product); (next => assumption); (next => first | assumption | exact .inl (.inl ⟨by omega, by omega⟩) | exact .inl (.inr ⟨by omega, by omega⟩))) | ((with_reducible apply if_D); next => first | assumption | omega) | ((with_reducible apply if_N); next => first | assumption | omega) | ((with_reducible apply if_t); next => assumption) | ((with_reducible apply if_f); next => assumption) | (with_reducible refine if_dec (fun _ => ?_) (fun _ => ?_)) | (dsimp only)))
--pps
section
variable {K : PySem.W.Frag} {m : Mem} {R : ARes → Mem → Prop} {W : Nat} {P : SK}
variable {x0 x1 x2 x3 x4 x5 x6 x7 x8 x9 x10 x11 x12 x13 x14 x15 x16 x17 x18 x19 x20 : Option D}
/-- one divisor of divides_long and exact_long -/
theorem q5 {ws : List Int} {d : Int} (hW : Wd W) (L : Lo W ws) (d0 : 1 ≤ d) (d1 : d ≤ 2 ^ W - 1) (H : ∀ y17, P.nx [x0, x1, x2, some (.int W), x4, x5, x6, some (dl ws), x8, x9, some (.int (Lm.num (2 ^ W) ws)), x11, x12, some (.int d), x14, x15, x16, y17, x18, x19, x20] m) :
    w_law_5 K [x0, x1, x2, some (.int W), x4, x5, x6, some (dl ws), x8, x9, some (.int (Lm.num (2 ^ W) ws)), x11, x12, some (.int d), x14, x15, x16, x17, x18, x19, x20] m P := by
  obtain ⟨g, g1, g2, g3, g4⟩ := hW.pw
  have ll := L.l
  unfold w_law_5
  walk_at "vg"
  refine p_divides_long hW d0 d1 L.w L.c L.l6 ?_
  walk_at "vg"
  refine p_law_same Sm.bl ?_
  walk_at "vg"
  unfold w_law_4
  walk_at "vg"
  have n0 := Lm.num_nonneg (B := 2 ^ W) (by omega) L.w
  refine p_exact_long hW d0 d1 L.w L.c L.l6 (fun hz vs k1 k2 k3 => ?_) (fun hz => ?_)
  · walk_at "vg"
    refine p_law_words hW ?_
    walk_at "vg"
    have q0 : 0 ≤ Lm.num (2 ^ W) ws / d := Int.ediv_nonneg n0 (by omega)
    have q1 : Lm.num (2 ^ W) ws / d ≤ Lm.num (2 ^ W) ws := Int.ediv_le_self _ n0
    have q2 := Lm.num_lt (B := 2 ^ W) (by omega) L.w
    obtain ⟨f1, f2, f3, f4⟩ := lw_facts (n := Lm.num (2 ^ W) ws / d) hW q0 (k := ws.length) (by omega) (by omega)
    have e : vs = Lm.lw (2 ^ W) 4000 (Lm.num (2 ^ W) ws / d) := Lm.can_inj hW.one k1 f1 k2 f2 (by rw [k3, f3])
    rw [e]
    refine p_law_same (sm_dl (by omega)) ?_
    walk_at "vg"
    exact H _
  · walk_at "vg"
    refine p_law_same Sm.non ?_
    walk_at "vg"
    exact H _
theorem q6 {ws : List Int} {d o : Int} {a : Addr} {n M : Nat} (hW : Wd W) (L : Lo W ws) (O : Od W o) (d0 : 1 ≤ d) (d1 : d ≤ 2 ^ W - 1) (hb : Box m a n) (hn : n < 10000000) (hM : M ≤ 40)
    (H : ∀ y13 y14 y17 y18 m', P.nx [x0, x1, some (.raw (.ref a)), some (.int W), x4, some (.int (2 ^ W)), some (.int (M : Nat)), some (dl ws), some (.int d), x9, some (.int (Lm.num (2 ^ W) ws)), some (dl ws), some (.int o), y13, y14, x15, x16, y17, y18, x19, x20] m') :
    w_law_6 K [x0, x1, some (.raw (.ref a)), some (.int W), x4, some (.int (2 ^ W)), some (.int (M : Nat)), some (dl ws), some (.int d), x9, some (.int (Lm.num (2 ^ W) ws)), some (dl ws), some (.int o), x13, x14, x15, x16, x17, x18, x19, x20] m P := by
  have o0 := O.h0
  have o1 := O.h1
  have hB := hW.one
  obtain ⟨g, g1, g2, g3, g4⟩ := hW.pw
  unfold w_law_6
  walk_at "vg"
  show Turns _ _ _ (([d, o, 1, 2] : List Int).map D.int) _ _
  refine lst_turns (fun i v m' => m' = m ∧ ∃ y13 y17, v = [x0, x1, some (.raw (.ref a)), some (.int W), x4, some (.int (2 ^ W)), some (.int (M : Nat)), some (dl ws), some (.int d), x9, some (.int (Lm.num (2 ^ W) ws)), some (dl ws), some (.int o), y13, x14, x15, x16, y17, x18, x19, x20]) ⟨rfl, _, _, rfl⟩ ?_ ?_
  · rintro i hi v1 m2 ⟨rfl, y13, y17, rfl⟩
    have hm : 1 ≤ ([d, o, 1, 2] : List Int)[i] ∧ ([d, o, 1, 2] : List Int)[i] ≤ 2 ^ W - 1 := by
      have := List.getElem_mem hi
      simp only [List.mem_cons, List.not_mem_nil, or_false] at this
      rcases this with h | h | h | h <;> rw [h] <;> omega
    generalize ([d, o, 1, 2] : List Int)[i] = b at hm ⊢
    exact q5 hW L hm.1 hm.2 (fun y17 => ⟨_, _, Gh.refl, rfl, _, _, rfl⟩)
  · rintro v1 m2 ⟨rfl, y13, y17, rfl⟩
    exact nx_go (q3 hW L O hb hn hM (fun y14 y18 m' => H _ _ _ _ m'))
theorem ints_rows {l : List (Int × Int)} : l.map (fun p => D.int p.1) = (l.map (·.1)).map D.int := by rw [List.map_map]; rfl
/-- the rows from the low end -/
theorem q10 {ws : List Int} {o : Int} {a : Addr} {n : Nat} (hW : Wd W) (L : Lo W ws) (O : Od W o) (hb : Box m a n)
    (H : ∀ y14 y15 y16 m', Box m' a n → P.nx [x0, x1, some (.raw (.ref a)), some (.int W), x4, x5, x6, some (dl ws), x8, x9, some (.int (Lm.num (2 ^ W) ws)), x11, x12, some (.int o), y14, y15, y16, x17, x18, x19, x20] m') :
    w_law_10 K [x0, x1, some (.raw (.ref a)), some (.int W), x4, x5, x6, some (dl ws), x8, x9, some (.int (Lm.num (2 ^ W) ws)), x11, x12, some (.int o), x14, x15, x16, x17, x18, x19, x20] m P := by
  have o0 := O.h0
  have o1 := O.h1
  have hB := hW.one
  have ll := L.l
  have whi := hW.hi
  obtain ⟨g, g1, g2, g3, g4⟩ := hW.pw
  unfold w_law_10
  walk_at "vg"
  refine p_law_low hW O.h0 O.h1 O.ho L.w L.l6 (fun y hy => ?_)
  walk_at "vg"
  refine p_low_divided hW O.h0 O.h1 O.ho L.w L.c L.l6 (fun x p hx hp => ?_)
  obtain rfl := inv_same hx hy
  have hap := box_ne hb hp
  have hrl : (Lm.lowR (2 ^ W) o x 0 ws).length ≤ 1000000 := by rw [Lm.lowR_len]; omega
  have z := Lm.low_zero rfl hB (by omega) O.ho (by omega) hx.h2 L.w
  obtain ⟨r1, r2, r3, r4⟩ := Lm.low_num hB (by omega) (by omega) hx.h2 L.w (Int.le_refl 0) (by omega : (0 : Int) < o)
  generalize Lm.lowR (2 ^ W) o x 0 ws = rows at *
  walk_at "vg"
  refine p_law_sameR (smR_at setM_same (by rw [List.length_map]; exact hrl) (fun z hz => ?_)) ?_
  · obtain ⟨q, _, rfl⟩ := List.mem_map.mp hz
    exact sm_row
  walk_at "vg"
  unfold w_law_9
  have last : ∀ (c : Int) m, c = Lm.lastC 0 rows → Box m a n → m p = some (.lst (rows.map rowD)) → Nx (sSeq (sIf (wIsB (wOp oNe (wOp (oMul true) (wCall 2 (sp_law_number K) (wCons (wLc true (iSeq (wVar 14)) [19, 20] (gT 2 (gs1 (gN 19) (gs1 (gN 20) gs0))) wYes (wVar 19)) (wCons (wVar 3) wNil))) (wVar 13)) (wOp (oAdd true) (wVar 10) (wOp (oMul true) (wVar 16) (wOp oShl (wCon (.int 1)) (wOp (oMul true) (wVar 3) (wCB cLen (wCons (wVar 7) wNil)))))))) (sRet (wCon (.bl false))) sNil)
  (w_law_8 K)) P [x0, x1, some (.raw (.ref a)), some (.int W), x4, x5, x6, some (dl ws), x8, x9, some (.int (Lm.num (2 ^ W) ws)), x11, x12, some (.int o), some (.lst (rows.map rowD)), some (.raw (.ref p)), some (.int c), x17, x18, x19, x20] m := by
    rintro c m rfl hb1 hp1
    refine nx_go (seq_go (if_go (isB_go (op_go (op_go (call_go (cons_go ?_)))))))
    show iSeq (wVar 14) _ _ _ _
    refine iseq_go (var_go rfl (skl_go ?_))
    refine lc_map (fun p => .int p.1) (by omega) (fun i hi kk Z hk => ?_) ?_
    · exact two_go (if_T hk)
    rw [ints_rows]
    walk_at "vg"
    refine p_law_number hW ?_
    walk_at "vg"
    have e1 : (W : Int) * ((ws.map D.int).length : Int) = ((W * ws.length : Nat) : Int) := by rw [List.length_map, Int.natCast_mul]
    rw [e1]
    have b1 : W * ws.length ≤ 32 * 100 := Nat.mul_le_mul hW.hi ll
    refine shl1g (by omega) ?_
    walk_at "vg"
    have e2 : (2 : Int) ^ (W * ws.length) = (2 ^ W) ^ ws.length := Int.pow_mul ..
    rw [e2]
    refine if_D (by omega) ?_
    walk_at "vg"
    unfold w_law_8
    walk_at "vg"
    have e3 : decide (Lm.lastC 0 rows = 0) = decide (Lm.num (2 ^ W) ws % o = 0) := decide_eq_decide.mpr z
    rw [e3]
    refine if_D rfl ?_
    walk_at "vg"
    unfold w_law_7
    walk_at "vg"
    refine ist_at hp1 ?_
    walk_at "vg"
    refine ins_at hp1 (by rw [List.length_map]; omega) (by omega) (by omega) ?_
    exact H _ _ _ _ (box_same hb1 (setM_ne hap))
  refine seq_go (set_go (iff_go (isB_go (op_go (var_go rfl (lstk_go (nil_go (sz_go (Nat.le_of_ble_eq_true rfl) (newt_go ?_)))))))))
  refine nenil_go sim_rows (isbl_go (if_n (if_dec (fun c => ?_) (fun c => ?_))))
  · exact con_go (last 0 _ (lastC_nil c).symm (box_same hb (setM_ne hap)) setM_same)
  · obtain ⟨q, pre, e⟩ := rows_last c
    refine op_go (op_go (var_go rfl ?_))
    rw [e]
    refine neg_go (con_go ?_)
    refine idxl_go at_last (con_go (idxt_go at1 ?_))
    rw [← e]
    exact last _ _ rfl (box_same hb (setM_ne hap)) setM_same
theorem q11 {ws : List Int} {d : Int} {a : Addr} {n M : Nat} (hW : Wd W) (L : Lo W ws) (d0 : 1 ≤ d) (d1 : d ≤ 2 ^ W - 1) (hb : Box m a n) (hn : n < 10000000) (hM : M ≤ 40)
    (H : ∀ y9 y10 y11 y12 y13 y14 y15 y16 y17 y18 y19 y20 m', P.nx [x0, x1, some (.raw (.ref a)), some (.int W), x4, some (.int (2 ^ W)), some (.int (M : Nat)), some (dl ws), some (.int d), y9, y10, y11, y12, y13, y14, y15, y16, y17, y18, y19, y20] m') :
    w_law_11 K [x0, x1, some (.raw (.ref a)), some (.int W), x4, some (.int (2 ^ W)), some (.int (M : Nat)), some (dl ws), some (.int d), x9, x10, x11, x12, x13, x14, x15, x16, x17, x18, x19, x20] m P := by
  obtain ⟨g, g1, g2, g3, g4⟩ := hW.pw
  have tail : ∀ o : Int, Od W o → ∀ (x10 x11 : Option D), x10 = some (.int (Lm.num (2 ^ W) ws)) → x11 = some (dl ws) → Nx (sSeq (sFor (iSeq (wLst true (wCons (wVar 12) wNil))) (gN 13) (w_law_10 K))
  (w_law_6 K)) P [x0, x1, some (.raw (.ref a)), some (.int W), x4, some (.int (2 ^ W)), some (.int (M : Nat)), some (dl ws), some (.int d), x9, x10, x11, some (.int o), x13, x14, x15, x16, x17, x18, x19, x20] m := by
    rintro o O x10 x11 rfl rfl
    walk_at "vg"
    show Turns _ _ _ (([o] : List Int).map D.int) _ _
    refine lst_turns (fun i v m' => Box m' a n ∧ ∃ y13 y14 y15 y16, v = [x0, x1, some (.raw (.ref a)), some (.int W), x4, some (.int (2 ^ W)), some (.int (M : Nat)), some (dl ws), some (.int d), x9, some (.int (Lm.num (2 ^ W) ws)), some (dl ws), some (.int o), y13, y14, y15, y16, x17, x18, x19, x20]) ⟨hb, _, _, _, _, rfl⟩ ?_ ?_
    · rintro i hi v1 m2 ⟨b2, y13, y14, y15, y16, rfl⟩
      have e : ([o] : List Int)[i] = o := by
        have : i = 0 := by simpa using hi
        subst this; rfl
      rw [e]
      exact q10 hW L O b2 (fun y14 y15 y16 m' b' => ⟨_, _, Gh.refl, b', _, _, _, _, rfl⟩)
    · rintro v1 m2 ⟨b2, y13, y14, y15, y16, rfl⟩
      exact nx_go (q6 hW L O d0 d1 b2 hn hM (fun y13 y14 y17 y18 m' => H _ _ _ _ _ _ _ _ _ _ _ _ m'))
  unfold w_law_11
  walk_at "vh"
  refine p_law_number hW ?_
  walk_at "vh"
  refine nx_go ?_
  walk_at "vh"
  refine if_dec (fun c => ?_) (fun c => ?_)
  · walk_at "vh"
    exact tail d ⟨d0, d1, c⟩ _ _ rfl rfl
  · walk_at "vh"
    exact tail (d + 1) ⟨by omega, by omega, by omega⟩ _ _ rfl rfl
end
end K53
end

section
namespace K53
open PySem PySem.Spec PyProof.Rows L2 Ab
local macro_rules | `(tactic| walk_at "vg") => `(tactic| repeat' (first | (with_reducible refine nx_go ?_) | (with_reducible refine seq_go ?_) | (with_reducible refine set_go ?_) | (with_reducible refine call_go ?_) | (with_reducible refine cons_go ?_) | (with_reducible refine nil_go ?_) | ((with_reducible apply var_go); next => exact rfl) | (with_reducible refine con_go ?_) | (with_reducible refine op_go ?_) | (with_reducible refine isbl_go ?_) | (with_reducible refine if_go ?_) | (with_reducible refine isB_go ?_) | (with_reducible refine tru_go ?_) | (with_reducible refine trub_go ?_) | (with_reducible refine tri_go ?_) | (with_reducible refine asg_go ?_) | (with_reducible refine drop_go ?_) | (with_reducible refine ret_go ?_) | (with_reducible refine tup_go ?_) | (with_reducible refine cb_go ?_) | (with_reducible refine rt_int ?_) | (with_reducible refine rt_bl ?_) | (with_reducible refine rt_non ?_) | (with_reducible refine rt_tup ?_) | (with_reducible refine rt_str ?_) | (with_reducible refine rt_lst ?_) | (with_reducible refine rt_new ?_) | (with_reducible refine l1_go ?_) | (with_reducible refine l2_go ?_) | (with_reducible refine l3_go ?_) | (with_reducible refine l4_go ?_) | (with_reducible refine l5_go ?_) | (with_reducible refine l6_go ?_) | (with_reducible refine if_T ?_) | (with_reducible refine if_F ?_) | (with_reducible refine if_n ?_) | (with_reducible refine not_go ?_) | (with_reducible refine or_go ?_) | (with_reducible refine and_go ?_) | (with_reducible refine notv_go ?_) | (with_reducible refine andv_go ?_) | (with_reducible refine orv_go ?_) | (with_reducible refine iff_go ?_) | (with_reducible refine chain_go ?_) | (with_reducible refine add_go ?_) | (with_reducible refine sub_go ?_) | (with_reducible refine lt_go ?_) | (with_reducible refine gt_go ?_) | (with_reducible refine ge_go ?_) | (with_reducible refine le_go ?_) | (with_reducible refine eq_go ?_) | (with_reducible refine ne_go ?_) | (with_reducible refine eqs_go ?_) | (with_reducible refine nes_go ?_) | (with_reducible refine eqb_go ?_) | (with_reducible refine neb_go ?_) | (with_reducible refine int_go ?_) | (with_reducible refine inti_go ?_) | (with_reducible refine band_go ?_) | (with_reducible refine bor_go ?_) | (with_reducible refine iadd_go ?_) | (with_reducible refine min_go ?_) | (with_reducible refine max_go ?_) | (with_reducible refine abs_go ?_) | (with_reducible refine neg_go ?_) | (with_reducible refine bits_go ?_) | ((with_reducible apply mulg); next => first | assumption | exact .inl (.inl ⟨by omega, by omega⟩) | exact .inl (.inr ⟨by omega, by omega⟩)) | ((with_reducible apply divg); next => first | assumption | exact divok (by omega) (by omega)) | ((with_reducible apply modg); next => first | assumption | omega) | ((with_reducible apply shl1g); next => omega) | ((with_reducible apply shlng); next => first | assumption | exact .inl ⟨by omega, by omega, by omega⟩) | ((with_reducible apply shlg); next => first | assumption | exact .inl ⟨by omega, by omega, by omega⟩) | (with_reducible refine shrng ?_) | ((with_reducible apply shrg); next => first | assumption | omega) | ((with_reducible apply pow_g); next => first | assumption | exact ⟨by omega, by omega, by omega⟩) | (with_reducible refine two_go ?_) | (with_reducible refine lenl_go ?_) | (with_reducible refine lenf_go ?_) | (with_reducible refine lent_go ?_) | (with_reducible refine lenr_go ?_) | (with_reducible refine idxl_go at0 ?_) | (with_reducible refine idxt_go at0 ?_) | (with_reducible refine idxf_go at0 ?_) | (with_reducible refine idxl_go at1 ?_) | (with_reducible refine idxt_go at1 ?_) | (with_reducible refine idxf_go at1 ?_) | (with_reducible refine idxl_go at2 ?_) | (with_reducible refine idxt_go at2 ?_) | (with_reducible refine idxf_go at2 ?_) | (with_reducible refine idxl_go at3 ?_) | (with_reducible refine idxt_go at3 ?_) | (with_reducible refine idxf_go at3 ?_) | (with_reducible refine idxl_go at4 ?_) | (with_reducible refine idxt_go at4 ?_) | (with_reducible refine idxf_go at4 ?_) | (with_reducible refine idxl_go at5 ?_) | (with_reducible refine idxt_go at5 ?_) | (with_reducible refine idxf_go at5 ?_) | (with_reducible refine idxl_go at_last ?_) | ((with_reducible apply sz_go); next => exact Nat.le_of_ble_eq_true rfl) | (with_reducible refine lstk_go ?_) | (with_reducible refine newt_go ?_) | (with_reducible refine listl_go ?_) | (with_reducible refine listf_go ?_) | (with_reducible refine sl_go ?_) | (with_reducible refine nopart_go ?_) | (with_reducible refine part_go ?_) | (with_reducible refine sll_go ?_) | (with_reducible refine rev_go ?_) | (with_reducible refine mt_go ?_) | (with_reducible refine ist_set ?_) | (with_reducible refine rz1_go ?_) | (with_reducible refine raise_go ?_) | (with_reducible refine nil_s ?_) | (with_reducible refine for_go ?_) | (with_reducible refine iseq_go ?_) | (with_reducible refine skl_go ?_) | (with_reducible refine skf_go ?_) | (with_reducible refine skt_go ?_) | (with_reducible refine ir1_go ?_) | (with_reducible refine ir2_go ?_) | (with_reducible refine ir3_go ?_) | (with_reducible refine ienum_go ?_) | (with_reducible refine par2_go ?_) | (with_reducible refine par3_go ?_) | ((with_reducible apply app_set); next => first | omega | (simp only [List.length_append, List.length_cons, List.length_nil, List.length_map]; omega)) | ((with_reducible apply aug_go); next => exact rfl) | ((with_reducible apply isi_T); (next => exact rfl); (next => exact rfl)) | ((with_reducible apply isi_F); (next => exact rfl); (next => exact rfl)) | (with_reducible refine p_width (by assumption) ?_) | (with_reducible refine p_cut (by assumption) ?_) | (with_reducible refine p_gap_of (by assumption) ?_) | (with_reducible refine p_sum_of (by assumption) ?_) | ((with_reducible apply p_low_product); (next => assumption); (next => first | assumption | exact .inl (.inl ⟨by omega, by omega⟩) | exact .inl (.inr ⟨by omega, by omega⟩))) | ((with_reducible apply p_high_product); (next => assumption); (next => first | assumption | exact .inl (.inl ⟨by omega, by omega⟩) | exact .inl (.inr ⟨by omega, by omega⟩))) | ((with_reducible apply if_D); next => first | assumption | omega) | ((with_reducible apply if_N); next => first | assumption | omega) | ((with_reducible apply if_t); next => assumption) | ((with_reducible apply if_f); next => assumption) | (dsimp only)))
local macro_rules | `(tactic| walk_at "vh") => `(tactic| repeat' (first | (with_reducible refine seq_go ?_) | (with_reducible refine set_go ?_) | (with_reducible refine call_go ?_) | (with_reducible refine cons_go ?_) | (with_reducible refine nil_go ?_) | ((with_reducible apply var_go); next => exact rfl) | (with_reducible refine con_go ?_) | (with_reducible refine op_go ?_) | (with_reducible refine isbl_go ?_) | (with_reducible refine if_go ?_) | (with_reducible refine isB_go ?_) | (with_reducible refine tru_go ?_) | (with_reducible refine trub_go ?_) | (with_reducible refine tri_go ?_) | (with_reducible refine asg_go ?_) | (with_reducible refine drop_go ?_) | (with_reducible refine ret_go ?_) | (with_reducible refine tup_go ?_) | (with_reducible refine cb_go ?_) | (with_reducible refine rt_int ?_) | (with_reducible refine rt_bl ?_) | (with_reducible refine rt_non ?_) | (with_reducible refine rt_tup ?_) | (with_reducible refine rt_str ?_) | (with_reducible refine rt_lst ?_) | (with_reducible refine rt_new ?_) | (with_reducible refine l1_go ?_) | (with_reducible refine l2_go ?_) | (with_reducible refine l3_go ?_) | (with_reducible refine l4_go ?_) | (with_reducible refine l5_go ?_) | (with_reducible refine l6_go ?_) | (with_reducible refine if_T ?_) | (with_reducible refine if_F ?_) | (with_reducible refine if_n ?_) | (with_reducible refine not_go ?_) | (with_reducible refine or_go ?_) | (with_reducible refine and_go ?_) | (with_reducible refine notv_go ?_) | (with_reducible refine andv_go ?_) | (with_reducible refine orv_go ?_) | (with_reducible refine iff_go ?_) | (with_reducible refine chain_go ?_) | (with_reducible refine add_go ?_) | (with_reducible refine sub_go ?_) | (with_reducible refine lt_go ?_) | (with_reducible refine gt_go ?_) | (with_reducible refine ge_go ?_) | (with_reducible refine le_go ?_) | (with_reducible refine eq_go ?_) | (with_reducible refine ne_go ?_) | (with_reducible refine eqs_go ?_) | (with_reducible refine nes_go ?_) | (with_reducible refine eqb_go ?_) | (with_reducible refine neb_go ?_) | (with_reducible refine int_go ?_) | (with_reducible refine inti_go ?_) | (with_reducible refine band_go ?_) | (with_reducible refine bor_go ?_) | (with_reducible refine iadd_go ?_) | (with_reducible refine min_go ?_) | (with_reducible refine max_go ?_) | (with_reducible refine abs_go ?_) | (with_reducible refine neg_go ?_) | (with_reducible refine bits_go ?_) | ((with_reducible apply mulg); next => first | assumption | exact .inl (.inl ⟨by omega, by omega⟩) | exact .inl (.inr ⟨by omega, by omega⟩)) | ((with_reducible apply divg); next => first | assumption | exact divok (by omega) (by omega)) | ((with_reducible apply modg); next => first | assumption | omega) | ((with_reducible apply shl1g); next => omega) | ((with_reducible apply shlng); next => first | assumption | exact .inl ⟨by omega, by omega, by omega⟩) | ((with_reducible apply shlg); next => first | assumption | exact .inl ⟨by omega, by omega, by omega⟩) | (with_reducible refine shrng ?_) | ((with_reducible apply shrg); next => first | assumption | omega) | ((with_reducible apply pow_g); next => first | assumption | exact ⟨by omega, by omega, by omega⟩) | (with_reducible refine two_go ?_) | (with_reducible refine lenl_go ?_) | (with_reducible refine lenf_go ?_) | (with_reducible refine lent_go ?_) | (with_reducible refine lenr_go ?_) | (with_reducible refine idxl_go at0 ?_) | (with_reducible refine idxt_go at0 ?_) | (with_reducible refine idxf_go at0 ?_) | (with_reducible refine idxl_go at1 ?_) | (with_reducible refine idxt_go at1 ?_) | (with_reducible refine idxf_go at1 ?_) | (with_reducible refine idxl_go at2 ?_) | (with_reducible refine idxt_go at2 ?_) | (with_reducible refine idxf_go at2 ?_) | (with_reducible refine idxl_go at3 ?_) | (with_reducible refine idxt_go at3 ?_) | (with_reducible refine idxf_go at3 ?_) | (with_reducible refine idxl_go at4 ?_) | (with_reducible refine idxt_go at4 ?_) | (with_reducible refine idxf_go at4 ?_) | (with_reducible refine idxl_go at5 ?_) | (with_reducible refine idxt_go at5 ?_) | (with_reducible refine idxf_go at5 ?_) | (with_reducible refine idxl_go at_last ?_) | ((with_reducible apply sz_go); next => exact Nat.le_of_ble_eq_true rfl) | (with_reducible refine lstk_go ?_) | (with_reducible refine newt_go ?_) | (with_reducible refine listl_go ?_) | (with_reducible refine listf_go ?_) | (with_reducible refine sl_go ?_) | (with_reducible refine nopart_go ?_) | (with_reducible refine part_go ?_) | (with_reducible refine sll_go ?_) | (with_reducible refine rev_go ?_) | (with_reducible refine mt_go ?_) | (with_reducible refine ist_set ?_) | (with_reducible refine rz1_go ?_) | (with_reducible refine raise_go ?_) | (with_reducible refine nil_s ?_) | (with_reducible refine for_go ?_) | (with_reducible refine iseq_go ?_) | (with_reducible refine skl_go ?_) | (with_reducible refine skf_go ?_) | (with_reducible refine skt_go ?_) | (with_reducible refine ir1_go ?_) | (with_reducible refine ir2_go ?_) | (with_reducible refine ir3_go ?_) | (with_reducible refine ienum_go ?_) | (with_reducible refine par2_go ?_) | (with_reducible refine par3_go ?_) | ((with_reducible apply app_set); next => first | omega | (simp only [List.length_append, List.length_cons, List.length_nil, List.length_map]; omega)) | ((with_reducible apply aug_go); next => exact rfl) | ((with_reducible apply isi_T); (next => exact rfl); (next => exact rfl)) | ((with_reducible apply isi_F); (next => exact rfl); (next => exact rfl)) | (with_reducible refine p_width (by assumption) ?_) | (with_reducible refine p_cut (by assumption) ?_) | (with_reducible refine p_gap_of (by assumption) ?_) | (with_reducible refine p_sum_of (by assumption) ?_) | ((with_reducible apply p_low_product); (next => assumption); (next => first | assumption | exact .inl (.inl ⟨by omega, by omega⟩) | exact .inl (.inr ⟨by omega, by omega⟩))) | ((with_reducible apply p_high_product); (next => assumption); (next => first | assumption | exact .inl (.inl ⟨by omega, by omega⟩) | exact .inl (.inr ⟨by omega, by omega⟩))) | ((with_reducible apply if_D); next => first | assumption | omega) | ((with_reducible apply if_N); next => first | assumption | omega) | ((with_reducible apply if_t); next => assumption) | ((with_reducible apply if_f); next => assumption) | (dsimp only)))
local macro_rules | `(tactic| walk_at "vs") => `(tactic| repeat' (first | (with_reducible refine nx_go ?_) | (with_reducible refine seq_go ?_) | (with_reducible refine set_go ?_) | (with_reducible refine call_go ?_) | (with_reducible refine cons_go ?_) | (with_reducible refine nil_go ?_) | ((with_reducible apply var_go); next => exact rfl) | (with_reducible refine con_go ?_) | (with_reducible refine op_go ?_) | (with_reducible refine isbl_go ?_) | (with_reducible refine if_go ?_) | (with_reducible refine isB_go ?_) | (with_reducible refine tru_go ?_) | (with_reducible refine trub_go ?_) | (with_reducible refine tri_go ?_) | (with_reducible refine asg_go ?_) | (with_reducible refine drop_go ?_) | (with_reducible refine ret_go ?_) | (with_reducible refine tup_go ?_) | (with_reducible refine cb_go ?_) | (with_reducible refine rt_int ?_) | (with_reducible refine rt_bl ?_) | (with_reducible refine rt_non ?_) | (with_reducible refine rt_tup ?_) | (with_reducible refine rt_str ?_) | (with_reducible refine rt_lst ?_) | (with_reducible refine rt_new ?_) | (with_reducible refine l1_go ?_) | (with_reducible refine l2_go ?_) | (with_reducible refine l3_go ?_) | (with_reducible refine l4_go ?_) | (with_reducible refine l5_go ?_) | (with_reducible refine l6_go ?_) | (with_reducible refine if_T ?_) | (with_reducible refine if_F ?_) | (with_reducible refine if_n ?_) | (with_reducible refine not_go ?_) | (with_reducible refine or_go ?_) | (with_reducible refine and_go ?_) | (with_reducible refine notv_go ?_) | (with_reducible refine andv_go ?_) | (with_reducible refine orv_go ?_) | (with_reducible refine iff_go ?_) | (with_reducible refine chain_go ?_) | (with_reducible refine add_go ?_) | (with_reducible refine sub_go ?_) | (with_reducible refine lt_go ?_) | (with_reducible refine gt_go ?_) | (with_reducible refine ge_go ?_) | (with_reducible refine le_go ?_) | (with_reducible refine eq_go ?_) | (with_reducible refine ne_go ?_) | (with_reducible refine eqs_go ?_) | (with_reducible refine nes_go ?_) | (with_reducible refine eqb_go ?_) | (with_reducible refine neb_go ?_) | (with_reducible refine int_go ?_) | (with_reducible refine inti_go ?_) | (with_reducible refine band_go ?_) | (with_reducible refine bor_go ?_) | (with_reducible refine iadd_go ?_) | (with_reducible refine min_go ?_) | (with_reducible refine max_go ?_) | (with_reducible refine abs_go ?_) | (with_reducible refine neg_go ?_) | (with_reducible refine bits_go ?_) | ((with_reducible apply mulg); next => first | assumption | exact .inl (.inl ⟨by omega, by omega⟩) | exact .inl (.inr ⟨by omega, by omega⟩)) | ((with_reducible apply divg); next => first | assumption | exact divok (by omega) (by omega)) | ((with_reducible apply modg); next => first | assumption | omega) | ((with_reducible apply shl1g); next => omega) | ((with_reducible apply shlng); next => first | assumption | exact .inl ⟨by omega, by omega, by omega⟩) | ((with_reducible apply shlg); next => first | assumption | exact .inl ⟨by omega, by omega, by omega⟩) | (with_reducible refine shrng ?_) | ((with_reducible apply shrg); next => first | assumption | omega) | ((with_reducible apply pow_g); next => first | assumption | exact ⟨by omega, by omega, by omega⟩) | (with_reducible refine two_go ?_) | (with_reducible refine lenl_go ?_) | (with_reducible refine lenf_go ?_) | (with_reducible refine lent_go ?_) | (with_reducible refine lenr_go ?_) | (with_reducible refine idxl_go at0 ?_) | (with_reducible refine idxt_go at0 ?_) | (with_reducible refine idxf_go at0 ?_) | (with_reducible refine idxl_go at1 ?_) | (with_reducible refine idxt_go at1 ?_) | (with_reducible refine idxf_go at1 ?_) | (with_reducible refine idxl_go at2 ?_) | (with_reducible refine idxt_go at2 ?_) | (with_reducible refine idxf_go at2 ?_) | (with_reducible refine idxl_go at3 ?_) | (with_reducible refine idxt_go at3 ?_) | (with_reducible refine idxf_go at3 ?_) | (with_reducible refine idxl_go at4 ?_) | (with_reducible refine idxt_go at4 ?_) | (with_reducible refine idxf_go at4 ?_) | (with_reducible refine idxl_go at5 ?_) | (with_reducible refine idxt_go at5 ?_) | (with_reducible refine idxf_go at5 ?_) | (with_reducible refine idxl_go at_last ?_) | ((with_reducible apply sz_go); next => exact Nat.le_of_ble_eq_true rfl) | (with_reducible refine lstk_go ?_) | (with_reducible refine newt_go ?_) | (with_reducible refine listl_go ?_) | (with_reducible refine listf_go ?_) | (with_reducible refine sl_go ?_) | (with_reducible refine nopart_go ?_) | (with_reducible refine part_go ?_) | (with_reducible refine sll_go ?_) | (with_reducible refine rev_go ?_) | (with_reducible refine mt_go ?_) | (with_reducible refine ist_set ?_) | (with_reducible refine rz1_go ?_) | (with_reducible refine raise_go ?_) | (with_reducible refine nil_s ?_) | (with_reducible refine for_go ?_) | (with_reducible refine iseq_go ?_) | (with_reducible refine skl_go ?_) | (with_reducible refine skf_go ?_) | (with_reducible refine skt_go ?_) | (with_reducible refine ir1_go ?_) | (with_reducible refine ir2_go ?_) | (with_reducible refine ir3_go ?_) | (with_reducible refine ienum_go ?_) | (with_reducible refine par2_go ?_) | (with_reducible refine par3_go ?_) | ((with_reducible apply app_set); next => first | omega | (simp only [List.length_append, List.length_cons, List.length_nil, List.length_map]; omega)) | ((with_reducible apply aug_go); next => exact rfl) | ((with_reducible apply isi_T); (next => exact rfl); (next => exact rfl)) | ((with_reducible apply isi_F); (next => exact rfl); (next => exact rfl)) | (with_reducible refine p_width (by assumption) ?_) | (with_reducible refine p_cut (by assumption) ?_) | (with_reducible refine p_gap_of (by assumption) ?_) | (with_reducible refine p_sum_of (by assumption) ?_) | ((with_reducible apply p_low_product); (next => assumption); (next => first | assumption | exact .inl (.inl ⟨by omega, by omega⟩) | exact .inl (.inr ⟨by omega, by omega⟩))) | ((with_reducible apply p_high_product); (next => assumption); (next => first | assumption | exact .inl (.inl ⟨by omega, by omega⟩) | exact .inl (.inr ⟨by omega, by omega⟩))) | ((with_reducible apply if_D); next => first | assumption | omega) | ((with_reducible apply if_N); next => first | assumption | omega) | ((with_reducible apply if_t); next => assumption) | ((with_reducible apply if_f); next => assumption) | (with_reducible refine if_dec (fun _ => ?_) (fun _ => ?_)) | (dsimp only)))
--pps
section
variable {K : PySem.W.Frag} {m : Mem} {R : ARes → Mem → Prop} {W : Nat} {P : SK}
variable {x0 x1 x2 x3 x4 x5 x6 x7 x8 x9 x10 x11 x12 x13 x14 x15 x16 x17 x18 x19 x20 : Option D}
theorem q12b {a : Addr} {n M : Nat} (hW : Wd W) (hb : Box m a n) (hn : n < 1000) (hM : M ≤ 40) (hM1 : 1 ≤ M)
    (H : ∀ y2 y3 y4 y5 y6 y7 y8 y9 y10 y11 y12 y13 y14 y15 y16 y17 y18 y19 y20 m', P.nx [x0, x1, y2, y3, y4, y5, y6, y7, y8, y9, y10, y11, y12, y13, y14, y15, y16, y17, y18, y19, y20] m') :
    (sSeq (sPar [7, 8] (wCons (wCall 3 (sp_law_long K) (wCons (wVar 2) (wCons (wVar 3) (wCons (wVar 6) wNil)))) (wCons (wCall 2 (sp_law_divisor K) (wCons (wVar 2) (wCons (wVar 3) wNil))) wNil)))
  (sSeq (sSet 9 (wCall 2 (sp_law_take K) (wCons (wVar 2) (wCons (wCon (.int 4)) wNil))))
  (sSeq (sIf (wIsB (wOp oLt (wVar 9) (wCon (.int 2)))) (sSeq (sSet 10 (wOp (oAdd true) (wOp (oMul true) (wCall 2 (sp_law_number K) (wCons (wSl true (wVar 7) wNoPart (wPart (wOp oSub (wVar 6) (wCon (.int 1))))) (wCons (wVar 3) wNil))) (wVar 8)) (wOp (oMul true) (wVar 9) (wCall 2 (sp_law_take K) (wCons (wVar 2) (wCons (wVar 8) wNil))))))
  (sSet 7 (wCall 2 (sp_law_words K) (wCons (wVar 10) (wCons (wVar 3) wNil))))) sNil)
  (w_law_11 K)))) [x0, x1, some (.raw (.ref a)), some (.int W), x4, some (.int (2 ^ W)), some (.int (M : Nat)), x7, x8, x9, x10, x11, x12, x13, x14, x15, x16, x17, x18, x19, x20] m P := by
  obtain ⟨g, g1, g2, g3, g4⟩ := hW.pw
  have hB := hW.one
  walk_at "vg"
  refine p_law_long hW hb (by omega) (by omega) (fun ws m1 q1 b1 k1 k2 k3 => ?_)
  walk_at "vg"
  refine p_law_divisor hW b1 (by omega) (fun d m2 d0 d1 q2 b2 => ?_)
  walk_at "vg"
  refine tk b2 (by omega) (by omega) (by omega) (fun t m3 t0 t1 q3 b3 => ?_)
  walk_at "vh"
  refine nx_go ?_
  walk_at "vh"
  refine if_dec (fun c => ?_) (fun c => ?_)
  · walk_at "vh"
    have e1 : (M : Int) - 1 = ((M - 1 : Nat) : Int) := by omega
    rw [e1, cut_take, ← List.map_take]
    refine p_law_number hW ?_
    walk_at "vh"
    refine tk b3 (by omega) (by omega) (by omega) (fun u m4 u0 u1 q4 b4 => ?_)
    walk_at "vh"
    refine nx_go ?_
    walk_at "vh"
    refine p_law_words hW ?_
    have h1 := Lm.num_lt (by omega) (Lo.take (W := W) k1 (n := M - 1))
    have h0 := Lm.num_nonneg (by omega) (Lo.take (W := W) k1 (n := M - 1))
    have hl : (ws.take (M - 1)).length ≤ M - 1 := by rw [List.length_take]; omega
    have h2 : (2 ^ W : Int) ^ (ws.take (M - 1)).length ≤ (2 ^ W) ^ (M - 1) := Lm.pow_mono (by omega) hl
    have h3 : (2 ^ W : Int) ^ M = (2 ^ W) ^ (M - 1) * 2 ^ W := by
      rw [← Int.pow_succ]
      congr 1
      omega
    generalize Lm.num (2 ^ W) (ws.take (M - 1)) = X at *
    have h4 : (X + 1) * d ≤ (2 ^ W) ^ (M - 1) * d := Int.mul_le_mul_of_nonneg_right (by omega) (by omega)
    have hp : (0 : Int) < (2 ^ W) ^ (M - 1) := Int.pow_pos (by omega)
    have h5 : (2 ^ W : Int) ^ (M - 1) * d ≤ (2 ^ W) ^ (M - 1) * 2 ^ W := Int.mul_le_mul_of_nonneg_left (by omega) (by omega)
    have h6 : (X + 1) * d = X * d + d := by grind
    have h7 : 0 ≤ X * d := Int.mul_nonneg h0 (by omega)
    have h8 : 0 ≤ t * u ∧ t * u < d := by
      rcases (show t = 0 ∨ t = 1 by omega) with h | h
      · subst h; omega
      · subst h; omega
    obtain ⟨f1, f2, f3, f4⟩ := lw_facts (n := X * d + t * u) hW (by omega) (k := M) (by omega) (by omega)
    refine nx_go ?_
    exact q11 hW ⟨f1, f2, by omega⟩ d0 d1 b4 (by omega) hM (fun _ _ _ _ _ _ _ _ _ _ _ _ m' => H _ _ _ _ _ _ _ _ _ _ _ _ _ _ _ _ _ _ _ m')
  · walk_at "vh"
    refine nx_go ?_
    exact q11 hW ⟨k1, k2, by omega⟩ d0 d1 b3 (by omega) hM (fun _ _ _ _ _ _ _ _ _ _ _ _ m' => H _ _ _ _ _ _ _ _ _ _ _ _ _ _ _ _ _ _ _ m')
theorem q12 {k : Nat} {ns : List Int} (H : ∀ y2 y3 y4 y5 y6 y7 y8 y9 y10 y11 y12 y13 y14 y15 y16 y17 y18 y19 y20 m', P.nx [some (.frl (ns.map D.int)), some (.int (k : Nat)), y2, y3, y4, y5, y6, y7, y8, y9, y10, y11, y12, y13, y14, y15, y16, y17, y18, y19, y20] m') :
    w_law_12 K [some (.frl (ns.map D.int)), some (.int (k : Nat)), x2, x3, x4, x5, x6, x7, x8, x9, x10, x11, x12, x13, x14, x15, x16, x17, x18, x19, x20] m P := by
  unfold w_law_12
  walk_at "vg"
  refine p_law_cell (by omega) (fun c => ?_)
  walk_at "vg"
  refine p_law_box (fun a m1 ha _ hb => ?_)
  walk_at "vg"
  refine tk hb (by omega) (by omega) (by omega) (fun t m2 t0 t1 q2 b2 => ?_)
  walk_at "vg"
  obtain ⟨W, eW⟩ : ∃ W : Nat, 4 + t = (W : Int) := ⟨(4 + t).toNat, by omega⟩
  rw [eW]
  have hW : Wd W := ⟨by omega, by omega⟩
  refine tk b2 (by omega) (by omega) (by omega) (fun u m3 u0 u1 q3 b3 => ?_)
  have hle := hW.le
  walk_at "vh"
  refine nx_go ?_
  walk_at "vh"
  refine if_dec (fun c2 => ?_) (fun c2 => ?_)
  · walk_at "vh"
    exact nx_go (q12b (M := 40) hW b3 (by omega) (by omega) (by omega) H)
  · walk_at "vh"
    exact nx_go (q12b (M := 12) hW b3 (by omega) (by omega) (by omega) H)
theorem plain (K : PySem.W.Frag) : Ab.LawSp 63 (sp_law K) := by
  intro ns hl _
  show w_law K [some (.frl (ns.map D.int)), none, none, none, none, none, none, none, none, none, none, none, none, none, none, none, none, none, none, none, none] m0 _
  unfold w_law
  have hlen : (ns.map D.int).length ≤ 63 := by rw [List.length_map]; omega
  walk_at "vg"
  have hb : ∀ c : Int, 0 ≤ c → c ≤ 63 → (-(2 ^ 62) ≤ (if (if c < 3 then c else 3) > 1 then (if c < 3 then c else 3) else 1) ∧ (if (if c < 3 then c else 3) > 1 then (if c < 3 then c else 3) else (1 : Int)) < 2 ^ 62) := fun c c0 c1 => by
    split <;> (try split) <;> omega
  have hc := hb ((ns.map D.int).length : Int) (by omega) (by omega)
  refine ⟨hc.1, hc.2, ?_⟩
  refine rng_turns (fun _ v _ => ∃ y1 y2 y3 y4 y5 y6 y7 y8 y9 y10 y11 y12 y13 y14 y15 y16 y17 y18 y19 y20, v = [some (.frl (ns.map D.int)), y1, y2, y3, y4, y5, y6, y7, y8, y9, y10, y11, y12, y13, y14, y15, y16, y17, y18, y19, y20]) ⟨_, _, _, _, _, _, _, _, _, _, _, _, _, _, _, _, _, _, _, _, rfl⟩ ?_ ?_
  · rintro i v1 m1 hi ⟨y1, y2, y3, y4, y5, y6, y7, y8, y9, y10, y11, y12, y13, y14, y15, y16, y17, y18, y19, y20, rfl⟩
    have ei : (0 : Int) + (i : Int) = (i : Int) := by omega
    rw [ei]
    exact q12 fun z2 z3 z4 z5 z6 z7 z8 z9 z10 z11 z12 z13 z14 z15 z16 z17 z18 z19 z20 m' => ⟨_, _, Gh.refl, _, z2, z3, z4, z5, z6, z7, z8, z9, z10, z11, z12, z13, z14, z15, z16, z17, z18, z19, z20, rfl⟩
  · rintro v1 m1 ⟨y1, y2, y3, y4, y5, y6, y7, y8, y9, y10, y11, y12, y13, y14, y15, y16, y17, y18, y19, y20, rfl⟩
    refine nx_go ?_
    unfold w_law_1
    exact ⟨_, _, GhD.refl, trivial⟩
end
end K53
end

theorem PySem.Challenge.cw_undivided_k53_whole_from_the_low_end_holds : PySem.Challenge.rw_undivided_k53_whole_from_the_low_end.Holds :=
  K53.holds K53.plain
