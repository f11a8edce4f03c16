import PyProof.Rows.All
import Wide.All
import OpenK.AllK
import Wide.FinOn
import HandS.ForMost
import HandS.ForExc
import HandS.TryMany
import HandS.ExcInit
import HandS.Wide
import HandS.WideBits
import HandS.IsInst
import HandS.Flow
import HandS.HeadHook1
import HandS.More
import HandS.Style
import HandS.SortInts
import HandS.TupAny
import HandS.RaiseMore
import HandS.ExcField
import HandS.Small
import HandS.SortRule
import HandS.StrMore
import HandS.Text
import HandS.Replace
import HandS.Iter
import HandS.Deep
import HandS.SetFor
import HandS.Strs
import HandS.SortKw
import KE.DatumOrd
import HandS.Head2
import HandS.HeadHook2
import HandS.HeadEnd
import HandS.EndBits
import KE.KBits
import PySem.Challenge.RW_undivided_k29_trimming_refused
set_option Elab.async false
set_option linter.all false
set_option maxRecDepth 100000
set_option maxHeartbeats 4000000
section
/-! Ab1: data, states, what a heap holds of them. -/
namespace Ab
open PySem PySem.Spec L2
/-- a value with all that hangs on it -/
inductive D where
  | non | bl (b : Bool) | int (i : Int) | str (x : Str) | raw (v : V)
  | lst (xs : List D) | tup (xs : List D) | frl (xs : List D)
  | dct (ks : List Key) (xs : List D)
  | obj (C : Str) (ns : List Str) (xs : List D)
abbrev Mem := Addr → Option D
abbrev Env := List (Option D)
def m0 : Mem := fun _ => none
def setM (m : Mem) (a : Addr) (d : D) : Mem := fun b => if b = a then some d else m b
def delM (m : Mem) (a : Addr) : Mem := fun b => if b = a then none else m b
theorem setM_same {m : Mem} {a : Addr} {d : D} : setM m a d a = some d := if_pos rfl
theorem setM_ne {m : Mem} {a b : Addr} {d : D} (h : b ≠ a) : setM m a d b = m b := if_neg h
theorem delM_ne {m : Mem} {a b : Addr} (h : b ≠ a) : delM m a b = m b := if_neg h
theorem setM_setM {m : Mem} {a : Addr} {d e : D} : setM (setM m a d) a e = setM m a e := by
  funext b; unfold setM; split <;> rfl
theorem delM_setM {m : Mem} {a : Addr} {d : D} (h : m a = none) : delM (setM m a d) a = m := by
  funext b; unfold delM setM
  by_cases e : b = a
  · rw [if_pos e, e, h]
  · rw [if_neg e, if_neg e]
mutual
def Rep (K : PySem.W.Frag) (F : Hp) : D → V → Prop
  | .non, v => v = .non
  | .bl b, v => v = .bl b
  | .int i, v => v = .int i
  | .str x, v => v = .str x
  | .raw u, v => v = u
  | .lst xs, v => ∃ a vs, v = .ref a ∧ F a = some (.lst vs) ∧ RepL K F xs vs
  | .frl xs, v => ∃ a vs, v = .ref a ∧ SqL K F a vs ∧ RepL K F xs vs
  | .tup xs, v => ∃ a vs, v = .ref a ∧ SqT K F a vs ∧ RepL K F xs vs
  | .dct ks xs, v => ∃ a kvs, v = .ref a ∧ Rd F a (.dK kvs) ∧ kvs.map (·.1) = ks ∧ RepL K F xs (kvs.map (·.2))
  | .obj C ns xs, v => ∃ a dx fs, v = .ref a ∧ F a = some (.ins (He.ga K C) dx fs) ∧ fs.map (·.1) = ns ∧ RepL K F xs (fs.map (·.2))
def RepL (K : PySem.W.Frag) (F : Hp) : List D → List V → Prop
  | [], vs => vs = []
  | d :: ds, vs => ∃ v r, vs = v :: r ∧ Rep K F d v ∧ RepL K F ds r
end
theorem rd_mono {F F' : Hp} (e : Same F F') {a : Addr} {u : HO} (h : Rd F a u) : Rd F' a u := by
  rcases h with h | ⟨o, h⟩
  · exact .inl (e _ _ h)
  · exact .inr ⟨o, e _ _ h⟩
theorem sqt_mono {K : PySem.W.Frag} {F F' : Hp} (e : Same F F') {a : Addr} {xs : List V} (h : SqT K F a xs) : SqT K F' a xs := by
  rcases h with h | h
  · exact .inl (rd_mono e h)
  · exact .inr h
mutual
theorem rep_mono {K : PySem.W.Frag} {F F' : Hp} (e : Same F F') : ∀ (d : D) {v : V}, Rep K F d v → Rep K F' d v
  | .non, _, h => by unfold Rep at *; exact h
  | .bl _, _, h => by unfold Rep at *; exact h
  | .int _, _, h => by unfold Rep at *; exact h
  | .str _, _, h => by unfold Rep at *; exact h
  | .raw _, _, h => by unfold Rep at *; exact h
  | .lst xs, _, h => by
    unfold Rep at *
    obtain ⟨a, vs, h1, h2, h3⟩ := h
    exact ⟨a, vs, h1, e _ _ h2, repL_mono e xs h3⟩
  | .frl xs, _, h => by
    unfold Rep at *
    obtain ⟨a, vs, h1, h2, h3⟩ := h
    exact ⟨a, vs, h1, e.seq h2, repL_mono e xs h3⟩
  | .tup xs, _, h => by
    unfold Rep at *
    obtain ⟨a, vs, h1, h2, h3⟩ := h
    exact ⟨a, vs, h1, sqt_mono e h2, repL_mono e xs h3⟩
  | .dct ks xs, _, h => by
    unfold Rep at *
    obtain ⟨a, vs, h1, h2, h3, h4⟩ := h
    exact ⟨a, vs, h1, rd_mono e h2, h3, repL_mono e xs h4⟩
  | .obj C ns xs, _, h => by
    unfold Rep at *
    obtain ⟨a, dx, vs, h1, h2, h3, h4⟩ := h
    exact ⟨a, dx, vs, h1, e _ _ h2, h3, repL_mono e xs h4⟩
theorem repL_mono {K : PySem.W.Frag} {F F' : Hp} (e : Same F F') : ∀ (ds : List D) {vs : List V}, RepL K F ds vs → RepL K F' ds vs
  | [], _, h => by unfold RepL at *; exact h
  | d :: ds, _, h => by
    unfold RepL at *
    obtain ⟨v, r, h1, h2, h3⟩ := h
    exact ⟨v, r, h1, rep_mono e d h2, repL_mono e ds h3⟩
end
section
variable {K : PySem.W.Frag} {F F' H H' : Hp}
theorem repL_nil {vs : List V} : RepL K F [] vs ↔ vs = [] := by unfold RepL; exact Iff.rfl
theorem repL_cons {d : D} {ds : List D} {vs : List V} : RepL K F (d :: ds) vs ↔ ∃ v r, vs = v :: r ∧ Rep K F d v ∧ RepL K F ds r := by rw [RepL]
theorem RepL.nil : RepL K F [] [] := repL_nil.mpr rfl
theorem RepL.cons {d : D} {ds : List D} {v : V} {vs : List V} (h : Rep K F d v) (t : RepL K F ds vs) : RepL K F (d :: ds) (v :: vs) := repL_cons.mpr ⟨v, vs, rfl, h, t⟩
theorem RepL.len : ∀ {ds : List D} {vs : List V}, RepL K F ds vs → vs.length = ds.length
  | [], vs, h => by rw [repL_nil.mp h] <;> rfl
  | d :: ds, vs, h => by
    obtain ⟨v, r, rfl, _, t⟩ := repL_cons.mp h
    simp [RepL.len t]
theorem RepL.append : ∀ {ds es : List D} {vs us : List V}, RepL K F ds vs → RepL K F es us → RepL K F (ds ++ es) (vs ++ us)
  | [], _, _, _, h, t => by rw [repL_nil.mp h]; exact t
  | d :: ds, _, _, _, h, t => by
    obtain ⟨v, r, rfl, h1, h2⟩ := repL_cons.mp h
    exact RepL.cons h1 (RepL.append h2 t)
theorem RepL.get : ∀ {ds : List D} {vs : List V} {i : Nat} {d : D}, RepL K F ds vs → ds[i]? = some d → ∃ v, vs[i]? = some v ∧ Rep K F d v
  | [], _, _, _, _, e => by simp at e
  | d :: ds, _, 0, _, h, e => by
    obtain ⟨v, r, rfl, h1, h2⟩ := repL_cons.mp h
    simp at e; subst e
    exact ⟨v, by simp, h1⟩
  | d :: ds, _, i + 1, _, h, e => by
    obtain ⟨v, r, rfl, h1, h2⟩ := repL_cons.mp h
    obtain ⟨u, q, w⟩ := RepL.get (i := i) h2 (by simpa using e)
    exact ⟨u, by simpa using q, w⟩
theorem RepL.take : ∀ {ds : List D} {vs : List V} (n : Nat), RepL K F ds vs → RepL K F (ds.take n) (vs.take n)
  | _, _, 0, _ => RepL.nil
  | [], _, n + 1, h => by rw [repL_nil.mp h]; exact RepL.nil
  | d :: ds, _, n + 1, h => by
    obtain ⟨v, r, rfl, h1, h2⟩ := repL_cons.mp h
    exact RepL.cons h1 (RepL.take n h2)
theorem RepL.drop : ∀ {ds : List D} {vs : List V} (n : Nat), RepL K F ds vs → RepL K F (ds.drop n) (vs.drop n)
  | _, _, 0, h => h
  | [], _, n + 1, h => by rw [repL_nil.mp h]; exact RepL.nil
  | d :: ds, _, n + 1, h => by
    obtain ⟨v, r, rfl, h1, h2⟩ := repL_cons.mp h
    exact RepL.drop n h2
theorem RepL.set : ∀ {ds : List D} {vs : List V} (i : Nat) {d : D} {v : V}, RepL K F ds vs → Rep K F d v → RepL K F (ds.set i d) (vs.set i v)
  | [], _, _, _, _, h, _ => by rw [repL_nil.mp h]; exact RepL.nil
  | d :: ds, _, 0, _, _, h, q => by
    obtain ⟨v, r, rfl, h1, h2⟩ := repL_cons.mp h
    exact RepL.cons q h2
  | d :: ds, _, i + 1, _, _, h, q => by
    obtain ⟨v, r, rfl, h1, h2⟩ := repL_cons.mp h
    exact RepL.cons h1 (RepL.set i h2 q)
theorem RepL.reverse : ∀ {ds : List D} {vs : List V}, RepL K F ds vs → RepL K F ds.reverse vs.reverse
  | [], _, h => by rw [repL_nil.mp h]; exact RepL.nil
  | d :: ds, _, h => by
    obtain ⟨v, r, rfl, h1, h2⟩ := repL_cons.mp h
    rw [List.reverse_cons, List.reverse_cons]
    exact (RepL.reverse h2).append (RepL.cons h1 RepL.nil)
theorem repL_ints {ns : List Int} : ∀ {vs : List V}, RepL K F (ns.map D.int) vs ↔ vs = ns.map V.int := by
  induction ns with
  | nil => intro vs; exact repL_nil
  | cons n ns ih =>
    intro vs
    rw [List.map_cons, repL_cons, List.map_cons]
    constructor
    · rintro ⟨v, r, rfl, h1, h2⟩
      rw [ih.mp h2]
      unfold Rep at h1
      rw [h1]
    · rintro rfl
      exact ⟨_, _, rfl, by unfold Rep; rfl, ih.mpr rfl⟩
/-- what may be changed at a -/
def MRep (K : PySem.W.Frag) (F H : Hp) (a : Addr) : D → Prop
  | .lst xs => ∃ vs, H a = some (.lst vs) ∧ RepL K F xs vs
  | .dct ks xs => ∃ kvs, H a = some (.dK kvs) ∧ kvs.map (·.1) = ks ∧ RepL K F xs (kvs.map (·.2))
  | .obj C ns xs => ∃ dx fs, H a = some (.ins (He.ga K C) dx fs) ∧ fs.map (·.1) = ns ∧ RepL K F xs (fs.map (·.2))
  | _ => False
theorem MRep.there {a : Addr} {d : D} (h : MRep K F H a d) : ∃ o, H a = some o := by
  cases d with
  | lst xs => obtain ⟨vs, h, _⟩ := h; exact ⟨_, h⟩
  | dct ks xs => obtain ⟨vs, h, _⟩ := h; exact ⟨_, h⟩
  | obj C ns xs => obtain ⟨dx, vs, h, _⟩ := h; exact ⟨_, h⟩
  | _ => exact False.elim h
theorem MRep.mono {a : Addr} {d : D} (h : MRep K F H a d) (e : Same F F') (q : H' a = H a) : MRep K F' H' a d := by
  cases d with
  | lst xs => obtain ⟨vs, h, r⟩ := h; exact ⟨_, q.trans h, repL_mono e _ r⟩
  | dct ks xs => obtain ⟨vs, h, r, z⟩ := h; exact ⟨_, q.trans h, r, repL_mono e _ z⟩
  | obj C ns xs => obtain ⟨dx, vs, h, r, z⟩ := h; exact ⟨_, _, q.trans h, r, repL_mono e _ z⟩
  | _ => exact False.elim h
theorem MRep.frozen {a : Addr} {d : D} {o : HO} (h : MRep K F H a d) (ho : H a = some o) (hF : F a = none) : Rep K (upd F a o) d (.ref a) := by
  have e : Same F (upd F a o) := fun b u q => by rw [upd_ne (ne_of_none q hF)]; exact q
  cases d with
  | lst xs =>
    obtain ⟨vs, h, r⟩ := h
    rw [ho] at h; cases h
    unfold Rep
    exact ⟨a, vs, rfl, upd_same, repL_mono e _ r⟩
  | dct ks xs =>
    obtain ⟨vs, h, r, z⟩ := h
    rw [ho] at h; cases h
    unfold Rep
    exact ⟨a, vs, rfl, .inl upd_same, r, repL_mono e _ z⟩
  | obj C ns xs =>
    obtain ⟨dx, vs, h, r, z⟩ := h
    rw [ho] at h; cases h
    unfold Rep
    exact ⟨a, dx, vs, rfl, upd_same, r, repL_mono e _ z⟩
  | _ => exact False.elim h
/-! ### the heap as it stands against the entry -/
structure Bs where
  H0 : Hp
  F0 : Hp
  m0 : Mem
structure HM (K : PySem.W.Frag) (B : Bs) (F : Hp) (m : Mem) (H : Hp) : Prop where
  fr : Same F H
  f0 : Same B.F0 F
  fresh : ∀ a o, F a = some o → B.F0 a = some o ∨ B.H0 a = none ∨ B.m0 a ≠ none
  frame : ∀ a o, B.H0 a = some o → B.m0 a = none → H a = some o
  mem : ∀ a d, m a = some d → F a = none ∧ MRep K F H a d ∧ (B.m0 a ≠ none ∨ B.H0 a = none)
  grow : ∀ a, B.H0 a ≠ none → H a ≠ none
variable {B : Bs} {m : Mem}
theorem HM.h0 (h : HM K B F m H) {p : Addr} (hp : H p = none) : B.H0 p = none := by
  cases e : B.H0 p with
  | none => rfl
  | some o => exact absurd hp (h.grow p (by rw [e]; exact fun z => nomatch z))
theorem HM.fn (h : HM K B F m H) {p : Addr} (hp : H p = none) : F p = none := h.fr.free hp
theorem HM.ne (h : HM K B F m H) {p a : Addr} {d : D} (hp : H p = none) (ha : m a = some d) : a ≠ p := by
  rintro rfl
  obtain ⟨o, e⟩ := (h.mem a d ha).2.1.there
  rw [hp] at e; cases e
theorem HM.mn (h : HM K B F m H) {p : Addr} (hp : H p = none) : m p = none := by
  cases e : m p with
  | none => rfl
  | some d => exact absurd rfl (h.ne hp e)
theorem same_new {p : Addr} {o : HO} (hp : F p = none) : Same F (upd F p o) := fun b u q => by rw [upd_ne (ne_of_none q hp)]; exact q
/-- a new thing that never changes -/
theorem HM.new (h : HM K B F m H) {p : Addr} (hp : H p = none) (o : HO) : HM K B (upd F p o) m (upd H p o) where
  fr := fun b u q => by
    by_cases e : b = p
    · subst e; rw [upd_same] at q ⊢; exact q
    · rw [upd_ne e] at q ⊢; exact h.fr b u q
  f0 := fun b u q => same_new (h.fn hp) b u (h.f0 b u q)
  fresh := fun b u q => by
    by_cases e : b = p
    · subst e; exact .inr (.inl (h.h0 hp))
    · rw [upd_ne e] at q; exact h.fresh b u q
  frame := fun b u q n => by rw [upd_ne (ne_of_none (h.frame b u q n) hp)]; exact h.frame b u q n
  mem := fun b d q => by
    obtain ⟨h1, h2, h3⟩ := h.mem b d q
    have hb := h.ne hp q
    exact ⟨by rw [upd_ne hb]; exact h1, h2.mono (same_new (h.fn hp)) (upd_ne hb), h3⟩
  grow := fun b q => by
    by_cases e : b = p
    · subst e; rw [upd_same]; exact fun z => nomatch z
    · rw [upd_ne e]; exact h.grow b q
/-- a new thing that is not looked at -/
theorem HM.aside (h : HM K B F m H) {p : Addr} (hp : H p = none) (o : HO) : HM K B F m (upd H p o) where
  fr := fun b u q => by rw [upd_ne (ne_of_none (h.fr b u q) hp)]; exact h.fr b u q
  f0 := h.f0
  fresh := h.fresh
  frame := fun b u q n => by rw [upd_ne (ne_of_none (h.frame b u q n) hp)]; exact h.frame b u q n
  mem := fun b d q => by
    obtain ⟨h1, h2, h3⟩ := h.mem b d q
    exact ⟨h1, h2.mono (Same.refl _) (upd_ne (h.ne hp q)), h3⟩
  grow := fun b q => by
    by_cases e : b = p
    · subst e; rw [upd_same]; exact fun z => nomatch z
    · rw [upd_ne e]; exact h.grow b q
/-- a new thing that may change -/
theorem HM.newM (h : HM K B F m H) {p : Addr} (hp : H p = none) {o : HO} {d : D} (r : MRep K F (upd H p o) p d) : HM K B F (setM m p d) (upd H p o) where
  fr := (h.aside hp o).fr
  f0 := h.f0
  fresh := h.fresh
  frame := (h.aside hp o).frame
  mem := fun b e q => by
    by_cases z : b = p
    · subst z; rw [setM_same] at q; cases q
      exact ⟨h.fn hp, r, .inr (h.h0 hp)⟩
    · rw [setM_ne z] at q
      exact (h.aside hp o).mem b e q
  grow := (h.aside hp o).grow
/-- a thing is changed -/
theorem HM.set (h : HM K B F m H) {a : Addr} {d d' : D} {o : HO} (ha : m a = some d) (r : MRep K F (upd H a o) a d') : HM K B F (setM m a d') (upd H a o) where
  fr := fun b u q => by
    rw [upd_ne (ne_of_none q (h.mem a d ha).1)]; exact h.fr b u q
  f0 := h.f0
  fresh := h.fresh
  frame := fun b u q n => by
    by_cases e : b = a
    · subst e
      rcases (h.mem _ _ ha).2.2 with z | z
      · exact absurd n z
      · rw [z] at q; cases q
    · rw [upd_ne e]; exact h.frame b u q n
  mem := fun b e q => by
    by_cases z : b = a
    · subst z; rw [setM_same] at q; cases q
      exact ⟨(h.mem _ _ ha).1, r, (h.mem _ _ ha).2.2⟩
    · rw [setM_ne z] at q
      obtain ⟨h1, h2, h3⟩ := h.mem b e q
      exact ⟨h1, h2.mono (Same.refl _) (upd_ne z), h3⟩
  grow := fun b q => by
    by_cases e : b = a
    · subst e; rw [upd_same]; exact fun z => nomatch z
    · rw [upd_ne e]; exact h.grow b q
/-- a thing is forgotten -/
theorem HM.drop (h : HM K B F m H) {m' : Mem} (s : ∀ a d, m' a = some d → m a = some d) : HM K B F m' H := ⟨h.fr, h.f0, h.fresh, h.frame, fun a d q => h.mem a d (s a d q), h.grow⟩
/-- a thing will not change any more -/
theorem HM.freeze (h : HM K B F m H) {a : Addr} {d : D} (ha : m a = some d) : ∃ o, H a = some o ∧ HM K B (upd F a o) (delM m a) H ∧ Rep K (upd F a o) d (.ref a) ∧ Same F (upd F a o) := by
  obtain ⟨h1, h2, h3⟩ := h.mem a d ha
  obtain ⟨o, ho⟩ := h2.there
  refine ⟨o, ho, ⟨fun b u q => ?_, fun b u q => same_new h1 b u (h.f0 b u q), fun b u q => ?_, h.frame, fun b e q => ?_, h.grow⟩, h2.frozen ho h1, same_new h1⟩
  · by_cases z : b = a
    · subst z; rw [upd_same] at q; cases q; exact ho
    · rw [upd_ne z] at q; exact h.fr b u q
  · by_cases z : b = a
    · subst z
      rcases h3 with y | y
      · exact .inr (.inr y)
      · exact .inr (.inl y)
    · rw [upd_ne z] at q; exact h.fresh b u q
  · by_cases z : b = a
    · subst z; unfold delM at q; rw [if_pos rfl] at q; cases q
    · rw [delM_ne z] at q
      obtain ⟨k1, k2, k3⟩ := h.mem b e q
      exact ⟨by rw [upd_ne z]; exact k1, k2.mono (same_new h1) rfl, k3⟩
/-- a callee's entry -/
theorem HM.start (h : HM K B F m H) : HM K ⟨H, F, m⟩ F m H := ⟨h.fr, Same.refl _, fun _ _ q => .inl q, fun _ _ q _ => q, fun a d q => ⟨(h.mem a d q).1, (h.mem a d q).2.1, .inl (by show m a ≠ none; rw [q]; exact fun z => nomatch z)⟩, fun _ q => q⟩
/-- behind a call -/
theorem HM.after (h : HM K B F m H) {m' : Mem} (g : HM K ⟨H, F, m⟩ F' m' H') : HM K B F' m' H' where
  fr := g.fr
  f0 := h.f0.trans g.f0
  fresh := fun a o q => by
    rcases g.fresh a o q with z | z | z
    · exact h.fresh a o z
    · exact .inr (.inl (h.h0 z))
    · have z' : m a ≠ none := z
      cases e : m a with
      | none => exact absurd e z'
      | some u =>
        rcases (h.mem a u e).2.2 with y | y
        · exact .inr (.inr y)
        · exact .inr (.inl y)
  frame := fun a o q n => g.frame a o (h.frame a o q n) (by
    show m a = none
    cases e : m a with
    | none => rfl
    | some d =>
      rcases (h.mem a d e).2.2 with z | z
      · exact absurd n z
      · rw [z] at q; cases q)
  mem := fun a d q => by
    obtain ⟨h1, h2, h3⟩ := g.mem a d q
    refine ⟨h1, h2, ?_⟩
    rcases h3 with z | z
    · have z' : m a ≠ none := z
      cases e : m a with
      | none => exact absurd e z'
      | some u => exact (h.mem a u e).2.2
    · exact .inr (h.h0 z)
  grow := fun a q => g.grow a (h.grow a q)
/-- a thing that the code does not know -/
theorem HM.hidden {m' : Mem} (g : HM K ⟨H, F, m⟩ F' m' H') {a : Addr} {o : HO} (ho : H a = some o) (hm : m a = none) (hF : F a = none) : H' a = some o ∧ m' a = none ∧ F' a = none := by
  refine ⟨g.frame a o ho hm, ?_, ?_⟩
  · cases e : m' a with
    | none => rfl
    | some d =>
      rcases (g.mem a d e).2.2 with z | z
      · exact absurd hm z
      · have z' : H a = none := z
        rw [ho] at z'; cases z'
  · cases e : F' a with
    | none => rfl
    | some u =>
      rcases g.fresh a u e with z | z | z
      · have z' : F a = some u := z
        rw [hF] at z'; cases z'
      · have z' : H a = none := z
        rw [ho] at z'; cases z'
      · exact absurd hm z
theorem HM.poke (h : HM K B F m H) {a : Addr} (hm : m a = none) (hF : F a = none) (h0 : B.H0 a = none) (o : HO) : HM K B F m (upd H a o) where
  fr := fun b u q => by rw [upd_ne (ne_of_none q hF)]; exact h.fr b u q
  f0 := h.f0
  fresh := h.fresh
  frame := fun b u q n => by rw [upd_ne (ne_of_none q h0)]; exact h.frame b u q n
  mem := fun b d q => by
    obtain ⟨h1, h2, h3⟩ := h.mem b d q
    refine ⟨h1, h2.mono (Same.refl _) (upd_ne ?_), h3⟩
    rintro rfl
    rw [hm] at q; cases q
  grow := fun b q => by
    by_cases e : b = a
    · subst e; rw [upd_same]; exact fun z => nomatch z
    · rw [upd_ne e]; exact h.grow b q
theorem HM.adopt (h : HM K B F m H) {a : Addr} {o : HO} (hm : m a = none) (hF : F a = none) (h0 : B.H0 a = none) (ho : H a = some o) : HM K B (upd F a o) m H where
  fr := fun b u q => by
    by_cases e : b = a
    · subst e; rw [upd_same] at q; cases q; exact ho
    · rw [upd_ne e] at q; exact h.fr b u q
  f0 := fun b u q => same_new hF b u (h.f0 b u q)
  fresh := fun b u q => by
    by_cases e : b = a
    · subst e; exact .inr (.inl h0)
    · rw [upd_ne e] at q; exact h.fresh b u q
  frame := h.frame
  mem := fun b d q => by
    obtain ⟨h1, h2, h3⟩ := h.mem b d q
    have hb : b ≠ a := by
      rintro rfl
      rw [hm] at q; cases q
    exact ⟨by rw [upd_ne hb]; exact h1, h2.mono (same_new hF) rfl, h3⟩
  grow := h.grow
theorem HM.adoptM (h : HM K B F m H) {a : Addr} {d : D} (hF : F a = none) (h0 : B.H0 a = none) (r : MRep K F H a d) : HM K B F (setM m a d) H where
  fr := h.fr
  f0 := h.f0
  fresh := h.fresh
  frame := h.frame
  mem := fun b e q => by
    by_cases z : b = a
    · subst z; rw [setM_same] at q; cases q
      exact ⟨hF, r, .inr h0⟩
    · rw [setM_ne z] at q
      exact h.mem b e q
  grow := h.grow
end
/-! ### the slots -/
structure REnv (K : PySem.W.Frag) (F : Hp) (v : Env) (σ : L2.St) : Prop where
  len : σ.length = v.length
  get : ∀ (i : Nat) d, v[i]? = some (some d) → ∃ x, σ[i]? = some (some x) ∧ Rep K F d x
def look (v : Env) (i : Nat) : Option D := (v[i]?).join
theorem look_some {v : Env} {i : Nat} {d : D} (h : look v i = some d) : v[i]? = some (some d) := by
  unfold look at h
  cases e : v[i]? with
  | none => rw [e] at h; cases h
  | some o =>
    rw [e] at h
    have z : o = some d := h
    rw [z]
section
variable {K : PySem.W.Frag} {F F' : Hp} {v : Env} {σ : L2.St}
theorem REnv.mono (r : REnv K F v σ) (e : Same F F') : REnv K F' v σ := ⟨r.len, fun i d h => let ⟨x, h1, h2⟩ := r.get i d h; ⟨x, h1, rep_mono e _ h2⟩⟩
theorem REnv.set (r : REnv K F v σ) (i : Nat) {d : D} {x : V} (h : Rep K F d x) : REnv K F (v.set i (some d)) (σ.set i (some x)) := by
  refine ⟨by rw [List.length_set, List.length_set]; exact r.len, fun j e q => ?_⟩
  by_cases hj : i = j
  · subst hj
    have hl : i < v.length := by
      have := (List.getElem?_eq_some_iff.mp q).1
      rwa [List.length_set] at this
    rw [List.getElem?_set_self hl] at q
    cases q
    exact ⟨x, List.getElem?_set_self (by rw [r.len]; exact hl), h⟩
  · rw [List.getElem?_set_ne hj] at q
    obtain ⟨y, h1, h2⟩ := r.get j e q
    exact ⟨y, by rw [List.getElem?_set_ne hj]; exact h1, h2⟩
theorem REnv.weak (r : REnv K F v σ) {v' : Env} (hl : v'.length = v.length) (h : ∀ (i : Nat) d, v'[i]? = some (some d) → v[i]? = some (some d)) : REnv K F v' σ := ⟨r.len.trans hl.symm, fun i d q => r.get i d (h i d q)⟩
theorem REnv.wipe (r : REnv K F v σ) (i : Nat) : REnv K F (v.set i none) (σ.set i none) := by
  refine ⟨by rw [List.length_set, List.length_set]; exact r.len, fun j e q => ?_⟩
  by_cases hj : i = j
  · subst hj
    have hl : i < v.length := by
      have := (List.getElem?_eq_some_iff.mp q).1
      rwa [List.length_set] at this
    rw [List.getElem?_set_self hl] at q
    cases q
  · rw [List.getElem?_set_ne hj] at q
    obtain ⟨y, h1, h2⟩ := r.get j e q
    exact ⟨y, by rw [List.getElem?_set_ne hj]; exact h1, h2⟩
end
/-- an exception: its class, its fields -/
structure Exn where
  C : Str
  ns : List Str
  ds : List D
def RX (K : PySem.W.Frag) (F : Hp) (x : Exn) (dd : Addr) : Prop := ∃ fs, F dd = some (.xd fs) ∧ fs.map (·.1) = x.ns ∧ RepL K F x.ds (fs.map (·.2))
theorem RX.mono {K : PySem.W.Frag} {F F' : Hp} {x : Exn} {dd : Addr} (h : RX K F x dd) (e : Same F F') : RX K F' x dd := let ⟨fs, h1, h2, h3⟩ := h; ⟨fs, e _ _ h1, h2, repL_mono e _ h3⟩
end Ab
end
section
/-! Ab2: readings over data: expressions. -/
namespace Ab
open PySem PySem.Spec L2
abbrev KE := D → Mem → Prop
abbrev KX := Exn → Mem → Prop
abbrev KL := List D → Mem → Prop
abbrev KB := Bool → Mem → Prop
abbrev WE := Env → Mem → KE → KX → Prop
abbrev WL := Env → Mem → KL → KX → Prop
abbrev WT := Env → Mem → KB → KX → Prop
section
variable (K : PySem.W.Frag)
def QE (B : Bs) (F : Hp) (k : KE) (Q : VK) : Prop := ∀ d m F' H v, k d m → Same F F' → HM K B F' m H → Rep K F' d v → Q v H
def QL (B : Bs) (F : Hp) (k : KL) (Q : List V → Hp → Prop) : Prop := ∀ ds m F' H vs, k ds m → Same F F' → HM K B F' m H → RepL K F' ds vs → Q vs H
def QB (B : Bs) (F : Hp) (k : KB) (Q : Bool → Hp → Prop) : Prop := ∀ b m F' H, k b m → Same F F' → HM K B F' m H → Q b H
def QX (W : WX) (B : Bs) (F : Hp) (σ : L2.St) (k : KX) : Prop := ∀ x m F' H dd, k x m → Same F F' → HM K B F' m H → RX K F' x dd → W (.ref (He.ga K x.C)) (some dd) σ H
structure GE (W : WX) (t : TE) (w : WE) : Prop where
  run : ∀ {B : Bs} {F : Hp} {v : Env} {m : Mem} {σ : L2.St} {H : Hp} {k : KE} {kx : KX} {Q : VK}, HM K B F m H → REnv K F v σ → w v m k kx → QE K B F k Q → QX K W B F σ kx → t σ H Q
structure GL (W : WX) (t : TA) (w : WL) : Prop where
  run : ∀ {B : Bs} {F : Hp} {v : Env} {m : Mem} {σ : L2.St} {H : Hp} {k : KL} {kx : KX} {Q : List V → Hp → Prop}, HM K B F m H → REnv K F v σ → w v m k kx → QL K B F k Q → QX K W B F σ kx → t σ H Q
structure GT (W : WX) (t : TT) (w : WT) : Prop where
  run : ∀ {B : Bs} {F : Hp} {v : Env} {m : Mem} {σ : L2.St} {H : Hp} {k : KB} {kx : KX} {Q : Bool → Hp → Prop}, HM K B F m H → REnv K F v σ → w v m k kx → QB K B F k Q → QX K W B F σ kx → t σ H Q
end
section
variable {K : PySem.W.Frag} {B : Bs} {F F1 : Hp} {W : WX} {σ : L2.St}
theorem QE.mono {k : KE} {Q : VK} (h : QE K B F k Q) (e : Same F F1) : QE K B F1 k Q := fun d m F' H v a b c r => h d m F' H v a (e.trans b) c r
theorem QL.mono {k : KL} {Q : List V → Hp → Prop} (h : QL K B F k Q) (e : Same F F1) : QL K B F1 k Q := fun d m F' H v a b c r => h d m F' H v a (e.trans b) c r
theorem QB.mono {k : KB} {Q : Bool → Hp → Prop} (h : QB K B F k Q) (e : Same F F1) : QB K B F1 k Q := fun b m F' H a q c => h b m F' H a (e.trans q) c
theorem QX.mono {k : KX} (h : QX K W B F σ k) (e : Same F F1) : QX K W B F1 σ k := fun x m F' H dd a b c r => h x m F' H dd a (e.trans b) c r
end
/-- an expression of the text, and what it comes to -/
structure Xe (X : Cx) (W : WX) (e : Expr) (w : WE) : Prop where
  ex : ∃ t, PE X e t ∧ GE X.K W t w
structure Xl (X : Cx) (W : WX) (es : List Expr) (w : WL) : Prop where
  ex : ∃ t, PA X es t ∧ GL X.K W t w
structure Xt (X : Cx) (W : WX) (e : Expr) (w : WT) : Prop where
  ex : ∃ t, PT X e t ∧ GT X.K W t w
/-! ### what stands at a thing now -/
def res (m : Mem) : D → D
  | .raw (.ref a) => match m a with
    | some d => d
    | none => .raw (.ref a)
  | d => d
theorem res_none {m : Mem} {a : Addr} (h : m a = none) : res m (.raw (.ref a)) = .raw (.ref a) := by simp only [res, h]
theorem res_some {m : Mem} {a : Addr} {d : D} (h : m a = some d) : res m (.raw (.ref a)) = d := by simp only [res, h]
def View (K : PySem.W.Frag) (F H : Hp) : D → V → Prop
  | .lst xs, v => ∃ a vs, v = .ref a ∧ H a = some (.lst vs) ∧ RepL K F xs vs
  | .frl xs, v => ∃ a vs, v = .ref a ∧ SqL K H a vs ∧ RepL K F xs vs
  | .tup xs, v => ∃ a vs, v = .ref a ∧ SqT K H a vs ∧ RepL K F xs vs ∧ SqT K F a vs
  | .dct ks xs, v => ∃ a kvs, v = .ref a ∧ Rd H a (.dK kvs) ∧ kvs.map (·.1) = ks ∧ RepL K F xs (kvs.map (·.2))
  | .obj C ns xs, v => ∃ a dx fs, v = .ref a ∧ H a = some (.ins (He.ga K C) dx fs) ∧ fs.map (·.1) = ns ∧ RepL K F xs (fs.map (·.2))
  | .non, v => v = .non
  | .bl b, v => v = .bl b
  | .int i, v => v = .int i
  | .str x, v => v = .str x
  | .raw u, v => v = u
section
variable {K : PySem.W.Frag} {B : Bs} {F H : Hp} {m : Mem}
theorem view_of (h : HM K B F m H) {d : D} {v : V} (r : Rep K F d v) : View K F H d v := by
  cases d with
  | lst xs => unfold Rep at r; obtain ⟨a, vs, h1, h2, h3⟩ := r; exact ⟨a, vs, h1, h.fr _ _ h2, h3⟩
  | frl xs => unfold Rep at r; obtain ⟨a, vs, h1, h2, h3⟩ := r; exact ⟨a, vs, h1, h.fr.seq h2, h3⟩
  | tup xs => unfold Rep at r; obtain ⟨a, vs, h1, h2, h3⟩ := r; exact ⟨a, vs, h1, sqt_mono h.fr h2, h3, h2⟩
  | dct ks xs => unfold Rep at r; obtain ⟨a, vs, h1, h2, h3, h4⟩ := r; exact ⟨a, vs, h1, rd_mono h.fr h2, h3, h4⟩
  | obj C ns xs => unfold Rep at r; obtain ⟨a, dx, vs, h1, h2, h3, h4⟩ := r; exact ⟨a, dx, vs, h1, h.fr _ _ h2, h3, h4⟩
  | non => unfold Rep at r; exact r
  | bl _ => unfold Rep at r; exact r
  | int _ => unfold Rep at r; exact r
  | str _ => unfold Rep at r; exact r
  | raw _ => unfold Rep at r; exact r
theorem view_res (h : HM K B F m H) {d : D} {v : V} (r : Rep K F d v) : View K F H (res m d) v := by
  cases d with
  | raw u =>
    cases u with
    | ref a =>
      unfold Rep at r
      subst r
      cases e : m a with
      | none => rw [res_none e]; exact rfl
      | some d =>
        rw [res_some e]
        obtain ⟨h1, h2, h3⟩ := h.mem a d e
        cases d with
        | lst xs => obtain ⟨vs, q, z⟩ := h2; exact ⟨a, vs, rfl, q, z⟩
        | dct ks xs => obtain ⟨vs, q, z, y⟩ := h2; exact ⟨a, vs, rfl, .inl q, z, y⟩
        | obj C ns xs => obtain ⟨dx, vs, q, z, y⟩ := h2; exact ⟨a, dx, vs, rfl, q, z, y⟩
        | _ => exact False.elim h2
    | _ => exact view_of h r
  | _ => exact view_of h r
def ViewL (K : PySem.W.Frag) (F H : Hp) : List D → List V → Prop
  | [], vs => vs = []
  | d :: ds, vs => ∃ v r, vs = v :: r ∧ View K F H d v ∧ ViewL K F H ds r
theorem viewL_res (h : HM K B F m H) : ∀ {ds : List D} {vs : List V}, RepL K F ds vs → ViewL K F H (ds.map (res m)) vs
  | [], _, r => repL_nil.mp r
  | d :: ds, _, r => by
    obtain ⟨v, t, rfl, h1, h2⟩ := repL_cons.mp r
    exact ⟨v, t, rfl, view_res h h1, viewL_res h h2⟩
end
/-! ### names, constants -/
def wVar (i : Nat) : WE := fun v m k _ => match look v i with
  | some d => k d m
  | none => False
def wCon (d : D) : WE := fun _ m k _ => k d m
section
variable {X : Cx} {W : WX} {e a b c : Expr} {es : List Expr} {pos : Pos}
theorem ge_var {K : PySem.W.Frag} {i : Nat} : GE K W (tVar i) (wVar i) := by
  refine ⟨fun {B F v m σ H k kx Q} hm re hw hq hx => ?_⟩
  unfold wVar at hw
  cases e : look v i with
  | none => rw [e] at hw; exact hw.elim
  | some d =>
    rw [e] at hw
    obtain ⟨x, h1, h2⟩ := re.get i d (look_some e)
    exact ⟨x, h1, hq d m F H x hw (Same.refl _) hm h2⟩
theorem ge_con {K : PySem.W.Frag} {d : D} {v : V} (h : ∀ F, Rep K F d v) : GE K W (tC v) (wCon d) :=
  ⟨fun {B F _ m σ H k kx Q} hm re hw hq hx => hq d m F H v hw (Same.refl _) hm (h F)⟩
theorem xe_int {i j} : Xe X W (.Constant (.int i) j pos) (wCon (.int i)) := ⟨_, pe_int, ge_con fun _ => by unfold Rep; rfl⟩
theorem xe_bl {i j} : Xe X W (.Constant (.bool i) j pos) (wCon (.bl i)) := ⟨_, pe_bl, ge_con fun _ => by unfold Rep; rfl⟩
theorem xe_non {j} : Xe X W (.Constant .none j pos) (wCon .non) := ⟨_, pe_non, ge_con fun _ => by unfold Rep; rfl⟩
theorem xe_str {x j} : Xe X W (.Constant (.str x) j pos) (wCon (.str x)) := ⟨_, pe_str, ge_con fun _ => by unfold Rep; rfl⟩
/-! ### arguments -/
def wNil : WL := fun _ m k _ => k [] m
def wCons (a : WE) (r : WL) : WL := fun v m k kx => a v m (fun d m1 => r v m1 (fun ds m2 => k (d :: ds) m2) kx) kx
theorem xl_nil : Xl X W [] wNil := ⟨_, pa_nil, ⟨fun {B F v m σ H k kx Q} hm re hw hq hx => hq [] m F H [] hw (Same.refl _) hm RepL.nil⟩⟩
theorem gl_cons {K : PySem.W.Frag} {t : TE} {u : TA} {w : WE} {r : WL} (h1 : GE K W t w) (h2 : GL K W u r) : GL K W (tCons t u) (wCons w r) := by
  refine ⟨fun {B F v m σ H k kx Q} hm re hw hq hx => ?_⟩
  refine h1.run hm re hw (fun d m1 F1 H1 x hw1 e1 hm1 r1 => ?_) hx
  refine h2.run hm1 (re.mono e1) hw1 (fun ds m2 F2 H2 xs hw2 e2 hm2 r2 => ?_) (hx.mono e1)
  exact hq (d :: ds) m2 F2 H2 _ hw2 (e1.trans e2) hm2 (RepL.cons (rep_mono e2 d r1) r2)
def starred : Expr → Bool
  | .Starred .. => true
  | _ => false
theorem star_eq (h : starred e = false) (env : PySem.Env) : starEach (e :: es) env = (false, eval e env) :: starEach es env := by
  cases e <;> first
    | rfl
    | cases h
theorem xl_cons {w : WE} {r : WL} (h : Xe X W e w) (t : Xl X W es r) (hs : starred e = false) : Xl X W (e :: es) (wCons w r) := by
  obtain ⟨te, p1, g1⟩ := h.ex
  obtain ⟨tr, p2, g2⟩ := t.ex
  exact ⟨_, pa_cons p1 p2 (star_eq hs _), gl_cons g1 g2⟩
/-! ### operations on two values -/
abbrev O2 := Mem → D → D → KE → Prop
structure GO (K : PySem.W.Frag) (r : R2) (o : O2) : Prop where
  run : ∀ {B : Bs} {F : Hp} {m : Mem} {H : Hp} {x y : V} {a b : D} {k : KE} {Q : VK}, HM K B F m H → View K F H a x → View K F H b y → o m a b k → QE K B F k Q → r x y H Q
def wOp (o : O2) (a b : WE) : WE := fun v m k kx => a v m (fun x m1 => b v m1 (fun y m2 => o m2 (res m2 x) (res m2 y) k) kx) kx
theorem ge_op {K : PySem.W.Frag} {r : R2} {o : O2} {ta tb : TE} {wa wb : WE} (g : GO K r o) (h1 : GE K W ta wa) (h2 : GE K W tb wb) : GE K W (tOp r ta tb) (wOp o wa wb) := by
  refine ⟨fun {B F v m σ H k kx Q} hm re hw hq hx => ?_⟩
  refine h1.run hm re hw (fun x m1 F1 H1 vx hw1 e1 hm1 r1 => ?_) hx
  refine h2.run hm1 (re.mono e1) hw1 (fun y m2 F2 H2 vy hw2 e2 hm2 r2 => ?_) (hx.mono e1)
  exact g.run hm2 (view_res hm2 (rep_mono e2 x r1)) (view_res hm2 r2) hw2 (hq.mono (e1.trans e2))
/-- a rule of the layer's for an operation, told of data -/
structure XO (X : Cx) (f : Value → Value → Sem Value) (o : O2) : Prop where
  ex : ∃ r, OpR X f r ∧ GO X.K r o
theorem xe_op {op : Operator} {o : O2} {wa wb : WE} (h : XO X (binaryOp op) o) (ha : Xe X W a wa) (hb : Xe X W b wb) : Xe X W (.BinOp a op b pos) (wOp o wa wb) := by
  obtain ⟨r, p, g⟩ := h.ex
  obtain ⟨ta, p1, g1⟩ := ha.ex
  obtain ⟨tb, p2, g2⟩ := hb.ex
  exact ⟨_, pe_op p p1 p2, ge_op g g1 g2⟩
theorem xe_cmp {op : CmpOp} {o : O2} {wa wb : WE} (h : XO X (compareOp op) o) (ha : Xe X W a wa) (hb : Xe X W b wb) (hm : behindInMarks op b = false) : Xe X W (.Compare a [op] [b] pos) (wOp o wa wb) := by
  obtain ⟨r, p, g⟩ := h.ex
  obtain ⟨ta, p1, g1⟩ := ha.ex
  obtain ⟨tb, p2, g2⟩ := hb.ex
  exact ⟨_, pe_cmpR p p1 p2 hm, ge_op g g1 g2⟩
/-! ### tests: a value that is a bool; a value's truth -/
def tru (m : Mem) (d : D) (k : Bool → Prop) : Prop := match res m d with
  | .non => k false
  | .bl b => k b
  | .int i => k (i != 0)
  | .str x => x.length ≤ sizeLine ∧ k ((x.length : Int) != 0)
  | .lst xs => k (!xs.isEmpty)
  | .frl xs => k (!xs.isEmpty)
  | .tup xs => k (!xs.isEmpty)
  | _ => False
theorem empty_rep {K : PySem.W.Frag} {F : Hp} {ds : List D} {vs : List V} (r : RepL K F ds vs) : vs.isEmpty = ds.isEmpty := by
  cases ds with
  | nil => rw [repL_nil.mp r] <;> rfl
  | cons d ds => obtain ⟨v, t, rfl, _, _⟩ := repL_cons.mp r; rfl
theorem tru_ok {K : PySem.W.Frag} {B : Bs} {F H : Hp} {m : Mem} {d : D} {v : V} {k : Bool → Prop} (hm : HM K B F m H) (r : Rep K F d v) (h : tru m d k) : ∃ b, TruV K v H b ∧ k b := by
  have q := view_res hm r
  unfold tru at h
  cases e : res m d with
  | non => rw [e] at h q; cases q; exact ⟨_, rfl, h⟩
  | bl b => rw [e] at h q; cases q; exact ⟨_, rfl, h⟩
  | int b => rw [e] at h q; cases q; exact ⟨_, rfl, h⟩
  | str b => rw [e] at h q; cases q; exact ⟨_, ⟨h.1, rfl⟩, h.2⟩
  | lst xs => rw [e] at h q; obtain ⟨a, vs, rfl, q1, q2⟩ := q; exact ⟨_, .inl ⟨vs, .inl (.inl q1), rfl⟩, by rw [empty_rep q2]; exact h⟩
  | frl xs => rw [e] at h q; obtain ⟨a, vs, rfl, q1, q2⟩ := q; exact ⟨_, .inl ⟨vs, q1, rfl⟩, by rw [empty_rep q2]; exact h⟩
  | tup xs => rw [e] at h q; obtain ⟨a, vs, rfl, q1, q2, _⟩ := q; exact ⟨_, .inr (.inl ⟨vs, q1, rfl⟩), by rw [empty_rep q2]; exact h⟩
  | _ => rw [e] at h; exact h.elim
/-- a value as a test -/
def wTru (a : WE) : WT := fun v m k kx => a v m (fun d m1 => tru m1 d fun b => k b m1) kx
theorem xt_tru {w : WE} (h : Xe X W e w) (he : ∀ whole, isTrue e X.env whole = (do let v ← whole; standAt e.pos; holding [v] (truthy v))) : Xt X W e (wTru w) := by
  obtain ⟨t, p, g⟩ := h.ex
  refine ⟨_, pt_truth p he, ⟨fun {B F v m σ H k kx Q} hm re hw hq hx => ?_⟩⟩
  refine g.run hm re hw (fun d m1 F1 H1 x hw1 e1 hm1 r1 => ?_) hx
  obtain ⟨b, hb, kb⟩ := tru_ok hm1 r1 hw1
  exact ⟨b, hb, hq b m1 F1 H1 kb e1 hm1⟩
def isB (d : D) (k : Bool → Prop) : Prop := match d with
  | .bl b => k b
  | _ => False
def wIsB (a : WE) : WT := fun v m k kx => a v m (fun d m1 => isB d fun b => k b m1) kx
theorem isB_ok {K : PySem.W.Frag} {F : Hp} {d : D} {v : V} {k : Bool → Prop} (r : Rep K F d v) (h : isB d k) : ∃ b, v = .bl b ∧ k b := by
  cases d with
  | bl b => unfold Rep at r; exact ⟨b, r, h⟩
  | _ => exact h.elim
theorem xt_cmp {op : CmpOp} {o : O2} {wa wb : WE} (h : XO X (compareOp op) o) (ha : Xe X W a wa) (hb : Xe X W b wb) (hm : behindInMarks op b = false) : Xt X W (.Compare a [op] [b] pos) (wIsB (wOp o wa wb)) := by
  obtain ⟨r, p, g⟩ := h.ex
  obtain ⟨ta, p1, g1⟩ := ha.ex
  obtain ⟨tb, p2, g2⟩ := hb.ex
  refine ⟨_, pt_cmpR p p1 p2 hm, ⟨fun {B F v m σ H k kx Q} hm re hw hq hx => ?_⟩⟩
  refine (ge_op g g1 g2).run hm re hw (fun d m1 F1 H1 x hw1 e1 hm1 r1 => ?_) hx
  obtain ⟨b, rfl, kb⟩ := isB_ok r1 hw1
  exact ⟨b, rfl, hq b m1 F1 H1 kb e1 hm1⟩
/-! ### chains -/
def wChain (o o' : O2) (a b c : WE) : WE := fun v m k kx => a v m (fun x m1 => b v m1 (fun y m2 => o m2 (res m2 x) (res m2 y) fun z m3 => isB z fun q =>
  (q = true → c v m3 (fun u m4 => o' m4 (res m4 y) (res m4 u) k) kx) ∧ (q = false → k (.bl false) m3)) kx) kx
theorem ge_chain {K : PySem.W.Frag} {r r' : R2} {o o' : O2} {ta tb tc : TE} {wa wb wc : WE} (g : GO K r o) (g' : GO K r' o') (h1 : GE K W ta wa) (h2 : GE K W tb wb) (h3 : GE K W tc wc) : GE K W (tChain r r' ta tb tc) (wChain o o' wa wb wc) := by
  refine ⟨fun {B F v m σ H k kx Q} hm re hw hq hx => ?_⟩
  refine h1.run hm re hw (fun x m1 F1 H1 vx hw1 e1 hm1 r1 => ?_) hx
  refine h2.run hm1 (re.mono e1) hw1 (fun y m2 F2 H2 vy hw2 e2 hm2 r2 => ?_) (hx.mono e1)
  refine g.run hm2 (view_res hm2 (rep_mono e2 x r1)) (view_res hm2 r2) hw2 fun d m3 F3 H3 u hk e3 hm3 r3 => ?_
  obtain ⟨q, rfl, k1, k2⟩ := isB_ok r3 hk
  have e13 := (e1.trans e2).trans e3
  refine ⟨q, rfl, ?_⟩
  cases q with
  | false =>
    rw [if_neg Bool.false_ne_true]
    exact hq (.bl false) m3 F3 H3 _ (k2 rfl) e13 hm3 (by unfold Rep; rfl)
  | true =>
    rw [if_pos rfl]
    refine h3.run hm3 (re.mono e13) (k1 rfl) (fun z m4 F4 H4 vz hw4 e4 hm4 r4 => ?_) (hx.mono e13)
    exact g'.run hm4 (view_res hm4 (rep_mono (e3.trans e4) y r2)) (view_res hm4 r4) hw4 (hq.mono (e13.trans e4))
theorem xe_chain {op op' : CmpOp} {o o' : O2} {wa wb wc : WE} (h : XO X (compareOp op) o) (h' : XO X (compareOp op') o') (ha : Xe X W a wa) (hb : Xe X W b wb) (hc : Xe X W c wc) (hm : lastMarks [op, op'] [b, c] = false) :
    Xe X W (.Compare a [op, op'] [b, c] pos) (wChain o o' wa wb wc) := by
  obtain ⟨r, p, g⟩ := h.ex
  obtain ⟨r', p', g'⟩ := h'.ex
  obtain ⟨ta, p1, g1⟩ := ha.ex
  obtain ⟨tb, p2, g2⟩ := hb.ex
  obtain ⟨tc, p3, g3⟩ := hc.ex
  exact ⟨_, pe_chain p p' p1 p2 p3 hm, ge_chain g g' g1 g2 g3⟩
theorem xt_chain {op op' : CmpOp} {o o' : O2} {wa wb wc : WE} (h : XO X (compareOp op) o) (h' : XO X (compareOp op') o') (ha : Xe X W a wa) (hb : Xe X W b wb) (hc : Xe X W c wc) (hm : lastMarks [op, op'] [b, c] = false) :
    Xt X W (.Compare a [op, op'] [b, c] pos) (wIsB (wChain o o' wa wb wc)) := by
  obtain ⟨r, p, g⟩ := h.ex
  obtain ⟨r', p', g'⟩ := h'.ex
  obtain ⟨ta, p1, g1⟩ := ha.ex
  obtain ⟨tb, p2, g2⟩ := hb.ex
  obtain ⟨tc, p3, g3⟩ := hc.ex
  refine ⟨_, pt_chain p p' p1 p2 p3 hm, ⟨fun {B F v m σ H k kx Q} hm re hw hq hx => ?_⟩⟩
  refine (ge_chain g g' g1 g2 g3).run hm re hw (fun d m1 F1 H1 x hw1 e1 hm1 r1 => ?_) hx
  obtain ⟨b, rfl, kb⟩ := isB_ok r1 hw1
  exact ⟨b, rfl, hq b m1 F1 H1 kb e1 hm1⟩
/-! ### and, or, not, one of two -/
def wAnd (a b : WT) : WT := fun v m k kx => a v m (fun q m1 => (q = true → b v m1 k kx) ∧ (q = false → k false m1)) kx
def wOr (a b : WT) : WT := fun v m k kx => a v m (fun q m1 => (q = true → k true m1) ∧ (q = false → b v m1 k kx)) kx
def wNot (a : WT) : WT := fun v m k kx => a v m (fun q m1 => k (!q) m1) kx
def wIf (c : WT) (a b : WE) : WE := fun v m k kx => c v m (fun q m1 => (q = true → a v m1 k kx) ∧ (q = false → b v m1 k kx)) kx
def wOfT (a : WT) : WE := fun v m k kx => a v m (fun q m1 => k (.bl q) m1) kx
theorem gt_and {K : PySem.W.Frag} {t u : TT} {a b : WT} (h1 : GT K W t a) (h2 : GT K W u b) : GT K W (tAnd t u) (wAnd a b) := by
  refine ⟨fun {B F v m σ H k kx Q} hm re hw hq hx => ?_⟩
  refine h1.run hm re hw (fun q m1 F1 H1 hw1 e1 hm1 => ?_) hx
  cases q with
  | true => rw [if_pos rfl]; exact h2.run hm1 (re.mono e1) (hw1.1 rfl) (hq.mono e1) (hx.mono e1)
  | false => rw [if_neg Bool.false_ne_true]; exact hq false m1 F1 H1 (hw1.2 rfl) e1 hm1
theorem gt_or {K : PySem.W.Frag} {t u : TT} {a b : WT} (h1 : GT K W t a) (h2 : GT K W u b) : GT K W (tOr t u) (wOr a b) := by
  refine ⟨fun {B F v m σ H k kx Q} hm re hw hq hx => ?_⟩
  refine h1.run hm re hw (fun q m1 F1 H1 hw1 e1 hm1 => ?_) hx
  cases q with
  | true => rw [if_pos rfl]; exact hq true m1 F1 H1 (hw1.1 rfl) e1 hm1
  | false => rw [if_neg Bool.false_ne_true]; exact h2.run hm1 (re.mono e1) (hw1.2 rfl) (hq.mono e1) (hx.mono e1)
theorem gt_not {K : PySem.W.Frag} {t : TT} {a : WT} (h1 : GT K W t a) : GT K W (tNot t) (wNot a) :=
  ⟨fun {B F v m σ H k kx Q} hm re hw hq hx => h1.run hm re hw (fun q m1 F1 H1 hw1 e1 hm1 => hq (!q) m1 F1 H1 hw1 e1 hm1) hx⟩
/-- a test whatever its whole is -/
structure Xw (X : Cx) (W : WX) (e : Expr) (w : WT) : Prop where
  ex : ∃ t, PW X e t ∧ GT X.K W t w
theorem Xw.t {w : WT} (h : Xw X W e w) : Xt X W e w := by
  obtain ⟨t, p, g⟩ := h.ex
  exact ⟨t, p.pt, g⟩
theorem xw_and1 {w : WT} (h : Xt X W a w) : Xw X W (.BoolOp .And [a] pos) w := by
  obtain ⟨t, p, g⟩ := h.ex
  exact ⟨t, pw_and1 p, g⟩
theorem xw_or1 {w : WT} (h : Xt X W a w) : Xw X W (.BoolOp .Or [a] pos) w := by
  obtain ⟨t, p, g⟩ := h.ex
  exact ⟨t, pw_or1 p, g⟩
theorem xw_and {wa wb : WT} {rest : List Expr} (ha : Xt X W a wa) (hb : Xw X W (.BoolOp .And (b :: rest) pos) wb) : Xw X W (.BoolOp .And (a :: b :: rest) pos) (wAnd wa wb) := by
  obtain ⟨t, p, g⟩ := ha.ex
  obtain ⟨u, p2, g2⟩ := hb.ex
  exact ⟨_, pw_and p p2, gt_and g g2⟩
theorem xw_or {wa wb : WT} {rest : List Expr} (ha : Xt X W a wa) (hb : Xw X W (.BoolOp .Or (b :: rest) pos) wb) : Xw X W (.BoolOp .Or (a :: b :: rest) pos) (wOr wa wb) := by
  obtain ⟨t, p, g⟩ := ha.ex
  obtain ⟨u, p2, g2⟩ := hb.ex
  exact ⟨_, pw_or p p2, gt_or g g2⟩
theorem xt_not {w : WT} (h : Xt X W a w) : Xt X W (.UnaryOp .Not a pos) (wNot w) := by
  obtain ⟨t, p, g⟩ := h.ex
  exact ⟨_, pt_not p, gt_not g⟩
theorem xe_if {wc : WT} {wa wb : WE} (hc : Xt X W c wc) (ha : Xe X W a wa) (hb : Xe X W b wb) : Xe X W (.IfExp c a b pos) (wIf wc wa wb) := by
  obtain ⟨tc, pc, gc⟩ := hc.ex
  obtain ⟨ta, pa, ga⟩ := ha.ex
  obtain ⟨tb, pb, gb⟩ := hb.ex
  refine ⟨_, pe_ifExp pc pa pb, ⟨fun {B F v m σ H k kx Q} hm re hw hq hx => ?_⟩⟩
  refine gc.run hm re hw (fun q m1 F1 H1 hw1 e1 hm1 => ?_) hx
  cases q with
  | true => rw [if_pos rfl]; exact ga.run hm1 (re.mono e1) (hw1.1 rfl) (hq.mono e1) (hx.mono e1)
  | false => rw [if_neg Bool.false_ne_true]; exact gb.run hm1 (re.mono e1) (hw1.2 rfl) (hq.mono e1) (hx.mono e1)
/-- and, or as values: by the truth of the left side -/
def wAndV (a b : WE) : WE := fun v m k kx => a v m (fun d m1 => tru m1 d fun q => (q = true → b v m1 k kx) ∧ (q = false → k d m1)) kx
def wOrV (a b : WE) : WE := fun v m k kx => a v m (fun d m1 => tru m1 d fun q => (q = true → k d m1) ∧ (q = false → b v m1 k kx)) kx
def wNotV (a : WE) : WE := fun v m k kx => a v m (fun d m1 => tru m1 d fun q => k (.bl (!q)) m1) kx
theorem ge_andV {K : PySem.W.Frag} {ta tb : TE} {a b : WE} (h1 : GE K W ta a) (h2 : GE K W tb b) : GE K W (tAndT K ta tb) (wAndV a b) := by
  refine ⟨fun {B F v m σ H k kx Q} hm re hw hq hx => ?_⟩
  refine h1.run hm re hw (fun d m1 F1 H1 x hw1 e1 hm1 r1 => ?_) hx
  obtain ⟨q, hb, k1, k2⟩ := tru_ok hm1 r1 hw1
  refine ⟨q, hb, ?_⟩
  cases q with
  | true => rw [if_pos rfl]; exact h2.run hm1 (re.mono e1) (k1 rfl) (hq.mono e1) (hx.mono e1)
  | false => rw [if_neg Bool.false_ne_true]; exact hq d m1 F1 H1 x (k2 rfl) e1 hm1 r1
theorem ge_orV {K : PySem.W.Frag} {ta tb : TE} {a b : WE} (h1 : GE K W ta a) (h2 : GE K W tb b) : GE K W (tOrT K ta tb) (wOrV a b) := by
  refine ⟨fun {B F v m σ H k kx Q} hm re hw hq hx => ?_⟩
  refine h1.run hm re hw (fun d m1 F1 H1 x hw1 e1 hm1 r1 => ?_) hx
  obtain ⟨q, hb, k1, k2⟩ := tru_ok hm1 r1 hw1
  refine ⟨q, hb, ?_⟩
  cases q with
  | true => rw [if_pos rfl]; exact hq d m1 F1 H1 x (k1 rfl) e1 hm1 r1
  | false => rw [if_neg Bool.false_ne_true]; exact h2.run hm1 (re.mono e1) (k2 rfl) (hq.mono e1) (hx.mono e1)
theorem ge_notV {K : PySem.W.Frag} {ta : TE} {a : WE} (h1 : GE K W ta a) : GE K W (tNotT K ta) (wNotV a) := by
  refine ⟨fun {B F v m σ H k kx Q} hm re hw hq hx => ?_⟩
  refine h1.run hm re hw (fun d m1 F1 H1 x hw1 e1 hm1 r1 => ?_) hx
  obtain ⟨q, hb, k1⟩ := tru_ok hm1 r1 hw1
  exact ⟨q, hb, hq _ m1 F1 H1 _ k1 e1 hm1 (by unfold Rep; rfl)⟩
/-- and, or as values -/
structure Xb (X : Cx) (W : WX) (op : BoolOp) (es : List Expr) (w : WE) : Prop where
  ex : ∀ pos, ∃ t, PE X (.BoolOp op es pos) t ∧ GE X.K W t w
theorem xb_one {op : BoolOp} {w : WE} (h : Xe X W a w) : Xb X W op [a] w := by
  obtain ⟨t, p, g⟩ := h.ex
  exact ⟨fun pos => ⟨t, pe_one p, g⟩⟩
theorem xb_and {wa wb : WE} {rest : List Expr} (ha : Xe X W a wa) (hb : Xb X W .And (b :: rest) wb) : Xb X W .And (a :: b :: rest) (wAndV wa wb) := by
  obtain ⟨t, p, g⟩ := ha.ex
  refine ⟨fun pos => ?_⟩
  obtain ⟨u, p2, g2⟩ := hb.ex pos
  exact ⟨_, pe_andT p p2, ge_andV g g2⟩
theorem xb_or {wa wb : WE} {rest : List Expr} (ha : Xe X W a wa) (hb : Xb X W .Or (b :: rest) wb) : Xb X W .Or (a :: b :: rest) (wOrV wa wb) := by
  obtain ⟨t, p, g⟩ := ha.ex
  refine ⟨fun pos => ?_⟩
  obtain ⟨u, p2, g2⟩ := hb.ex pos
  exact ⟨_, pe_orT p p2, ge_orV g g2⟩
theorem Xb.toXe {op : BoolOp} {w : WE} (h : Xb X W op es w) : Xe X W (.BoolOp op es pos) w := ⟨h.ex pos⟩
theorem xe_notV {w : WE} (h : Xe X W a w) : Xe X W (.UnaryOp .Not a pos) (wNotV w) := by
  obtain ⟨t, p, g⟩ := h.ex
  exact ⟨_, pe_notT p, ge_notV g⟩
end
end Ab
end
section
/-! Ab3: operations, displays, places, slices, calls of what the language has. -/
namespace Ab
open PySem PySem.Spec L2
/-- a new list: to stay as it is, or to be changed -/
def newK (z : Bool) (d : D) (m : Mem) (k : KE) : Prop := match z with
  | true => k d m
  | false => ∀ a, m a = none → k (.raw (.ref a)) (setM m a d)
section
variable {K : PySem.W.Frag} {B : Bs} {F H : Hp} {m : Mem}
theorem newK_ok {z : Bool} {xs : List D} {vs : List V} {k : KE} {Q : VK} {p : Addr} (hm : HM K B F m H) (hp : H p = none) (r : RepL K F xs vs) (h : newK z (.lst xs) m k) (hq : QE K B F k Q) : Q (.ref p) (upd H p (.lst vs)) := by
  cases z with
  | true => exact hq _ m _ _ _ h (same_new (hm.fn hp)) (hm.new hp _) (by unfold Rep; exact ⟨p, vs, rfl, upd_same, repL_mono (same_new (hm.fn hp)) _ r⟩)
  | false => exact hq _ _ _ _ _ (h p (hm.mn hp)) (Same.refl _) (hm.newM hp ⟨vs, upd_same, r⟩) (by unfold Rep; rfl)
theorem newT_ok {xs : List D} {vs : List V} {k : KE} {Q : VK} {p : Addr} (hm : HM K B F m H) (hp : H p = none) (r : RepL K F xs vs) (h : k (.tup xs) m) (hq : QE K B F k Q) : Q (.ref p) (upd H p (.tup vs)) :=
  hq _ m _ _ _ h (same_new (hm.fn hp)) (hm.new hp _) (by unfold Rep; exact ⟨p, vs, rfl, .inl (.inl upd_same), repL_mono (same_new (hm.fn hp)) _ r⟩)
theorem newD_ok {ks : List Key} {xs : List D} {kvs : List (Key × V)} {z : Bool} {k : KE} {Q : VK} {p : Addr} (hm : HM K B F m H) (hp : H p = none) (e : kvs.map (·.1) = ks) (r : RepL K F xs (kvs.map (·.2))) (h : newK z (.dct ks xs) m k) (hq : QE K B F k Q) : Q (.ref p) (upd H p (.dK kvs)) := by
  cases z with
  | true => exact hq _ m _ _ _ h (same_new (hm.fn hp)) (hm.new hp _) (by unfold Rep; exact ⟨p, kvs, rfl, .inl upd_same, e, repL_mono (same_new (hm.fn hp)) _ r⟩)
  | false => exact hq _ _ _ _ _ (h p (hm.mn hp)) (Same.refl _) (hm.newM hp ⟨kvs, upd_same, e, r⟩) (by unfold Rep; rfl)
theorem qint {k : KE} {Q : VK} {i : Int} (hm : HM K B F m H) (hq : QE K B F k Q) (h : k (.int i) m) : Q (.int i) H := hq _ m F H _ h (Same.refl _) hm (by unfold Rep; rfl)
theorem qbl {k : KE} {Q : VK} {i : Bool} (hm : HM K B F m H) (hq : QE K B F k Q) (h : k (.bl i) m) : Q (.bl i) H := hq _ m F H _ h (Same.refl _) hm (by unfold Rep; rfl)
theorem qstr {k : KE} {Q : VK} {i : Str} (hm : HM K B F m H) (hq : QE K B F k Q) (h : k (.str i) m) : Q (.str i) H := hq _ m F H _ h (Same.refl _) hm (by unfold Rep; rfl)
end
/-! ### operators on ints, texts, lists -/
def oAdd (z : Bool) : O2 := fun m a b k => match a, b with
  | .int i, .int j => k (.int (i + j)) m
  | .str x, .str y => x.length + y.length ≤ sizeLine ∧ k (.str (x ++ y)) m
  | .lst xs, .lst ys => xs.length + ys.length ≤ sizeLine ∧ newK z (.lst (xs ++ ys)) m k
  | .tup xs, .tup ys => xs.length + ys.length ≤ sizeLine ∧ k (.tup (xs ++ ys)) m
  | _, _ => False
def oSub : O2 := fun m a b k => match a, b with
  | .int i, .int j => k (.int (i - j)) m
  | _, _ => False
def MulOk (i j : Int) : Prop := CMul i j ∨ CMulX i j
def oMul (z : Bool) : O2 := fun m a b k => match a, b with
  | .int i, .int j => MulOk i j ∧ k (.int (i * j)) m
  | .lst xs, .int j => -(2 ^ 63) ≤ j ∧ j < 2 ^ 63 ∧ xs.length * j.toNat ≤ sizeLine ∧ newK z (.lst (List.replicate j.toNat xs).flatten) m k
  | _, _ => False
def DivOk (j : Int) : Prop := 0 < j ∧ (j < 1073741824 ∨ j.natAbs.log2 < 9000)
def oDiv : O2 := fun m a b k => match a, b with
  | .int i, .int j => DivOk j ∧ k (.int (i / j)) m
  | _, _ => False
def oMod : O2 := fun m a b k => match a, b with
  | .int i, .int j => 0 < j ∧ k (.int (i % j)) m
  | _, _ => False
def oPow : O2 := fun m a b k => match a, b with
  | .int i, .int j => CPow i j ∧ k (.int (i ^ j.toNat)) m
  | _, _ => False
def ShlOk (i j : Int) : Prop := CPow i j ∨ CShl i j
def oShl : O2 := fun m a b k => match a, b with
  | .int i, .int j => ShlOk i j ∧ k (.int (i * 2 ^ j.toNat)) m
  | _, _ => False
def oShr : O2 := fun m a b k => match a, b with
  | .int i, .int j => 0 ≤ j ∧ k (.int (i / 2 ^ j.toNat)) m
  | _, _ => False
def oAnd : O2 := fun m a b k => match a, b with
  | .int i, .int j => k (.int (Builtin.bitAnd i j)) m
  | _, _ => False
def oOr : O2 := fun m a b k => match a, b with
  | .int i, .int j => k (.int (Builtin.bitOr i j)) m
  | _, _ => False
def oXor : O2 := fun m a b k => match a, b with
  | .int i, .int j => k (.int (Builtin.bitXor i j)) m
  | _, _ => False
section
variable {K : PySem.W.Frag}
/-- ints in, one int or bool out -/
theorem go_ints {r : R2} {o : O2} (C : Int → Int → Prop) (g : Int → Int → V) (gd : Int → Int → D) (hg : ∀ i j F, Rep K F (gd i j) (g i j)) (hr : r = rI C g)
    (ho : ∀ m a b k, o m a b k → ∃ i j, a = .int i ∧ b = .int j ∧ C i j ∧ k (gd i j) m) : GO K r o := by
  subst hr
  refine ⟨fun {B F m H x y a b k Q} hm va vb h hq => ?_⟩
  obtain ⟨i, j, rfl, rfl, hc, hk⟩ := ho m a b k h
  exact ⟨i, j, va, vb, hc, hq _ m F H _ hk (Same.refl _) hm (hg i j F)⟩
theorem go_ints0 {r : R2} {o : O2} (g : Int → Int → V) (gd : Int → Int → D) (hg : ∀ i j F, Rep K F (gd i j) (g i j)) (hr : r = rI0 g)
    (ho : ∀ m a b k, o m a b k → ∃ i j, a = .int i ∧ b = .int j ∧ k (gd i j) m) : GO K r o := by
  subst hr
  refine ⟨fun {B F m H x y a b k Q} hm va vb h hq => ?_⟩
  obtain ⟨i, j, rfl, rfl, hk⟩ := ho m a b k h
  exact ⟨i, j, va, vb, hq _ m F H _ hk (Same.refl _) hm (hg i j F)⟩
theorem rep_int {F : Hp} {i : Int} : Rep K F (.int i) (.int i) := by unfold Rep; rfl
theorem rep_bl {F : Hp} {i : Bool} : Rep K F (.bl i) (.bl i) := by unfold Rep; rfl
theorem rep_str {F : Hp} {i : Str} : Rep K F (.str i) (.str i) := by unfold Rep; rfl
theorem rep_non {F : Hp} : Rep K F .non .non := by unfold Rep; rfl
end
section
variable {X : Cx}
theorem xo_sub : XO X (binaryOp .Sub) oSub := ⟨_, op_sub, go_ints0 _ (fun i j => .int (i - j)) (fun _ _ _ => rep_int) rfl fun m a b k h => by
  cases a <;> cases b <;> first
    | exact ⟨_, _, rfl, rfl, h⟩
    | exact False.elim h⟩
theorem xo_isub : XO X (inplaceOp .Sub) oSub := ⟨_, iop_sub, go_ints0 _ (fun i j => .int (i - j)) (fun _ _ _ => rep_int) rfl fun m a b k h => by
  cases a <;> cases b <;> first
    | exact ⟨_, _, rfl, rfl, h⟩
    | exact False.elim h⟩
theorem xo_and : XO X (binaryOp .BitAnd) oAnd := ⟨_, op_and, go_ints0 _ (fun i j => .int (Builtin.bitAnd i j)) (fun _ _ _ => rep_int) rfl fun m a b k h => by
  cases a <;> cases b <;> first
    | exact ⟨_, _, rfl, rfl, h⟩
    | exact False.elim h⟩
theorem xo_or : XO X (binaryOp .BitOr) oOr := ⟨_, op_or, go_ints0 _ (fun i j => .int (Builtin.bitOr i j)) (fun _ _ _ => rep_int) rfl fun m a b k h => by
  cases a <;> cases b <;> first
    | exact ⟨_, _, rfl, rfl, h⟩
    | exact False.elim h⟩
theorem xo_xor : XO X (binaryOp .BitXor) oXor := ⟨_, op_xor, go_ints0 _ (fun i j => .int (Builtin.bitXor i j)) (fun _ _ _ => rep_int) rfl fun m a b k h => by
  cases a <;> cases b <;> first
    | exact ⟨_, _, rfl, rfl, h⟩
    | exact False.elim h⟩
theorem xo_mod : XO X (binaryOp .Mod) oMod := ⟨_, op_mod, go_ints _ _ (fun i j => .int (i % j)) (fun _ _ _ => rep_int) rfl fun m a b k h => by
  cases a <;> cases b <;> first
    | exact ⟨_, _, rfl, rfl, h.1, h.2⟩
    | exact False.elim h⟩
theorem xo_shr : XO X (binaryOp .RShift) oShr := ⟨_, op_shr, go_ints _ _ (fun i j => .int (i / 2 ^ j.toNat)) (fun _ _ _ => rep_int) rfl fun m a b k h => by
  cases a <;> cases b <;> first
    | exact ⟨_, _, rfl, rfl, h.1, h.2⟩
    | exact False.elim h⟩
theorem xo_pow : XO X (binaryOp .Pow) oPow := ⟨_, op_pow, go_ints _ _ (fun i j => .int (i ^ j.toNat)) (fun _ _ _ => rep_int) rfl fun m a b k h => by
  cases a <;> cases b <;> first
    | exact ⟨_, _, rfl, rfl, h.1, h.2⟩
    | exact False.elim h⟩
theorem xo_div : XO X (binaryOp .FloorDiv) oDiv := by
  refine ⟨_, OpR.or op_fdiv op_fdivW, ⟨fun {B F m H x y a b k Q} hm va vb h hq => ?_⟩⟩
  cases a <;> cases b <;> first
    | exact False.elim h
    | skip
  obtain ⟨⟨h1, h2⟩, h3⟩ := h
  rcases h2 with h2 | h2
  · exact .inl ⟨_, _, va, vb, ⟨h1, h2⟩, qint hm hq h3⟩
  · exact .inr ⟨_, _, va, vb, ⟨h1, h2⟩, qint hm hq h3⟩
theorem xo_shl : XO X (binaryOp .LShift) oShl := by
  refine ⟨_, OpR.or op_shl op_shlW, ⟨fun {B F m H x y a b k Q} hm va vb h hq => ?_⟩⟩
  cases a <;> cases b <;> first
    | exact False.elim h
    | skip
  obtain ⟨h2, h3⟩ := h
  rcases h2 with h2 | h2
  · exact .inl ⟨_, _, va, vb, h2, qint hm hq h3⟩
  · exact .inr ⟨_, _, va, vb, h2, qint hm hq h3⟩
theorem repL_nil' {K : PySem.W.Frag} {F : Hp} {xs : List D} (r : RepL K F xs []) : xs = [] := by
  cases xs with
  | nil => rfl
  | cons d ds => obtain ⟨v, t, e, _⟩ := repL_cons.mp r; cases e
theorem xo_add {z : Bool} : XO X (binaryOp .Add) (oAdd z) := by
  refine ⟨_, OpR.or op_add (OpR.or op_add_str (OpR.or op_cat op_catA)), ⟨fun {B F m H x y a b k Q} hm va vb h hq => ?_⟩⟩
  cases a <;> cases b <;> first
    | exact False.elim h
    | skip
  · exact .inl ⟨_, _, va, vb, qint hm hq h⟩
  · exact .inr (.inl ⟨_, _, va, vb, h.1, qstr hm hq h.2⟩)
  · obtain ⟨a, vs, rfl, ha, ra⟩ := va
    obtain ⟨b, us, rfl, hb, rb⟩ := vb
    refine .inr (.inr (.inl ⟨a, b, vs, us, rfl, rfl, ha, hb, by rw [ra.len, rb.len]; exact h.1, fun p hp => ?_⟩))
    exact newK_ok hm hp (ra.append rb) h.2 hq
  · obtain ⟨a, vs, rfl, ha, ra, fa⟩ := va
    obtain ⟨b, us, rfl, hb, rb, fb⟩ := vb
    obtain ⟨h3, h4⟩ := h
    refine .inr (.inr (.inr ⟨a, b, vs, us, rfl, rfl, ha, hb, by rw [ra.len, rb.len]; exact h3, fun e => ?_, fun _ e => ?_, fun _ _ p hp => newT_ok hm hp (ra.append rb) h4 hq⟩))
    · subst e
      rw [repL_nil' ra, List.nil_append] at h4
      exact hq _ m F H _ h4 (Same.refl _) hm (by unfold Rep; exact ⟨b, us, rfl, fb, rb⟩)
    · subst e
      rw [repL_nil' rb, List.append_nil] at h4
      exact hq _ m F H _ h4 (Same.refl _) hm (by unfold Rep; exact ⟨a, vs, rfl, fa, ra⟩)
def oIAdd : O2 := fun m a b k => match a, b with
  | .int i, .int j => k (.int (i + j)) m
  | .str x, .str y => x.length + y.length ≤ sizeLine ∧ k (.str (x ++ y)) m
  | _, _ => False
theorem xo_iadd : XO X (inplaceOp .Add) oIAdd := by
  refine ⟨_, OpR.or iop_add iop_add_str, ⟨fun {B F m H x y a b k Q} hm va vb h hq => ?_⟩⟩
  cases a <;> cases b <;> first
    | exact False.elim h
    | skip
  · exact .inl ⟨_, _, va, vb, qint hm hq h⟩
  · exact .inr ⟨_, _, va, vb, h.1, qstr hm hq h.2⟩
def oIMul : O2 := fun m a b k => match a, b with
  | .int i, .int j => CMul i j ∧ k (.int (i * j)) m
  | _, _ => False
theorem xo_imul : XO X (inplaceOp .Mult) oIMul := ⟨_, iop_mul, go_ints _ _ (fun i j => .int (i * j)) (fun _ _ _ => rep_int) rfl fun m a b k h => by
  cases a <;> cases b <;> first
    | exact ⟨_, _, rfl, rfl, h.1, h.2⟩
    | exact False.elim h⟩
theorem repL_rep {K : PySem.W.Frag} {F : Hp} {xs : List D} {vs : List V} (r : RepL K F xs vs) : ∀ n : Nat, RepL K F (List.replicate n xs).flatten (List.replicate n vs).flatten
  | 0 => RepL.nil
  | n + 1 => by
    rw [List.replicate_succ, List.replicate_succ, List.flatten_cons, List.flatten_cons]
    exact r.append (repL_rep r n)
theorem xo_mul {z : Bool} : XO X (binaryOp .Mult) (oMul z) := by
  refine ⟨_, OpR.or op_mul (OpR.or op_mulX op_rep), ⟨fun {B F m H x y a b k Q} hm va vb h hq => ?_⟩⟩
  cases a <;> cases b <;> first
    | exact False.elim h
    | skip
  · obtain ⟨h2, h3⟩ := h
    rcases h2 with h2 | h2
    · exact .inl ⟨_, _, va, vb, h2, qint hm hq h3⟩
    · exact .inr (.inl ⟨_, _, va, vb, h2, qint hm hq h3⟩)
  · obtain ⟨a, vs, rfl, ha, ra⟩ := va
    obtain ⟨h1, h2, h3, h4⟩ := h
    exact .inr (.inr ⟨a, _, vs, rfl, vb, ha, h1, h2, by rw [ra.len]; exact h3, fun p hp => newK_ok hm hp (repL_rep ra _) h4 hq⟩)
/-! ### comparisons -/
mutual
def toP : D → Option PyData
  | .non => some .none
  | .bl b => some (.bool b)
  | .int i => some (.int i)
  | .str x => some (.str x)
  | .lst xs => (toPs xs).map .list
  | .frl xs => (toPs xs).map .list
  | .tup xs => (toPs xs).map .tuple
  | _ => none
def toPs : List D → Option (List PyData)
  | [] => some []
  | d :: ds => match toP d, toPs ds with
    | some p, some q => some (p :: q)
    | _, _ => none
end
theorem toPs_cons {d : D} {ds : List D} {p : List PyData} (h : toPs (d :: ds) = some p) : ∃ q r, p = q :: r ∧ toP d = some q ∧ toPs ds = some r := by
  rw [toPs] at h
  cases e1 : toP d with
  | none => rw [e1] at h; cases h
  | some q =>
    cases e2 : toPs ds with
    | none => rw [e1, e2] at h; cases h
    | some r => rw [e1, e2] at h; cases h; exact ⟨q, r, rfl, rfl, rfl⟩
mutual
theorem dp_of {K : PySem.W.Frag} {F H : Hp} (e : Same F H) : ∀ (d : D) {v : V} {p : PyData}, Rep K F d v → toP d = some p → Dp K H v p
  | .non, _, _, r, h => by rw [toP] at h; cases h; unfold Rep at r; subst r; exact .non
  | .bl b, _, _, r, h => by rw [toP] at h; cases h; unfold Rep at r; subst r; exact .bl b
  | .int b, _, _, r, h => by rw [toP] at h; cases h; unfold Rep at r; subst r; exact .int b
  | .str b, _, _, r, h => by rw [toP] at h; cases h; unfold Rep at r; subst r; exact .str b
  | .lst xs, _, _, r, h => by
    rw [toP] at h
    unfold Rep at r
    obtain ⟨a, vs, rfl, h1, h2⟩ := r
    cases e1 : toPs xs with
    | none => rw [e1] at h; cases h
    | some q => rw [e1] at h; cases h; exact .lst (.inl (.inl (e _ _ h1))) (dps_of e xs h2 e1)
  | .frl xs, _, _, r, h => by
    rw [toP] at h
    unfold Rep at r
    obtain ⟨a, vs, rfl, h1, h2⟩ := r
    cases e1 : toPs xs with
    | none => rw [e1] at h; cases h
    | some q => rw [e1] at h; cases h; exact .lst (e.seq h1) (dps_of e xs h2 e1)
  | .tup xs, _, _, r, h => by
    rw [toP] at h
    unfold Rep at r
    obtain ⟨a, vs, rfl, h1, h2⟩ := r
    cases e1 : toPs xs with
    | none => rw [e1] at h; cases h
    | some q => rw [e1] at h; cases h; exact .tup (sqt_mono e h1) (dps_of e xs h2 e1)
  | .raw _, _, _, _, h => by rw [toP] at h; cases h; all_goals (intros; contradiction)
  | .dct _ _, _, _, _, h => by rw [toP] at h; cases h; all_goals (intros; contradiction)
  | .obj _ _ _, _, _, _, h => by rw [toP] at h; cases h; all_goals (intros; contradiction)
theorem dps_of {K : PySem.W.Frag} {F H : Hp} (e : Same F H) : ∀ (ds : List D) {vs : List V} {ps : List PyData}, RepL K F ds vs → toPs ds = some ps → DpAll K H vs ps
  | [], _, _, r, h => by rw [toPs] at h; cases h; rw [repL_nil.mp r]; exact .nil
  | d :: ds, _, _, r, h => by
    obtain ⟨q, p, rfl, h1, h2⟩ := toPs_cons h
    obtain ⟨v, t, rfl, r1, r2⟩ := repL_cons.mp r
    exact .cons (dp_of e d r1 h1) (dps_of e ds r2 h2)
end
theorem dp_view {K : PySem.W.Frag} {B : Bs} {F H : Hp} {m : Mem} (hm : HM K B F m H) {d : D} {v : V} {p : PyData} (r : View K F H d v) (h : toP d = some p) : Dp K H v p := by
  cases d with
  | non => rw [toP] at h; cases h; cases r; exact .non
  | bl b => rw [toP] at h; cases h; cases r; exact .bl b
  | int b => rw [toP] at h; cases h; cases r; exact .int b
  | str b => rw [toP] at h; cases h; cases r; exact .str b
  | lst xs =>
    rw [toP] at h
    obtain ⟨a, vs, rfl, h1, h2⟩ := r
    cases e1 : toPs xs with
    | none => rw [e1] at h; cases h
    | some q => rw [e1] at h; cases h; exact .lst (.inl (.inl h1)) (dps_of hm.fr xs h2 e1)
  | frl xs =>
    rw [toP] at h
    obtain ⟨a, vs, rfl, h1, h2⟩ := r
    cases e1 : toPs xs with
    | none => rw [e1] at h; cases h
    | some q => rw [e1] at h; cases h; exact .lst h1 (dps_of hm.fr xs h2 e1)
  | tup xs =>
    rw [toP] at h
    obtain ⟨a, vs, rfl, h1, h2, _⟩ := r
    cases e1 : toPs xs with
    | none => rw [e1] at h; cases h
    | some q => rw [e1] at h; cases h; exact .tup h1 (dps_of hm.fr xs h2 e1)
  | raw _ => rw [toP] at h; cases h; all_goals (intros; contradiction)
  | dct _ _ => rw [toP] at h; cases h; all_goals (intros; contradiction)
  | obj _ _ _ => rw [toP] at h; cases h; all_goals (intros; contradiction)
def eqD (m : Mem) (a b : D) (k : Bool → Prop) : Prop := (∃ p q, toP a = some p ∧ toP b = some q ∧ SeqAt.shaped p = true ∧ SeqAt.shaped q = true ∧ k (PyData.eqv p q)) ∨ (∃ x xs, a = .lst (x :: xs) ∧ b = .lst [] ∧ k false)
def oEq : O2 := fun m a b k => match a, b with
  | .int i, .int j => k (.bl (decide (i = j))) m
  | .str i, .str j => k (.bl (decide (i = j))) m
  | .bl i, .bl j => k (.bl (decide (i = j))) m
  | .non, .non => k (.bl true) m
  | a, b => eqD m a b fun q => k (.bl q) m
def oNe : O2 := fun m a b k => match a, b with
  | .int i, .int j => k (.bl (!decide (i = j))) m
  | .str i, .str j => k (.bl (!decide (i = j))) m
  | .bl i, .bl j => k (.bl (!decide (i = j))) m
  | .non, .non => k (.bl false) m
  | a, b => eqD m a b fun q => k (.bl (!q)) m
theorem oEq_cases {m : Mem} {a b : D} {k : KE} (h : oEq m a b k) : (∃ i j, a = .int i ∧ b = .int j ∧ k (.bl (decide (i = j))) m) ∨ (∃ i j, a = .str i ∧ b = .str j ∧ k (.bl (decide (i = j))) m) ∨ (∃ i j, a = .bl i ∧ b = .bl j ∧ k (.bl (decide (i = j))) m) ∨
    (a = .non ∧ b = .non ∧ k (.bl true) m) ∨ eqD m a b fun q => k (.bl q) m := by
  unfold oEq at h
  split at h
  · exact .inl ⟨_, _, rfl, rfl, h⟩
  · exact .inr (.inl ⟨_, _, rfl, rfl, h⟩)
  · exact .inr (.inr (.inl ⟨_, _, rfl, rfl, h⟩))
  · exact .inr (.inr (.inr (.inl ⟨rfl, rfl, h⟩)))
  · exact .inr (.inr (.inr (.inr h)))
/-- a list that is not empty against an empty one -/
theorem op_neE {X : Cx} (hu : X.A.units + 64 < cLine) : OpR X (compareOp .NotEq) (fun x y H Q => ∃ a b xs, x = .ref a ∧ y = .ref b ∧ SqL X.K H a xs ∧ SqL X.K H b [] ∧ xs ≠ [] ∧ Q (.bl true) H) := by
  intro pins s σ H x y v u Q I rx ry h
  obtain ⟨a, b, xs, rfl, rfl, ha, hb, hne, q⟩ := h
  cases rx
  cases ry
  obtain ⟨its, rv, pl, hz⟩ := I.list ha
  obtain ⟨its2, rv2, pl2, hz2⟩ := I.list hb
  obtain ⟨⟨cls, dd, data, sl⟩, ho, hc, n, hd⟩ := id pl.isList
  obtain ⟨⟨cls2, dd2, data2, sl2⟩, ho2, hc2, n2, hd2⟩ := id pl2.isList
  simp only at hc hd hc2 hd2
  subst hc hd hc2 hd2
  have ta : s.TypeIs (.ref a) "list" := ⟨_, ho, rfl⟩
  have tb : s.TypeIs (.ref b) "list" := ⟨_, ho2, rfl⟩
  have l1 := rv.length
  have l2 := rv2.length
  have h0 : xs.length ≠ 0 := fun z => hne (List.length_eq_zero_iff.mp z)
  have hsz : (its.toArray.size != its2.toArray.size) = true := by
    rw [bne_iff_ne, List.size_toArray, List.size_toArray, ← l1, ← l2]
    exact h0
  exact wpAny_richCompare_same_room (op := .NotEq) ta tb PySem.F.slot_list_ne (call_meets PySem.F.slot_list_ne ta PySem.F.entry_list_ne (PySem.F.args_list_ne_2 _ _) (SeqAt.list_ne_lengthsAt a b its.toArray its2.toArray n n2 dd dd2 sl sl2 hsz)
    ⟨ho, ho2, show Value.bool true ≠ Value.notImplemented ∧ _ from ⟨(fun x => nomatch x), ⟨.bl true, H, I, rfl, q⟩⟩⟩) (by omega)
theorem op_eqE {X : Cx} (hu : X.A.units + 64 < cLine) : OpR X (compareOp .Eq) (fun x y H Q => ∃ a b xs, x = .ref a ∧ y = .ref b ∧ SqL X.K H a xs ∧ SqL X.K H b [] ∧ xs ≠ [] ∧ Q (.bl false) H) := by
  intro pins s σ H x y v u Q I rx ry h
  obtain ⟨a, b, xs, rfl, rfl, ha, hb, hne, q⟩ := h
  cases rx
  cases ry
  obtain ⟨its, rv, pl, hz⟩ := I.list ha
  obtain ⟨its2, rv2, pl2, hz2⟩ := I.list hb
  obtain ⟨⟨cls, dd, data, sl⟩, ho, hc, n, hd⟩ := id pl.isList
  obtain ⟨⟨cls2, dd2, data2, sl2⟩, ho2, hc2, n2, hd2⟩ := id pl2.isList
  simp only at hc hd hc2 hd2
  subst hc hd hc2 hd2
  have ta : s.TypeIs (.ref a) "list" := ⟨_, ho, rfl⟩
  have tb : s.TypeIs (.ref b) "list" := ⟨_, ho2, rfl⟩
  have l1 := rv.length
  have l2 := rv2.length
  have h0 : xs.length ≠ 0 := fun z => hne (List.length_eq_zero_iff.mp z)
  have hsz : (its.toArray.size != its2.toArray.size) = true := by
    rw [bne_iff_ne, List.size_toArray, List.size_toArray, ← l1, ← l2]
    exact h0
  exact wpAny_richCompare_same_room (op := .Eq) ta tb PySem.F.slot_list_eq (call_meets PySem.F.slot_list_eq ta PySem.F.entry_list_eq (PySem.F.args_list_eq_2 _ _) (SeqAt.list_eq_lengthsAt a b its.toArray its2.toArray n n2 dd dd2 sl sl2 hsz)
    ⟨ho, ho2, show Value.bool false ≠ Value.notImplemented ∧ _ from ⟨(fun x => nomatch x), ⟨.bl false, H, I, rfl, q⟩⟩⟩) (by omega)
theorem view_ne {K : PySem.W.Frag} {F H : Hp} {x : D} {xs : List D} {v : V} (h : View K F H (.lst (x :: xs)) v) : ∃ a vs, v = .ref a ∧ SqL K H a vs ∧ vs ≠ [] := by
  obtain ⟨a, vs, rfl, h1, h2⟩ := h
  refine ⟨a, vs, rfl, .inl (.inl h1), fun z => ?_⟩
  subst z
  obtain ⟨_, _, q, _⟩ := repL_cons.mp h2
  cases q
theorem view_nl {K : PySem.W.Frag} {F H : Hp} {v : V} (h : View K F H (.lst []) v) : ∃ a, v = .ref a ∧ SqL K H a [] := by
  obtain ⟨a, vs, rfl, h1, h2⟩ := h
  rw [repL_nil.mp h2] at h1
  exact ⟨a, rfl, .inl (.inl h1)⟩
theorem oNe_cases {m : Mem} {a b : D} {k : KE} (h : oNe m a b k) : (∃ i j, a = .int i ∧ b = .int j ∧ k (.bl (!decide (i = j))) m) ∨ (∃ i j, a = .str i ∧ b = .str j ∧ k (.bl (!decide (i = j))) m) ∨ (∃ i j, a = .bl i ∧ b = .bl j ∧ k (.bl (!decide (i = j))) m) ∨
    (a = .non ∧ b = .non ∧ k (.bl false) m) ∨ eqD m a b fun q => k (.bl (!q)) m := by
  unfold oNe at h
  split at h
  · exact .inl ⟨_, _, rfl, rfl, h⟩
  · exact .inr (.inl ⟨_, _, rfl, rfl, h⟩)
  · exact .inr (.inr (.inl ⟨_, _, rfl, rfl, h⟩))
  · exact .inr (.inr (.inr (.inl ⟨rfl, rfl, h⟩)))
  · exact .inr (.inr (.inr (.inr h)))
theorem dec_iff {α β : Type} {a b : α} {c d : β} [Decidable (a = b)] [Decidable (c = d)] (h : a = b ↔ c = d) : decide (a = b) = decide (c = d) := by
  by_cases e : a = b
  · rw [decide_eq_true e, decide_eq_true (h.mp e)]
  · rw [decide_eq_false e, decide_eq_false (fun z => e (h.mpr z))]
theorem xo_eq (hu : X.A.units + 64 < cLine) : XO X (compareOp .Eq) oEq := by
  refine ⟨_, OpR.or op_eq (OpR.or (op_eqD hu) (op_eqE hu)), ⟨fun {B F m H x y a b k Q} hm va vb h hq => ?_⟩⟩
  rcases oEq_cases h with ⟨i, j, rfl, rfl, h⟩ | ⟨i, j, rfl, rfl, h⟩ | ⟨i, j, rfl, rfl, h⟩ | ⟨rfl, rfl, h⟩ | ⟨p, q, h1, h2, h3, h4, h5⟩ | ⟨d, ds, rfl, rfl, h6⟩
  · cases va; cases vb
    exact .inl ⟨rfl, qbl hm hq (by rw [dec_iff (show V.int i = V.int j ↔ i = j from ⟨fun z => V.int.inj z, fun z => by rw [z]⟩)]; exact h)⟩
  · cases va; cases vb
    exact .inl ⟨rfl, qbl hm hq (by rw [dec_iff (show V.str i = V.str j ↔ i = j from ⟨fun z => V.str.inj z, fun z => by rw [z]⟩)]; exact h)⟩
  · cases va; cases vb
    exact .inl ⟨rfl, qbl hm hq (by rw [dec_iff (show V.bl i = V.bl j ↔ i = j from ⟨fun z => V.bl.inj z, fun z => by rw [z]⟩)]; exact h)⟩
  · cases va; cases vb
    exact .inl ⟨rfl, qbl hm hq h⟩
  · exact .inr (.inl ⟨p, q, dp_view hm va h1, dp_view hm vb h2, h3, h4, qbl hm hq h5⟩)
  · obtain ⟨a1, vs, rfl, s1, n1⟩ := view_ne va
    obtain ⟨b1, rfl, s2⟩ := view_nl vb
    exact .inr (.inr ⟨a1, b1, vs, rfl, rfl, s1, s2, n1, qbl hm hq h6⟩)
theorem xo_ne (hu : X.A.units + 64 < cLine) : XO X (compareOp .NotEq) oNe := by
  refine ⟨_, OpR.or op_ne (OpR.or (op_neD hu) (op_neE hu)), ⟨fun {B F m H x y a b k Q} hm va vb h hq => ?_⟩⟩
  rcases oNe_cases h with ⟨i, j, rfl, rfl, h⟩ | ⟨i, j, rfl, rfl, h⟩ | ⟨i, j, rfl, rfl, h⟩ | ⟨rfl, rfl, h⟩ | ⟨p, q, h1, h2, h3, h4, h5⟩ | ⟨d, ds, rfl, rfl, h6⟩
  · cases va; cases vb
    exact .inl ⟨rfl, qbl hm hq (by rw [dec_iff (show V.int i = V.int j ↔ i = j from ⟨fun z => V.int.inj z, fun z => by rw [z]⟩)]; exact h)⟩
  · cases va; cases vb
    exact .inl ⟨rfl, qbl hm hq (by rw [dec_iff (show V.str i = V.str j ↔ i = j from ⟨fun z => V.str.inj z, fun z => by rw [z]⟩)]; exact h)⟩
  · cases va; cases vb
    exact .inl ⟨rfl, qbl hm hq (by rw [dec_iff (show V.bl i = V.bl j ↔ i = j from ⟨fun z => V.bl.inj z, fun z => by rw [z]⟩)]; exact h)⟩
  · cases va; cases vb
    exact .inl ⟨rfl, qbl hm hq h⟩
  · exact .inr (.inl ⟨p, q, dp_view hm va h1, dp_view hm vb h2, h3, h4, qbl hm hq h5⟩)
  · obtain ⟨a1, vs, rfl, s1, n1⟩ := view_ne va
    obtain ⟨b1, rfl, s2⟩ := view_nl vb
    exact .inr (.inr ⟨a1, b1, vs, rfl, rfl, s1, s2, n1, qbl hm hq h6⟩)
def oLt : O2 := fun m a b k => match a, b with
  | .int i, .int j => k (.bl (decide (i < j))) m
  | _, _ => False
def oLe : O2 := fun m a b k => match a, b with
  | .int i, .int j => k (.bl (decide (i ≤ j))) m
  | _, _ => False
def oGt : O2 := fun m a b k => match a, b with
  | .int i, .int j => k (.bl (decide (j < i))) m
  | _, _ => False
def oGe : O2 := fun m a b k => match a, b with
  | .int i, .int j => k (.bl (decide (j ≤ i))) m
  | _, _ => False
theorem xo_lt : XO X (compareOp .Lt) oLt := ⟨_, op_lt, go_ints0 _ (fun i j => .bl (decide (i < j))) (fun _ _ _ => rep_bl) rfl fun m a b k h => by
  cases a <;> cases b <;> first
    | exact ⟨_, _, rfl, rfl, h⟩
    | exact False.elim h⟩
theorem xo_le : XO X (compareOp .LtE) oLe := ⟨_, op_le, go_ints0 _ (fun i j => .bl (decide (i ≤ j))) (fun _ _ _ => rep_bl) rfl fun m a b k h => by
  cases a <;> cases b <;> first
    | exact ⟨_, _, rfl, rfl, h⟩
    | exact False.elim h⟩
theorem xo_gt : XO X (compareOp .Gt) oGt := ⟨_, op_gt, go_ints0 _ (fun i j => .bl (decide (j < i))) (fun _ _ _ => rep_bl) rfl fun m a b k h => by
  cases a <;> cases b <;> first
    | exact ⟨_, _, rfl, rfl, h⟩
    | exact False.elim h⟩
theorem xo_ge : XO X (compareOp .GtE) oGe := ⟨_, op_ge, go_ints0 _ (fun i j => .bl (decide (j ≤ i))) (fun _ _ _ => rep_bl) rfl fun m a b k h => by
  cases a <;> cases b <;> first
    | exact ⟨_, _, rfl, rfl, h⟩
    | exact False.elim h⟩
/-- is, is not: None or a truth on the right -/
def isNonD : D → Option Bool
  | .non => some true
  | .raw _ => none
  | _ => some false
def oIs : O2 := fun m a b k => match b with
  | .non => ∃ q, isNonD a = some q ∧ k (.bl q) m
  | .bl j => ∃ i, a = .bl i ∧ k (.bl (decide (i = j))) m
  | _ => False
def oIsNot : O2 := fun m a b k => match b with
  | .non => ∃ q, isNonD a = some q ∧ k (.bl (!q)) m
  | .bl j => ∃ i, a = .bl i ∧ k (.bl (!decide (i = j))) m
  | _ => False
theorem isNon_ok {K : PySem.W.Frag} {F H : Hp} {d : D} {v : V} {q : Bool} (r : View K F H d v) (h : isNonD d = some q) : decide (v = .non) = q := by
  cases d with
  | non => cases h; cases r; rfl
  | bl _ => cases h; cases r; rfl
  | int _ => cases h; cases r; rfl
  | str _ => cases h; cases r; rfl
  | raw _ => cases h
  | lst _ => cases h; obtain ⟨a, vs, rfl, _⟩ := r; rfl
  | frl _ => cases h; obtain ⟨a, vs, rfl, _⟩ := r; rfl
  | tup _ => cases h; obtain ⟨a, vs, rfl, _⟩ := r; rfl
  | dct _ _ => cases h; obtain ⟨a, vs, rfl, _⟩ := r; rfl
  | obj _ _ _ => cases h; obtain ⟨a, dx, vs, rfl, _⟩ := r; rfl
theorem xo_is : XO X (compareOp .Is) oIs := by
  refine ⟨_, OpR.or op_isN op_isBl, ⟨fun {B F m H x y a b k Q} hm va vb h hq => ?_⟩⟩
  cases b with
  | non =>
    obtain ⟨q, h1, h2⟩ := h
    exact .inl ⟨vb, qbl hm hq (by rw [isNon_ok va h1]; exact h2)⟩
  | bl j =>
    obtain ⟨i, rfl, h2⟩ := h
    exact .inr ⟨i, j, va, vb, qbl hm hq h2⟩
  | _ => exact False.elim h
theorem xo_isnot : XO X (compareOp .IsNot) oIsNot := by
  refine ⟨_, OpR.or op_notN op_notBl, ⟨fun {B F m H x y a b k Q} hm va vb h hq => ?_⟩⟩
  cases b with
  | non =>
    obtain ⟨q, h1, h2⟩ := h
    exact .inl ⟨vb, qbl hm hq (by rw [isNon_ok va h1]; exact h2)⟩
  | bl j =>
    obtain ⟨i, rfl, h2⟩ := h
    exact .inr ⟨i, j, va, vb, qbl hm hq h2⟩
  | _ => exact False.elim h
end
end Ab
end
section
/-! Ab4: displays, places, slices, calls of what the language has, methods of lists. -/
namespace Ab
open PySem PySem.Spec L2
section
variable {X : Cx} {W : WX} {e a b c : Expr} {es : List Expr} {pos : Pos}
/-! ### displays -/
def wTup (w : WL) : WE := fun v m k kx => w v m (fun ds m1 => ds.length ≤ sizeLine ∧ k (.tup ds) m1) kx
def wLst (z : Bool) (w : WL) : WE := fun v m k kx => w v m (fun ds m1 => ds.length ≤ sizeLine ∧ newK z (.lst ds) m1 k) kx
theorem xe_tup {x1} {w : WL} (h : Xl X W es w) : Xe X W (.Tuple es x1 pos) (wTup w) := by
  obtain ⟨t, p, g⟩ := h.ex
  refine ⟨_, pe_tup p, ⟨fun {B F v m σ H k kx Q} hm re hw hq hx => ?_⟩⟩
  refine g.run hm re hw (fun ds m1 F1 H1 vs hw1 e1 hm1 r1 => ⟨by rw [r1.len]; exact hw1.1, fun p hp => newT_ok hm1 hp r1 hw1.2 (hq.mono e1)⟩) hx
theorem xe_lst {z : Bool} {w : WL} (h : Xl X W es w) : Xe X W (.List es pos) (wLst z w) := by
  obtain ⟨t, p, g⟩ := h.ex
  refine ⟨_, pe_lst p, ⟨fun {B F v m σ H k kx Q} hm re hw hq hx => ?_⟩⟩
  refine g.run hm re hw (fun ds m1 F1 H1 vs hw1 e1 hm1 r1 => ⟨by rw [r1.len]; exact hw1.1, fun p hp => newK_ok hm1 hp r1 hw1.2 (hq.mono e1)⟩) hx
/-! ### minus -/
def wNeg (a : WE) : WE := fun v m k kx => a v m (fun d m1 => match d with
  | .int i => k (.int (-i)) m1
  | _ => False) kx
theorem xe_neg {w : WE} (h : Xe X W a w) : Xe X W (.UnaryOp .USub a pos) (wNeg w) := by
  obtain ⟨t, p, g⟩ := h.ex
  refine ⟨_, pe_un un_neg p, ⟨fun {B F v m σ H k kx Q} hm re hw hq hx => ?_⟩⟩
  refine g.run hm re hw (fun d m1 F1 H1 x hw1 e1 hm1 r1 => ?_) hx
  cases d with
  | int i => unfold Rep at r1; exact ⟨i, r1, qint hm1 (hq.mono e1) hw1⟩
  | _ => exact hw1.elim
/-! ### places -/
theorem atI_rep {K : PySem.W.Frag} {F : Hp} {xs : List D} {vs : List V} {i : Int} {d : D} (r : RepL K F xs vs) (h : atI xs i = some d) : ∃ v, atI vs i = some v ∧ Rep K F d v := by
  unfold atI at *
  rw [r.len]
  cases e : ixN xs.length i with
  | none => rw [e] at h; cases h
  | some j =>
    rw [e] at h
    obtain ⟨v, h1, h2⟩ := r.get (show xs[j]? = some d from h)
    exact ⟨v, h1, h2⟩
/-- d[k] of a dict -/
def rIxDk : R2 := fun x y H Q => ∃ a v, x = .ref a ∧ DGet H a y (some v) ∧ Q v H
theorem ix_dk (hu : X.A.units + 1 < cLine) : IxR X rIxDk := by
  intro value slice pins s σ H x y v u Q I rx ry h hs
  obtain ⟨a, z, rfl, g, q⟩ := h
  cases rx
  have hT := dict_typeIs I g
  unfold PyProof.Rows.subscriptTail
  refine wpAny_bind ?_
  rw [PySem.getitemInPython_of_ne hT.not_modules]
  refine wpAny_bind (wpAny_specialOf hT PySem.F.slot_dict_getitem.lookup ?_)
  have fin : wpAny (model X.prog X.w) X.A (subscripted slice false (.ref a) u >>= fun r => letTemporaryGo value (.ref a) r >>= fun _ => pure r) (EP X pins σ Q) X.xe s := by
    rw [hs]
    refine wpAny_bind (wpAny_operating (wpAny_mono (d_getItem (Q := fun w' s' => EP X pins σ Q w' s') hu I g ry fun w' s3 I3 rw' => ⟨z, H, I3, rw', q⟩) (fun r s₃ h₃ => wpAny_bind (wpAny_letTemporaryGo (wpAny_pure h₃))) fun _ _ x => x))
  first
    | exact wpAny_pure fin
    | exact wpAny_bind (wpAny_pure fin)
    | exact fin
def valD : List Key → List D → Key → Option D
  | k' :: ks, x :: xs, k => if k' = k then some x else valD ks xs k
  | _, _, _ => none
theorem valD_ok {K : PySem.W.Frag} {F : Hp} {k : Key} {d : D} : ∀ {kvs : List (Key × V)} {ks : List Key} {xs : List D}, kvs.map (·.1) = ks → RepL K F xs (kvs.map (·.2)) → valD ks xs k = some d → ∃ v, valV kvs k = some v ∧ Rep K F d v
  | [], _, _, e, r, h => by subst e; unfold valD at h; cases h
  | p :: r, _, [], e, q, h => by subst e; unfold valD at h; cases h
  | p :: r, _, x :: xs, e, q, h => by
    subst e
    obtain ⟨v, t, e1, h1, h2⟩ := repL_cons.mp q
    rw [List.map_cons] at e1 h
    injection e1 with e1 e2
    subst e2
    unfold valD at h
    by_cases c : p.1 = k
    · rw [if_pos c] at h
      cases h
      exact ⟨p.2, valV_pos c, by rw [e1]; exact h1⟩
    · rw [if_neg c] at h
      obtain ⟨u, k1, k2⟩ := valD_ok rfl h2 h
      exact ⟨u, by rw [valV_neg c]; exact k1, k2⟩
def oIdx : O2 := fun m a b k => match a, b with
  | .dct ks xs, .str s => ∃ d, valD ks xs (.inr s) = some d ∧ k d m
  | .lst xs, .int i => ∃ d, atI xs i = some d ∧ k d m
  | .frl xs, .int i => ∃ d, atI xs i = some d ∧ k d m
  | .tup xs, .int i => ∃ d, atI xs i = some d ∧ k d m
  | .str z, .int i => z.length ≤ sizeLine ∧ ∃ c, atI z.cps.toList i = some c ∧ k (.str ⟨#[c]⟩) m
  | _, _ => False
theorem go_idx {K : PySem.W.Frag} : GO K (fun x y H Q => rIx K x y H Q ∨ rIxDk x y H Q) oIdx := by
  refine ⟨fun {B F m H x y a b k Q} hm va vb h hq => ?_⟩
  cases a <;> cases b <;> first
    | exact False.elim h
    | skip
  · obtain ⟨hz, c, h1, h2⟩ := h
    exact .inl (.inr (.inr ⟨_, _, c, va, vb, hz, h1, qstr hm hq h2⟩))
  · obtain ⟨a, vs, rfl, ha, ra⟩ := va
    obtain ⟨d, h1, h2⟩ := h
    obtain ⟨v, q1, q2⟩ := atI_rep ra h1
    exact .inl (.inl ⟨a, vs, _, v, rfl, vb, .inl (.inl ha), q1, hq _ m F H v h2 (Same.refl _) hm q2⟩)
  · obtain ⟨a, vs, rfl, ha, ra, _⟩ := va
    obtain ⟨d, h1, h2⟩ := h
    obtain ⟨v, q1, q2⟩ := atI_rep ra h1
    exact .inl (.inr (.inl ⟨a, vs, _, v, rfl, vb, ha, q1, hq _ m F H v h2 (Same.refl _) hm q2⟩))
  · obtain ⟨a, vs, rfl, ha, ra⟩ := va
    obtain ⟨d, h1, h2⟩ := h
    obtain ⟨v, q1, q2⟩ := atI_rep ra h1
    exact .inl (.inl ⟨a, vs, _, v, rfl, vb, ha, q1, hq _ m F H v h2 (Same.refl _) hm q2⟩)
  · obtain ⟨a, kvs, rfl, ha, hk, ra⟩ := va
    obtain ⟨d, h1, h2⟩ := h
    obtain ⟨v, q1, q2⟩ := valD_ok hk ra h1
    have vb' : y = .str _ := vb
    exact .inr ⟨a, v, rfl, .inl ⟨kvs, .inr _, ha, vb', q1.symm⟩, hq _ m F H v h2 (Same.refl _) hm q2⟩
def isSlice : Expr → Bool
  | .Slice .. => true
  | _ => false
theorem plain_ix (h : isSlice b = false) : PlainIx b := fun o i => by
  cases b <;> first
    | rfl
    | cases h
theorem xe_idx {wa wb : WE} (hu : X.A.units + 1 < cLine) (ha : Xe X W a wa) (hb : Xe X W b wb) (hs : isSlice b = false) : Xe X W (.Subscript a b pos) (wOp oIdx wa wb) := by
  obtain ⟨ta, p1, g1⟩ := ha.ex
  obtain ⟨tb, p2, g2⟩ := hb.ex
  exact ⟨_, pe_ix (ix_seq.or (ix_dk hu)) p1 p2 (plain_ix hs), ge_op go_idx g1 g2⟩
/-! ### slices -/
abbrev WO := Env → Mem → (Option Int → Mem → Prop) → KX → Prop
def wNoPart : WO := fun _ m k _ => k none m
def wPart (a : WE) : WO := fun v m k kx => a v m (fun d m1 => match d with
  | .int i => k (some i) m1
  | _ => False) kx
structure GOp (K : PySem.W.Frag) (W : WX) (t : TO) (w : WO) : Prop where
  run : ∀ {B : Bs} {F : Hp} {v : Env} {m : Mem} {σ : L2.St} {H : Hp} {k : Option Int → Mem → Prop} {kx : KX} {Q : Option Int → Hp → Prop}, HM K B F m H → REnv K F v σ → w v m k kx →
    (∀ o m' F' H', k o m' → Same F F' → HM K B F' m' H' → Q o H') → QX K W B F σ kx → t σ H Q
structure Xo (X : Cx) (W : WX) (e : Option Expr) (w : WO) : Prop where
  ex : ∃ t, PO X e t ∧ GOp X.K W t w
theorem xo_none : Xo X W none wNoPart := ⟨_, po_none, ⟨fun {B F v m σ H k kx Q} hm re hw hq hx => hq none m F H hw (Same.refl _) hm⟩⟩
theorem xo_some {w : WE} (h : Xe X W e w) : Xo X W (some e) (wPart w) := by
  obtain ⟨t, p, g⟩ := h.ex
  refine ⟨_, po_some p, ⟨fun {B F v m σ H k kx Q} hm re hw hq hx => ?_⟩⟩
  refine g.run hm re hw (fun d m1 F1 H1 x hw1 e1 hm1 r1 => ?_) hx
  cases d with
  | int i => unfold Rep at r1; exact ⟨i, r1, hq _ m1 F1 H1 hw1 e1 hm1⟩
  | _ => exact hw1.elim
def cutD (xs : List D) (lo hi : Option Int) : List D := (xs.drop (HT.sIx xs.length 0 lo)).take (HT.sIx xs.length xs.length hi - HT.sIx xs.length 0 lo)
theorem RepL.cut {K : PySem.W.Frag} {F : Hp} {xs : List D} {vs : List V} (r : RepL K F xs vs) (lo hi : Option Int) : RepL K F (cutD xs lo hi) (cutV vs lo hi) := by
  unfold cutD cutV
  rw [r.len]
  exact (r.drop _).take _
def oSl (z : Bool) (m : Mem) (a : D) (lo hi : Option Int) (k : KE) : Prop := match a with
  | .lst xs => newK z (.lst (cutD xs lo hi)) m k
  | .frl xs => newK z (.lst (cutD xs lo hi)) m k
  | .tup xs => ¬ (HT.sIx xs.length 0 lo = 0 ∧ HT.sIx xs.length xs.length hi = xs.length) ∧ k (.tup (cutD xs lo hi)) m
  | .str x => x.length ≤ sizeLine ∧ k (.str (cutS x lo hi)) m
  | _ => False
def wSl (z : Bool) (a : WE) (l h : WO) : WE := fun v m k kx => a v m (fun d m1 => l v m1 (fun lo m2 => h v m2 (fun hi m3 => oSl z m3 (res m3 d) lo hi k) kx) kx) kx
theorem xe_sl {z : Bool} {wa : WE} {wl wh : WO} {lo hi : Option Expr} {p2 : Pos} (ha : Xe X W a wa) (hl : Xo X W lo wl) (hh : Xo X W hi wh) : Xe X W (.Subscript a (.Slice lo hi none p2) pos) (wSl z wa wl wh) := by
  obtain ⟨ta, p1, g1⟩ := ha.ex
  obtain ⟨tl, q1, gl⟩ := hl.ex
  obtain ⟨th, q2, gh⟩ := hh.ex
  refine ⟨_, pe_slice (SlR.or sl_list (SlR.or sl_tup sl_str)) p1 q1 q2, ⟨fun {B F v m σ H k kx Q} hm re hw hq hx => ?_⟩⟩
  refine g1.run hm re hw (fun d m1 F1 H1 x hw1 e1 hm1 r1 => ?_) hx
  refine gl.run hm1 (re.mono e1) hw1 (fun lo m2 F2 H2 hw2 e2 hm2 => ?_) (hx.mono e1)
  refine gh.run hm2 (re.mono (e1.trans e2)) hw2 (fun hi m3 F3 H3 hw3 e3 hm3 => ?_) (hx.mono (e1.trans e2))
  have r3 := view_res hm3 (rep_mono (e2.trans e3) d r1)
  have hq3 := hq.mono ((e1.trans e2).trans e3)
  cases q : res m3 d <;> rw [q] at r3 hw3 <;> first
    | exact False.elim hw3
    | skip
  · exact .inr (.inr ⟨_, r3, hw3.1, qstr hm3 hq3 hw3.2⟩)
  · obtain ⟨a, vs, rfl, ha, ra⟩ := r3
    exact .inl ⟨a, vs, rfl, .inl (.inl ha), fun p hp => newK_ok hm3 hp (ra.cut lo hi) hw3 hq3⟩
  · obtain ⟨a, vs, rfl, ha, ra, _⟩ := r3
    exact .inr (.inl ⟨a, vs, rfl, ha, by rw [ra.len]; exact hw3.1, fun p hp => newT_ok hm3 hp (ra.cut lo hi) hw3.2 hq3⟩)
  · obtain ⟨a, vs, rfl, ha, ra⟩ := r3
    exact .inl ⟨a, vs, rfl, ha, fun p hp => newK_ok hm3 hp (ra.cut lo hi) hw3 hq3⟩
/-- xs[::-1] -/
def wRev (z : Bool) (a : WE) : WE := fun v m k kx => a v m (fun d m1 => match res m1 d with
  | .lst xs => newK z (.lst xs.reverse) m1 k
  | .frl xs => newK z (.lst xs.reverse) m1 k
  | _ => False) kx
theorem xe_rev {z : Bool} {w : WE} {j : Nat} {p1 p2 p3 : Pos} (h : Xe X W a w) : Xe X W (.Subscript a (.Slice none none (some (.UnaryOp .USub (.Constant (.int 1) j p1) p2)) p3) pos) (wRev z w) := by
  obtain ⟨t, p, g⟩ := h.ex
  refine ⟨_, pe_revL p, ⟨fun {B F v m σ H k kx Q} hm re hw hq hx => ?_⟩⟩
  refine g.run hm re hw (fun d m1 F1 H1 x hw1 e1 hm1 r1 => ?_) hx
  have r3 := view_res hm1 r1
  cases q : res m1 d <;> rw [q] at r3 hw1 <;> first
    | exact False.elim hw1
    | skip
  · obtain ⟨a, vs, rfl, ha, ra⟩ := r3
    exact ⟨a, vs, rfl, .inl (.inl ha), fun p hp => newK_ok hm1 hp ra.reverse hw1 (hq.mono e1)⟩
  · obtain ⟨a, vs, rfl, ha, ra⟩ := r3
    exact ⟨a, vs, rfl, ha, fun p hp => newK_ok hm1 hp ra.reverse hw1 (hq.mono e1)⟩
/-! ### calls of what the language has -/
abbrev OC := Mem → List D → KE → Prop
structure GC (K : PySem.W.Frag) (r : List V → Hp → VK → Prop) (o : OC) : Prop where
  run : ∀ {B : Bs} {F : Hp} {m : Mem} {H : Hp} {vs : List V} {ds : List D} {k : KE} {Q : VK}, HM K B F m H → ViewL K F H ds vs → o m ds k → QE K B F k Q → r vs H Q
structure XC (X : Cx) (f : Value) (o : OC) : Prop where
  ex : ∃ r, CallR X f r ∧ GC X.K r o
def wCB (o : OC) (w : WL) : WE := fun v m k kx => w v m (fun ds m1 => o m1 (ds.map (res m1)) k) kx
theorem ge_cb {K : PySem.W.Frag} {r : List V → Hp → VK → Prop} {o : OC} {t : TA} {w : WL} (g : GC K r o) (h : GL K W t w) : GE K W (tCB r t) (wCB o w) :=
  ⟨fun {B F v m σ H k kx Q} hm re hw hq hx => h.run hm re hw (fun ds m1 F1 H1 vs hw1 e1 hm1 r1 => g.run hm1 (viewL_res hm1 r1) hw1 (hq.mono e1)) hx⟩
theorem any_star : ∀ {es : List Expr} {pos : Pos} {env : PySem.Env}, es.any starred = false → (backTo pos (starEach es env)).any (·.1) = false
  | [], _, _, _ => rfl
  | e :: es, pos, env, h => by
    rw [List.any_cons, Bool.or_eq_false_iff] at h
    rw [star_eq h.1]
    show (false || (backTo pos (starEach es env)).any (·.1)) = false
    rw [any_star h.2]
    rfl
theorem xe_callB {x : Str} {id : String} {p : Pos} {o : OC} {w : WL} (h : XC X (.builtin id) o) (hg : Gl X x) (hm : X.mg x = none) (hv : bootBuiltins x = some (.builtin id)) (ha : Xl X W (e :: es) w)
    (hn : x ≠ "__name__") (hdb : (x == ("__debug__" : Str)) = false) (hs : (e :: es).any starred = false) : Xe X W (.Call (.Name x p) (e :: es) [] pos) (wCB o w) := by
  obtain ⟨r, pc, g⟩ := h.ex
  obtain ⟨t, p1, g1⟩ := ha.ex
  rw [List.any_cons, Bool.or_eq_false_iff] at hs
  exact ⟨_, pe_callB pc hg hm hv p1 hn hdb (star_eq hs.1 _) (any_star hs.2), ge_cb g g1⟩
theorem xe_callTy {x : Str} {T : String} {p : Pos} {o : OC} {w : WL} (h : XC X (.type T) o) (hg : Gl X x) (hm : X.mg x = none) (hv : bootBuiltins x = some (.type T)) (ha : Xl X W (e :: es) w)
    (hn : x ≠ "__name__") (hdb : (x == ("__debug__" : Str)) = false) (hs : (e :: es).any starred = false) : Xe X W (.Call (.Name x p) (e :: es) [] pos) (wCB o w) := by
  obtain ⟨r, pc, g⟩ := h.ex
  obtain ⟨t, p1, g1⟩ := ha.ex
  rw [List.any_cons, Bool.or_eq_false_iff] at hs
  exact ⟨_, pe_callTy pc hg hm hv p1 hn hdb (star_eq hs.1 _) (any_star hs.2), ge_cb g g1⟩
section
variable {K : PySem.W.Frag} {F H : Hp}
theorem vl1 {d : D} {vs : List V} (h : ViewL K F H [d] vs) : ∃ v, vs = [v] ∧ View K F H d v := by
  obtain ⟨v, r, rfl, h1, h2⟩ := h
  have h2' : r = [] := h2
  rw [h2']
  exact ⟨v, rfl, h1⟩
theorem vl2 {d e : D} {vs : List V} (h : ViewL K F H [d, e] vs) : ∃ v u, vs = [v, u] ∧ View K F H d v ∧ View K F H e u := by
  obtain ⟨v, r, rfl, h1, h2⟩ := h
  obtain ⟨u, rfl, h3⟩ := vl1 h2
  exact ⟨v, u, rfl, h1, h3⟩
end
def cInt : OC := fun m ds k => match ds with
  | [.int i] => k (.int i) m
  | [.bl b] => k (.int (if b then 1 else 0)) m
  | _ => False
theorem xc_int : XC X (.type "int") cInt := by
  refine ⟨_, call_int1, ⟨fun {B F m H vs ds k Q} hm vd h hq => ?_⟩⟩
  unfold cInt at h
  split at h
  · obtain ⟨v, rfl, h1⟩ := vl1 vd
    exact .inl ⟨_, by rw [show v = _ from h1], qint hm hq h⟩
  · obtain ⟨v, rfl, h1⟩ := vl1 vd
    exact .inr ⟨_, by rw [show v = _ from h1], qint hm hq h⟩
  · exact h.elim
def cAbs : OC := fun m ds k => match ds with
  | [.int i] => k (.int (if i < 0 then -i else i)) m
  | _ => False
theorem xc_abs : XC X (.builtin "abs") cAbs := by
  refine ⟨_, call_abs, ⟨fun {B F m H vs ds k Q} hm vd h hq => ?_⟩⟩
  unfold cAbs at h
  split at h
  · obtain ⟨v, rfl, h1⟩ := vl1 vd
    exact ⟨_, by rw [show v = _ from h1], qint hm hq h⟩
  · exact h.elim
def cLen : OC := fun m ds k => match ds with
  | [.lst xs] => k (.int xs.length) m
  | [.frl xs] => k (.int xs.length) m
  | [.tup xs] => k (.int xs.length) m
  | [.str x] => x.length ≤ sizeLine ∧ k (.int x.length) m
  | _ => False
theorem xc_len : XC X (.builtin "len") cLen := by
  refine ⟨_, call_len, ⟨fun {B F m H vs ds k Q} hm vd h hq => ?_⟩⟩
  unfold cLen at h
  split at h
  · obtain ⟨v, rfl, a, vs, rfl, ha, ra⟩ := vl1 vd
    exact ⟨_, _, rfl, .inl ⟨vs, .inl (.inl ha), rfl⟩, by rw [ra.len]; exact qint hm hq h⟩
  · obtain ⟨v, rfl, a, vs, rfl, ha, ra⟩ := vl1 vd
    exact ⟨_, _, rfl, .inl ⟨vs, ha, rfl⟩, by rw [ra.len]; exact qint hm hq h⟩
  · obtain ⟨v, rfl, a, vs, rfl, ha, ra, _⟩ := vl1 vd
    exact ⟨_, _, rfl, .inr ⟨vs, ha, rfl⟩, by rw [ra.len]; exact qint hm hq h⟩
  · obtain ⟨v, rfl, h1⟩ := vl1 vd
    cases h1
    exact ⟨_, _, rfl, ⟨h.1, rfl⟩, qint hm hq h.2⟩
  · exact h.elim
def cMax : OC := fun m ds k => match ds with
  | [.int i, .int j] => k (.int (if j > i then j else i)) m
  | _ => False
def cMin : OC := fun m ds k => match ds with
  | [.int i, .int j] => k (.int (if j < i then j else i)) m
  | _ => False
theorem xc_max (hc : X.calm = true) : XC X (.builtin "max") cMax := by
  refine ⟨_, call_max2 hc, ⟨fun {B F m H vs ds k Q} hm vd h hq => ?_⟩⟩
  unfold cMax at h
  split at h
  · obtain ⟨v, u, rfl, h1, h2⟩ := vl2 vd
    cases h1; cases h2
    exact ⟨_, _, rfl, qint hm hq h⟩
  · exact h.elim
theorem xc_min (hc : X.calm = true) : XC X (.builtin "min") cMin := by
  refine ⟨_, call_min2 hc, ⟨fun {B F m H vs ds k Q} hm vd h hq => ?_⟩⟩
  unfold cMin at h
  split at h
  · obtain ⟨v, u, rfl, h1, h2⟩ := vl2 vd
    cases h1; cases h2
    exact ⟨_, _, rfl, qint hm hq h⟩
  · exact h.elim
theorem ints_of {K : PySem.W.Frag} {F : Hp} {xs : List D} {vs : List V} {ns : List Int} (r : RepL K F xs vs) (e : xs = ns.map D.int) : vs = ns.map V.int := by
  subst e
  exact repL_ints.mp r
def cSum : OC := fun m ds k => match ds with
  | [.lst xs] => ∃ ns : List Int, xs = ns.map D.int ∧ k (.int ns.sum) m
  | [.frl xs] => ∃ ns : List Int, xs = ns.map D.int ∧ k (.int ns.sum) m
  | _ => False
theorem xc_sum (hc : X.calm = true) : XC X (.builtin "sum") cSum := by
  refine ⟨_, cr_sum hc, ⟨fun {B F m H vs ds k Q} hm vd h hq => ?_⟩⟩
  unfold cSum at h
  split at h
  · obtain ⟨v, rfl, a, vs, rfl, ha, ra⟩ := vl1 vd
    obtain ⟨ns, h1, h2⟩ := h
    refine ⟨a, ns, rfl, ?_, qint hm hq h2⟩
    rw [← ints_of ra h1]
    exact .inl (.inl ha)
  · obtain ⟨v, rfl, a, vs, rfl, ha, ra⟩ := vl1 vd
    obtain ⟨ns, h1, h2⟩ := h
    refine ⟨a, ns, rfl, ?_, qint hm hq h2⟩
    rw [← ints_of ra h1]
    exact ha
  · exact h.elim
def cDivmod : OC := fun m ds k => match ds with
  | [.int i, .int j] => (CDiv i j ∨ CDivP i j) ∧ k (.tup [.int (i / j), .int (i % j)]) m
  | _ => False
theorem xc_divmod : XC X (.builtin "divmod") cDivmod := by
  refine ⟨_, CallR.or call_divmod call_divmodW, ⟨fun {B F m H vs ds k Q} hm vd h hq => ?_⟩⟩
  unfold cDivmod at h
  split at h
  · obtain ⟨v, u, rfl, h1, h2⟩ := vl2 vd
    cases h1; cases h2
    obtain ⟨h3, h4⟩ := h
    rcases h3 with h3 | h3
    · exact .inl ⟨_, _, rfl, h3, fun p hp => newT_ok hm hp (RepL.cons rep_int (RepL.cons rep_int RepL.nil)) h4 hq⟩
    · exact .inr ⟨_, _, rfl, h3, fun p hp => newT_ok hm hp (RepL.cons rep_int (RepL.cons rep_int RepL.nil)) h4 hq⟩
  · exact h.elim
def cStr : OC := fun m ds k => match ds with
  | [.int i] => i.natAbs.log2 < 1920 ∧ k (.str (toString i)) m
  | [.str x] => k (.str x) m
  | _ => False
theorem xc_str : XC X (.type "str") cStr := by
  refine ⟨_, CallR.or call_str_int SkE.call_str_str, ⟨fun {B F m H vs ds k Q} hm vd h hq => ?_⟩⟩
  unfold cStr at h
  split at h
  · obtain ⟨v, rfl, h1⟩ := vl1 vd
    cases h1
    exact .inl ⟨_, rfl, h.1, qstr hm hq h.2⟩
  · obtain ⟨v, rfl, h1⟩ := vl1 vd
    cases h1
    exact .inr ⟨_, rfl, qstr hm hq h⟩
  · exact h.elim
def cList (z : Bool) : OC := fun m ds k => match ds with
  | [.lst xs] => newK z (.lst xs) m k
  | [.frl xs] => newK z (.lst xs) m k
  | [.tup xs] => newK z (.lst xs) m k
  | _ => False
theorem xc_list {z : Bool} : XC X (.type "list") (cList z) := by
  refine ⟨_, call_list_of, ⟨fun {B F m H vs ds k Q} hm vd h hq => ?_⟩⟩
  unfold cList at h
  split at h
  · obtain ⟨v, rfl, a, vs, rfl, ha, ra⟩ := vl1 vd
    exact ⟨a, vs, rfl, .inl (.inl (.inl ha)), fun p hp => newK_ok hm hp ra h hq⟩
  · obtain ⟨v, rfl, a, vs, rfl, ha, ra⟩ := vl1 vd
    exact ⟨a, vs, rfl, .inl ha, fun p hp => newK_ok hm hp ra h hq⟩
  · obtain ⟨v, rfl, a, vs, rfl, ha, ra, _⟩ := vl1 vd
    exact ⟨a, vs, rfl, .inr ha, fun p hp => newK_ok hm hp ra h hq⟩
  · exact h.elim
def cTuple : OC := fun m ds k => match ds with
  | [.lst xs] => k (.tup xs) m
  | [.frl xs] => k (.tup xs) m
  | _ => False
theorem xc_tuple : XC X (.type "tuple") cTuple := by
  refine ⟨_, call_tuple_of, ⟨fun {B F m H vs ds k Q} hm vd h hq => ?_⟩⟩
  unfold cTuple at h
  split at h
  · obtain ⟨v, rfl, a, vs, rfl, ha, ra⟩ := vl1 vd
    exact ⟨a, vs, rfl, .inl ⟨.inl (.inl ha), fun p hp => newT_ok hm hp ra h hq⟩⟩
  · obtain ⟨v, rfl, a, vs, rfl, ha, ra⟩ := vl1 vd
    exact ⟨a, vs, rfl, .inl ⟨ha, fun p hp => newT_ok hm hp ra h hq⟩⟩
  · exact h.elim
theorem bls_of {K : PySem.W.Frag} {F : Hp} : ∀ {bs : List Bool} {vs : List V}, RepL K F (bs.map D.bl) vs → vs = bs.map V.bl
  | [], _, r => repL_nil.mp r
  | b :: bs, _, r => by
    rw [List.map_cons, repL_cons] at r
    obtain ⟨v, t, rfl, r1, r2⟩ := r
    unfold Rep at r1
    rw [r1, bls_of r2]
    rfl
def cAny : OC := fun m ds k => match ds with
  | [.lst xs] => ∃ bs : List Bool, xs = bs.map D.bl ∧ k (.bl (bs.any id)) m
  | _ => False
def cAll : OC := fun m ds k => match ds with
  | [.lst xs] => ∃ bs : List Bool, xs = bs.map D.bl ∧ k (.bl (bs.all id)) m
  | _ => False
theorem xc_any (hc : X.calm = true) : XC X (.builtin "any") cAny := by
  refine ⟨_, cr_any hc, ⟨fun {B F m H vs ds k Q} hm vd h hq => ?_⟩⟩
  unfold cAny at h
  split at h
  · obtain ⟨v, rfl, a, vs, rfl, ha, ra⟩ := vl1 vd
    obtain ⟨bs, h1, h2⟩ := h
    subst h1
    refine ⟨a, bs, rfl, ?_, qbl hm hq h2⟩
    rw [← bls_of ra]
    exact .inl (.inl ha)
  · exact h.elim
theorem xc_all (hc : X.calm = true) : XC X (.builtin "all") cAll := by
  refine ⟨_, cr_all hc, ⟨fun {B F m H vs ds k Q} hm vd h hq => ?_⟩⟩
  unfold cAll at h
  split at h
  · obtain ⟨v, rfl, a, vs, rfl, ha, ra⟩ := vl1 vd
    obtain ⟨bs, h1, h2⟩ := h
    subst h1
    refine ⟨a, bs, rfl, ?_, qbl hm hq h2⟩
    rw [← bls_of ra]
    exact .inl (.inl ha)
  · exact h.elim
/-- isinstance of the types of the language -/
def tyD : D → Option String
  | .non => some "NoneType"
  | .bl _ => some "bool"
  | .int _ => some "int"
  | .str _ => some "str"
  | .lst _ => some "list"
  | .frl _ => some "list"
  | .tup _ => some "tuple"
  | .dct _ _ => some "dict"
  | _ => none
def isTy (a b : String) : Bool := a == b || (a == "bool" && b == "int")
def tyNames : List String := ["int", "bool", "str", "list", "tuple", "dict"]
theorem kit_ok : ∀ a ∈ "NoneType" :: tyNames, ∀ b ∈ tyNames, kitB a b = some (isTy a b) := by decide +kernel
def isiK (K : PySem.W.Frag) (d : D) (c : V) (k : Bool → Prop) : Prop := match c with
  | .ty b => ∃ a, tyD d = some a ∧ b ∈ tyNames ∧ k (isTy a b)
  | .ref C => (∃ a q, tyD d = some a ∧ PySem.W.kitOne K (.type a) (.ref C) = some q ∧ k q) ∨
    ∃ E ns xs q, d = .obj E ns xs ∧ Cls K (He.ga K E) ∧ PySem.W.findIn K (.ref (He.ga K E)) "__class__" = some (some (.builtin "object.__class__")) ∧ PySem.W.specialIn K (.builtin "object.__class__") "__get__" = some (some (.builtin "getset_descriptor.__get__")) ∧
      PySem.W.takesIn K (.builtin "object.__class__") = some true ∧ PySem.W.mroIn K (He.ga K E) (.type "object") = some true ∧ PySem.W.kitOne K (.ref (He.ga K E)) (.ref C) = some q ∧ k q
  | _ => False
def cIsi (K : PySem.W.Frag) : OC := fun m ds k => match ds with
  | [d, .raw c] => isiK K d c fun q => k (.bl q) m
  | _ => False
theorem tyD_mem {d : D} {a : String} (h : tyD d = some a) : a ∈ "NoneType" :: tyNames := by
  cases d <;> cases h <;> decide
theorem tyD_ok {K : PySem.W.Frag} {F H : Hp} {d : D} {v : V} {a : String} (r : View K F H d v) (h : tyD d = some a) : TyX K H v (.type a) := by
  cases d <;> cases h
  · cases r; exact .base .non
  · cases r; exact .base (.bl _)
  · cases r; exact .base (.int _)
  · cases r; exact .base (.str _)
  · obtain ⟨a, vs, rfl, ha, ra⟩ := r; exact .base (.lst ha)
  · obtain ⟨a, vs, rfl, ha, ra⟩ := r
    rcases ha with (ha | ha) | ha
    · exact .base (.tup ha)
    · obtain ⟨o, ha⟩ := ha
      exact .fTuple ha
    · obtain ⟨o, its, n, h1, h2, _⟩ := ha
      exact .kTuple h1 h2
  · obtain ⟨a, vs, rfl, ha, ra⟩ := r
    rcases ha with (ha | ha) | ha
    · exact .base (.lst ha)
    · obtain ⟨o, ha⟩ := ha
      exact .base (.frz ha)
    · obtain ⟨o, its, n, h1, h2, _⟩ := ha
      exact .kList h1 h2
  · obtain ⟨a, vs, rfl, ha, _⟩ := r
    rcases ha with ha | ⟨o, ha⟩
    · exact .base (.dK ha)
    · exact .fDict ha
theorem xc_isi : XC X (.builtin "isinstance") (cIsi X.K) := by
  refine ⟨_, call_isi, ⟨fun {B F m H vs ds k Q} hm vd h hq => ?_⟩⟩
  unfold cIsi at h
  split at h
  · obtain ⟨v, u, rfl, h1, h2⟩ := vl2 vd
    cases h2
    unfold isiK at h
    split at h
    · obtain ⟨a, q1, q2, q3⟩ := h
      exact ⟨v, _, _, _, _, rfl, .ty _, tyD_ok h1 q1, kit_ty (kit_ok a (tyD_mem q1) _ q2), qbl hm hq q3⟩
    · rcases h with ⟨a, q, q1, q2, q3⟩ | ⟨E, ns, xs, q, rfl, c1, c2, c3, c4, c5, c6, c7⟩
      · exact ⟨v, _, _, _, q, rfl, .own _, tyD_ok h1 q1, q2, qbl hm hq q3⟩
      · obtain ⟨a, dx, fs, rfl, ha, _⟩ := h1
        exact ⟨_, _, _, _, q, rfl, .own _, .base (.ins ha c1 c2 c3 c4 c5), c6, qbl hm hq c7⟩
    · exact h.elim
  · exact h.elim
/-- repr -/
def toE : D → Option PyData
  | .non => some .none
  | .bl b => some (.bool b)
  | .int i => some (.int i)
  | .str x => some (.str x)
  | .dct [] [] => some (.dict [])
  | _ => none
def toEs : List D → Option (List PyData)
  | [] => some []
  | d :: ds => match toE d, toEs ds with
    | some p, some q => some (p :: q)
    | _, _ => none
/-- as toP, and tuples with empty dicts -/
def toR : D → Option PyData
  | .tup xs => (match toPs xs with
    | some ps => some (.tuple ps)
    | none => (toEs xs).map .tuple)
  | d => toP d
theorem toR_of {d : D} {p : PyData} (h : toP d = some p) : toR d = some p := by
  cases d with
  | tup xs =>
    rw [toP] at h
    obtain ⟨ps, h1, rfl⟩ := Option.map_eq_some_iff.mp h
    show (match toPs xs with
      | some ps => some (PyData.tuple ps)
      | none => (toEs xs).map PyData.tuple) = _
    rw [h1]
  | _ => exact h
def cRepr : OC := fun m ds k => match ds with
  | [.dct [] []] => k (.str "{}") m
  | [d] => ∃ p, toR d = some p ∧ p.showable = true ∧ p.depth ≤ 60 ∧ p.shown.length ≤ sizeLine ∧ k (.str p.shown) m
  | _ => False
theorem noDict_dp {K : PySem.W.Frag} {H : Hp} : ∀ {v : V} {p : PyData}, Dp K H v p → p.hasDict = false := by
  intro v p h
  have key : ∀ n, (∀ v p, sizeOf p ≤ n → Dp K H v p → p.hasDict = false) ∧ (∀ vs ps, sizeOf ps ≤ n → DpAll K H vs ps → PyData.hasDictAll ps = false) := by
    intro n
    induction n with
    | zero =>
      refine ⟨fun v p hn => ?_, fun vs ps hn => ?_⟩
      · cases p <;> simp at hn
      · cases ps <;> simp at hn
    | succ n ih =>
      refine ⟨fun v p hn hd => ?_, fun vs ps hn hd => ?_⟩
      · cases hd with
        | non => rfl
        | bl b => rfl
        | int b => rfl
        | str b => rfl
        | lst h1 h2 => rw [PyData.hasDict]; exact ih.2 _ _ (by simp at hn; omega) h2
        | tup h1 h2 => rw [PyData.hasDict]; exact ih.2 _ _ (by simp at hn; omega) h2
      · cases hd with
        | nil => rfl
        | cons h1 h2 =>
          rw [PyData.hasDictAll, ih.1 _ _ (by simp at hn; omega) h1, ih.2 _ _ (by simp at hn; omega) h2]
          rfl
  exact (key _).1 v p (Nat.le_refl _) h
def rRepr (K : PySem.W.Frag) : List V → Hp → VK → Prop := fun xs H Q => ∃ x p, xs = [x] ∧ Dp K H x p ∧ p.showable = true ∧ p.depth ≤ 60 ∧ p.shown.length ≤ sizeLine ∧ Q (.str p.shown) H
theorem call_repr (hg : X.A.guards = some []) (hu : X.A.units + 100 < cLine) : CallR X (.builtin "repr") (rRepr X.K) := by
  intro pins s σ H xs us Q I r h
  obtain ⟨x, p, rfl, hd, h1, h2, h3, q⟩ := h
  obtain ⟨u, rfl, rx⟩ := vals1 r
  have nd := noDict_dp hd
  obtain ⟨as, rd⟩ := Dp.reads I p x u hd rx
  have fin : ∀ a, u = .ref a → wpAny (model X.prog X.w) X.A (call (.builtin "repr") [u]) (EP X pins σ Q) X.xe s := fun a e => by
    subst e
    exact repr_of_reads' rd h1 (PyData.noDict_hsm nd) hg (by omega) (fun _ _ e => e) (fun h' u tk hk => ⟨.str _, H, I.kept (t' := tk) hk, ⟨_, rfl⟩, q⟩) h3
  cases hd with
  | non => cases rx; exact PySem.P.repr_of_none ⟨.str _, H, I.tok _, ⟨_, rfl⟩, q⟩
  | bl b => cases rx; exact PySem.P.repr_of_bool ⟨.str _, H, I.tok _, ⟨_, rfl⟩, q⟩
  | int i =>
    obtain ⟨t, rfl⟩ := rx
    exact PySem.P.repr_of_int (of_decide_eq_true h1) ⟨.str _, H, I.tok _, ⟨_, rfl⟩, q⟩
  | str z =>
    obtain ⟨t, rfl⟩ := rx
    exact PySem.P.repr_of_str ⟨.str _, H, I.tok _, ⟨_, rfl⟩, q⟩ h3
  | lst _ _ => exact fin _ rx
  | tup _ _ => exact fin _ rx
theorem call_repr0 (hg : X.A.guards = some []) (hu : X.A.units + 100 < cLine) : CallR X (.builtin "repr") (fun xs H Q => ∃ a, xs = [.ref a] ∧ Rd H a (.dK []) ∧ Q (.str "{}") H) := by
  intro pins s σ H xs us Q I r h
  obtain ⟨a, rfl, hd, q⟩ := h
  obtain ⟨u, rfl, rx⟩ := vals1 r
  obtain rfl : u = Value.ref a := rx
  obtain ⟨_, hs, vs, kv, o, es, ep, h1, h2, h3, _, h5, _⟩ := dk_rd I.hok hd
  have hv : vs = [] := by cases kv; rfl
  subst hv
  have he : es.toList = [] := by
    cases e : es.toList with
    | nil => rfl
    | cons x l => rw [e] at h5; cases h5
  have rd : Reads s.heap (.ref a) (.dict []) [a] := by
    have := Reads.dict (kvs := []) h1 h2.1 h3 (by rw [he]; exact ReadsAll.nil) (by rw [he]; exact ReadsAll.nil)
    exact this
  have hns : sysModules ∉ [a] := by
    intro z
    rw [List.mem_singleton] at z
    subst z
    simp at hs
  have hd1 : PyData.depth (.dict []) = 1 := by decide +kernel
  exact repr_of_reads' rd (by decide +kernel) (fun _ => hns) hg (by rw [hd1]; omega) (fun _ _ e => e) (fun h' u tk hk => ⟨.str _, H, I.kept (t' := tk) hk, ⟨_, rfl⟩, q⟩) (by decide +kernel)
inductive De (H : Hp) : V → PyData → Prop where
  | non : De H .non .none
  | bl (b : Bool) : De H (.bl b) (.bool b)
  | int (b : Int) : De H (.int b) (.int b)
  | str (b : Str) : De H (.str b) (.str b)
  | e0 {a : Addr} (h : Rd H a (.dK [])) : De H (.ref a) (.dict [])
inductive DeAll (H : Hp) : List V → List PyData → Prop where
  | nil : DeAll H [] []
  | cons {v : V} {p : PyData} {vs : List V} {ps : List PyData} (h : De H v p) (t : DeAll H vs ps) : DeAll H (v :: vs) (p :: ps)
theorem De.reads {pins : List (Addr × Obj)} {σ : L2.St} {H : Hp} {s : Shared} (I : Inv X pins σ H s) {v : V} {u : Value} {p : PyData} (h : De H v p) (r : RelV v u) : ∃ as, Reads s.heap u p as ∧ sysModules ∉ as := by
  cases h with
  | non => cases r; exact ⟨_, Reads.none, fun z => nomatch z⟩
  | bl b => cases r; exact ⟨_, Reads.bool b, fun z => nomatch z⟩
  | int b => obtain ⟨t, rfl⟩ := r; exact ⟨_, Reads.int b t, fun z => nomatch z⟩
  | str b => obtain ⟨t, rfl⟩ := r; exact ⟨_, Reads.str b t, fun z => nomatch z⟩
  | @e0 a hd =>
    obtain rfl : u = Value.ref a := r
    obtain ⟨_, hs, vs, kv, o, es, ep, h1, h2, h3, _, h5, _⟩ := dk_rd I.hok hd
    have hv : vs = [] := by cases kv; rfl
    subst hv
    have he : es.toList = [] := by
      cases e : es.toList with
      | nil => rfl
      | cons x l => rw [e] at h5; cases h5
    have rd : Reads s.heap (.ref a) (.dict []) [a] := by
      have := Reads.dict (kvs := []) h1 h2.1 h3 (by rw [he]; exact ReadsAll.nil) (by rw [he]; exact ReadsAll.nil)
      exact this
    refine ⟨_, rd, ?_⟩
    intro z
    rw [List.mem_singleton] at z
    subst z
    simp at hs
theorem DeAll.reads {pins : List (Addr × Obj)} {σ : L2.St} {H : Hp} {s : Shared} (I : Inv X pins σ H s) {vs : List V} {ps : List PyData} (h : DeAll H vs ps) : ∀ {us : List Value}, Vals vs us → ∃ as, ReadsAll s.heap us ps as ∧ sysModules ∉ as := by
  induction h with
  | nil =>
    intro us r
    cases r
    exact ⟨_, ReadsAll.nil, fun z => nomatch z⟩
  | cons h t ih =>
    intro us r
    cases r with
    | cons r1 r2 =>
      obtain ⟨as, q1, q2⟩ := h.reads I r1
      obtain ⟨bs, q3, q4⟩ := ih r2
      exact ⟨_, ReadsAll.cons q1 q3, fun z => (List.mem_append.mp z).elim q2 q4⟩
theorem call_reprT (hg : X.A.guards = some []) (hu : X.A.units + 100 < cLine) : CallR X (.builtin "repr") (fun xs H Q => ∃ a vs ps, xs = [.ref a] ∧ SqT X.K H a vs ∧ DeAll H vs ps ∧ (PyData.tuple ps).showable = true ∧ (PyData.tuple ps).depth ≤ 60 ∧ (PyData.tuple ps).shown.length ≤ sizeLine ∧ Q (.str (PyData.tuple ps).shown) H) := by
  intro pins s σ H xs us Q I r h
  obtain ⟨a, vs, ps, rfl, hs, hd, h1, h2, h3, q⟩ := h
  obtain ⟨u, rfl, rx⟩ := vals1 r
  obtain rfl : u = Value.ref a := rx
  obtain ⟨its, rv, ⟨o, ho, hc, n, hd2⟩, _⟩ := I.tuple hs
  obtain ⟨as, q1, q2⟩ := hd.reads I rv
  exact repr_of_reads' (Reads.tuple ho hc hd2 q1) h1 (fun _ => q2) hg (by omega) (fun _ _ e => e) (fun h' u tk hk => ⟨.str _, H, I.kept (t' := tk) hk, ⟨_, rfl⟩, q⟩) h3
theorem de_of {K : PySem.W.Frag} {F H : Hp} (e : Same F H) : ∀ {xs : List D} {vs : List V} {ps : List PyData}, RepL K F xs vs → toEs xs = some ps → DeAll H vs ps
  | [], vs, ps, r, h => by
    cases h
    rw [repL_nil.mp r]
    exact .nil
  | d :: ds, vs, ps, r, h => by
    obtain ⟨v, t, rfl, r1, r2⟩ := repL_cons.mp r
    unfold toEs at h
    split at h
    · rename_i p q h1 h2
      cases h
      refine .cons ?_ (de_of e r2 h2)
      unfold toE at h1
      split at h1
      · cases h1; unfold Rep at r1; subst r1; exact .non
      · cases h1; unfold Rep at r1; subst r1; exact .bl _
      · cases h1; unfold Rep at r1; subst r1; exact .int _
      · cases h1; unfold Rep at r1; subst r1; exact .str _
      · cases h1
        unfold Rep at r1
        obtain ⟨a, kvs, rfl, g1, g2, g3⟩ := r1
        have : kvs = [] := by simpa using g2
        subst this
        exact .e0 (rd_mono e g1)
      · cases h1
    · cases h
theorem xc_repr (hg : X.A.guards = some []) (hu : X.A.units + 100 < cLine) : XC X (.builtin "repr") cRepr := by
  refine ⟨_, CallR.or (call_repr hg hu) (CallR.or (call_repr0 hg hu) (call_reprT hg hu)), ⟨fun {B F m H vs ds k Q} hm vd h hq => ?_⟩⟩
  unfold cRepr at h
  split at h
  · obtain ⟨v, rfl, h1⟩ := vl1 vd
    obtain ⟨a, kvs, rfl, ha, hk, ra⟩ := h1
    have : kvs = [] := by simpa using hk
    subst this
    exact .inr (.inl ⟨a, rfl, ha, qstr hm hq h⟩)
  · obtain ⟨v, rfl, h1⟩ := vl1 vd
    obtain ⟨p, q1, q2, q3, q4, q5⟩ := h
    rename_i d _
    cases c : toP d with
    | some p' =>
      rw [toR_of c] at q1
      cases q1
      exact .inl ⟨v, p, rfl, dp_view hm h1 c, q2, q3, q4, qstr hm hq q5⟩
    | none =>
      cases d with
      | tup xs =>
        rw [toP] at c
        have c' : toPs xs = none := by simpa using c
        have q1 : (match toPs xs with
          | some ps => some (PyData.tuple ps)
          | none => (toEs xs).map PyData.tuple) = some p := q1
        rw [c'] at q1
        obtain ⟨ps, q6, rfl⟩ := Option.map_eq_some_iff.mp q1
        obtain ⟨a, vs, rfl, ha, ra, _⟩ := h1
        exact .inr (.inr ⟨a, vs, ps, rfl, ha, de_of hm.fr ra q6, q2, q3, q4, qstr hm hq q5⟩)
      | _ => exact absurd (q1.symm.trans c) (fun z => nomatch z)
  · exact h.elim
end
end Ab
end
section
/-! Ab5: methods of lists and texts, calls of defs, comprehensions. -/
namespace Ab
open PySem PySem.Spec L2
/-! ### methods of lists and texts -/
abbrev OM := Mem → D → List D → KE → Prop
def isT (T : String) (d : D) : Prop := match d with
  | .lst _ => T = "list"
  | .frl _ => T = "list"
  | .str _ => T = "str"
  | _ => False
structure GM (K : PySem.W.Frag) (r : V → List V → Hp → VK → Prop) (o : OM) : Prop where
  run : ∀ {B : Bs} {F : Hp} {m : Mem} {H : Hp} {x : V} {vs : List V} {d : D} {ds : List D} {k : KE} {Q : VK}, HM K B F m H → Rep K F d x → RepL K F ds vs → o m d ds k → QE K B F k Q → r x vs H Q
structure XM (X : Cx) (id : String) (o : OM) : Prop where
  ex : ∃ r, MtR X id r ∧ GM X.K r o
def wMt (T : String) (o : OM) (a : WE) (w : WL) : WE := fun v m k kx => a v m (fun d m1 => isT T (res m1 d) ∧ w v m1 (fun ds m2 => o m2 d ds k) kx) kx
theorem isT_ok {K : PySem.W.Frag} {F H : Hp} {T : String} {d : D} {x : V} (r : View K F H d x) (h : isT T d) : tyV K T x H := by
  cases d with
  | lst xs => obtain ⟨a, vs, rfl, ha, _⟩ := r; exact .inl ⟨h, vs, .inl (.inl ha)⟩
  | frl xs => obtain ⟨a, vs, rfl, ha, _⟩ := r; exact .inl ⟨h, vs, ha⟩
  | str z => cases r; exact h
  | _ => exact h.elim
/-- the receiver's expression is no super() -/
def noSuper : Expr → Bool
  | .Call (.Name _ _) [] [] _ => false
  | _ => true
theorem base_ok {o : Expr} (h : noSuper o = true) (n : Str) (env : PySem.Env) : attributeBase o n env (eval o env) = eval o env := by
  unfold attributeBase
  split
  · cases h
  · rfl
theorem few_ok {es : List Expr} {cpos : Pos} {env : PySem.Env} (h : es.any starred = false) (hl : es.length < 29) :
    ((backTo cpos (starEach es env)).all (fun x => !x.1) && (backToKw cpos (keywordEach [] env)).all (fun x => x.1.isSome) && decide (es.length + ([] : List Keyword).length + (if ([] : List Keyword).isEmpty then 0 else 1) < 30)) = true := by
  have h1 : (backTo cpos (starEach es env)).all (fun x => !x.1) = true := by
    have := any_star (pos := cpos) (env := env) h
    rw [List.all_eq_not_any_not]
    simp only [Bool.not_not]
    rw [this]
    rfl
  rw [h1]
  show (true && true && decide (es.length + 0 + 0 < 30)) = true
  rw [decide_eq_true (by omega)]
  rfl
section
variable {X : Cx} {W : WX} {e a b c o : Expr} {es : List Expr} {pos apos cpos : Pos}
theorem xe_mt {T id : String} {name : Str} {om : OM} {wa : WE} {w : WL} (h : XM X id om) (pa : PlainAttrs T) (slot : Slot T name id) (hty : typeOf (.builtin id) = pure (.type "method_descriptor")) (ho : Xe X W o wa) (hl : Xl X W (e :: es) w)
    (hn : noSuper o = true) (hs : (e :: es).any starred = false) (hz : (e :: es).length < 29) (hline : (apos.endLine == cpos.line) = true) : Xe X W (.Call (.Attribute o name apos) (e :: es) [] cpos) (wMt T om wa w) := by
  obtain ⟨r, pm, g⟩ := h.ex
  obtain ⟨to, p1, g1⟩ := ho.ex
  obtain ⟨t, p2, g2⟩ := hl.ex
  have hs' := hs
  rw [List.any_cons, Bool.or_eq_false_iff] at hs'
  refine ⟨_, pe_bm pa slot hty pm p1 p2 (base_ok hn _ _) (few_ok hs hz) hline (star_eq hs'.1 _) (any_star hs'.2), ⟨fun {B F v m σ H k kx Q} hm re hw hq hx => ?_⟩⟩
  refine g1.run hm re hw (fun d m1 F1 H1 x hw1 e1 hm1 r1 => ⟨isT_ok (view_res hm1 r1) hw1.1, ?_⟩) hx
  refine g2.run hm1 (re.mono e1) hw1.2 (fun ds m2 F2 H2 vs hw2 e2 hm2 r2 => ?_) (hx.mono e1)
  exact g.run hm2 (rep_mono e2 d r1) r2 hw2 (hq.mono (e1.trans e2))
theorem xe_mt0 {T id : String} {name : Str} {om : OM} {wa : WE} (h : XM X id om) (pa : PlainAttrs T) (slot : Slot T name id) (hty : typeOf (.builtin id) = pure (.type "method_descriptor")) (ho : Xe X W o wa)
    (hn : noSuper o = true) (hline : (apos.endLine == cpos.line) = true) : Xe X W (.Call (.Attribute o name apos) [] [] cpos) (wMt T om wa wNil) := by
  obtain ⟨r, pm, g⟩ := h.ex
  obtain ⟨to, p1, g1⟩ := ho.ex
  refine ⟨_, pe_bm0 pa slot hty pm p1 (base_ok hn _ _) hline, ⟨fun {B F v m σ H k kx Q} hm re hw hq hx => ?_⟩⟩
  refine g1.run hm re hw (fun d m1 F1 H1 x hw1 e1 hm1 r1 => ⟨isT_ok (view_res hm1 r1) hw1.1, ?_⟩) hx
  exact g.run hm1 r1 RepL.nil hw1.2 (hq.mono e1)
/-- a list that may be changed -/
def mutL (m : Mem) (d : D) (k : Addr → List D → Prop) : Prop := match d with
  | .raw (.ref a) => (match m a with
    | some (.lst xs) => k a xs
    | _ => False)
  | _ => False
theorem mutL_ok {m : Mem} {d : D} {k : Addr → List D → Prop} (h : mutL m d k) : ∃ a xs, d = .raw (.ref a) ∧ m a = some (.lst xs) ∧ k a xs := by
  unfold mutL at h
  split at h
  · split at h
    · exact ⟨_, _, rfl, by assumption, h⟩
    · exact h.elim
  · exact h.elim
theorem HM.setL {K : PySem.W.Frag} {B : Bs} {F H : Hp} {m : Mem} (hm : HM K B F m H) {a : Addr} {d : D} {xs : List D} {vs : List V} (ha : m a = some d) (r : RepL K F xs vs) : HM K B F (setM m a (.lst xs)) (upd H a (.lst vs)) :=
  hm.set ha ⟨vs, upd_same, r⟩
def mAppend : OM := fun m d ds k => match ds with
  | [y] => mutL m d fun a xs => xs.length < sizeLine ∧ k .non (setM m a (.lst (xs ++ [y])))
  | _ => False
theorem xm_append : XM X "list.append" mAppend := by
  refine ⟨_, mt_append, ⟨fun {B F m H x vs d ds k Q} hm r rl h hq => ?_⟩⟩
  unfold mAppend at h
  split at h
  · obtain ⟨a, xs, rfl, ha, h1, h2⟩ := mutL_ok h
    obtain ⟨y, t, rfl, ry, rt⟩ := repL_cons.mp rl
    rw [repL_nil.mp rt]
    unfold Rep at r
    subst r
    obtain ⟨us, q1, q2⟩ := (hm.mem _ _ ha).2.1
    refine ⟨a, us, y, rfl, rfl, q1, by rw [q2.len]; exact h1, ?_⟩
    exact hq _ _ F _ _ h2 (Same.refl _) (hm.setL ha (q2.append (RepL.cons ry RepL.nil))) rep_non
  · exact h.elim
def mInsert : OM := fun m d ds k => match ds with
  | [.int i, y] => mutL m d fun a xs => xs.length < sizeLine ∧ 0 ≤ i ∧ i < 2 ^ 63 ∧ k .non (setM m a (.lst (xs.take i.toNat ++ [y] ++ xs.drop i.toNat)))
  | _ => False
theorem xm_insert : XM X "list.insert" mInsert := by
  refine ⟨_, mt_insert, ⟨fun {B F m H x vs d ds k Q} hm r rl h hq => ?_⟩⟩
  unfold mInsert at h
  split at h
  · obtain ⟨a, xs, rfl, ha, h1, h2, h3, h4⟩ := mutL_ok h
    obtain ⟨y, t, rfl, ry, rt⟩ := repL_cons.mp rl
    obtain ⟨z, t, rfl, rz, rt⟩ := repL_cons.mp rt
    rw [repL_nil.mp rt]
    unfold Rep at r ry
    subst r ry
    obtain ⟨us, q1, q2⟩ := (hm.mem _ _ ha).2.1
    refine ⟨a, us, _, z, rfl, rfl, q1, by rw [q2.len]; exact h1, h2, h3, ?_⟩
    exact hq _ _ F _ _ h4 (Same.refl _) (hm.setL ha (((q2.take _).append (RepL.cons rz RepL.nil)).append (q2.drop _))) rep_non
  · exact h.elim
def mExtend : OM := fun m d ds k => match ds with
  | [y] => mutL m d fun a xs => (match res m y with
    | .lst ys => xs.length + ys.length ≤ sizeLine ∧ k .non (setM m a (.lst (xs ++ ys)))
    | _ => False)
  | _ => False
theorem xm_extend : XM X "list.extend" mExtend := by
  refine ⟨_, mt_extend, ⟨fun {B F m H x vs d ds k Q} hm r rl h hq => ?_⟩⟩
  unfold mExtend at h
  split at h
  · obtain ⟨a, xs, rfl, ha, h⟩ := mutL_ok h
    obtain ⟨y, t, rfl, ry, rt⟩ := repL_cons.mp rl
    rw [repL_nil.mp rt]
    unfold Rep at r
    subst r
    obtain ⟨us, q1, q2⟩ := (hm.mem _ _ ha).2.1
    have vy := view_res hm ry
    split at h
    · rename_i e
      rw [e] at vy
      obtain ⟨b, ws, rfl, hb, rb⟩ := vy
      refine ⟨a, b, us, ws, rfl, rfl, q1, hb, by rw [q2.len, rb.len]; exact h.1, ?_⟩
      exact hq _ _ F _ _ h.2 (Same.refl _) (hm.setL ha (q2.append rb)) rep_non
    · exact h.elim
  · exact h.elim
def mPop : OM := fun m d ds k => match ds with
  | [] => mutL m d fun a xs => ∃ y, xs[xs.length - 1]? = some y ∧ k y (setM m a (.lst xs.dropLast))
  | _ => False
theorem RepL.dropLast {K : PySem.W.Frag} {F : Hp} {xs : List D} {vs : List V} (r : RepL K F xs vs) : RepL K F xs.dropLast vs.dropLast := by
  rw [List.dropLast_eq_take, List.dropLast_eq_take, r.len]
  exact r.take _
theorem xm_pop : XM X "list.pop" mPop := by
  refine ⟨_, mt_pop, ⟨fun {B F m H x vs d ds k Q} hm r rl h hq => ?_⟩⟩
  unfold mPop at h
  split at h
  · obtain ⟨a, xs, rfl, ha, y, h1, h2⟩ := mutL_ok h
    rw [repL_nil.mp rl]
    unfold Rep at r
    subst r
    obtain ⟨us, q1, q2⟩ := (hm.mem _ _ ha).2.1
    obtain ⟨z, g1, g2⟩ := q2.get h1
    refine ⟨a, us, z, rfl, rfl, q1, by rw [q2.len]; exact g1, ?_⟩
    exact hq _ _ F _ _ h2 (Same.refl _) (hm.setL ha q2.dropLast) g2
  · exact h.elim
theorem RepL.eraseIdx {K : PySem.W.Frag} {F : Hp} : ∀ {xs : List D} {vs : List V} (i : Nat), RepL K F xs vs → RepL K F (xs.eraseIdx i) (vs.eraseIdx i)
  | [], _, _, r => by rw [repL_nil.mp r]; exact RepL.nil
  | d :: ds, _, 0, r => by
    obtain ⟨v, t, rfl, _, h⟩ := repL_cons.mp r
    exact h
  | d :: ds, _, i + 1, r => by
    obtain ⟨v, t, rfl, h1, h⟩ := repL_cons.mp r
    exact RepL.cons h1 (RepL.eraseIdx i h)
def mPopAt : OM := fun m d ds k => match ds with
  | [.int i] => mutL m d fun a xs => ∃ j y, -(2 ^ 63) ≤ i ∧ i < 2 ^ 63 ∧ seqIndex? i xs.length = some j ∧ xs[j]? = some y ∧ k y (setM m a (.lst (xs.eraseIdx j)))
  | _ => False
theorem xm_popAt : XM X "list.pop" mPopAt := by
  refine ⟨_, mt_popAt, ⟨fun {B F m H x vs d ds k Q} hm r rl h hq => ?_⟩⟩
  unfold mPopAt at h
  split at h
  · obtain ⟨a, xs, rfl, ha, j, y, h1, h2, h3, h4, h5⟩ := mutL_ok h
    obtain ⟨i, t, rfl, ri, rt⟩ := repL_cons.mp rl
    rw [repL_nil.mp rt]
    unfold Rep at r ri
    subst r ri
    obtain ⟨us, q1, q2⟩ := (hm.mem _ _ ha).2.1
    obtain ⟨z, g1, g2⟩ := q2.get h4
    refine ⟨a, us, _, j, z, rfl, rfl, q1, h1, h2, by rw [q2.len]; exact h3, g1, ?_⟩
    exact hq _ _ F _ _ h5 (Same.refl _) (hm.setL ha (q2.eraseIdx j)) g2
  · exact h.elim
end
/-! ### defs -/
inductive ARes where
  | ret (d : D)
  | exc (x : Exn)
abbrev ASp := List D → Mem → (ARes → Mem → Prop) → Prop
def toSp (K : PySem.W.Frag) (n : Nat) (sp : ASp) : Sp := fun vs H Q E => ∃ F m ds R, RepL K F ds vs ∧ ds.length = n ∧ HM K ⟨H, F, m⟩ F m H ∧ sp ds m R ∧
  (∀ d m' F' H' v, R (.ret d) m' → HM K ⟨H, F, m⟩ F' m' H' → Rep K F' d v → Q v H') ∧
  (∀ x m' F' H' dd, R (.exc x) m' → HM K ⟨H, F, m⟩ F' m' H' → RX K F' x dd → E (.ref (He.ga K x.C)) (some dd) H')
/-- what surrounds a call -/
structure Rm (k : Nat) (A : Around) : Prop where
  room : Room k A
  gd : A.guards = some []
structure FnA (P : Program) (w : World) (K : PySem.W.Frag) (mg : Str → Option Value) (base : Heap) (k : Nat) (f : Addr) (fd : FuncData) (ps : List Str) (sp : Sp) : Prop where
  len : ∀ vs H Q E, sp vs H Q E → vs.length = ps.length
  run : ∀ (A : Around) (outer : List PySem.Env) (s : Shared) (H : Hp) (args : Args) (us : List Value) (vs : List V) (Q : VK) (E : XK), Rm k A → Env0 P w K mg base A outer s H → BindsTo s fd args (ps.zip us) → Vals vs us → sp vs H Q E →
    codeAny (model P w) A (.call (.ref f) args) (CR (L2.CX P w) outer P w H s Q E) s
/-- a name of the module that is a def -/
structure CalA (P : Program) (w : World) (K : PySem.W.Frag) (mg : Str → Option Value) (base : Heap) (k : Nat) (x : Str) (n : Nat) (sp : ASp) : Prop where
  ex : ∃ f fd ps, FnA P w K mg base k f fd ps (toSp K n sp) ∧ mg x = some (.ref f) ∧ PySem.W.keepIn K (.ref f) = true ∧ Binds K fd ps []
section
variable {X : Cx} {W : WX} {e a b c o : Expr} {es : List Expr} {pos apos cpos : Pos}
theorem run_fnA {k : Nat} {f : Addr} {fd : FuncData} {ps : List Str} {sp : Sp} {E : XK} {pins : List (Addr × Obj)} {σ : L2.St} {H : Hp} {s : Shared} {Q : VK} {us : List Value} {vs : List V} (F : FnA X.prog X.w X.K X.mg X.base k f fd ps sp) (hr : Rm k X.A) (hb : Binds X.K fd ps [])
    (hx : PassesAt (L2.CX X.prog X.w) X σ E) (I : Inv X pins σ H s) (r : Vals vs us) (h : sp vs H Q E) : wpAny (model X.prog X.w) X.A (call (.ref f) us) (EP X pins σ Q) X.xe s := by
  have hl : us.length = ps.length := r.length.symm.trans (F.len _ _ _ _ h)
  have bd := hb s us I.kIn ((congrArg List.length (List.append_nil us)).trans hl)
  rw [List.append_nil] at bd
  refine wpAny_call (codeAny_mono (F.run X.A X.stack s H _ us vs Q E hr I.env0 bd r h) fun ends s' q => ?_)
  match ends, q with
  | .error e, q => exact hx pins H s e s' I q
  | .ok (.ret u), q => exact I.after q
  | .ok .next, q => exact q.elim
  | .ok .brk, q => exact q.elim
  | .ok .cont, q => exact q.elim
def wCall (n : Nat) (sp : ASp) (w : WL) : WE := fun v m k kx => w v m (fun ds m1 => ds.length = n ∧ sp ds m1 fun r m2 => match r with
  | .ret d => k d m2
  | .exc x => kx x m2) kx
/-- the promise is used -/
theorem sp_use {K : PySem.W.Frag} {B : Bs} {F H : Hp} {m : Mem} {n : Nat} {sp : ASp} {ds : List D} {vs : List V} {k : KE} {kx : KX} {Q : VK} {σ : L2.St} (hm : HM K B F m H) (r : RepL K F ds vs) (hl : ds.length = n)
    (h : sp ds m fun r m2 => match r with
      | .ret d => k d m2
      | .exc x => kx x m2) (hq : QE K B F k Q) (hx : QX K W B F σ kx) : toSp K n sp vs H Q (L2.WE W σ) := by
  refine ⟨F, m, ds, _, r, hl, hm.start, h, fun d m' F' H' v hr g rv => ?_, fun x m' F' H' dd hr g rx => ?_⟩
  · exact hq d m' F' H' v hr g.f0 (hm.after g) rv
  · exact hx x m' F' H' dd hr g.f0 (hm.after g) rx
theorem xe_call {k n : Nat} {x : Str} {sp : ASp} {p : Pos} {w : WL} (C : CalA X.prog X.w X.K X.mg X.base k x n sp) (hr : Rm k X.A) (tk : Takes X W) (hg : Gl X x) (ha : Xl X W (e :: es) w)
    (hdb : (x == ("__debug__" : Str)) = false) (hs : (e :: es).any starred = false) : Xe X W (.Call (.Name x p) (e :: es) [] pos) (wCall n sp w) := by
  obtain ⟨f, fd, ps, F, hmg, hk, hb⟩ := C.ex
  obtain ⟨t, p1, g1⟩ := ha.ex
  rw [List.any_cons, Bool.or_eq_false_iff] at hs
  have pe : PE X (.Call (.Name x p) (e :: es) [] pos) (tCallS (toSp X.K n sp) (L2.WE W) t) := by
    refine ⟨fun pins s σ H Q I h => wpAny_Call_Name_kw (ld_glob I hg hmg ?_ hdb)⟩
    exact PySem.W.callWith_K (h₀ := X.base) I.ok.mod.kin hk (thn (p1.run pos pins s σ H _ I h) fun us s1 ⟨vs, H1, I1, r, q⟩ => ⟨I1.kIn, run_fnA F hr hb (passAt tk σ) I1 r q⟩) (star_eq hs.1 _) (any_star hs.2)
  refine ⟨_, pe, ⟨fun {B F v m σ H k kx Q} hm re hw hq hx => ?_⟩⟩
  exact g1.run hm re hw (fun ds m1 F1 H1 vs hw1 e1 hm1 r1 => sp_use hm1 r1 hw1.1 hw1.2 (hq.mono e1) (hx.mono e1)) hx
theorem xe_call0 {k n : Nat} {x : Str} {sp : ASp} {p : Pos} (C : CalA X.prog X.w X.K X.mg X.base k x n sp) (hr : Rm k X.A) (tk : Takes X W) (hg : Gl X x)
    (hdb : (x == ("__debug__" : Str)) = false) : Xe X W (.Call (.Name x p) [] [] pos) (wCall n sp wNil) := by
  obtain ⟨f, fd, ps, F, hmg, hk, hb⟩ := C.ex
  have pe : PE X (.Call (.Name x p) [] [] pos) (tCallS (toSp X.K n sp) (L2.WE W) tNil) := by
    refine ⟨fun pins s σ H Q I h => wpAny_Call_Name_kw (ld_glob I hg hmg ?_ hdb)⟩
    exact PySem.W.callWith_K0 I.kIn hk (run_fnA (us := []) F hr hb (passAt tk σ) I .nil h)
  refine ⟨_, pe, ⟨fun {B F v m σ H k kx Q} hm re hw hq hx => ?_⟩⟩
  exact sp_use hm RepL.nil hw.1 hw.2 hq hx
end
end Ab
end
section
/-! Ab6: targets, what is walked, statements. -/
namespace Ab
open PySem PySem.Spec L2
/-! ### steps that no code takes -/
def Gh (v : Env) (m : Mem) (v' : Env) (m' : Mem) : Prop := ∀ (K : PySem.W.Frag) (B : Bs) (F H : Hp) (σ : L2.St), HM K B F m H → REnv K F v σ → ∃ F', Same F F' ∧ HM K B F' m' H ∧ REnv K F' v' σ
theorem Gh.refl {v : Env} {m : Mem} : Gh v m v m := fun _ _ F _ _ h r => ⟨F, Same.refl _, h, r⟩
theorem Gh.trans {v v1 v2 : Env} {m m1 m2 : Mem} (a : Gh v m v1 m1) (b : Gh v1 m1 v2 m2) : Gh v m v2 m2 := fun K B F H σ h r => by
  obtain ⟨F1, e1, h1, r1⟩ := a K B F H σ h r
  obtain ⟨F2, e2, h2, r2⟩ := b K B F1 H σ h1 r1
  exact ⟨F2, e1.trans e2, h2, r2⟩
/-- the thing in slot i will not change any more -/
theorem Gh.freeze {v : Env} {m : Mem} (i : Nat) {a : Addr} {d : D} (hi : v[i]? = some (some (.raw (.ref a)))) (ha : m a = some d) : Gh v m (v.set i (some d)) (delM m a) := fun K B F H σ h r => by
  obtain ⟨o, ho, h1, r1, e1⟩ := h.freeze ha
  obtain ⟨x, q1, q2⟩ := r.get i _ hi
  unfold Rep at q2
  subst q2
  refine ⟨_, e1, h1, ?_⟩
  have z := (r.mono e1).set i r1
  refine ⟨?_, fun j d' hj => ?_⟩
  · rw [List.length_set]; exact r.len
  · obtain ⟨y, y1, y2⟩ := z.get j d' hj
    refine ⟨y, ?_, y2⟩
    by_cases hij : i = j
    · subst hij
      rw [List.getElem?_set_self (List.getElem?_eq_some_iff.mp q1).1] at y1
      rw [q1]; exact y1
    · rw [List.getElem?_set_ne hij] at y1; exact y1
/-- things are forgotten -/
theorem Gh.drop {v v' : Env} {m m' : Mem} (hl : v'.length = v.length) (hv : ∀ (i : Nat) d, v'[i]? = some (some d) → v[i]? = some (some d)) (hm : ∀ a d, m' a = some d → m a = some d) : Gh v m v' m' := fun K B F H σ h r => ⟨F, Same.refl _, h.drop hm, r.weak hl hv⟩
def GhD (d : D) (m : Mem) (d' : D) (m' : Mem) : Prop := ∀ (K : PySem.W.Frag) (B : Bs) (F H : Hp) (x : V), HM K B F m H → Rep K F d x → ∃ F', Same F F' ∧ HM K B F' m' H ∧ Rep K F' d' x
theorem GhD.refl {d : D} {m : Mem} : GhD d m d m := fun _ _ F _ _ h r => ⟨F, Same.refl _, h, r⟩
theorem GhD.trans {d d1 d2 : D} {m m1 m2 : Mem} (a : GhD d m d1 m1) (b : GhD d1 m1 d2 m2) : GhD d m d2 m2 := fun K B F H x h r => by
  obtain ⟨F1, e1, h1, r1⟩ := a K B F H x h r
  obtain ⟨F2, e2, h2, r2⟩ := b K B F1 H x h1 r1
  exact ⟨F2, e1.trans e2, h2, r2⟩
theorem GhD.drop {d : D} {m m' : Mem} (hm : ∀ a d, m' a = some d → m a = some d) : GhD d m d m' := fun K B F H x h r => ⟨F, Same.refl _, h.drop hm, r⟩
theorem GhD.freeze {a : Addr} {d : D} {m : Mem} (ha : m a = some d) : GhD (.raw (.ref a)) m d (delM m a) := fun K B F H x h r => by
  obtain ⟨o, ho, h1, r1, e1⟩ := h.freeze ha
  unfold Rep at r
  subst r
  exact ⟨_, e1, h1, r1⟩
/-! ### targets -/
abbrev WG := D → Env → Mem → (Env → Mem → Prop) → Prop
abbrev WGs := List D → Env → Mem → (Env → Mem → Prop) → Prop
section
variable (K : PySem.W.Frag)
def QG (B : Bs) (F : Hp) (k : Env → Mem → Prop) (Q : L2.St → Hp → Prop) : Prop := ∀ v m F' H σ, k v m → Same F F' → HM K B F' m H → REnv K F' v σ → Q σ H
structure GG (t : TG) (w : WG) : Prop where
  run : ∀ {B : Bs} {F : Hp} {v : Env} {m : Mem} {σ : L2.St} {H : Hp} {d : D} {x : V} {k : Env → Mem → Prop} {Q : L2.St → Hp → Prop}, HM K B F m H → REnv K F v σ → Rep K F d x → w d v m k → QG K B F k Q → t x σ H Q
structure GGs (t : TGs) (w : WGs) : Prop where
  run : ∀ {B : Bs} {F : Hp} {v : Env} {m : Mem} {σ : L2.St} {H : Hp} {ds : List D} {xs : List V} {k : Env → Mem → Prop} {Q : L2.St → Hp → Prop}, HM K B F m H → REnv K F v σ → RepL K F ds xs → w ds v m k → QG K B F k Q → t xs σ H Q
end
theorem QG.mono {K : PySem.W.Frag} {B : Bs} {F F1 : Hp} {k : Env → Mem → Prop} {Q : L2.St → Hp → Prop} (h : QG K B F k Q) (e : Same F F1) : QG K B F1 k Q := fun v m F' H σ a q c r => h v m F' H σ a (e.trans q) c r
structure Xg (X : Cx) (tg : Expr) (w : WG) : Prop where
  ex : ∃ t, PG X tg t ∧ GG X.K t w
structure Xgs (X : Cx) (tgs : List Expr) (w : WGs) : Prop where
  ex : ∃ t, PGs X tgs t ∧ GGs X.K t w
def gN (i : Nat) : WG := fun d v m k => k (v.set i (some d)) m
def gs0 : WGs := fun ds v m k => match ds with
  | [] => k v m
  | _ => False
def gs1 (g : WG) (r : WGs) : WGs := fun ds v m k => match ds with
  | d :: ds => g d v m fun v1 m1 => r ds v1 m1 k
  | _ => False
def gT (n : Nat) (r : WGs) : WG := fun d v m k => match res m d with
  | .tup ds => ds.length = n ∧ r ds v m k
  | _ => False
def kx0 : KX := fun _ _ => False
theorem qx0 {K : PySem.W.Frag} {W : WX} {B : Bs} {F : Hp} {σ : L2.St} : QX K W B F σ kx0 := fun _ _ _ _ _ h => h.elim
def gSubL (wo wi : WE) : WG := fun d v m k => wo v m (fun o m1 => wi v m1 (fun i m2 => mutL m2 o fun a xs => match i with
  | .int j => ∃ n, ixN xs.length j = some n ∧ k v (setM m2 a (.lst (xs.set n d)))
  | _ => False) kx0) kx0
section
variable {X : Cx} {W : WX} {e a b c o : Expr} {es : List Expr} {pos apos cpos : Pos}
theorem gg_name {K : PySem.W.Frag} {i : Nat} : GG K (gName i) (gN i) := ⟨fun {B F v m σ H d x k Q} hm re r hw hq => hq _ m F H _ hw (Same.refl _) hm (re.set i r)⟩
theorem xg_name {i : Nat} {x : Str} (hN : X.N.Nodup) (hi : X.N[i]? = some x) (hx : Loc X.env.scope x) (hf : X.fn x = true ∨ X.env.scope.names.lookup x = some .local) : Xg X (.Name x pos) (gN i) := ⟨_, pg_name hN hi hx hf, gg_name⟩
theorem xgs_nil : Xgs X [] gs0 := by
  refine ⟨_, pgs_nil, ⟨fun {B F v m σ H ds xs k Q} hm re r hw hq => ?_⟩⟩
  cases ds with
  | nil => exact ⟨repL_nil.mp r, hq v m F H σ hw (Same.refl _) hm re⟩
  | cons d ds => exact hw.elim
theorem assign_eq (h : starred e = false) (env : PySem.Env) : (assignEach (e :: es) env).map (·.2) = assign e env :: (assignEach es env).map (·.2) := by
  cases e <;> first
    | rfl
    | cases h
theorem xgs_cons {g : WG} {r : WGs} (h1 : Xg X e g) (h2 : Xgs X es r) (hs : starred e = false) : Xgs X (e :: es) (gs1 g r) := by
  obtain ⟨t, p, q⟩ := h1.ex
  obtain ⟨u, p2, q2⟩ := h2.ex
  refine ⟨_, pgs_cons p p2 (assign_eq hs _), ⟨fun {B F v m σ H ds xs k Q} hm re rl hw hq => ?_⟩⟩
  cases ds with
  | nil => exact hw.elim
  | cons d ds =>
    obtain ⟨x, xr, rfl, r1, r2⟩ := repL_cons.mp rl
    refine ⟨x, xr, rfl, q.run hm re r1 hw fun v1 m1 F1 H1 σ1 hw1 e1 hm1 re1 => ?_⟩
    exact q2.run hm1 re1 (repL_mono e1 _ r2) hw1 (hq.mono e1)
theorem assign_len : ∀ {es : List Expr} {env : PySem.Env}, (assignEach es env).length = es.length
  | [], _ => rfl
  | e :: es, env => by
    have h := assign_len (es := es) (env := env)
    cases e <;> (show (assignEach es env).length + 1 = es.length + 1; rw [h])
theorem assign_star : ∀ {es : List Expr} {env : PySem.Env}, es.any starred = false → (assignEach es env).findIdx? (·.1) = none
  | [], _, _ => rfl
  | e :: es, env, h => by
    rw [List.any_cons, Bool.or_eq_false_iff] at h
    have ih := assign_star (es := es) (env := env) h.2
    have q : ∃ t, assignEach (e :: es) env = (false, t) :: assignEach es env := by
      cases e <;> first
        | exact ⟨_, rfl⟩
        | exact absurd h.1 Bool.noConfusion
    obtain ⟨t, q⟩ := q
    rw [q, List.findIdx?_cons, ih]
    rfl
theorem xg_tup {j : Nat} {r : WGs} (hc : X.calm = true) (h : Xgs X es r) (hs : es.any starred = false) : Xg X (.Tuple es j pos) (gT es.length r) := by
  obtain ⟨t, p, q⟩ := h.ex
  refine ⟨_, pg_tup hc p assign_len (assign_star hs), ⟨fun {B F v m σ H d x k Q} hm re rl hw hq => ?_⟩⟩
  have vr := view_res hm rl
  unfold gT at hw
  split at hw
  · rename_i e
    rw [e] at vr
    obtain ⟨a, vs, rfl, ha, ra, _⟩ := vr
    have rs : RepL X.K F _ vs := ra
    exact ⟨a, vs, rfl, ha, by rw [ra.len]; exact hw.1, q.run hm re rs hw.2 hq⟩
  · exact hw.elim
theorem assign_sub (hs : isSlice b = false) (env : PySem.Env) (v : Value) : assign (.Subscript a b pos) env v = (do
      let ov ← holding [v] (eval a env)
      let iv ← holding [v, ov] (eval b env)
      standAt pos
      holding [v, ov, iv] (setItem ov iv v)
      release [v, ov, iv] []) := by
  cases b <;> first
    | rfl
    | cases hs
theorem xg_sub {wo wi : WE} (ho : Xe X (fun _ _ _ _ => False) a wo) (hi : Xe X (fun _ _ _ _ => False) b wi) (hs : isSlice b = false) : Xg X (.Subscript a b pos) (gSubL wo wi) := by
  obtain ⟨to, p1, g1⟩ := ho.ex
  obtain ⟨ti, p2, g2⟩ := hi.ex
  refine ⟨_, pg_sub p1 p2 set_list (assign_sub hs X.env), ⟨fun {B F v m σ H d x k Q} hm re rl hw hq => ?_⟩⟩
  refine g1.run hm re hw (fun o m1 F1 H1 vo hw1 e1 hm1 r1 => ?_) qx0
  refine g2.run hm1 (re.mono e1) hw1 (fun i m2 F2 H2 vi hw2 e2 hm2 r2 => ?_) qx0
  obtain ⟨p, xs, rfl, hp, hw3⟩ := mutL_ok hw2
  cases i with
  | int j =>
    obtain ⟨n, h1, h2⟩ := hw3
    unfold Rep at r1 r2
    subst r1 r2
    obtain ⟨us, q1, q2⟩ := (hm2.mem _ _ hp).2.1
    refine ⟨p, us, j, n, rfl, rfl, q1, by rw [q2.len]; exact h1, ?_⟩
    exact hq _ _ F2 _ _ h2 (e1.trans e2) (hm2.setL hp (q2.set n (rep_mono (e1.trans e2) d rl))) (re.mono (e1.trans e2))
  | _ => exact hw3.elim
end
/-! ### what is walked -/
abbrev WI := Env → Mem → KL → KX → Prop
/-- the walk yields these -/
def JOk (K : PySem.W.Frag) (J : It) (items : List D) (F : Hp) : Prop := ∀ i H F1, Same F F1 → Same F1 H → (i < items.length → J.go i H ∧ ∀ x H', J.yld i H x H' → ∃ d F2, items[i]? = some d ∧ Rep K F2 d x ∧
    ((F2 = F1 ∧ H' = H) ∨ ∃ p o, H p = none ∧ F2 = upd F1 p o ∧ H' = upd H p o)) ∧ (items.length ≤ i → J.stop i H)
structure GI (K : PySem.W.Frag) (W : WX) (t : TI) (w : WI) : Prop where
  run : ∀ {B : Bs} {F : Hp} {v : Env} {m : Mem} {σ : L2.St} {H : Hp} {k : KL} {kx : KX} {R : It → Hp → Prop}, HM K B F m H → REnv K F v σ → w v m k kx →
    (∀ J items m1 F1 H1, k items m1 → Same F F1 → HM K B F1 m1 H1 → JOk K J items F1 → R J H1) → QX K W B F σ kx → t σ H R
structure Xi (X : Cx) (W : WX) (tg it : Expr) (w : WI) : Prop where
  ex : ∃ t, PI X tg it t ∧ GI X.K W t w
theorem jok_list {K : PySem.W.Frag} {F : Hp} {a : Addr} {vs : List V} {xs : List D} (h : SqL K F a vs) (r : RepL K F xs vs) (inj : ∀ H, Same F H → ∀ ys, SqL K H a ys → True) : JOk K (Itl K a) xs F := by
  intro i H F1 e1 e2
  have hH := (e1.trans e2).seq h
  refine ⟨fun hi => ?_, fun hi => ⟨vs, hH, by rw [r.len]; exact hi⟩⟩
  obtain ⟨v, h1, h2⟩ := r.get (List.getElem?_eq_getElem hi)
  refine ⟨⟨vs, v, hH, h1⟩, fun x H' hy => ?_⟩
  obtain ⟨rfl, hy⟩ := hy
  have z := hy vs hH
  rw [h1] at z; cases z
  exact ⟨_, F1, List.getElem?_eq_getElem hi, rep_mono e1 _ h2, .inl ⟨rfl, rfl⟩⟩
theorem jok_tup {K : PySem.W.Frag} {F : Hp} {a : Addr} {vs : List V} {xs : List D} (h : SqT K F a vs) (r : RepL K F xs vs) : JOk K (Itt K a) xs F := by
  intro i H F1 e1 e2
  have hH := sqt_mono (e1.trans e2) h
  refine ⟨fun hi => ?_, fun hi => ⟨vs, hH, by rw [r.len]; exact hi⟩⟩
  obtain ⟨v, h1, h2⟩ := r.get (List.getElem?_eq_getElem hi)
  refine ⟨⟨vs, v, hH, h1⟩, fun x H' hy => ?_⟩
  obtain ⟨rfl, hy⟩ := hy
  have z := hy vs hH
  rw [h1] at z; cases z
  exact ⟨_, F1, List.getElem?_eq_getElem hi, rep_mono e1 _ h2, .inl ⟨rfl, rfl⟩⟩
section
variable {X : Cx} {W : WX} {e a b c o tg : Expr} {es : List Expr} {pos apos cpos : Pos}
/-- range -/
def rngD (lo c : Int) (n : Nat) : List D := (List.range n).map fun i => .int (lo + (i : Nat) * c)
theorem rngD_len {lo c : Int} {n : Nat} : (rngD lo c n).length = n := by simp [rngD]
theorem rngD_get {lo c : Int} {n i : Nat} (h : i < n) : (rngD lo c n)[i]? = some (.int (lo + (i : Nat) * c)) := by
  unfold rngD
  rw [List.getElem?_map, List.getElem?_range h]
  rfl
def iR1 (a : WE) : WI := fun v m k kx => a v m (fun x m1 => match x with
  | .int j => -(2 ^ 62) ≤ j ∧ j < 2 ^ 62 ∧ k (rngD 0 1 j.toNat) m1
  | _ => False) kx
def iR2 (a b : WE) : WI := fun v m k kx => a v m (fun x m1 => b v m1 (fun y m2 => match x, y with
  | .int i, .int j => -(2 ^ 62) ≤ i ∧ i < 2 ^ 62 ∧ -(2 ^ 62) ≤ j ∧ j < 2 ^ 62 ∧ k (rngD i 1 (j - i).toNat) m2
  | _, _ => False) kx) kx
def iR3 (a b c : WE) : WI := fun v m k kx => a v m (fun x m1 => b v m1 (fun y m2 => c v m2 (fun z m3 => match x, y, z with
  | .int i, .int j, .int l => ∃ n, RgC i j l n ∧ k (rngD i l n) m3
  | _, _, _ => False) kx) kx) kx
theorem jok_rng {K : PySem.W.Frag} {F : Hp} {lo : Int} {n : Nat} : JOk K (Itr lo n) (rngD lo 1 n) F := by
  intro i H F1 e1 e2
  rw [rngD_len]
  refine ⟨fun hi => ⟨hi, fun x H' hy => ?_⟩, fun hi => hi⟩
  obtain ⟨rfl, rfl⟩ := hy
  exact ⟨_, F1, rngD_get hi, by rw [Int.mul_one]; exact rep_int, .inl ⟨rfl, rfl⟩⟩
theorem jok_rngC {K : PySem.W.Frag} {F : Hp} {lo c : Int} {n : Nat} : JOk K (Itc lo c n) (rngD lo c n) F := by
  intro i H F1 e1 e2
  rw [rngD_len]
  refine ⟨fun hi => ⟨hi, fun x H' hy => ?_⟩, fun hi => hi⟩
  obtain ⟨rfl, rfl⟩ := hy
  exact ⟨_, F1, rngD_get hi, rep_int, .inl ⟨rfl, rfl⟩⟩
theorem star1 (h : starred a = false) (env : PySem.Env) : starEach [a] env = [(false, eval a env)] := star_eq h env
theorem xi_range1 {p : Pos} {wa : WE} (hg : Gl X "range") (hm : X.mg "range" = none) (h : Xe X W a wa) (hs : starred a = false) : Xi X W tg (.Call (.Name "range" p) [a] [] pos) (iR1 wa) := by
  obtain ⟨t, p1, g⟩ := h.ex
  refine ⟨_, pi_range1 hg hm (pa_cons p1 pa_nil (star_eq hs _)) (star1 hs _), ⟨fun {B F v m σ H k kx R} hm re hw hr hx => ?_⟩⟩
  refine g.run hm re hw (fun x m1 F1 H1 vx hw1 e1 hm1 r1 => ?_) hx
  cases x with
  | int j =>
    unfold Rep at r1
    obtain ⟨h1, h2, h3⟩ := hw1
    exact ⟨j, by rw [r1], h1, h2, hr _ _ m1 F1 H1 h3 e1 hm1 jok_rng⟩
  | _ => exact hw1.elim
theorem xi_range2 {p : Pos} {wa wb : WE} (hg : Gl X "range") (hm : X.mg "range" = none) (h : Xe X W a wa) (h2 : Xe X W b wb) (hs : starred a = false) (hs2 : starred b = false) : Xi X W tg (.Call (.Name "range" p) [a, b] [] pos) (iR2 wa wb) := by
  obtain ⟨t, p1, g⟩ := h.ex
  obtain ⟨u, p2, g2⟩ := h2.ex
  refine ⟨_, pi_range2 hg hm (pa_cons p1 (pa_cons p2 pa_nil (star_eq hs2 _)) (star_eq hs _)) (by rw [star_eq hs, star1 hs2]) (star1 hs2 _), ⟨fun {B F v m σ H k kx R} hm re hw hr hx => ?_⟩⟩
  refine g.run hm re hw (fun x m1 F1 H1 vx hw1 e1 hm1 r1 => ?_) hx
  refine g2.run hm1 (re.mono e1) hw1 (fun y m2 F2 H2 vy hw2 e2 hm2 r2 => ?_) (hx.mono e1)
  cases x <;> cases y <;> first
    | exact False.elim hw2
    | skip
  unfold Rep at r1 r2
  obtain ⟨h1, h2, h3, h4, h5⟩ := hw2
  exact ⟨_, _, by rw [r1, r2], ⟨h1, h2, h3, h4⟩, hr _ _ m2 F2 H2 h5 (e1.trans e2) hm2 jok_rng⟩
theorem xi_range3 {p : Pos} {wa wb wc : WE} (hg : Gl X "range") (hm : X.mg "range" = none) (h : Xe X W a wa) (h2 : Xe X W b wb) (h3 : Xe X W c wc) (hs : starred a = false) (hs2 : starred b = false) (hs3 : starred c = false) :
    Xi X W tg (.Call (.Name "range" p) [a, b, c] [] pos) (iR3 wa wb wc) := by
  obtain ⟨t, p1, g⟩ := h.ex
  obtain ⟨u, p2, g2⟩ := h2.ex
  obtain ⟨u, p3, g3⟩ := h3.ex
  refine ⟨_, pi_range3 hg hm (pa_cons p1 (pa_cons p2 (pa_cons p3 pa_nil (star_eq hs3 _)) (star_eq hs2 _)) (star_eq hs _)) (star_eq hs _) (any_star (es := [b, c]) (by simp [hs2, hs3])), ⟨fun {B F v m σ H k kx R} hm re hw hr hx => ?_⟩⟩
  refine g.run hm re hw (fun x m1 F1 H1 vx hw1 e1 hm1 r1 => ?_) hx
  refine g2.run hm1 (re.mono e1) hw1 (fun y m2 F2 H2 vy hw2 e2 hm2 r2 => ?_) (hx.mono e1)
  refine g3.run hm2 (re.mono (e1.trans e2)) hw2 (fun z m3 F3 H3 vz hw3 e3 hm3 r3 => ?_) (hx.mono (e1.trans e2))
  cases x <;> cases y <;> cases z <;> first
    | exact False.elim hw3
    | skip
  unfold Rep at r1 r2 r3
  obtain ⟨n, h1, h2⟩ := hw3
  exact ⟨_, _, _, n, by rw [r1, r2, r3], h1, hr _ _ m3 F3 H3 h2 ((e1.trans e2).trans e3) hm3 jok_rngC⟩
/-- enumerate -/
def enumD (i : Nat) : List D → List D
  | [] => []
  | d :: ds => .tup [.int (i : Nat), d] :: enumD (i + 1) ds
theorem enumD_len : ∀ (ds : List D) (i : Nat), (enumD i ds).length = ds.length
  | [], _ => rfl
  | d :: ds, i => by simp [enumD, enumD_len ds]
theorem enumD_get : ∀ (ds : List D) (i j : Nat) (d : D), ds[j]? = some d → (enumD i ds)[j]? = some (.tup [.int ((i + j : Nat) : Int), d])
  | [], _, _, _, h => by simp at h
  | d :: ds, i, 0, e, h => by simp at h; subst h; rfl
  | d :: ds, i, j + 1, e, h => by
    have := enumD_get ds (i + 1) j e (by simpa using h)
    rw [show i + 1 + j = i + (j + 1) by omega] at this
    simpa [enumD] using this
def iEnumD (a : WE) : WI := fun v m k kx => a v m (fun d m1 => match d with
  | .lst xs => k (enumD 0 xs) m1
  | .frl xs => k (enumD 0 xs) m1
  | _ => False) kx
theorem jok_enum {K : PySem.W.Frag} {F : Hp} {a : Addr} {vs : List V} {xs : List D} (h : SqL K F a vs) (r : RepL K F xs vs) : JOk K (Ite K a) (enumD 0 xs) F := by
  intro i H F1 e1 e2
  have hH := (e1.trans e2).seq h
  rw [enumD_len]
  refine ⟨fun hi => ?_, fun hi => ⟨vs, hH, by rw [r.len]; exact hi⟩⟩
  obtain ⟨v, h1, h2⟩ := r.get (List.getElem?_eq_getElem hi)
  refine ⟨⟨vs, v, hH, h1⟩, fun x H' hy => ?_⟩
  obtain ⟨T, y, rfl, hT, rfl, hy⟩ := hy
  have z := hy vs hH
  rw [h1] at z; cases z
  have hF : F1 T = none := e2.free hT
  refine ⟨_, upd F1 T _, enumD_get xs 0 i _ (List.getElem?_eq_getElem hi), ?_, .inr ⟨T, _, hT, rfl, rfl⟩⟩
  unfold Rep
  exact ⟨T, _, rfl, .inl (.inl upd_same), RepL.cons (by rw [Nat.zero_add]; exact rep_int) (RepL.cons (rep_mono (e1.trans (same_new hF)) _ h2) RepL.nil)⟩
theorem xi_enum {p tpos : Pos} {elts : List Expr} {kk : Nat} {wa : WE} (hg : Gl X "enumerate") (hm : X.mg "enumerate" = none) (h : Xe X W a wa) (hs : starred a = false) : Xi X W (.Tuple elts kk tpos) (.Call (.Name "enumerate" p) [a] [] pos) (iEnumD wa) := by
  obtain ⟨t, p1, g⟩ := h.ex
  refine ⟨_, pi_enum hg hm (pa_cons p1 pa_nil (star_eq hs _)) (star1 hs _), ⟨fun {B F v m σ H k kx R} hm re hw hr hx => ?_⟩⟩
  refine g.run hm re hw (fun d m1 F1 H1 x hw1 e1 hm1 r1 => ?_) hx
  cases d with
  | lst xs =>
    unfold Rep at r1
    obtain ⟨a, vs, rfl, h1, h2⟩ := r1
    exact ⟨a, vs, rfl, .inl (.inl (hm1.fr _ _ h1)), hr _ _ m1 F1 H1 hw1 e1 hm1 (jok_enum (.inl (.inl h1)) h2)⟩
  | frl xs =>
    unfold Rep at r1
    obtain ⟨a, vs, rfl, h1, h2⟩ := r1
    exact ⟨a, vs, rfl, hm1.fr.seq h1, hr _ _ m1 F1 H1 hw1 e1 hm1 (jok_enum h1 h2)⟩
  | _ => exact hw1.elim
/-- zip of two lists -/
def zipD : List D → List D → List D
  | d :: ds, e :: es => .tup [d, e] :: zipD ds es
  | _, _ => []
theorem zipD_len : ∀ (ds es : List D), (zipD ds es).length = min ds.length es.length
  | [], es => by simp [zipD]
  | d :: ds, [] => by simp [zipD]
  | d :: ds, e :: es => by simp [zipD, zipD_len ds es]
theorem zipD_get : ∀ (ds es : List D) (j : Nat) (d e : D), ds[j]? = some d → es[j]? = some e → (zipD ds es)[j]? = some (.tup [d, e])
  | [], _, _, _, _, h, _ => by simp at h
  | _ :: _, [], _, _, _, _, h => by simp at h
  | d :: ds, e :: es, 0, _, _, h, h2 => by simp at h h2; subst h h2; rfl
  | d :: ds, e :: es, j + 1, _, _, h, h2 => by
    have := zipD_get ds es j _ _ (by simpa using h) (by simpa using h2)
    simpa [zipD] using this
def lstOf : D → Option (List D)
  | .lst xs => some xs
  | .frl xs => some xs
  | _ => none
theorem lstOf_ok {K : PySem.W.Frag} {F : Hp} {d : D} {x : V} {xs : List D} (r : Rep K F d x) (h : lstOf d = some xs) : ∃ a vs, x = .ref a ∧ SqL K F a vs ∧ RepL K F xs vs := by
  cases d with
  | lst ys => cases h; unfold Rep at r; obtain ⟨a, vs, h1, h2, h3⟩ := r; exact ⟨a, vs, h1, .inl (.inl h2), h3⟩
  | frl ys => cases h; unfold Rep at r; exact r
  | _ => cases h
def iZipD (a b : WE) : WI := fun v m k kx => a v m (fun d m1 => b v m1 (fun e m2 => ∃ xs ys, lstOf d = some xs ∧ lstOf e = some ys ∧ k (zipD xs ys) m2) kx) kx
theorem jok_zip {K : PySem.W.Frag} {F : Hp} {a b : Addr} {vs us : List V} {xs ys : List D} (h : SqL K F a vs) (r : RepL K F xs vs) (h2 : SqL K F b us) (r2 : RepL K F ys us) : JOk K (Itz K a b) (zipD xs ys) F := by
  intro i H F1 e1 e2
  have hH := (e1.trans e2).seq h
  have hH2 := (e1.trans e2).seq h2
  rw [zipD_len]
  refine ⟨fun hi => ?_, fun hi => ⟨vs, us, hH, hH2, by rw [r.len, r2.len]; omega⟩⟩
  obtain ⟨v, g1, g2⟩ := r.get (List.getElem?_eq_getElem (show i < xs.length by omega))
  obtain ⟨u, k1, k2⟩ := r2.get (List.getElem?_eq_getElem (show i < ys.length by omega))
  refine ⟨⟨vs, us, v, u, hH, hH2, g1, k1⟩, fun x H' hy => ?_⟩
  obtain ⟨T, y, z, rfl, hT, rfl, hy, hz⟩ := hy
  have q := hy vs hH
  have q2 := hz us hH2
  rw [g1] at q; cases q
  rw [k1] at q2; cases q2
  have hF : F1 T = none := e2.free hT
  refine ⟨_, upd F1 T _, zipD_get xs ys i _ _ (List.getElem?_eq_getElem (by omega)) (List.getElem?_eq_getElem (by omega)), ?_, .inr ⟨T, _, hT, rfl, rfl⟩⟩
  unfold Rep
  exact ⟨T, _, rfl, .inl (.inl upd_same), RepL.cons (rep_mono (e1.trans (same_new hF)) _ g2) (RepL.cons (rep_mono (e1.trans (same_new hF)) _ k2) RepL.nil)⟩
theorem xi_zip {p tpos : Pos} {elts : List Expr} {kk : Nat} {wa wb : WE} (hg : Gl X "zip") (hm : X.mg "zip" = none) (h : Xe X W a wa) (h2 : Xe X W b wb) (hs : starred a = false) (hs2 : starred b = false) : Xi X W (.Tuple elts kk tpos) (.Call (.Name "zip" p) [a, b] [] pos) (iZipD wa wb) := by
  obtain ⟨t, p1, g⟩ := h.ex
  obtain ⟨u, p2, g2⟩ := h2.ex
  refine ⟨_, pi_zip hg hm (pa_cons p1 (pa_cons p2 pa_nil (star_eq hs2 _)) (star_eq hs _)) (star_eq hs _) (any_star (es := [b]) (by simp [hs2])), ⟨fun {B F v m σ H k kx R} hm re hw hr hx => ?_⟩⟩
  refine g.run hm re hw (fun d m1 F1 H1 x hw1 e1 hm1 r1 => ?_) hx
  refine g2.run hm1 (re.mono e1) hw1 (fun e m2 F2 H2 y hw2 e2 hm2 r2 => ?_) (hx.mono e1)
  obtain ⟨xs, ys, q1, q2, hk⟩ := hw2
  obtain ⟨a, vs, rfl, a1, a2⟩ := lstOf_ok (rep_mono e2 d r1) q1
  obtain ⟨b, us, rfl, b1, b2⟩ := lstOf_ok r2 q2
  exact ⟨a, b, vs, us, rfl, hm2.fr.seq a1, hm2.fr.seq b1, hr _ _ m2 F2 H2 hk (e1.trans e2) hm2 (jok_zip a1 a2 b1 b2)⟩
end
/-! ### statements -/
structure SK where
  nx : Env → Mem → Prop
  rt : D → Mem → Prop
  bk : Env → Mem → Prop
  ct : Env → Mem → Prop
  ex : Exn → Env → Mem → Prop
abbrev WS := Env → Mem → SK → Prop
structure RL (K : PySem.W.Frag) (W : WX) (B : Bs) (F : Hp) (P : SK) (E : Ends) : Prop where
  nx : QG K B F P.nx E.nx
  rt : QE K B F P.rt E.rt
  bk : QG K B F P.bk E.bk
  ct : QG K B F P.ct E.ct
  ex : ∀ x v m F' σ H dd, P.ex x v m → Same F F' → HM K B F' m H → REnv K F' v σ → RX K F' x dd → W (.ref (He.ga K x.C)) (some dd) σ H
structure GS (K : PySem.W.Frag) (W : WX) (t : TS) (w : WS) : Prop where
  run : ∀ {B : Bs} {F : Hp} {v : Env} {m : Mem} {σ : L2.St} {H : Hp} {P : SK} {E : Ends}, HM K B F m H → REnv K F v σ → w v m P → RL K W B F P E → t E σ H
theorem RL.mono {K : PySem.W.Frag} {W : WX} {B : Bs} {F F1 : Hp} {P : SK} {E : Ends} (h : RL K W B F P E) (e : Same F F1) : RL K W B F1 P E :=
  ⟨h.nx.mono e, h.rt.mono e, h.bk.mono e, h.ct.mono e, fun x v m F' σ H dd a b => h.ex x v m F' σ H dd a (e.trans b)⟩
theorem RL.qx {K : PySem.W.Frag} {W : WX} {B : Bs} {F : Hp} {P : SK} {E : Ends} {v : Env} {σ : L2.St} (h : RL K W B F P E) (re : REnv K F v σ) : QX K W B F σ (fun x m => P.ex x v m) :=
  fun x m F' H dd a b c r => h.ex x v m F' σ H dd a b c (re.mono b) r
structure Xs (X : Cx) (W : WX) (st : Stmt) (w : WS) : Prop where
  ex : ∃ t, PS X st t ∧ GS X.K W t w
structure Xss (X : Cx) (W : WX) (sts : List Stmt) (w : WS) : Prop where
  ex : ∃ t, PSs X sts t ∧ GS X.K W t w
def sNil : WS := fun v m P => P.nx v m
def sSeq (a b : WS) : WS := fun v m P => a v m { P with nx := fun v1 m1 => ∃ v2 m2, Gh v1 m1 v2 m2 ∧ b v2 m2 P }
def sSet (i : Nat) (e : WE) : WS := fun v m P => e v m (fun d m1 => P.nx (v.set i (some d)) m1) fun x m => P.ex x v m
def sAsg (g : WG) (e : WE) : WS := fun v m P => e v m (fun d m1 => g d v m1 P.nx) fun x m => P.ex x v m
def sAug (i : Nat) (o : O2) (e : WE) : WS := fun v m P => match look v i with
  | some d => e v m (fun y m1 => o m1 (res m1 d) (res m1 y) fun z m2 => P.nx (v.set i (some z)) m2) fun x m => P.ex x v m
  | none => False
def sDrop (e : WE) : WS := fun v m P => e v m (fun _ m1 => P.nx v m1) fun x m => P.ex x v m
def sRet (e : WE) : WS := fun v m P => e v m (fun d m1 => ∃ d' m', GhD d m1 d' m' ∧ P.rt d' m') fun x m => P.ex x v m
def sRetN : WS := fun _ m P => ∃ m', (∀ a d, m' a = some d → m a = some d) ∧ P.rt .non m'
def sIf (c : WT) (a b : WS) : WS := fun v m P => c v m (fun q m1 => (q = true → a v m1 P) ∧ (q = false → b v m1 P)) fun x m => P.ex x v m
def sBrk : WS := fun v m P => ∃ v' m', Gh v m v' m' ∧ P.bk v' m'
def sCont : WS := fun v m P => P.ct v m
def sWhile (c : WT) (b : WS) : WS := fun v m P => ∃ I : Nat → Env → Mem → Prop, (∃ n, I n v m) ∧ ∀ n v m, I n v m → c v m (fun q m1 => (q = true → b v m1 { P with
    nx := fun v1 m1 => ∃ v2 m2 n', Gh v1 m1 v2 m2 ∧ n' < n ∧ I n' v2 m2
    ct := fun v1 m1 => ∃ v2 m2 n', Gh v1 m1 v2 m2 ∧ n' < n ∧ I n' v2 m2
    bk := P.nx }) ∧ (q = false → P.nx v m1)) fun x m => P.ex x v m
def sFor (it : WI) (g : WG) (b : WS) : WS := fun v m P => it v m (fun items m1 => ∃ I : Nat → Env → Mem → Prop, I 0 v m1 ∧
  (∀ i d v1 m2, items[i]? = some d → I i v1 m2 → g d v1 m2 fun v2 m3 => b v2 m3 { P with
    nx := fun v3 m4 => ∃ v4 m5, Gh v3 m4 v4 m5 ∧ I (i + 1) v4 m5
    ct := fun v3 m4 => ∃ v4 m5, Gh v3 m4 v4 m5 ∧ I (i + 1) v4 m5
    bk := P.nx }) ∧ ∀ v1 m2, I items.length v1 m2 → P.nx v1 m2) fun x m => P.ex x v m
def isComp : Expr → Bool
  | .ListComp .. => true
  | .SetComp .. => true
  | .DictComp .. => true
  | _ => false
section
variable {X : Cx} {W : WX} {e a b c o tg it : Expr} {es : List Expr} {pos apos cpos : Pos} {st : Stmt} {sts : List Stmt}
theorem swap_ok {t : Option Expr} {l : Nat} {env : PySem.Env} (h : isComp e = false) : swapsWith e t l env = pure false := by
  cases e <;> first
    | rfl
    | cases h
theorem xss_nil : Xss X W [] sNil := ⟨_, pss_nil, ⟨fun {B F v m σ H P E} hm re hw rl => rl.nx v m F H σ hw (Same.refl _) hm re⟩⟩
theorem gs_seq {K : PySem.W.Frag} {t u : TS} {wa wb : WS} (h1 : GS K W t wa) (h2 : GS K W u wb) : GS K W (tSeq t u) (sSeq wa wb) := by
  refine ⟨fun {B F v m σ H P E} hm re hw rl => ?_⟩
  refine h1.run hm re hw ⟨fun v1 m1 F1 H1 σ1 hw1 e1 hm1 re1 => ?_, rl.rt, rl.bk, rl.ct, rl.ex⟩
  obtain ⟨v2, m2, g, hw2⟩ := hw1
  obtain ⟨F2, e2, hm2, re2⟩ := g K B F1 H1 σ1 hm1 re1
  exact h2.run hm2 re2 hw2 (rl.mono (e1.trans e2))
theorem xss_cons {wa wb : WS} (h1 : Xs X W st wa) (h2 : Xss X W sts wb) : Xss X W (st :: sts) (sSeq wa wb) := by
  obtain ⟨t, p, g⟩ := h1.ex
  obtain ⟨u, p2, g2⟩ := h2.ex
  exact ⟨_, pss_cons p p2, gs_seq g g2⟩
theorem xss_one {wa : WS} (h1 : Xs X W st wa) : Xss X W [st] wa := by
  obtain ⟨t, p, g⟩ := h1.ex
  exact ⟨_, pss_one p, g⟩
theorem xs_set {i : Nat} {x : Str} {w : WE} {pos' : Pos} (hN : X.N.Nodup) (hi : X.N[i]? = some x) (hx : Loc X.env.scope x) (h : Xe X W e w) (hc : isComp e = false) (hf : X.fn x = true ∨ X.env.scope.names.lookup x = some .local) : Xs X W (.Assign [.Name x pos'] e pos) (sSet i w) := by
  obtain ⟨t, p, g⟩ := h.ex
  refine ⟨_, ps_set hN hi hx p (swap_ok hc) hf, ⟨fun {B F v m σ H P E} hm re hw rl => ?_⟩⟩
  exact g.run hm re hw (fun d m1 F1 H1 x hw1 e1 hm1 r1 => rl.nx _ m1 F1 H1 _ hw1 e1 hm1 ((re.mono e1).set i r1)) (rl.qx re)
theorem gs_asg {K : PySem.W.Frag} {te : TE} {tg : TG} {w : WE} {g : WG} (h1 : GE K W te w) (h2 : GG K tg g) : GS K W (tAsg te tg) (sAsg g w) := by
  refine ⟨fun {B F v m σ H P E} hm re hw rl => ?_⟩
  exact h1.run hm re hw (fun d m1 F1 H1 x hw1 e1 hm1 r1 => h2.run hm1 (re.mono e1) r1 hw1 (rl.nx.mono e1)) (rl.qx re)
theorem sole_ok (hc : isComp e = false) {l : Nat} {env : PySem.Env} : swapsWithSole [tg] e l env = pure false := by
  show swapsWith e _ l env = pure false
  exact swap_ok hc
theorem xs_asg {w : WE} {g : WG} (h : Xe X W e w) (hg : Xg X tg g) (hc : isComp e = false) (hw : swappedStores [tg] e X.env = pure none) (hs : starred tg = false) : Xs X W (.Assign [tg] e pos) (sAsg g w) := by
  obtain ⟨t, p, q⟩ := h.ex
  obtain ⟨u, p2, q2⟩ := hg.ex
  exact ⟨_, ps_asg p p2 (sole_ok hc) hw (assign_eq (es := []) hs _), gs_asg q q2⟩
theorem xs_aug {i : Nat} {x : Str} {op : Operator} {ob : O2} {w : WE} {pos' : Pos} (hN : X.N.Nodup) (hi : X.N[i]? = some x) (hx : Loc X.env.scope x) (h : Xe X W e w) (ho : XO X (inplaceOp op) ob) (hf : X.fn x = true ∨ X.env.scope.names.lookup x = some .local) : Xs X W (.AugAssign (.Name x pos') op e pos) (sAug i ob w) := by
  obtain ⟨t, p, g⟩ := h.ex
  obtain ⟨r, po, go⟩ := ho.ex
  refine ⟨_, ps_aug hN hi hx p po hf, ⟨fun {B F v m σ H P E} hm re hw rl => ?_⟩⟩
  unfold sAug at hw
  cases q : look v i with
  | none => rw [q] at hw; exact hw.elim
  | some d =>
    rw [q] at hw
    obtain ⟨y, h1, h2⟩ := re.get i d (look_some q)
    refine ⟨y, h1, g.run hm re hw (fun z m1 F1 H1 u hw1 e1 hm1 r1 => ?_) (rl.qx re)⟩
    refine go.run hm1 (view_res hm1 (rep_mono e1 d h2)) (view_res hm1 r1) hw1 fun w m2 F2 H2 q2 hk e2 hm2 r2 => ?_
    exact rl.nx _ m2 F2 H2 _ hk (e1.trans e2) hm2 ((re.mono (e1.trans e2)).set i r2)
theorem xs_drop {w : WE} (h : Xe X W e w) (hc : isComp e = false) : Xs X W (.Expr e pos) (sDrop w) := by
  obtain ⟨t, p, g⟩ := h.ex
  refine ⟨_, ps_expr p (swap_ok hc), ⟨fun {B F v m σ H P E} hm re hw rl => ?_⟩⟩
  exact g.run hm re hw (fun d m1 F1 H1 x hw1 e1 hm1 r1 => rl.nx _ m1 F1 H1 _ hw1 e1 hm1 (re.mono e1)) (rl.qx re)
theorem xs_ret {w : WE} (h : Xe X W e w) : Xs X W (.Return (some e) pos) (sRet w) := by
  obtain ⟨t, p, g⟩ := h.ex
  refine ⟨_, ps_ret p, ⟨fun {B F v m σ H P E} hm re hw rl => ?_⟩⟩
  refine g.run hm re hw (fun d m1 F1 H1 x hw1 e1 hm1 r1 => ?_) (rl.qx re)
  obtain ⟨d', m', gh, hk⟩ := hw1
  obtain ⟨F2, e2, hm2, r2⟩ := gh _ B F1 H1 x hm1 r1
  exact rl.rt d' m' F2 H1 x hk (e1.trans e2) hm2 r2
theorem xs_retN : Xs X W (.Return none pos) sRetN := by
  refine ⟨_, ps_retN, ⟨fun {B F v m σ H P E} hm re hw rl => ?_⟩⟩
  obtain ⟨m', hs, hk⟩ := hw
  exact rl.rt .non m' F H _ hk (Same.refl _) (hm.drop hs) rep_non
theorem xs_pass : Xs X W (.Pass pos) sNil := ⟨_, ps_pass, ⟨fun {B F v m σ H P E} hm re hw rl => rl.nx v m F H σ hw (Same.refl _) hm re⟩⟩
theorem xs_break : Xs X W (.Break pos) sBrk := ⟨_, ps_break, ⟨fun {B F v m σ H P E} hm re hw rl => by
  obtain ⟨v', m', g, hk⟩ := hw
  obtain ⟨F2, e2, hm2, re2⟩ := g _ B F H σ hm re
  exact rl.bk v' m' F2 H σ hk e2 hm2 re2⟩⟩
theorem xs_cont : Xs X W (.Continue pos) sCont := ⟨_, ps_continue, ⟨fun {B F v m σ H P E} hm re hw rl => rl.ct v m F H σ hw (Same.refl _) hm re⟩⟩
theorem xs_doc {x j pos'} : Xs X W (.Expr (.Constant (.str x) j pos') pos) sNil := ⟨_, ps_doc, ⟨fun {B F v m σ H P E} hm re hw rl => rl.nx v m F H σ hw (Same.refl _) hm re⟩⟩
theorem xs_if {wc : WT} {wa wb : WS} {sa sb : List Stmt} (hc : Xt X W c wc) (ha : Xss X W sa wa) (hb : Xss X W sb wb) : Xs X W (.If c sa sb pos) (sIf wc wa wb) := by
  obtain ⟨tc, pc, gc⟩ := hc.ex
  obtain ⟨ta, pa, ga⟩ := ha.ex
  obtain ⟨tb, pb, gb⟩ := hb.ex
  refine ⟨_, ps_if pc pa pb, ⟨fun {B F v m σ H P E} hm re hw rl => ?_⟩⟩
  refine gc.run hm re hw (fun q m1 F1 H1 hw1 e1 hm1 => ?_) (rl.qx re)
  cases q with
  | true => rw [if_pos rfl]; exact ga.run hm1 (re.mono e1) (hw1.1 rfl) (rl.mono e1)
  | false => rw [if_neg Bool.false_ne_true]; exact gb.run hm1 (re.mono e1) (hw1.2 rfl) (rl.mono e1)
theorem xs_while {wc : WT} {wb : WS} {sb : List Stmt} (hp : PassesOwn (model X.prog X.w) X.A X.env X.xe) (hc : Xt X W c wc) (hb : Xss X W sb wb) : Xs X W (.While c sb [] pos) (sWhile wc wb) := by
  obtain ⟨tc, pc, gc⟩ := hc.ex
  obtain ⟨tb, pb, gb⟩ := hb.ex
  refine ⟨_, ps_while hp pc pb, ⟨fun {B F v m σ H P E} hm re hw rl => ?_⟩⟩
  obtain ⟨I, ⟨n0, h0⟩, hI⟩ := hw
  refine ⟨fun n σ H => ∃ v m F', I n v m ∧ Same F F' ∧ HM X.K B F' m H ∧ REnv X.K F' v σ, ⟨n0, v, m, F, h0, Same.refl _, hm, re⟩, ?_⟩
  rintro n σ H ⟨v, m, F', hi, e', hm, re⟩
  have rl' := rl.mono e'
  refine gc.run hm re (hI n v m hi) (fun q m1 F1 H1 hw1 e1 hm1 => ?_) (rl'.qx re)
  cases q with
  | false => rw [if_neg Bool.false_ne_true]; exact rl'.nx v m1 F1 H1 σ (hw1.2 rfl) e1 hm1 (re.mono e1)
  | true =>
    rw [if_pos rfl]
    refine ⟨fun σ' H' => ∃ n', n' < n ∧ ∃ v m F', I n' v m ∧ Same F F' ∧ HM X.K B F' m H' ∧ REnv X.K F' v σ', fun σ' H' h => h, ?_⟩
    have back : ∀ v1 m1 F2 H2 σ2, (∃ v2 m2 n', Gh v1 m1 v2 m2 ∧ n' < n ∧ I n' v2 m2) → Same F1 F2 → HM X.K B F2 m1 H2 → REnv X.K F2 v1 σ2 → ∃ n', n' < n ∧ ∃ v m F', I n' v m ∧ Same F F' ∧ HM X.K B F' m H2 ∧ REnv X.K F' v σ2 := by
      rintro v1 m1 F2 H2 σ2 ⟨v2, m2, n', g, l, i2⟩ e2 hm2 re2
      obtain ⟨F3, e3, hm3, re3⟩ := g _ B F2 H2 σ2 hm2 re2
      exact ⟨n', l, v2, m2, F3, i2, ((e'.trans e1).trans e2).trans e3, hm3, re3⟩
    exact gb.run hm1 (re.mono e1) (hw1.1 rfl) ⟨fun v m F2 H2 σ2 a b c d => back v m F2 H2 σ2 a b c d, (rl'.mono e1).rt, (rl'.mono e1).nx, fun v m F2 H2 σ2 a b c d => back v m F2 H2 σ2 a b c d, (rl'.mono e1).ex⟩
theorem xs_for {wi : WI} {g : WG} {wb : WS} {sb : List Stmt} (hp : PassesOwn (model X.prog X.w) X.A X.env X.xe) (hc : X.calm = true) (hi : Xi X W tg it wi) (hg : Xg X tg g) (hb : Xss X W sb wb) (hs : ∀ x, foldedSetIterable it X.env x = pure x) : Xs X W (.For tg it sb [] pos) (sFor wi g wb) := by
  obtain ⟨ti, pi, gi⟩ := hi.ex
  obtain ⟨tg, pg, gg⟩ := hg.ex
  obtain ⟨tb, pb, gb⟩ := hb.ex
  refine ⟨_, ps_for hp hc pi pg pb hs, ⟨fun {B F v m σ H P E} hm re hw rl => ?_⟩⟩
  refine gi.run hm re hw (fun J items m1 F1 H1 hw1 e1 hm1 jo => ?_) (rl.qx re)
  obtain ⟨I, h0, hI, hE⟩ := hw1
  refine ⟨fun i n σ H => n = items.length - i ∧ i ≤ items.length ∧ ∃ v m F', I i v m ∧ Same F1 F' ∧ HM X.K B F' m H ∧ REnv X.K F' v σ, ⟨items.length, by simp, Nat.zero_le _, v, m1, F1, h0, Same.refl _, hm1, re.mono e1⟩, ?_⟩
  rintro i n σ H ⟨rfl, hil, v, m, F', hi, e', hm, re⟩
  have j := jo i H F' e' hm.fr
  by_cases hlt : i < items.length
  · obtain ⟨jg, jy⟩ := j.1 hlt
    refine .inr ⟨jg, fun σ' H' => ∃ v m F', I (i + 1) v m ∧ Same F1 F' ∧ HM X.K B F' m H' ∧ REnv X.K F' v σ', fun σ' H' h => ⟨items.length - (i + 1), by omega, rfl, hlt, h⟩, fun x H' y => ?_⟩
    obtain ⟨d, F2, hd, rd, hf⟩ := jy x H' y
    have big : ∃ e2 : Same F' F2, HM X.K B F2 m H' := by
      rcases hf with ⟨rfl, rfl⟩ | ⟨p, o, hp, rfl, rfl⟩
      · exact ⟨Same.refl _, hm⟩
      · exact ⟨same_new (hm.fn hp), hm.new hp o⟩
    obtain ⟨e2, hm2⟩ := big
    refine gg.run hm2 (re.mono e2) rd (hI i d v m hd hi) fun v3 m3 F3 H3 σ3 hw3 e3 hm3 re3 => ?_
    have eall := (e'.trans e2).trans e3
    have back : ∀ v1 m1 F4 H4 σ4, (∃ v2 m2, Gh v1 m1 v2 m2 ∧ I (i + 1) v2 m2) → Same F3 F4 → HM X.K B F4 m1 H4 → REnv X.K F4 v1 σ4 → ∃ v m F', I (i + 1) v m ∧ Same F1 F' ∧ HM X.K B F' m H4 ∧ REnv X.K F' v σ4 := by
      rintro v1 m1 F4 H4 σ4 ⟨v2, m2, g, i2⟩ e4 hm4 re4
      obtain ⟨F5, e5, hm5, re5⟩ := g _ B F4 H4 σ4 hm4 re4
      exact ⟨v2, m2, F5, i2, (eall.trans e4).trans e5, hm5, re5⟩
    have rl3 := rl.mono (e1.trans eall)
    exact gb.run hm3 re3 hw3 ⟨fun v m F2 H2 σ2 a b c d => back v m F2 H2 σ2 a b c d, rl3.rt, rl3.nx, fun v m F2 H2 σ2 a b c d => back v m F2 H2 σ2 a b c d, rl3.ex⟩
  · have el : i = items.length := by omega
    subst el
    exact .inl ⟨j.2 (Nat.le_refl _), rl.nx v m F' H σ (hE v m hi) (e1.trans e') hm re⟩
end
end Ab
end
section
/-! Ab7: comprehensions, raise, try, defs. -/
namespace Ab
open PySem PySem.Spec L2
abbrev W0 : WX := fun _ _ _ _ => False
/-! ### one reading for many contexts -/
theorem uni_e {ι : Type} {Xf : ι → Cx} {K : PySem.W.Frag} {W : WX} {e : Expr} {w : WE} (hK : ∀ i, (Xf i).K = K) (h : ∀ i, Xe (Xf i) W e w) : ∃ t, (∀ i, PE (Xf i) e t) ∧ GE K W t w := by
  have h' : ∀ i, ∃ t, PE (Xf i) e t ∧ GE K W t w := fun i => by
    obtain ⟨t, p, g⟩ := (h i).ex
    rw [hK i] at g
    exact ⟨t, p, g⟩
  refine ⟨fun σ H Q => ∀ i, Classical.choose (h' i) σ H Q, fun i => ⟨fun pins s σ H Q I hq => (Classical.choose_spec (h' i)).1.run pins s σ H Q I (hq i)⟩, ⟨fun {B F v m σ H k kx Q} hm re hw hq hx i => (Classical.choose_spec (h' i)).2.run hm re hw hq hx⟩⟩
/-! ### the tests of a comprehension -/
structure Xts (X : Cx) (W : WX) (ifs : List Expr) (w : WT) : Prop where
  ex : ∃ t, PTs X ifs t ∧ GT X.K W t w
def wYes : WT := fun _ m k _ => k true m
theorem xts_nil {X : Cx} {W : WX} : Xts X W [] wYes := ⟨_, pts_nil, ⟨fun {B F v m σ H k kx Q} hm re hw hq hx => hq true m F H hw (Same.refl _) hm⟩⟩
theorem xts_one {X : Cx} {W : WX} {e : Expr} {w : WT} (h : Xt X W e w) : Xts X W [e] w := by
  obtain ⟨t, p, g⟩ := h.ex
  exact ⟨t, pts_one p, g⟩
theorem uni_ts {ι : Type} {Xf : ι → Cx} {K : PySem.W.Frag} {W : WX} {e : List Expr} {w : WT} (hK : ∀ i, (Xf i).K = K) (h : ∀ i, Xts (Xf i) W e w) : ∃ t, (∀ i, PTs (Xf i) e t) ∧ GT K W t w := by
  have h' : ∀ i, ∃ t, PTs (Xf i) e t ∧ GT K W t w := fun i => by
    obtain ⟨t, p, g⟩ := (h i).ex
    rw [hK i] at g
    exact ⟨t, p, g⟩
  refine ⟨fun σ H Q => ∀ i, Classical.choose (h' i) σ H Q, fun i => ⟨fun pins s σ H Q I hq => (Classical.choose_spec (h' i)).1.run pins s σ H Q I (hq i)⟩, ⟨fun {B F v m σ H k kx Q} hm re hw hq hx i => (Classical.choose_spec (h' i)).2.run hm re hw hq hx⟩⟩
/-! ### the targets of a comprehension: names of its own -/
theorem wipe_get : ∀ (vs : List Nat) (σ : L2.St) (j : Nat), (wipe σ vs)[j]? = if j ∈ vs then (σ[j]?).map (fun _ => none) else σ[j]?
  | [], σ, j => by simp [wipe]
  | v :: vs, σ, j => by
    show ((wipe σ vs).set v none)[j]? = _
    by_cases h : v = j
    · subst h
      rw [if_pos List.mem_cons_self]
      by_cases hl : v < (wipe σ vs).length
      · rw [List.getElem?_set_self hl]
        rw [wipe_length] at hl
        rw [List.getElem?_eq_getElem hl]
        rfl
      · rw [List.getElem?_eq_none (by rw [List.length_set]; omega)]
        rw [wipe_length] at hl
        rw [List.getElem?_eq_none (by omega)]
        rfl
    · rw [List.getElem?_set_ne h, wipe_get vs σ j]
      have e : (j ∈ v :: vs) ↔ j ∈ vs := by simp [Ne.symm h]
      by_cases z : j ∈ vs
      · rw [if_pos z, if_pos (e.mpr z)]
      · rw [if_neg z, if_neg (fun q => z (e.mp q))]
theorem wipe_set {vs : List Nat} {σ : L2.St} {i : Nat} {x : Option V} (h : i ∈ vs) : wipe (σ.set i x) vs = wipe σ vs := by
  apply List.ext_getElem?
  intro j
  rw [wipe_get, wipe_get]
  by_cases e : i = j
  · subst e
    rw [if_pos h, if_pos h]
    by_cases hl : i < σ.length
    · rw [List.getElem?_set_self hl, List.getElem?_eq_getElem hl]; rfl
    · rw [List.getElem?_eq_none (by rw [List.length_set]; omega), List.getElem?_eq_none (by omega)]
  · rw [List.getElem?_set_ne e]
theorem wipe_wipe {vs : List Nat} {σ : L2.St} : wipe (wipe σ vs) vs = wipe σ vs := by
  apply List.ext_getElem?
  intro j
  rw [wipe_get, wipe_get]
  by_cases h : j ∈ vs
  · rw [if_pos h, if_pos h]
    cases σ[j]? <;> rfl
  · rw [if_neg h, if_neg h]
def wipeE (v : Env) : List Nat → Env
  | [] => v
  | i :: is => (wipeE v is).set i none
theorem REnv.wipes {K : PySem.W.Frag} {F : Hp} {v : Env} {σ : L2.St} (r : REnv K F v σ) : ∀ is : List Nat, REnv K F (wipeE v is) (L2.wipe σ is)
  | [] => r
  | i :: is => (r.wipes is).wipe i
structure GGo (K : PySem.W.Frag) (own : List Nat) (t : TG) (w : WG) : Prop where
  run : ∀ {B : Bs} {F : Hp} {v : Env} {m : Mem} {σ : L2.St} {H : Hp} {d : D} {x : V} {k : Env → Mem → Prop} {Q : L2.St → Hp → Prop}, HM K B F m H → REnv K F v σ → Rep K F d x → w d v m k →
    (∀ v' m' F' H' σ', k v' m' → Same F F' → HM K B F' m' H' → REnv K F' v' σ' → wipe σ' own = wipe σ own → Q σ' H') → t x σ H Q
structure GGso (K : PySem.W.Frag) (own : List Nat) (t : TGs) (w : WGs) : Prop where
  run : ∀ {B : Bs} {F : Hp} {v : Env} {m : Mem} {σ : L2.St} {H : Hp} {ds : List D} {xs : List V} {k : Env → Mem → Prop} {Q : L2.St → Hp → Prop}, HM K B F m H → REnv K F v σ → RepL K F ds xs → w ds v m k →
    (∀ v' m' F' H' σ', k v' m' → Same F F' → HM K B F' m' H' → REnv K F' v' σ' → wipe σ' own = wipe σ own → Q σ' H') → t xs σ H Q
structure Xgo (X : Cx) (own : List Nat) (tg : Expr) (w : WG) : Prop where
  ex : ∃ t, PG X tg t ∧ GGo X.K own t w
structure Xgso (X : Cx) (own : List Nat) (tgs : List Expr) (w : WGs) : Prop where
  ex : ∃ t, PGs X tgs t ∧ GGso X.K own t w
theorem uni_g {ι : Type} {Xf : ι → Cx} {K : PySem.W.Frag} {own : List Nat} {e : Expr} {w : WG} (hK : ∀ i, (Xf i).K = K) (h : ∀ i, Xgo (Xf i) own e w) : ∃ t, (∀ i, PG (Xf i) e t) ∧ GGo K own t w := by
  have h' : ∀ i, ∃ t, PG (Xf i) e t ∧ GGo K own t w := fun i => by
    obtain ⟨t, p, g⟩ := (h i).ex
    rw [hK i] at g
    exact ⟨t, p, g⟩
  refine ⟨fun x σ H Q => ∀ i, Classical.choose (h' i) x σ H Q, fun i => ⟨fun pins s σ H x u Q I r hq => (Classical.choose_spec (h' i)).1.run pins s σ H x u Q I r (hq i)⟩, ⟨fun {B F v m σ H d x k Q} hm re r hw hq i => (Classical.choose_spec (h' i)).2.run hm re r hw hq⟩⟩
section
variable {X : Cx} {W : WX} {e a b c o tg it elt : Expr} {es ifs : List Expr} {pos apos cpos : Pos} {own : List Nat}
theorem xgo_name {i : Nat} {x : Str} (hN : X.N.Nodup) (hi : X.N[i]? = some x) (hx : Loc X.env.scope x) (hf : X.fn x = true ∨ X.env.scope.names.lookup x = some .local) (ho : i ∈ own) : Xgo X own (.Name x pos) (gN i) :=
  ⟨_, pg_name hN hi hx hf, ⟨fun {B F v m σ H d x k Q} hm re r hw hq => hq _ m F H _ hw (Same.refl _) hm (re.set i r) (wipe_set ho)⟩⟩
theorem xgso_nil : Xgso X own [] gs0 := by
  refine ⟨_, pgs_nil, ⟨fun {B F v m σ H ds xs k Q} hm re r hw hq => ?_⟩⟩
  cases ds with
  | nil => exact ⟨repL_nil.mp r, hq v m F H σ hw (Same.refl _) hm re rfl⟩
  | cons d ds => exact hw.elim
theorem xgso_cons {g : WG} {r : WGs} (h1 : Xgo X own e g) (h2 : Xgso X own es r) (hs : starred e = false) : Xgso X own (e :: es) (gs1 g r) := by
  obtain ⟨t, p, q⟩ := h1.ex
  obtain ⟨u, p2, q2⟩ := h2.ex
  refine ⟨_, pgs_cons p p2 (assign_eq hs _), ⟨fun {B F v m σ H ds xs k Q} hm re rl hw hq => ?_⟩⟩
  cases ds with
  | nil => exact hw.elim
  | cons d ds =>
    obtain ⟨x, xr, rfl, r1, r2⟩ := repL_cons.mp rl
    refine ⟨x, xr, rfl, q.run hm re r1 hw fun v1 m1 F1 H1 σ1 hw1 e1 hm1 re1 z1 => ?_⟩
    exact q2.run hm1 re1 (repL_mono e1 _ r2) hw1 fun v2 m2 F2 H2 σ2 hw2 e2 hm2 re2 z2 => hq v2 m2 F2 H2 σ2 hw2 (e1.trans e2) hm2 re2 (z2.trans z1)
theorem xgo_tup {j : Nat} {r : WGs} (hc : X.calm = true) (h : Xgso X own es r) (hs : es.any starred = false) : Xgo X own (.Tuple es j pos) (gT es.length r) := by
  obtain ⟨t, p, q⟩ := h.ex
  refine ⟨_, pg_tup hc p assign_len (assign_star hs), ⟨fun {B F v m σ H d x k Q} hm re rl hw hq => ?_⟩⟩
  have vr := view_res hm rl
  unfold gT at hw
  split at hw
  · rename_i e
    rw [e] at vr
    obtain ⟨a, vs, rfl, ha, ra, _⟩ := vr
    have rs : RepL X.K F _ vs := ra
    exact ⟨a, vs, rfl, ha, by rw [ra.len]; exact hw.1, q.run hm re rs hw.2 hq⟩
  · exact hw.elim
/-! ### comprehensions -/
def wLc (z : Bool) (it : WI) (own : List Nat) (g : WG) (tt : WT) (te : WE) : WE := fun v m k kx => it v m (fun items m1 => ∃ I : Nat → List D → Mem → Prop, I 0 [] m1 ∧
  (∀ i d acc m2, items[i]? = some d → I i acc m2 → g d (wipeE v own) m2 fun v3 m3 => tt v3 m3 (fun q m4 =>
    (q = true → te v3 m4 (fun y m5 => acc.length < sizeLine ∧ I (i + 1) (acc ++ [y]) m5) kx0) ∧ (q = false → I (i + 1) acc m4)) kx0) ∧
  ∀ acc m2, I items.length acc m2 → newK z (.lst acc) m2 k) kx
/-- the same, of any statement that takes the list -/
theorem lc_ok {K : PySem.W.Frag} {wi : TI} {g : TG} {tt : TT} {te : TE} {w : WI} {wg : WG} {wt : WT} {we : WE} {z : Bool} (gi : GI K W wi w) (gg : GGo K own g wg) (gt : GT K W0 tt wt) (ge : GE K W0 te we) : GE K W (tLc wi g tt te own) (wLc z w own wg wt we) := by
  refine ⟨fun {B F v m σ H k kx Q} hm re hw hq hx => ?_⟩
  refine gi.run hm re hw (fun J items m1 F1 H1 hw1 e1 hm1 jo => ?_) hx
  obtain ⟨I, h0, hI, hE⟩ := hw1
  intro D hD
  have D0 : B.H0 D = none := hm1.h0 hD
  have re1 := (re.mono e1).wipes own
  refine ⟨fun i n H => n = items.length - i ∧ i ≤ items.length ∧ ∃ acc m F' vs, I i acc m ∧ Same F1 F' ∧ HM K B F' m H ∧ m D = none ∧ F' D = none ∧ H D = some (.lst vs) ∧ RepL K F' acc vs,
    ⟨items.length, by simp, Nat.zero_le _, [], m1, F1, [], h0, Same.refl _, hm1.aside hD _, hm1.mn hD, hm1.fn hD, upd_same, RepL.nil⟩, ?_⟩
  rintro i n H ⟨rfl, hil, acc, m, F', vs, hi, e', hm', dm, dF, hv, ra⟩
  have j := jo i H F' e' hm'.fr
  by_cases hlt : i < items.length
  · obtain ⟨jg, jy⟩ := j.1 hlt
    refine .inr ⟨jg, fun H' => ∃ acc m F' vs, I (i + 1) acc m ∧ Same F1 F' ∧ HM K B F' m H' ∧ m D = none ∧ F' D = none ∧ H' D = some (.lst vs) ∧ RepL K F' acc vs, fun H' h => ⟨items.length - (i + 1), by omega, rfl, hlt, h⟩, fun x H' y => ?_⟩
    obtain ⟨d, F2, hd, rd, hf⟩ := jy x H' y
    have big : Same F' F2 ∧ HM K B F2 m H' ∧ F2 D = none ∧ H' D = some (.lst vs) := by
      rcases hf with ⟨rfl, rfl⟩ | ⟨p, o, hp, rfl, rfl⟩
      · exact ⟨Same.refl _, hm', dF, hv⟩
      · have ne : D ≠ p := ne_of_none hv hp
        exact ⟨same_new (hm'.fn hp), hm'.new hp o, by rw [upd_ne ne]; exact dF, by rw [upd_ne ne]; exact hv⟩
    obtain ⟨e2, hm2, dF2, hv2⟩ := big
    -- the turn runs over a base of its own, so that the list that is made stays out of its sight
    have st := hm2.start
    have re2 := re1.mono (e'.trans e2)
    refine gg.run st re2 rd (hI i d acc m hd hi) fun v3 m3 F3 H3 σ3 hw3 e3 hm3 re3 z3 => ⟨z3.trans wipe_wipe, ?_⟩
    refine gt.run hm3 re3 hw3 (fun q m4 F4 H4 hw4 e4 hm4 => ?_) qx0
    cases q with
    | false =>
      rw [if_neg Bool.false_ne_true]
      obtain ⟨q1, q2, q3⟩ := hm4.hidden hv2 dm dF2
      exact ⟨acc, m4, F4, vs, hw4.2 rfl, (e'.trans e2).trans (e3.trans e4), hm2.after hm4, q2, q3, q1, repL_mono (e2.trans (e3.trans e4)) _ ra⟩
    | true =>
      rw [if_pos rfl]
      refine ge.run hm4 (re3.mono e4) (hw4.1 rfl) (fun y m5 F5 H5 u hw5 e5 hm5 r5 => ?_) qx0
      obtain ⟨q1, q2, q3⟩ := hm5.hidden hv2 dm dF2
      refine ⟨vs, q1, by rw [ra.len]; exact hw5.1, acc ++ [y], m5, F5, vs ++ [u], hw5.2, (e'.trans e2).trans ((e3.trans e4).trans e5), (hm2.after hm5).poke q2 q3 D0 _, q2, q3, upd_same, ?_⟩
      exact (repL_mono (e2.trans ((e3.trans e4).trans e5)) _ ra).append (RepL.cons r5 RepL.nil)
  · have el : i = items.length := by omega
    subst el
    refine .inl ⟨j.2 (Nat.le_refl _), ?_⟩
    have hk := hE acc m hi
    cases z with
    | true =>
      exact hq (.lst acc) m _ _ _ hk ((e1.trans e').trans (same_new dF)) (hm'.adopt dm dF D0 hv) (by unfold Rep; exact ⟨D, vs, rfl, upd_same, repL_mono (same_new dF) _ ra⟩)
    | false =>
      exact hq (.raw (.ref D)) _ _ _ _ (hk D dm) (e1.trans e') (hm'.adoptM dF D0 ⟨vs, hv, ra⟩) (by unfold Rep; rfl)
abbrev BI : Type := Shared × Hp × Addr × List (Str × Addr) × List Addr
abbrev blkOf (X : Cx) (scope : Scope) (i : BI) : Cx := X.blk i.1 i.2.1 scope (compEnvC scope i.2.2.2.1 i.2.2.1 X.env) i.2.2.2.2
theorem set_ok (h : ∀ z k p, it ≠ .Set z k p) (env : PySem.Env) : ∀ x, foldedSetIterable it env x = pure x := by
  intro x
  cases it <;> first
    | rfl
    | exact absurd rfl (h _ _ _)
theorem xe_lc {scope : Scope} {ow : List (Str × Nat)} {w : WI} {wg : WG} {wt : WT} {we : WE} {z : Bool} (hc : X.calm = true) (hN : X.N.Nodup) (hi : Xi X W tg it w) (ok : BlkOk X.N X.env.scope scope ow)
    (hg : ∀ i, Xgo (blkOf X scope i) (ow.map (·.2)) tg wg) (ht : ∀ i, Xts (blkOf X scope i) W0 ifs wt) (he : ∀ i, Xe (blkOf X scope i) W0 elt we) (hs : ∀ x, foldedSetIterable it X.env x = pure x) :
    Xe X W (.ListComp elt [⟨tg, it, ifs, 0⟩] scope pos) (wLc z w (ow.map (·.2)) wg wt we) := by
  obtain ⟨ti, p1, g1⟩ := hi.ex
  obtain ⟨tg', p2, g2⟩ := uni_g (Xf := fun i => blkOf X scope i) (K := X.K) (fun _ => rfl) hg
  obtain ⟨tt', p3, g3⟩ := uni_ts (Xf := fun i => blkOf X scope i) (K := X.K) (fun _ => rfl) ht
  obtain ⟨te', p4, g4⟩ := uni_e (Xf := fun i => blkOf X scope i) (K := X.K) (fun _ => rfl) he
  exact ⟨_, pe_lc hc hN p1 ok (fun s H C cl fp => p2 (s, H, C, cl, fp)) (fun s H C cl fp => p3 (s, H, C, cl, fp)) (fun s H C cl fp => p4 (s, H, C, cl, fp)) hs, lc_ok g1 g2 g3 g4⟩
theorem xs_setLc {i : Nat} {y : Str} {py spos : Pos} {scope : Scope} {ow : List (Str × Nat)} {w : WI} {wg : WG} {wt : WT} {we : WE} {z : Bool} (hc : X.calm = true) (hN : X.N.Nodup) (hy : X.N[i]? = some y) (hyl : X.env.scope.names.lookup y = some .local)
    (hsw : swapsWith (.ListComp elt [⟨tg, it, ifs, 0⟩] scope pos) (some (.Name y py)) spos.line X.env = pure true) (hi : Xi X W tg it w) (ok : BlkOk X.N X.env.scope scope ow)
    (hg : ∀ i, Xgo (blkOf X scope i) (ow.map (·.2)) tg wg) (ht : ∀ i, Xts (blkOf X scope i) W0 ifs wt) (he : ∀ i, Xe (blkOf X scope i) W0 elt we) (hs : ∀ x, foldedSetIterable it X.env x = pure x) :
    Xs X W (.Assign [.Name y py] (.ListComp elt [⟨tg, it, ifs, 0⟩] scope pos) spos) (sSet i (wLc z w (ow.map (·.2)) wg wt we)) := by
  obtain ⟨ti, p1, g1⟩ := hi.ex
  obtain ⟨tg', p2, g2⟩ := uni_g (Xf := fun i => blkOf X scope i) (K := X.K) (fun _ => rfl) hg
  obtain ⟨tt', p3, g3⟩ := uni_ts (Xf := fun i => blkOf X scope i) (K := X.K) (fun _ => rfl) ht
  obtain ⟨te', p4, g4⟩ := uni_e (Xf := fun i => blkOf X scope i) (K := X.K) (fun _ => rfl) he
  refine ⟨_, ps_setLc hc hN hy hyl hsw p1 ok (fun s H C cl fp => p2 (s, H, C, cl, fp)) (fun s H C cl fp => p3 (s, H, C, cl, fp)) (fun s H C cl fp => p4 (s, H, C, cl, fp)) hs, ?_⟩
  refine ⟨fun {B F v m σ H P E} hm re hw rl => ?_⟩
  exact (lc_ok (z := z) g1 g2 g3 g4).run hm re hw (fun d m1 F1 H1 x hw1 e1 hm1 r1 => rl.nx _ m1 F1 H1 _ hw1 e1 hm1 ((re.mono e1).set i r1)) (rl.qx re)
/-! ### own exceptions -/
/-- the promise of an own exception's __init__ whose parameters are its fields -/
def spXI (C : Addr) (n : Nat) (ps : List Str) : Sp := fun vs H Q _ => ∃ (a : Addr) (ys : List V), vs = .ref a :: ys ∧ ys.length = n ∧ ps.length = n ∧ H a = some (exo a C none) ∧ ∀ d, H d = none → d ≠ a → Q .non (upd (upd H d (exd d (ps.zip ys).reverse)) a (exo a C (some d)))
/-- what is known of an own exception class -/
structure XCls (P : Program) (w : World) (K : PySem.W.Frag) (mg : Str → Option Value) (base : Heap) (k : Nat) (C : Str) (ps : List Str) : Prop where
  oex : OexC K (He.ga K C)
  mg_ : mg C = some (.ref (He.ga K C))
  ini : ∃ fI fd pp, PySem.W.findIn K (.ref (He.ga K C)) "__init__" = some (some (.ref fI)) ∧ PySem.W.typeIn K (.ref fI) = some (.type "function") ∧ FnOk P w K mg base CX0 k fI fd pp (spXI (He.ga K C) ps.length ps) ∧ Binds K fd pp []
def sRaise (C : Str) (ps : List Str) (w : WL) : WS := fun v m P => w v m (fun ds m1 => ds.length = ps.length ∧ ds.length ≤ 1000 ∧ P.ex ⟨C, ps.reverse, ds.reverse⟩ v m1) fun x m => P.ex x v m
theorem zip_fst : ∀ (ps : List Str) (ys : List V), ys.length = ps.length → (ps.zip ys).map (·.1) = ps
  | [], _, _ => by simp
  | p :: ps, [], h => by simp at h
  | p :: ps, y :: ys, h => by
    rw [List.zip_cons_cons, List.map_cons, zip_fst ps ys (by simpa using h)]
theorem zip_snd : ∀ (ps : List Str) (ys : List V), ys.length = ps.length → (ps.zip ys).map (·.2) = ys
  | [], [], _ => rfl
  | [], y :: ys, h => by simp at h
  | p :: ps, [], h => by simp at h
  | p :: ps, y :: ys, h => by
    rw [List.zip_cons_cons, List.map_cons, zip_snd ps ys (by simpa using h)]
theorem xs_raise {k : Nat} {C : Str} {ps : List Str} {p pos2 : Pos} {w : WL} (hc : X.calm = true) (T : XCls X.prog X.w X.K X.mg X.base k C ps) (hr : Room (k + 1) X.A) (tk : Takes X W) (hg : Gl X C) (ha : Xl X W (e :: es) w)
    (hdb : (C == ("__debug__" : Str)) = false) (hs : (e :: es).any starred = false) : Xs X W (.Raise (some (.Call (.Name C p) (e :: es) [] pos)) none pos2) (sRaise C ps w) := by
  obtain ⟨fI, fd, pp, q1, q2, q3, q4⟩ := T.ini
  obtain ⟨t, p1, g1⟩ := ha.ex
  rw [List.any_cons, Bool.or_eq_false_iff] at hs
  have mk := pmk_oex (p := p) (pos := pos) T.oex q1 q2 q3 hr q4 .nil (fun _ _ _ _ _ _ _ h => h.elim) hg T.mg_ p1 hdb (star_eq hs.1 _) (any_star hs.2)
  refine ⟨_, ps_raise hc tk mk, ⟨fun {B F v m σ H P E} hm re hw rl => ?_⟩⟩
  refine g1.run hm re hw (fun ds m1 F1 H1 vs hw1 e1 hm1 r1 => ?_) (rl.qx re)
  obtain ⟨h1, h2, h3⟩ := hw1
  have hl := r1.len
  refine ⟨by rw [hl]; exact h2, fun a hna => ?_⟩
  refine ⟨a, vs ++ [], rfl, by simp [hl, h1], rfl, upd_same, fun d hd hda => ⟨rfl, d, (ps.zip (vs ++ [])).reverse, upd_same, ?_, ?_, ?_⟩⟩
  · rw [upd_ne hda, upd_same]
  · rw [upd_ne hda] at hd; exact hd
  · have hd1 : H1 d = none := by rw [upd_ne hda] at hd; exact hd
    rw [List.append_nil]
    have eqH : upd (del (upd (upd (upd H1 a (exo a (He.ga X.K C) none)) d (exd d (ps.zip vs).reverse)) a (exo a (He.ga X.K C) (some d))) a) d (.xd (ps.zip vs).reverse) = upd H1 d (.xd (ps.zip vs).reverse) := by
      funext b
      by_cases hb : b = d
      · rw [hb, upd_same, upd_same]
      · rw [upd_ne hb, upd_ne hb]
        by_cases hba : b = a
        · rw [hba, del_same, hna]
        · rw [del_ne hba, upd_ne hba, upd_ne hb, upd_ne hba]
    rw [eqH]
    have hz : vs.length = ps.length := by rw [hl, h1]
    refine rl.ex _ v m1 _ σ _ d h3 (e1.trans (same_new (hm1.fn hd1))) (hm1.new hd1 _) ((re.mono e1).mono (same_new (hm1.fn hd1))) ⟨(ps.zip vs).reverse, upd_same, ?_, ?_⟩
    · rw [List.map_reverse, zip_fst ps vs hz]
    · rw [List.map_reverse, zip_snd ps vs hz]
      exact repL_mono (same_new (hm1.fn hd1)) _ r1.reverse
end
end Ab
end
section
/-! Ab8: try with several clauses. -/
namespace Ab
open PySem PySem.Spec L2
/-! ### clauses with and without a name -/
abbrev Cl := Value × Option Nat × (Addr → Value → Option Addr → TS)
def bare (E : Ends) (i : Nat) : Ends where
  nx := fun σ H => E.nx (σ.set i none) H
  rt := E.rt
  bk := fun σ H => E.bk (σ.set i none) H
  ct := fun σ H => E.ct (σ.set i none) H
def wCl (K : PySem.W.Frag) (Wo : WX) (E : Ends) : List Cl → WX
  | [] => Wo
  | (c, some i, ts) :: r => fun cls d σ H => ∃ q, PySem.W.exmOne K cls c = some q ∧ (q = true → ∀ a, H a = none → ts a cls d (bare E i) (σ.set i (some (.ref a))) H) ∧ (q = false → wCl K Wo E r cls d σ H)
  | (c, none, ts) :: r => fun cls d σ H => ∃ q, PySem.W.exmOne K cls c = some q ∧ (q = true → ∀ a, H a = none → ts a cls d E σ H) ∧ (q = false → wCl K Wo E r cls d σ H)
inductive ClOk (X : Cx) : List ExceptHandler → List Cl → Prop
  | nil : ClOk X [] []
  | as {x n : Str} {i : Nat} {c : Value} {ts : Addr → Value → Option Addr → TS} {s0 : Stmt} {ss : List Stmt} {p p' : Pos} {hs : List ExceptHandler} {l : List Cl} (hi : X.N[i]? = some n) (hn : X.env.kindOf n = some .local) (hc : Names X x c)
      (hb : ∀ (a : Addr) (oe : Obj) (cls : Value) (d : Option Addr) (pn : List (Addr × Obj)), Zc cls d oe → (∃ us, oe.data = .fields us) → PSs (X.suite a ((a, oe) :: pn)) (s0 :: ss) (ts a cls d)) (r : ClOk X hs l) :
      ClOk X (.ExceptHandler (some (.Name x p)) (some n) (s0 :: ss) p' :: hs) ((c, some i, ts) :: l)
  | no {x : Str} {c : Value} {ts : Addr → Value → Option Addr → TS} {s0 : Stmt} {ss : List Stmt} {p p' : Pos} {hs : List ExceptHandler} {l : List Cl} (hc : Names X x c)
      (hb : ∀ (a : Addr) (oe : Obj) (cls : Value) (d : Option Addr) (pn : List (Addr × Obj)), Zc cls d oe → (∃ us, oe.data = .fields us) → PSs (X.suite a ((a, oe) :: pn)) (s0 :: ss) (ts a cls d)) (r : ClOk X hs l) :
      ClOk X (.ExceptHandler (some (.Name x p)) none (s0 :: ss) p' :: hs) ((c, none, ts) :: l)
section
variable {X : Cx} {body : List Stmt} {h0 : ExceptHandler} {hds : List ExceptHandler} {l : List Cl} {pos : Pos} {tb : WX → TS} {Wo : WX}
theorem ps_tryCl (hst : X.stack = X.env :: X.outer) (hfr : X.env.frame = some X.env.locals) (nd : X.N.Nodup) (tk : Takes X Wo)
    (hb : ∀ (V : WX) (pn : List (Addr × Obj)) (xe : Value → Shared → Prop), Takes (X.tr pn xe) V → PassesOwn (model X.prog X.w) X.A X.env xe → PSs (X.tr pn xe) body (tb V))
    (hc : ClOk X (h0 :: hds) l) : PS X (.Try body (h0 :: hds) [] [] pos) (fun E σ H => tb (wCl X.K Wo E l) E σ H) := by
  constructor
  intro pins st σ H E I hw
  have ok := I.ok
  have frm : X.A.frames = some (X.env :: X.outer) := ok.frames.trans (congrArg some hst)
  refine wpAny_Try_except (wpAny_mono ((hb (wCl X.K Wo E l) (X.pn ++ pins) _ (fun u s' z => ?ctch) PassesOwn.looking).run [] st σ H E (I.toTry _) hw) (fun f s1 q => ?thru) fun _ _ z => z)
  case thru =>
    cases f with
    | next =>
      obtain ⟨σ1, H1, J, q⟩ := q
      exact wpAny_execs_nil ⟨σ1, H1, J.ofTry ok, q⟩
    | brk =>
      obtain ⟨σ1, H1, J, q⟩ := q
      exact ⟨σ1, H1, J.ofTry ok, q⟩
    | cont =>
      obtain ⟨σ1, H1, J, q⟩ := q
      exact ⟨σ1, H1, J.ofTry ok, q⟩
    | ret u =>
      obtain ⟨v, σ1, H1, J, r, q⟩ := q
      exact ⟨v, σ1, H1, J.ofTry ok, r, q⟩
  case ctch =>
    obtain ⟨a, G, sI, pins2, σ1, H1, cls, d, rfl, J2, gb, up, sk, na, os, ag, w⟩ := z
    have J := J2.ofTry (pins := pins) ok
    have sk2 : Sky G (X.env :: X.outer) a (Zc cls d) X.env.locals s'.heap := hst ▸ sk
    refine Sky.land (A := X.A) (env := X.env) Zc.steady frm hfr sk2 fun h3 fl up3 => ?_
    have J3 := J.landed (s' := { s' with heap := h3 }) gb fl.1 (up.trans up3) os ag
    obtain ⟨o3, us3, g3, z3, d3⟩ := fl.there
    have out : a ∉ frs (X.env :: X.outer) := fun hm => by
      obtain ⟨_, o', e', nf⟩ := (fl.2.2.1).mem hm
      cases g3.symm.trans e'
      exact nf _ d3
    have nL : a ≠ X.env.locals := fun z => out (List.mem_filterMap.mpr ⟨_, List.mem_cons_self, hfr.trans (congrArg some z.symm)⟩)
    have nF : a ∉ X.fs := fun hm => out (by
      obtain ⟨en, hen, q⟩ := List.mem_filterMap.mp hm
      exact List.mem_filterMap.mpr ⟨en, List.mem_cons_of_mem _ hen, q⟩)
    have S3 := J3.suite g3 d3 na nL nF
    have LT : PySem.W.Looks (model X.prog X.w) h3 (typeOf (.ref a)) cls := fun A Q E s k q => wpAny_typeOf_ref (k _ _ g3) (by rw [z3.1]; exact q)
    have named : ∀ {x : Str} {c : Value} {p : Pos} {Q : Value → Shared → Prop} {E : Value → Shared → Prop}, Names X x c → Q c { s' with heap := h3 } →
        wpAny (model X.prog X.w) (X.A.mark (some (.ref a))) (eval (.Name x p) X.env) Q E { s' with heap := h3 } := fun {x c p Q E} nm q => by
      rcases nm with ⟨n1, n2, n3 | ⟨n3, n4, n5⟩⟩
      · exact ld_glob (X := X.suite a ((a, o3) :: (X.pn ++ pins))) S3 n1 n3 q n2
      · exact ld_blt (X := X.suite a ((a, o3) :: (X.pn ++ pins))) S3 n1 n3 n4 q n5 n2
    suffices go : ∀ {hs' : List ExceptHandler} {l' : List Cl}, ClOk X hs' l' → wCl X.K Wo E l' cls d σ1 H1 → wpAny (model X.prog X.w) X.A (handleBy (.ref a) X.env hs') (SP X pins E) X.xe { s' with heap := h3 } from go hc w
    intro hs' l' hk
    induction hk with
    | nil =>
      intro w
      refine wpAny_handleBy_nil ?_
      obtain ⟨_, _, _, oe, us, T, _, _, ge, _, de, u1, _⟩ := id fl
      unfold PySem.passOn
      refine wpAny_bind (wpAny_field ge de u1 ?_)
      rw [if_neg (by simp : ¬ ((Value.ref T == Value.none) = true))]
      have on : wpAny (model X.prog X.w) X.A (setFlight (.ref a) X.env.frame) (fun _ s4 => wpAny (model X.prog X.w) X.A (throw (.ref a) : Sem Flow) (SP X pins E) X.xe s4) X.xe { s' with heap := h3 } := by
        rw [hfr]
        refine HandSPX.setFlight_upZ fl fun h4 hh up4 => ?_
        refine wpAny_throw (tk _ _ ⟨a, G, sI, pins, σ1, H1, cls, d, rfl, J, gb, (up.trans up3).trans up4, .inr (.inr (by rw [hst]; exact hh)), na, os, ag, w⟩)
      first
        | exact wpAny_bind (wpAny_pure (wpAny_bind on))
        | exact wpAny_bind on
    | @as x n i c ts s0 ss p p' hs2 l2 hi hn hcx hbody r ih =>
      intro w
      obtain ⟨q, q1, yes, no⟩ := w
      refine wpAny_handleBy_cons (codeAny_handlers_test ?_) (by intro z; cases z)
      refine named hcx ((PySem.W.exm_one (M := model X.prog X.w) J3.kIn LT q1).here ?_)
      cases q with
      | false => exact ih (no rfl)
      | true =>
        refine codeAny_handlers_suite_as (HandSPX.lands_againZ fl fun h4 fl4 up4 => ?_)
        have J4 := J.landed (s' := { s' with heap := h4 }) gb fl4.1 ((up.trans up3).trans up4) os ag
        obtain ⟨o4, us4, g4, z4, d4⟩ := fl4.there
        have S4 := J4.suite g4 d4 na nL nF
        refine store_ok (X := X.suite a ((a, o4) :: (X.pn ++ pins))) (v := .ref a) S4 nd hi (.inl hn) rfl (fun s5 S5 => ?_) (.inr hn)
        refine wpAny_mono ((hbody a o4 cls d (X.pn ++ pins) z4 ⟨_, d4⟩).run [] s5 _ H1 _ S5 (yes rfl a na)) (fun f s6 hsp => ?_) (fun _ _ z => False.elim z)
        have gone : ∀ {σ6 : L2.St} {H6 : Hp} {Q : Shared → Prop}, Inv (X.suite a ((a, o4) :: (X.pn ++ pins))) [] σ6 H6 s6 → (∀ s7, Inv X pins (σ6.set i none) H6 s7 → Q s7) →
            wpAny (model X.prog X.w) X.A (do bindName X.env n .none; unbindBehindTheSuite X.env n p') (fun _ s7 => Q s7) X.xe s6 := fun S6 hq => gone_ok (S6.unsuite ok) nd hi hn hq
        cases f with
        | next =>
          obtain ⟨σ6, H6, S6, q6⟩ := hsp
          exact gone S6 fun s7 J7 => ⟨_, _, J7, q6⟩
        | brk =>
          obtain ⟨σ6, H6, S6, q6⟩ := hsp
          exact gone S6 fun s7 J7 => ⟨_, _, J7, q6⟩
        | cont =>
          obtain ⟨σ6, H6, S6, q6⟩ := hsp
          exact gone S6 fun s7 J7 => ⟨_, _, J7, q6⟩
        | ret u =>
          obtain ⟨v6, σ6, H6, S6, r6, q6⟩ := hsp
          exact gone S6 fun s7 J7 => ⟨_, _, _, J7, r6, q6⟩
    | @no x c ts s0 ss p p' hs2 l2 hcx hbody r ih =>
      intro w
      obtain ⟨q, q1, yes, no⟩ := w
      refine wpAny_handleBy_cons (codeAny_handlers_test ?_) (by intro z; cases z)
      refine named hcx ((PySem.W.exm_one (M := model X.prog X.w) J3.kIn LT q1).here ?_)
      cases q with
      | false => exact ih (no rfl)
      | true =>
        refine codeAny_handlers_suite (HandSPX.lands_againZ fl fun h4 fl4 up4 => ?_)
        have J4 := J.landed (s' := { s' with heap := h4 }) gb fl4.1 ((up.trans up3).trans up4) os ag
        obtain ⟨o4, us4, g4, z4, d4⟩ := fl4.there
        refine wpAny_mono ((hbody a o4 cls d (X.pn ++ pins) z4 ⟨_, d4⟩).run [] _ _ H1 _ (J4.suite g4 d4 na nL nF) (yes rfl a na)) (fun f s6 hsp => ?_) (fun _ _ z => False.elim z)
        cases f with
        | next =>
          obtain ⟨σ6, H6, S6, q6⟩ := hsp
          exact ⟨_, _, S6.unsuite ok, q6⟩
        | brk =>
          obtain ⟨σ6, H6, S6, q6⟩ := hsp
          exact ⟨_, _, S6.unsuite ok, q6⟩
        | cont =>
          obtain ⟨σ6, H6, S6, q6⟩ := hsp
          exact ⟨_, _, S6.unsuite ok, q6⟩
        | ret u =>
          obtain ⟨v6, σ6, H6, S6, r6, q6⟩ := hsp
          exact ⟨_, _, _, S6.unsuite ok, r6, q6⟩
end
/-! ### suites -/
inductive SuK where
  /-- return [s, e.f] -/
  | ret (s f : Str)
  /-- name = [k, e.f] -/
  | set (j : Nat) (k : Int) (f : Str)
  /-- return None -/
  | non
  /-- return repr(e.f) == repr(name) -/
  | rep (f : Str) (j : Nat)
/-- what repr can show -/
def Shw (p : PyData) : Prop := p.showable = true ∧ p.depth ≤ 60 ∧ p.shown.length ≤ sizeLine
def fieldOf (x : Exn) (f : Str) : Option D := (x.ns.zip x.ds).lookup f
def suW (su : SuK) (i : Option Nat) (x : Exn) (v : Env) (m : Mem) (P : SK) : Prop := match su, i with
  | .ret s f, some i => i < v.length ∧ ∃ d, fieldOf x f = some d ∧ P.rt (.lst [.str s, d]) m
  | .set j k f, some i => i < v.length ∧ i ≠ j ∧ ∃ d, fieldOf x f = some d ∧ P.nx ((v.set j (some (.lst [.int k, d]))).set i none) m
  | .non, none => P.rt .non m
  | .rep f j, some i => i < v.length ∧ i ≠ j ∧ ∃ d y p q, fieldOf x f = some d ∧ look v j = some y ∧ toP (res m d) = some p ∧ Shw p ∧ toP (res m y) = some q ∧ Shw q ∧ P.rt (.bl (decide (p.shown = q.shown))) m
  | _, _ => False
/-- what is known of the exception classes -/
structure XF (K : PySem.W.Frag) (mg : Str → Option Value) (xs fs : List Str) : Prop where
  exm : ∀ x ∈ xs, ∀ y ∈ xs, PySem.W.exmOne K (.ref (He.ga K x)) (.ref (He.ga K y)) = some (decide (x = y))
  xfc : ∀ x ∈ xs, XfC K (He.ga K x)
  noat : ∀ x ∈ xs, ∀ f ∈ fs, PySem.W.findIn K (.ref (He.ga K x)) f = some none
  glo : ∀ x ∈ xs, mg x = some (.ref (He.ga K x))
abbrev Hnd := Str × Option Nat × SuK
def hands (xs fs : List Str) (P : SK) : List Hnd → Exn → Env → Mem → Prop
  | [], x, v, m => P.ex x v m
  | (n, i, su) :: r, x, v, m => x.C ∈ xs ∧ (x.C = n → suW su i x v m P) ∧ (x.C ≠ n → hands xs fs P r x v m)
def sTry (xs fs : List Str) (b : WS) (hs : List Hnd) : WS := fun v m P => b v m { P with ex := hands xs fs P hs }
theorem field_ok {K : PySem.W.Frag} {F : Hp} {x : Exn} {f : Str} {d : D} {vs : List (Str × V)} (h : fieldOf x f = some d) (hn : vs.map (·.1) = x.ns) (hr : RepL K F x.ds (vs.map (·.2))) : ∃ v, vs.lookup f = some v ∧ Rep K F d v := by
  unfold fieldOf at h
  obtain ⟨C, ns, ds⟩ := x
  simp only at hn hr h
  subst hn
  induction vs generalizing ds with
  | nil => simp at h
  | cons p vs ih =>
    obtain ⟨g, v⟩ := p
    cases ds with
    | nil =>
      rw [List.map_cons] at hr
      cases (repL_nil.mp hr)
    | cons e ds =>
      obtain ⟨u, t, q1, r1, r2⟩ := repL_cons.mp hr
      rw [List.map_cons] at q1
      have e1 := (List.cons.inj q1).1
      have e2 := (List.cons.inj q1).2
      rw [List.map_cons, List.zip_cons_cons] at h
      rw [lookup_put] at *
      by_cases z : f = g
      · subst z
        rw [if_pos rfl]
        have hh : some e = some d := by
          have := h
          simp [List.lookup] at this
          rw [this]
        cases hh
        exact ⟨v, rfl, by rw [show v = u from e1]; exact r1⟩
      · rw [if_neg z]
        have zz : (f == g) = false := by simpa using z
        have h' : ((vs.map (·.1)).zip ds).lookup f = some d := by
          have := h
          simp only [List.lookup, zz] at this
          exact this
        exact ih ds (by rw [show vs.map (·.2) = t from e2]; exact r2) h'
/-- the readings of the suites -/
def tSu (K : PySem.W.Frag) (C : Addr) (su : SuK) (i : Option Nat) (a : Addr) (cls : Value) (d : Option Addr) : TS := match su, i with
  | .ret s f, some i => tRet (tLst (tCons (tC (.str s)) (tCons (tXf a cls d C f (tVar i)) tNil)))
  | .set j k f, some i => tAsg (tLst (tCons (tC (.int k)) (tCons (tXf a cls d C f (tVar i)) tNil))) (gName j)
  | .non, none => tRet (tC .non)
  | .rep f j, some i => tRet (tOp rEq (tCB (rRepr K) (tCons (tXf a cls d C f (tVar i)) tNil)) (tCB (rRepr K) (tCons (tVar j) tNil)))
  | _, _ => fun _ _ _ => False
theorem gs_su {K : PySem.W.Frag} {mg : Str → Option Value} {xs fs : List Str} {B : Bs} {F : Hp} {v : Env} {m : Mem} {σ : L2.St} {H : Hp} {P : SK} {E : Ends} {W : WX} {su : SuK} {x : Exn} {dd a : Addr} (hm : HM K B F m H) (re : REnv K F v σ) (rx : RX K F x dd) (rl : RL K W B F P E) (na : H a = none) :
    (∀ i, suW su (some i) x v m P → tSu K (He.ga K x.C) su (some i) a (.ref (He.ga K x.C)) (some dd) (bare E i) (σ.set i (some (.ref a))) H) ∧ (suW su none x v m P → tSu K (He.ga K x.C) su none a (.ref (He.ga K x.C)) (some dd) E σ H) := by
  obtain ⟨vs, x1, x2, x3⟩ := rx
  refine ⟨fun i hw => ?_, fun hw => ?_⟩
  · have get : i < v.length → (σ.set i (some (V.ref a)))[i]? = some (some (.ref a)) := fun hi => List.getElem?_set_self (by rw [re.len]; exact hi)
    cases su with
    | ret s f =>
      obtain ⟨hi, d, h1, h2⟩ := hw
      obtain ⟨y, y1, y2⟩ := field_ok h1 x2 x3
      refine ⟨_, get hi, rfl, rfl, dd, vs, y, rfl, hm.fr _ _ x1, y1, by show 2 ≤ sizeLine; decide, fun p hp => ?_⟩
      exact newK_ok (z := true) hm hp (RepL.cons rep_str (RepL.cons y2 RepL.nil)) h2 rl.rt
    | set j k f =>
      obtain ⟨hi, hij, d, h1, h2⟩ := hw
      obtain ⟨y, y1, y2⟩ := field_ok h1 x2 x3
      refine ⟨_, get hi, rfl, rfl, dd, vs, y, rfl, hm.fr _ _ x1, y1, by show 2 ≤ sizeLine; decide, fun p hp => ?_⟩
      show E.nx (((σ.set i (some (.ref a))).set j (some (.ref p))).set i none) _
      have e1 := same_new (o := .lst [V.int k, y]) (hm.fn hp)
      have r1 : REnv K (upd F p (.lst [V.int k, y])) ((v.set j (some (.lst [.int k, d]))).set i none) ((σ.set j (some (.ref p))).set i none) :=
        ((re.mono e1).set j (by unfold Rep; exact ⟨p, _, rfl, upd_same, RepL.cons rep_int (RepL.cons (rep_mono e1 _ y2) RepL.nil)⟩)).wipe i
      have eq : ((σ.set i (some (.ref a))).set j (some (.ref p))).set i none = (σ.set j (some (.ref p))).set i none := by
        rw [List.set_comm _ _ hij, List.set_set]
      rw [eq]
      exact rl.nx _ m _ _ _ h2 e1 (hm.new hp _) r1
    | non => exact hw.elim
    | rep f j =>
      obtain ⟨hi, hij, d, y, p, q, h1, h2, h3, h4, h5, h6, h7⟩ := hw
      obtain ⟨vd, y1, y2⟩ := field_ok h1 x2 x3
      obtain ⟨vy, z1, z2⟩ := re.get j y (look_some h2)
      refine ⟨_, get hi, rfl, rfl, dd, vs, vd, rfl, hm.fr _ _ x1, y1, vd, p, rfl, dp_view hm (view_res hm y2) h3, h4.1, h4.2.1, h4.2.2, ?_⟩
      refine ⟨vy, by rw [List.getElem?_set_ne hij]; exact z1, vy, q, rfl, dp_view hm (view_res hm z2) h5, h6.1, h6.2.1, h6.2.2, rfl, ?_⟩
      rw [dec_iff (show V.str p.shown = V.str q.shown ↔ p.shown = q.shown from ⟨fun z => V.str.inj z, fun z => by rw [z]⟩)]
      exact rl.rt _ m F H _ h7 (Same.refl _) hm rep_bl
  · cases su with
    | non => exact rl.rt .non m F H _ hw (Same.refl _) hm rep_non
    | _ => exact hw.elim
theorem hands_ok {K : PySem.W.Frag} {mg : Str → Option Value} {xs fs : List Str} {B : Bs} {F : Hp} {v : Env} {m : Mem} {σ : L2.St} {H : Hp} {P : SK} {E : Ends} {W : WX} {x : Exn} {dd : Addr} (T : XF K mg xs fs) (hm : HM K B F m H) (re : REnv K F v σ) (rx : RX K F x dd) (rl : RL K W B F P E) :
    ∀ {hs : List Hnd}, (∀ h ∈ hs, h.1 ∈ xs) → hands xs fs P hs x v m → wCl K W E (hs.map fun h => (.ref (He.ga K h.1), h.2.1, tSu K (He.ga K h.1) h.2.2 h.2.1)) (.ref (He.ga K x.C)) (some dd) σ H
  | [], _, hw => rl.ex x v m F σ H dd hw (Same.refl _) hm re rx
  | (n, i, su) :: r, hh, hw => by
    obtain ⟨h1, h2, h3⟩ := hw
    have hn := hh (n, i, su) List.mem_cons_self
    have ih := fun q => hands_ok T hm re rx rl (hs := r) (fun h z => hh h (List.mem_cons_of_mem _ z)) (h3 q)
    have ex := T.exm _ h1 _ hn
    cases i with
    | some i =>
      refine ⟨_, ex, fun q a na => ?_, fun q => ih (of_decide_eq_false q)⟩
      have e : x.C = n := of_decide_eq_true q
      subst e
      exact (gs_su (mg := mg) (xs := xs) (fs := fs) hm re rx rl na).1 i (h2 rfl)
    | none =>
      refine ⟨_, ex, fun q a na => ?_, fun q => ih (of_decide_eq_false q)⟩
      have e : x.C = n := of_decide_eq_true q
      subst e
      exact (gs_su (mg := mg) (xs := xs) (fs := fs) hm re rx rl na).2 (h2 rfl)
/-! ### the clauses of the text -/
inductive HCs (X : Cx) (xs fs : List Str) : List ExceptHandler → List Hnd → Prop
  | nil : HCs X xs fs [] []
  | ret {x n f s : Str} {i : Nat} {j : Nat} {p1 p2 p3 p4 p5 p6 p7 : Pos} {hs : List ExceptHandler} {l : List Hnd} (hi : X.N[i]? = some n) (hn : X.env.kindOf n = some .local) (hv : Vis X.env.scope n) (hd : (n == ("__debug__" : Str)) = false) (hcd : (n == ("__classdict__" : Str)) = false)
      (hg : Gl X x) (hdb : (x == ("__debug__" : Str)) = false) (hx : x ∈ xs) (hf : f ∈ fs) (r : HCs X xs fs hs l) :
      HCs X xs fs (.ExceptHandler (some (.Name x p1)) (some n) [.Return (some (.List [.Constant (.str s) j p2, .Attribute (.Name n p3) f p4] p5)) p6] p7 :: hs) ((x, some i, .ret s f) :: l)
  | set {x n f y : Str} {i ji : Nat} {k : Int} {j : Nat} {p1 p2 p3 p4 p5 p6 p7 p8 : Pos} {hs : List ExceptHandler} {l : List Hnd} (hi : X.N[i]? = some n) (hn : X.env.kindOf n = some .local) (hv : Vis X.env.scope n) (hd : (n == ("__debug__" : Str)) = false) (hcd : (n == ("__classdict__" : Str)) = false)
      (hN : X.N.Nodup) (hji : X.N[ji]? = some y) (hy : Loc X.env.scope y) (hyl : X.env.scope.names.lookup y = some .local)
      (hg : Gl X x) (hdb : (x == ("__debug__" : Str)) = false) (hx : x ∈ xs) (hf : f ∈ fs) (r : HCs X xs fs hs l) :
      HCs X xs fs (.ExceptHandler (some (.Name x p1)) (some n) [.Assign [.Name y p8] (.List [.Constant (.int k) j p2, .Attribute (.Name n p3) f p4] p5) p6] p7 :: hs) ((x, some i, .set ji k f) :: l)
  | non {x : Str} {j : Nat} {p1 p5 p6 p7 : Pos} {hs : List ExceptHandler} {l : List Hnd} (hg : Gl X x) (hdb : (x == ("__debug__" : Str)) = false) (hx : x ∈ xs) (r : HCs X xs fs hs l) :
      HCs X xs fs (.ExceptHandler (some (.Name x p1)) none [.Return (some (.Constant .none j p5)) p6] p7 :: hs) ((x, none, .non) :: l)
  | rep {x n f y : Str} {i ji : Nat} {p1 p2 p3 p4 p5 p6 p7 p8 p9 p10 p11 : Pos} {hs : List ExceptHandler} {l : List Hnd} (hi : X.N[i]? = some n) (hn : X.env.kindOf n = some .local) (hv : Vis X.env.scope n) (hd : (n == ("__debug__" : Str)) = false) (hcd : (n == ("__classdict__" : Str)) = false)
      (hji : X.N[ji]? = some y) (hy : Vis X.env.scope y) (hyd : (y == ("__debug__" : Str)) = false) (hyc : (y == ("__classdict__" : Str)) = false) (hr : Gl X "repr") (hrm : X.mg "repr" = none) (hgd : X.A.guards = some []) (hu : X.A.units + 100 < cLine)
      (hg : Gl X x) (hdb : (x == ("__debug__" : Str)) = false) (hx : x ∈ xs) (hf : f ∈ fs) (r : HCs X xs fs hs l) :
      HCs X xs fs (.ExceptHandler (some (.Name x p1)) (some n) [.Return (some (.Compare (.Call (.Name "repr" p2) [.Attribute (.Name n p3) f p4] [] p5) [.Eq] [.Call (.Name "repr" p8) [.Name y p9] [] p10] p11)) p6] p7 :: hs) ((x, some i, .rep f ji) :: l)
theorem hcs_ok {X : Cx} {xs fs : List Str} (T : XF X.K X.mg xs fs) : ∀ {hs : List ExceptHandler} {l : List Hnd}, HCs X xs fs hs l → ClOk X hs (l.map fun h => (.ref (He.ga X.K h.1), h.2.1, tSu X.K (He.ga X.K h.1) h.2.2 h.2.1)) := by
  intro hs l h
  induction h with
  | nil => exact .nil
  | ret hi hn hv hd hcd hg hdb hx hf r ih =>
    refine .as hi hn ⟨hg, hdb, .inl (T.glo _ hx)⟩ (fun a oe cls d pn z1 z2 => ?_) ih
    exact pss_one (ps_ret (pe_lst (pa_cons pe_str (pa_cons (pe_xf (T.xfc _ hx) (T.noat _ hx _ hf) z1 z2 (pe_var (X := X.suite a ((a, oe) :: pn)) hi hv hd hcd)) pa_nil))))
  | set hi hn hv hd hcd hN hji hy hyl hg hdb hx hf r ih =>
    refine .as hi hn ⟨hg, hdb, .inl (T.glo _ hx)⟩ (fun a oe cls d pn z1 z2 => ?_) ih
    exact pss_one (ps_set (X := X.suite a ((a, oe) :: pn)) hN hji hy (pe_lst (pa_cons pe_int (pa_cons (pe_xf (T.xfc _ hx) (T.noat _ hx _ hf) z1 z2 (pe_var (X := X.suite a ((a, oe) :: pn)) hi hv hd hcd)) pa_nil))) rfl (.inr hyl))
  | rep hi hn hv hd hcd hji hy hyd hyc hr hrm hgd hu hg hdb hx hf r ih =>
    refine .as hi hn ⟨hg, hdb, .inl (T.glo _ hx)⟩ (fun a oe cls d pn z1 z2 => ?_) ih
    refine pss_one (ps_ret (pe_cmpR op_eq (pe_callB (call_repr (X := X.suite a ((a, oe) :: pn)) hgd hu) hr hrm rfl (pa_cons (pe_xf (T.xfc _ hx) (T.noat _ hx _ hf) z1 z2 (pe_var (X := X.suite a ((a, oe) :: pn)) hi hv hd hcd)) pa_nil)) (pe_callB (call_repr (X := X.suite a ((a, oe) :: pn)) hgd hu) hr hrm rfl (pa_cons (pe_var (X := X.suite a ((a, oe) :: pn)) hji hy hyd hyc) pa_nil)) (nomark _)))
  | non hg hdb hx r ih =>
    refine .no ⟨hg, hdb, .inl (T.glo _ hx)⟩ (fun a oe cls d pn z1 z2 => ?_) ih
    exact pss_one (ps_ret pe_non)
theorem hcs_in {X : Cx} {xs fs : List Str} {hs : List ExceptHandler} {l : List Hnd} (h : HCs X xs fs hs l) : ∀ h ∈ l, h.1 ∈ xs := by
  induction h with
  | nil => intro h hh; cases hh
  | ret _ _ _ _ _ _ _ hx _ _ ih => intro h hh; cases hh with
    | head => exact hx
    | tail _ z => exact ih _ z
  | set _ _ _ _ _ _ _ _ _ _ _ hx _ _ ih => intro h hh; cases hh with
    | head => exact hx
    | tail _ z => exact ih _ z
  | rep _ _ _ _ _ _ _ _ _ _ _ _ _ _ _ hx _ _ ih => intro h hh; cases hh with
    | head => exact hx
    | tail _ z => exact ih _ z
  | non _ _ hx _ ih => intro h hh; cases hh with
    | head => exact hx
    | tail _ z => exact ih _ z
theorem xs_try {X : Cx} {W : WX} {xs fs : List Str} {body : List Stmt} {h0 : ExceptHandler} {hds : List ExceptHandler} {l : List Hnd} {pos : Pos} {wb : WS} (hst : X.stack = X.env :: X.outer) (hfr : X.env.frame = some X.env.locals) (nd : X.N.Nodup) (tk : Takes X W) (T : XF X.K X.mg xs fs)
    (hb : ∀ (V : WX) (pn : List (Addr × Obj)) (xe : Value → Shared → Prop), Takes (X.tr pn xe) V → PassesOwn (model X.prog X.w) X.A X.env xe → Xss (X.tr pn xe) V body wb) (hc : HCs X xs fs (h0 :: hds) l) : Xs X W (.Try body (h0 :: hds) [] [] pos) (sTry xs fs wb l) := by
  let I (V : WX) : Type := { q : List (Addr × Obj) × (Value → Shared → Prop) // Takes (X.tr q.1 q.2) V ∧ PassesOwn (model X.prog X.w) X.A X.env q.2 }
  have pick : ∀ (V : WX) (q : I V), ∃ t, PSs (X.tr q.1.1 q.1.2) body t ∧ GS X.K V t wb := fun V q => (hb V q.1.1 q.1.2 q.2.1 q.2.2).ex
  refine ⟨_, ps_tryCl (tb := fun V E σ H => ∀ q : I V, Classical.choose (pick V q) E σ H) hst hfr nd tk (fun V pn xe h1 h2 => ⟨fun pins s σ H E J h => ?_⟩) (hcs_ok T hc), ⟨fun {B F v m σ H P E} hm re hw rl q => ?_⟩⟩
  · exact (Classical.choose_spec (pick V ⟨(pn, xe), h1, h2⟩)).1.run pins s σ H E J (h ⟨(pn, xe), h1, h2⟩)
  · refine (Classical.choose_spec (pick _ q)).2.run hm re hw ⟨rl.nx, rl.rt, rl.bk, rl.ct, fun x v1 m1 F1 σ1 H1 dd hx e1 hm1 re1 rx => ?_⟩
    exact hands_ok T hm1 re1 rx (rl.mono e1) (hcs_in hc) hx
end Ab
end
section
/-! Ab8b: own classes: made, read, stored, called. -/
namespace Ab
open PySem PySem.Spec PyProof.Rows L2
/-- own classes: their names, the names of fields, the methods by class and name (self among the parameters), which one stands under which -/
structure ClsT where
  cs : List Str
  fl : List Str
  ms : List ((Str × Str) × (Nat × ASp))
  sub : List (Str × Str)
def mLook (C m : Str) : List ((Str × Str) × (Nat × ASp)) → Option (Nat × ASp)
  | [] => none
  | ((c, n), p) :: r => if c = C ∧ n = m then some p else mLook C m r
/-- a method as a class has it -/
structure MetA (P : Program) (w : World) (K : PySem.W.Frag) (mg : Str → Option Value) (base : Heap) (k : Nat) (C m : Str) (n : Nat) (sp : ASp) : Prop where
  ex : ∃ g fd ps, FnA P w K mg base k g fd ps (toSp K n sp) ∧ PySem.W.findIn K (.ref (He.ga K C)) m = some (some (.ref g)) ∧ PySem.W.isFn K (.ref g) = true ∧ PySem.W.keepIn K (.ref g) = true ∧ Binds K fd ps []
structure OneC (K : PySem.W.Frag) (C : Addr) : Prop where
  cl : Cls K C
  mks : PySem.W.makesIn K C = true
  kp : PySem.W.keepIn K (.ref C) = true
  sp : PySem.W.specialIn K (.ref C) "__getattribute__" = some (some (.builtin "type.__getattribute__"))
  rd : PySem.W.readsIn K C (.type "type") = true
  fi : ∀ g, PySem.W.findIn K (.ref C) "__init__" = some (some (.ref g)) → PySem.W.findCls K (.ref C) (.type "type") "__init__" = some (.val (.ref g))
  ha : PySem.W.findIn K (.ref C) "__class__" = some (some (.builtin "object.__class__"))
  hm : PySem.W.mroIn K C (.type "object") = some true
structure OwnC (K : PySem.W.Frag) (mg : Str → Option Value) (T : ClsT) : Prop where
  one : ∀ C ∈ T.cs, OneC K (He.ga K C)
  glo : ∀ C ∈ T.cs, mg C = some (.ref (He.ga K C))
  no : ∀ C ∈ T.cs, ∀ f ∈ T.fl, NoAttr K (He.ga K C) f
  hn : T.cs ≠ [] → PySem.W.specialIn K (.builtin "object.__class__") "__get__" = some (some (.builtin "getset_descriptor.__get__"))
  htk : T.cs ≠ [] → PySem.W.takesIn K (.builtin "object.__class__") = some true
  sub : ∀ C ∈ T.cs, ∀ D ∈ T.cs, PySem.W.kitOne K (.ref (He.ga K C)) (.ref (He.ga K D)) = some (decide ((C, D) ∈ T.sub))
  ty : ∀ C ∈ T.cs, ∀ a ∈ "NoneType" :: tyNames, PySem.W.kitOne K (.type a) (.ref (He.ga K C)) = some false
theorem Rm.make {k : Nat} {A : Around} (r : Rm (k + 1) A) (C : Addr) (us : List Value) (kw : List (Str × Value)) : Rm k (A.under (.builtin "type.__call__" ⟨.ref C :: us, kw⟩)) := ⟨r.room.make C us kw, r.gd⟩
theorem rm1 {k : Nat} {A : Around} (r : Rm (k + 1) A) : Rm k A := ⟨r.room.mono (Nat.le_succ _), r.gd⟩
/-! ### a method's call, as the text has it -/
theorem mcallG {M : Model} {A : Around} {E : Value → Shared → Prop} {s : Shared} {env : PySem.Env} {o : Expr} {name : Str} {apos pos : Pos} {es : List Expr} {Q : Value → Shared → Prop} (hbase : attributeBase o name env (eval o env) = eval o env)
    (hfew : ((backTo pos (starEach es env)).all (fun x => !x.1) && (backToKw pos (keywordEach [] env)).all (fun x => x.1.isSome) && decide (es.length + ([] : List Keyword).length + (if ([] : List Keyword).isEmpty then 0 else 1) < 30)) = true)
    (hline : (apos.endLine == pos.line) = true)
    (h : wpAny M A (eval o env) (fun ov s₁ => wpAny M A (getMethod ov name (do return (← importBound o env).getD true)) (fun fx s₂ => wpAny M A (callWith pos fx.1 fx.2 (backTo pos (starEach es env)) (backToKw pos (keywordEach [] env))) Q E s₂) E s₁) E s) :
    wpAny M A (eval (.Call (.Attribute o name apos) es [] pos) env) Q E s := by
  rw [arm_eval_Call, hbase]
  refine wpAny_bind (wpAny_mono h (fun ov s₁ h₁ => ?_) fun _ _ e => e)
  refine wpAny_bind (wpAny_standAt ?_)
  have hform : methodCallForm (es.length + ([] : List Keyword).length) (backTo pos (starEach es env)) (backToKw pos (keywordEach [] env)) = true := hfew
  have hpos : methodCallPos true o env apos pos = pure pos := by unfold methodCallPos; simp [hline]
  unfold methodCall
  rw [hform]
  refine wpAny_bind (wpAny_holding (wpAny_mono h₁ (fun fx s2 h2 => ?_) fun _ _ e => e))
  exact wpAny_bind (wpAny_of_eq hpos h2)
section
variable {X : Cx} {W : WX} {e a b c o : Expr} {es : List Expr} {pos apos cpos p : Pos} {T : ClsT}
/-! ### a field -/
def wFld (T : ClsT) (f : Str) (a : WE) : WE := fun v m k kx => a v m (fun d m1 => match res m1 d with
  | .obj C ns xs => C ∈ T.cs ∧ ∃ x, (ns.zip xs).lookup f = some x ∧ k x m1
  | _ => False) kx
theorem lk_rep {K : PySem.W.Frag} {F : Hp} {f : Str} {d : D} : ∀ {fs : List (Str × V)} {ns : List Str} {xs : List D}, fs.map (·.1) = ns → RepL K F xs (fs.map (·.2)) → (ns.zip xs).lookup f = some d → ∃ v, fs.lookup f = some v ∧ Rep K F d v
  | [], ns, xs, h1, h2, h => by
    subst h1
    simp at h
  | (g, y) :: fs, ns, xs, h1, h2, h => by
    subst h1
    cases xs with
    | nil => cases (repL_nil.mp h2)
    | cons x xs =>
      obtain ⟨u, t, q1, r1, r2⟩ := repL_cons.mp h2
      rw [List.map_cons] at q1
      have e1 := (List.cons.inj q1).1
      have e2 := (List.cons.inj q1).2
      rw [List.map_cons, List.zip_cons_cons, List.lookup_cons] at h
      rw [List.lookup_cons]
      cases hb : (f == g) with
      | true =>
        rw [hb] at h
        cases h
        exact ⟨y, rfl, by rw [show y = u from e1]; exact r1⟩
      | false =>
        rw [hb] at h
        exact lk_rep (fs := fs) rfl (by rw [show fs.map (·.2) = t from e2]; exact r2) h
theorem xe_fld {f : Str} {wa : WE} (O : OwnC X.K X.mg T) (hf : f ∈ T.fl) (ho : Xe X W o wa) (hn : noSuper o = true) : Xe X W (.Attribute o f pos) (wFld T f wa) := by
  obtain ⟨t, p1, g1⟩ := ho.ex
  refine ⟨_, pe_fld p1 (base_ok hn _ _), ⟨fun {B F v m σ H k kx Q} hm re hw hq hx => ?_⟩⟩
  refine g1.run hm re hw (fun d m1 F1 H1 x hw1 e1 hm1 r1 => ?_) hx
  have vr := view_res hm1 r1
  split at hw1
  · rename_i C ns xs ed
    rw [ed] at vr
    obtain ⟨hC, y, hl, hk⟩ := hw1
    obtain ⟨ad, dx, fs, rfl, h1, h2, h3⟩ := vr
    obtain ⟨u, q1, q2⟩ := lk_rep h2 h3 hl
    exact ⟨ad, _, dx, fs, u, rfl, h1, (O.one C hC).cl, O.no C hC f hf, q1, hq y m1 F1 H1 u hk e1 hm1 q2⟩
  · exact hw1.elim
/-! ### a field's store -/
def setF (f : Str) (d : D) : List Str → List D → List D
  | n :: ns, x :: xs => if n = f then d :: xs else x :: setF f d ns xs
  | _, xs => xs
def sFldD (T : ClsT) (f : Str) (o e : WE) : WS := fun v m P => e v m (fun d m1 => o v m1 (fun y m2 => match y with
  | .raw (.ref a) => ∃ C ns xs, m2 a = some (.obj C ns xs) ∧ C ∈ T.cs ∧ ns.length < 1000 ∧ ((f ∉ ns ∧ P.nx v (setM m2 a (.obj C (ns ++ [f]) (xs ++ [d])))) ∨ (f ∈ ns ∧ P.nx v (setM m2 a (.obj C ns (setF f d ns xs)))))
  | _ => False) fun x m => P.ex x v m) fun x m => P.ex x v m
theorem putF_new {f : Str} {y : V} : ∀ {fs : List (Str × V)}, f ∉ fs.map (·.1) → putF f y fs = fs ++ [(f, y)]
  | [], _ => rfl
  | (g, x) :: r, h => by
    rw [List.map_cons, List.mem_cons, not_or] at h
    rw [show putF f y ((g, x) :: r) = (if g = f then (g, y) :: r else (g, x) :: putF f y r) from rfl, if_neg (fun z => h.1 z.symm), putF_new h.2]
    rfl
theorem putF_old {K : PySem.W.Frag} {F : Hp} {f : Str} {y : V} {d : D} (r : Rep K F d y) : ∀ {fs : List (Str × V)} {xs : List D}, RepL K F xs (fs.map (·.2)) → f ∈ fs.map (·.1) → (putF f y fs).map (·.1) = fs.map (·.1) ∧ RepL K F (setF f d (fs.map (·.1)) xs) ((putF f y fs).map (·.2))
  | [], _, _, h => nomatch h
  | (g, x) :: fs, xs, h, hm => by
    cases xs with
    | nil => cases (repL_nil.mp h)
    | cons u us =>
      obtain ⟨w, t, q1, r1, r2⟩ := repL_cons.mp h
      rw [List.map_cons] at q1
      have e1 := (List.cons.inj q1).1
      have e2 := (List.cons.inj q1).2
      rw [show putF f y ((g, x) :: fs) = (if g = f then (g, y) :: fs else (g, x) :: putF f y fs) from rfl, List.map_cons]
      rw [show setF f d (g :: fs.map (·.1)) (u :: us) = if g = f then d :: us else u :: setF f d (fs.map (·.1)) us from rfl]
      by_cases e : g = f
      · rw [if_pos e, if_pos e, List.map_cons, List.map_cons]
        exact ⟨rfl, RepL.cons r (by rw [e2]; exact r2)⟩
      · rw [if_neg e, if_neg e, List.map_cons, List.map_cons]
        have hm' : f ∈ fs.map (·.1) := by
          rw [List.map_cons, List.mem_cons] at hm
          exact hm.resolve_left (fun z => e z.symm)
        obtain ⟨i1, i2⟩ := putF_old r (fs := fs) (xs := us) (by rw [e2]; exact r2) hm'
        exact ⟨by rw [i1], RepL.cons (by rw [show x = w from e1]; exact r1) i2⟩
theorem xs_fld {f : Str} {wo we : WE} (O : OwnC X.K X.mg T) (hf : f ∈ T.fl) (ho : Xe X W o wo) (he : Xe X W e we) (hc : isComp e = false) : Xs X W (.Assign [.Attribute o f apos] e pos) (sFldD T f wo we) := by
  obtain ⟨to, p1, g1⟩ := ho.ex
  obtain ⟨te, p2, g2⟩ := he.ex
  refine ⟨_, ps_fld p1 p2 (swap_ok hc), ⟨fun {B F v m σ H P E} hm re hw rl => ?_⟩⟩
  refine g2.run hm re hw (fun d m1 F1 H1 y hw1 e1 hm1 r1 => ?_) (rl.qx re)
  refine g1.run hm1 (re.mono e1) hw1 (fun dy m2 F2 H2 x hw2 e2 hm2 r2 => ?_) ((rl.mono e1).qx (re.mono e1))
  split at hw2
  · rename_i ad
    obtain ⟨C, ns, xs, ha, hC, hlen, hk⟩ := hw2
    unfold Rep at r2
    subst r2
    obtain ⟨_, ⟨dx, fs, q1, q2, q3⟩, _⟩ := hm2.mem ad _ ha
    have r1' := rep_mono e2 d r1
    rcases hk with ⟨hno, hk⟩ | ⟨hin, hk⟩
    · have hno' : f ∉ fs.map (·.1) := by rw [q2]; exact hno
      refine ⟨ad, _, dx, fs, rfl, q1, (O.one C hC).cl, O.no C hC f hf, by rw [← q2, List.length_map] at hlen; exact hlen, ?_⟩
      rw [putF_new hno']
      refine rl.nx _ _ _ _ _ hk (e1.trans e2) (hm2.set ha ⟨dx, fs ++ [(f, y)], upd_same, by rw [List.map_append, q2]; rfl, ?_⟩) (re.mono (e1.trans e2))
      rw [List.map_append]
      exact q3.append (RepL.cons r1' RepL.nil)
    · have hin' : f ∈ fs.map (·.1) := by rw [q2]; exact hin
      refine ⟨ad, _, dx, fs, rfl, q1, (O.one C hC).cl, O.no C hC f hf, by rw [← q2, List.length_map] at hlen; exact hlen, ?_⟩
      obtain ⟨i1, i2⟩ := putF_old r1' q3 hin'
      refine rl.nx _ _ _ _ _ hk (e1.trans e2) (hm2.set ha ⟨dx, putF f y fs, upd_same, by rw [i1, q2], by rw [← q2]; exact i2⟩) (re.mono (e1.trans e2))
  · exact hw2.elim
/-! ### a method -/
def wMth (T : ClsT) (mt : Str) (a : WE) (w : WL) : WE := fun v m k kx => a v m (fun d m1 => match res m1 d with
  | .obj C ns xs => C ∈ T.cs ∧ mt ∉ ns ∧ ∃ n sp, mLook C mt T.ms = some (n, sp) ∧ w v m1 (fun ds m2 => ds.length + 1 = n ∧ sp (d :: ds) m2 fun r m3 => match r with
    | .ret d => k d m3
    | .exc x => kx x m3) kx
  | _ => False) kx
def MsOk (X : Cx) (T : ClsT) : Prop := ∀ C m n sp, mLook C m T.ms = some (n, sp) → ∃ k, MetA X.prog X.w X.K X.mg X.base k C m n sp ∧ Rm (k + 1) X.A
def tMth (K : PySem.W.Frag) (T : ClsT) (mt : Str) (E : L2.St → XK) (ta : TE) (t : TA) : TE := fun σ H Q => ta σ H fun x H1 => ∃ a C dx fs n sp, x = .ref a ∧ H1 a = some (.ins (He.ga K C) dx fs) ∧ C ∈ T.cs ∧ mLook C mt T.ms = some (n, sp) ∧ fs.lookup mt = none ∧
  t σ H1 fun vs H2 => toSp K n sp (x :: vs) H2 Q (E σ)
theorem pe_mth {mt : Str} {ta : TE} {t : TA} (O : OwnC X.K X.mg T) (M : MsOk X T) (tk : Takes X W) (he : PE X o ta) (ha : PA X (e :: es) t) (hn : noSuper o = true) (hs : (e :: es).any starred = false) (hz : (e :: es).length < 29) (hline : (apos.endLine == cpos.line) = true) :
    PE X (.Call (.Attribute o mt apos) (e :: es) [] cpos) (tMth X.K T mt (L2.WE W) ta t) := by
  have hs' := hs
  rw [List.any_cons, Bool.or_eq_false_iff] at hs'
  refine ⟨fun pins s σ H Q I h => ?_⟩
  refine mcallG (base_ok hn _ _) (few_ok hs hz) hline (thn (he.run pins s σ H _ I h) fun u s1 ⟨x, H1, I1, rx, ad, C, dx, fs, n, sp, ex, ea, hC, hl, l, q⟩ => ?_)
  subst ex
  obtain rfl : u = Value.ref ad := rx
  obtain ⟨k, ⟨g, fd, ps, F, f1, f2, f3, f4⟩, rm⟩ := M C mt n sp hl
  refine getmeth_ok I1 ea (O.one C hC).cl ⟨f1, f2, f3⟩ l ?_
  refine PySem.W.callWith_K (first := [.ref ad]) (h₀ := X.base) I.ok.mod.kin f3 (thn (ha.run cpos pins s1 σ H1 _ I1 q) fun us s2 ⟨vs, H2, I2, r, q2⟩ => ⟨I2.kIn, ?_⟩) (star_eq hs'.1 _) (any_star hs'.2)
  exact run_fnA (us := .ref ad :: us) (vs := .ref ad :: vs) F (rm1 rm) f4 (passAt tk σ) I2 (.cons rfl r) q2
theorem pe_mth0 {mt : Str} {ta : TE} (O : OwnC X.K X.mg T) (M : MsOk X T) (tk : Takes X W) (he : PE X o ta) (hn : noSuper o = true) (hline : (apos.endLine == cpos.line) = true) :
    PE X (.Call (.Attribute o mt apos) [] [] cpos) (tMth X.K T mt (L2.WE W) ta tNil) := by
  refine ⟨fun pins s σ H Q I h => ?_⟩
  refine mcallG (base_ok hn _ _) (few_ok rfl (by decide)) hline (thn (he.run pins s σ H _ I h) fun u s1 ⟨x, H1, I1, rx, ad, C, dx, fs, n, sp, ex, ea, hC, hl, l, q⟩ => ?_)
  subst ex
  obtain rfl : u = Value.ref ad := rx
  obtain ⟨k, ⟨g, fd, ps, F, f1, f2, f3, f4⟩, rm⟩ := M C mt n sp hl
  refine getmeth_ok I1 ea (O.one C hC).cl ⟨f1, f2, f3⟩ l ?_
  exact PySem.W.callWith_K0 (first := [.ref ad]) I1.kIn f3 (run_fnA (us := [.ref ad]) (vs := [.ref ad]) F (rm1 rm) f4 (passAt tk σ) I1 (.cons rfl .nil) q)
theorem lk_none {f : Str} : ∀ {fs : List (Str × V)}, f ∉ fs.map (·.1) → fs.lookup f = none
  | [], _ => rfl
  | (g, x) :: r, h => by
    rw [List.map_cons, List.mem_cons, not_or] at h
    rw [List.lookup_cons, show (f == g) = false from beq_eq_false_iff_ne.mpr h.1]
    exact lk_none h.2
theorem ge_mth {K : PySem.W.Frag} {mt : Str} {ta : TE} {t : TA} {wa : WE} {w : WL} (g1 : GE K W ta wa) (g2 : GL K W t w) : GE K W (tMth K T mt (L2.WE W) ta t) (wMth T mt wa w) := by
  refine ⟨fun {B F v m σ H k kx Q} hm re hw hq hx => ?_⟩
  refine g1.run hm re hw (fun d m1 F1 H1 x hw1 e1 hm1 r1 => ?_) hx
  have vr := view_res hm1 r1
  split at hw1
  · rename_i C ns xs ed
    rw [ed] at vr
    obtain ⟨hC, hno, n, sp, hl, hw1⟩ := hw1
    obtain ⟨ad, dx, fs, rfl, h1, h2, h3⟩ := vr
    refine ⟨ad, C, dx, fs, n, sp, rfl, h1, hC, hl, lk_none (by rw [h2]; exact hno), ?_⟩
    refine g2.run hm1 (re.mono e1) hw1 (fun ds m2 F2 H2 vs hw2 e2 hm2 r2 => ?_) (hx.mono e1)
    exact sp_use hm2 (RepL.cons (rep_mono e2 d r1) r2) hw2.1 hw2.2 (hq.mono (e1.trans e2)) (hx.mono (e1.trans e2))
  · exact hw1.elim
theorem xe_mth {mt : Str} {wa : WE} {w : WL} (O : OwnC X.K X.mg T) (M : MsOk X T) (tk : Takes X W) (ho : Xe X W o wa) (hl : Xl X W (e :: es) w) (hn : noSuper o = true) (hs : (e :: es).any starred = false) (hz : (e :: es).length < 29) (hline : (apos.endLine == cpos.line) = true) :
    Xe X W (.Call (.Attribute o mt apos) (e :: es) [] cpos) (wMth T mt wa w) := by
  obtain ⟨ta, p1, g1⟩ := ho.ex
  obtain ⟨t, p2, g2⟩ := hl.ex
  exact ⟨_, pe_mth O M tk p1 p2 hn hs hz hline, ge_mth g1 g2⟩
theorem xe_mth0 {mt : Str} {wa : WE} (O : OwnC X.K X.mg T) (M : MsOk X T) (tk : Takes X W) (ho : Xe X W o wa) (hn : noSuper o = true) (hline : (apos.endLine == cpos.line) = true) :
    Xe X W (.Call (.Attribute o mt apos) [] [] cpos) (wMth T mt wa wNil) := by
  obtain ⟨ta, p1, g1⟩ := ho.ex
  obtain ⟨t, _, g2⟩ := (xl_nil : Xl X W [] wNil).ex
  exact ⟨_, pe_mth0 O M tk p1 hn hline, ge_mth g1 ⟨fun {B F v m σ H k kx Q} hm re hw hq hx => hq [] m F H [] hw (Same.refl _) hm RepL.nil⟩⟩
/-! ### Base.__init__(self, ..) -/
theorem xe_init {C : Str} {n : Nat} {sp : ASp} {w : WL} (O : OwnC X.K X.mg T) (M : MsOk X T) (tk : Takes X W) (hC : C ∈ T.cs) (hl : mLook C "__init__" T.ms = some (n, sp)) (hg : Gl X C) (hd : (C == ("__debug__" : Str)) = false) (ha : Xl X W (e :: es) w)
    (hs : (e :: es).any starred = false) (hz : (e :: es).length < 29) (hline : (apos.endLine == cpos.line) = true) : Xe X W (.Call (.Attribute (.Name C p) "__init__" apos) (e :: es) [] cpos) (wCall n sp w) := by
  obtain ⟨t, p1, g1⟩ := ha.ex
  have hs' := hs
  rw [List.any_cons, Bool.or_eq_false_iff] at hs'
  obtain ⟨k, ⟨g, fd, ps, F, f1, f2, f3, f4⟩, rm⟩ := M C _ n sp hl
  have o1 := O.one C hC
  have pe : PE X (.Call (.Attribute (.Name C p) "__init__" apos) (e :: es) [] cpos) (tCallS (toSp X.K n sp) (L2.WE W) t) := by
    refine ⟨fun pins s σ H Q I h => ?_⟩
    refine mcallG (base_ok rfl _ _) (few_ok hs hz) hline (ld_glob I hg (O.glo C hC) (PySem.W.method_cls I.kIn o1.sp (PySem.W.cls_value I.kIn o1.rd (o1.fi g f1) rfl ?_)) hd)
    exact PySem.W.callWith_K (h₀ := X.base) I.ok.mod.kin f3 (thn (p1.run cpos pins _ σ H _ (I.tok _) h) fun us s1 ⟨vs, H1, I1, r, q⟩ => ⟨I1.kIn, run_fnA F (rm1 rm) f4 (passAt tk σ) I1 r q⟩) (star_eq hs'.1 _) (any_star hs'.2)
  refine ⟨_, pe, ⟨fun {B F v m σ H k kx Q} hm re hw hq hx => ?_⟩⟩
  exact g1.run hm re hw (fun ds m1 F1 H1 vs hw1 e1 hm1 r1 => sp_use hm1 r1 hw1.1 hw1.2 (hq.mono e1) (hx.mono e1)) hx
/-! ### a new instance -/
def wMake (C : Str) (n : Nat) (sp : ASp) (w : WL) : WE := fun v m k kx => w v m (fun ds m1 => ds.length + 1 = n ∧ ∀ a, m1 a = none → sp (.raw (.ref a) :: ds) (setM m1 a (.obj C [] [])) fun r m2 => match r with
  | .ret d => d = .non ∧ ∃ u, m2 a = some u ∧ k u (delM m2 a)
  | .exc x => kx x (delM m2 a)) kx
def tMkA (K : PySem.W.Frag) (C : Addr) (n : Nat) (sp : ASp) (E : L2.St → XK) (t : TA) : TE := fun σ H Q => t σ H fun vs H1 => ∀ x dx, H1 x = none → H1 dx = none → dx ≠ x →
  toSp K n sp (.ref x :: vs) (upd (upd H1 dx (.own x)) x (.ins C dx [])) (fun v H2 => v = .non ∧ Q (.ref x) H2) (E σ)
theorem run_makeA {k n : Nat} {sp : ASp} {f : Addr} {fd : FuncData} {ps : List Str} {C : Addr} {E : XK} {pins : List (Addr × Obj)} {σ : L2.St} {H : Hp} {s : Shared} {Q : VK} {us : List Value} {vs : List V} (hm : PySem.W.makesIn X.K C = true) (hi : PySem.W.findIn X.K (.ref C) "__init__" = some (some (.ref f)))
    (hfn : PySem.W.isFn X.K (.ref f) = true) (F : FnA X.prog X.w X.K X.mg X.base k f fd ps (toSp X.K n sp)) (hr : Rm (k + 1) X.A) (hb : Binds X.K fd ps []) (hx : PassesAt (L2.CX X.prog X.w) X σ E) (I : Inv X pins σ H s) (r : Vals vs us)
    (h : ∀ x dx, H x = none → H dx = none → dx ≠ x → toSp X.K n sp (.ref x :: vs) (upd (upd H dx (.own x)) x (.ins C dx [])) (fun v H2 => v = .non ∧ Q (.ref x) H2) E) :
    wpAny (model X.prog X.w) X.A (call (.ref C) us) (EP X pins σ Q) X.xe s := by
  have hq := h (s.heap.objs.size + 1) s.heap.objs.size (I.hok.fresh (Nat.le_succ _)) (I.hok.fresh (Nat.le_refl _)) (Nat.ne_of_lt (Nat.lt_succ_self _))
  have I2 := Inv.made (C := C) I
  have r2 : Vals (V.ref (s.heap.objs.size + 1) :: vs) (Value.ref (s.heap.objs.size + 1) :: us) := .cons rfl r
  have hl : (Value.ref (s.heap.objs.size + 1) :: us).length = ps.length := r2.length.symm.trans (F.len _ _ _ _ hq)
  have bd := hb _ (Value.ref (s.heap.objs.size + 1) :: us) I2.kIn ((congrArg List.length (List.append_nil _)).trans hl)
  rw [List.append_nil] at bd
  refine wpAny_call (make_map (f := f) I.kIn hm hi (beq_iff_eq.mp hfn) (codeAny_mono (F.run _ X.stack _ _ ⟨Value.ref (s.heap.objs.size + 1) :: us, []⟩ (Value.ref (s.heap.objs.size + 1) :: us) _ _ E (hr.make C us [])
    (I2.env0.make C us []) bd r2 hq) fun r s' hq' => ?_))
  cases r with
  | error e => exact hx pins _ _ e s' I2 hq'
  | ok fl =>
    cases fl with
    | ret u =>
      obtain ⟨v, H', I3, rv, ev, q3⟩ := I2.after hq'
      subst ev
      exact ⟨rv, ⟨V.ref (s.heap.objs.size + 1), H', I3, rfl, q3⟩⟩
    | next => exact False.elim hq'
    | brk => exact False.elim hq'
    | cont => exact False.elim hq'
theorem xe_make {C : Str} {n : Nat} {sp : ASp} {w : WL} (O : OwnC X.K X.mg T) (M : MsOk X T) (tk : Takes X W) (hC : C ∈ T.cs) (hl : mLook C "__init__" T.ms = some (n, sp)) (hg : Gl X C) (hd : (C == ("__debug__" : Str)) = false) (ha : Xl X W (e :: es) w)
    (hs : (e :: es).any starred = false) : Xe X W (.Call (.Name C p) (e :: es) [] cpos) (wMake C n sp w) := by
  obtain ⟨t, p1, g1⟩ := ha.ex
  have hs' := hs
  rw [List.any_cons, Bool.or_eq_false_iff] at hs'
  obtain ⟨k, ⟨g, fd, ps, F, f1, f2, f3, f4⟩, rm⟩ := M C _ n sp hl
  have o1 := O.one C hC
  have pe : PE X (.Call (.Name C p) (e :: es) [] cpos) (tMkA X.K (He.ga X.K C) n sp (L2.WE W) t) := by
    refine ⟨fun pins s σ H Q I h => wpAny_Call_Name_kw (ld_glob I hg (O.glo C hC) ?_ hd)⟩
    exact PySem.W.callWith_K (h₀ := X.base) I.ok.mod.kin o1.kp (thn (p1.run cpos pins s σ H _ I h) fun us s1 ⟨vs, H1, I1, r, q⟩ => ⟨I1.kIn, run_makeA o1.mks f1 f2 F rm f4 (passAt tk σ) I1 r q⟩) (star_eq hs'.1 _) (any_star hs'.2)
  refine ⟨_, pe, ⟨fun {B F v m σ H k kx Q} hm re hw hq hx => ?_⟩⟩
  refine g1.run hm re hw (fun ds m1 F1 H1 vs hw1 e1 hm1 r1 => ?_) hx
  intro x dx nx ndx ne
  obtain ⟨h1, h2⟩ := hw1
  have hmx : m1 x = none := hm1.mn nx
  have hm2 := hm1.aside ndx (.own x)
  have nx2 : (upd H1 dx (.own x)) x = none := by rw [upd_ne (fun z => ne z.symm)]; exact nx
  have hm3 := hm2.newM (d := .obj C [] []) (o := .ins (He.ga X.K C) dx []) nx2 ⟨dx, [], upd_same, rfl, RepL.nil⟩
  refine sp_use (k := fun d m2 => d = .non ∧ ∃ u, m2 x = some u ∧ k u (delM m2 x)) (kx := fun y m2 => kx y (delM m2 x)) hm3 (RepL.cons (by unfold Rep; rfl) r1) h1 (h2 x hmx) (fun d m4 F4 H4 v4 hk e4 hm4 r4 => ?_) (fun y m4 F4 H4 dd hk e4 hm4 r4 => ?_)
  · obtain ⟨rfl, u, hu, hk⟩ := hk
    obtain ⟨ob, _, hm5, r5, e5⟩ := hm4.freeze hu
    unfold Rep at r4
    exact ⟨r4, hq u _ _ _ _ hk ((e1.trans e4).trans e5) hm5 r5⟩
  · refine hx y (delM m4 x) F4 H4 dd hk (e1.trans e4) (hm4.drop fun a d z => ?_) r4
    unfold delM at z
    split at z
    · cases z
    · exact z
/-! ### isinstance of an own class -/
def wIsO (T : ClsT) (C' : Str) (a : WE) : WE := fun v m k kx => a v m (fun d m1 => match res m1 d with
  | .obj C ns xs => C ∈ T.cs ∧ k (.bl (decide ((C, C') ∈ T.sub))) m1
  | e => tyD e ≠ none ∧ k (.bl false) m1) kx
theorem xe_isO {C' : Str} {wa : WE} {p2 : Pos} (O : OwnC X.K X.mg T) (hC' : C' ∈ T.cs) (hg : Gl X "isinstance") (hm : X.mg "isinstance" = none) (hg' : Gl X C') (hd : (C' == ("__debug__" : Str)) = false) (ho : Xe X W a wa) (hs : starred a = false) :
    Xe X W (.Call (.Name "isinstance" p) [a, .Name C' p2] [] cpos) (wIsO T C' wa) := by
  obtain ⟨t, p1, g1⟩ := ho.ex
  have pc : PE X (.Name C' p2) (tC (.ref (He.ga X.K C'))) := pe_glob hg' (O.glo C' hC') rfl hd
  have hs2 : ([a, .Name C' p2] : List Expr).any starred = false := by rw [List.any_cons, hs]; rfl
  have hne : T.cs ≠ [] := fun z => by rw [z] at hC'; cases hC'
  refine ⟨_, pe_callB call_isi hg hm rfl (pa_cons p1 (pa_cons pc pa_nil (star_eq (es := []) rfl X.env)) (star_eq hs X.env)) (by decide) (by decide) (star_eq hs X.env) (any_star (by rfl)), ⟨fun {B F v m σ H k kx Q} hm re hw hq hx => ?_⟩⟩
  refine g1.run hm re hw (fun d m1 F1 H1 x hw1 e1 hm1 r1 => ?_) hx
  have vr := view_res hm1 r1
  split at hw1
  · rename_i C ns xs ed
    rw [ed] at vr
    obtain ⟨hC, hk⟩ := hw1
    obtain ⟨ad, dx, fs, rfl, h1, h2, h3⟩ := vr
    have o1 := O.one C hC
    exact ⟨_, _, _, _, _, rfl, .own _, .base (.ins h1 o1.cl o1.ha (O.hn hne) (O.htk hne) o1.hm), O.sub C hC C' hC', hq _ m1 F1 H1 _ hk e1 hm1 rep_bl⟩
  · obtain ⟨h1, hk⟩ := hw1
    obtain ⟨ta, ha⟩ := Option.ne_none_iff_exists'.mp h1
    exact ⟨_, _, _, _, _, rfl, .own _, tyD_ok vr ha, O.ty C' hC' ta (tyD_mem ha), hq _ m1 F1 H1 _ hk e1 hm1 rep_bl⟩
/-- isinstance of one of two own classes -/
def wIsOT (T : ClsT) (Cs : List Str) (a : WE) : WE := fun v m k kx => a v m (fun d m1 => match res m1 d with
  | .obj C ns xs => C ∈ T.cs ∧ k (.bl (Cs.any fun C' => decide ((C, C') ∈ T.sub))) m1
  | _ => False) kx
theorem xe_isOT {C1 C2 : Str} {wa : WE} {p1 p2 tp : Pos} {kt : Nat} (O : OwnC X.K X.mg T) (hC1 : C1 ∈ T.cs) (hC2 : C2 ∈ T.cs) (hg : Gl X "isinstance") (hm : X.mg "isinstance" = none) (hg1 : Gl X C1) (hg2 : Gl X C2) (hd1 : (C1 == ("__debug__" : Str)) = false) (hd2 : (C2 == ("__debug__" : Str)) = false) (ho : Xe X W a wa) (hs : starred a = false) :
    Xe X W (.Call (.Name "isinstance" p) [a, .Tuple [.Name C1 p1, .Name C2 p2] kt tp] [] cpos) (wIsOT T [C1, C2] wa) := by
  obtain ⟨t, pt, g1⟩ := ho.ex
  have pc1 : PE X (.Name C1 p1) (tC (.ref (He.ga X.K C1))) := pe_glob hg1 (O.glo C1 hC1) rfl hd1
  have pc2 : PE X (.Name C2 p2) (tC (.ref (He.ga X.K C2))) := pe_glob hg2 (O.glo C2 hC2) rfl hd2
  have pT : PE X (.Tuple [.Name C1 p1, .Name C2 p2] kt tp) _ := pe_tup (pa_cons pc1 (pa_cons pc2 pa_nil (star_eq (es := []) rfl X.env)) (star_eq (es := [.Name C2 p2]) rfl X.env))
  have hne : T.cs ≠ [] := fun z => by rw [z] at hC1; cases hC1
  refine ⟨_, pe_callB call_isiT hg hm rfl (pa_cons pt (pa_cons pT pa_nil (star_eq (es := []) rfl X.env)) (star_eq hs X.env)) (by decide) (by decide) (star_eq hs X.env) (any_star (by rfl)), ⟨fun {B F v m σ H k kx Q} hm re hw hq hx => ?_⟩⟩
  refine g1.run hm re hw (fun d m1 F1 H1 x hw1 e1 hm1 r1 => ?_) hx
  refine ⟨by show 2 ≤ sizeLine; decide, fun q hq1 => ?_⟩
  have hm2 := hm1.aside hq1 (.tup [.ref (He.ga X.K C1), .ref (He.ga X.K C2)])
  have vr := view_res hm2 r1
  split at hw1
  · rename_i C ns xs ed
    rw [ed] at vr
    obtain ⟨hC, hk⟩ := hw1
    obtain ⟨ad, dx, fs, rfl, h1, h2, h3⟩ := vr
    have o1 := O.one C hC
    refine ⟨_, q, _, _, [.ref (He.ga X.K C1), .ref (He.ga X.K C2)], _, rfl, upd_same, .cons (.own _) (.cons (.own _) .nil), .base (.ins h1 o1.cl o1.ha (O.hn hne) (O.htk hne) o1.hm), ?_, hq _ m1 F1 _ _ hk e1 hm2 rep_bl⟩
    unfold PySem.W.kitAny PySem.W.kitAny PySem.W.kitAny
    rw [O.sub C hC C1 hC1, O.sub C hC C2 hC2]
    show _ = some ((decide ((C, C1) ∈ T.sub)) || ((decide ((C, C2) ∈ T.sub)) || false))
    cases decide ((C, C1) ∈ T.sub) <;> cases decide ((C, C2) ∈ T.sub) <;> rfl
  · exact hw1.elim
end
end Ab
end
section
/-! Ab8c: dicts that are changed, and asked. -/
namespace Ab
open PySem PySem.Spec PyProof.Rows L2
section
variable {X : Cx} {W : WX} {e a b c o : Expr} {es : List Expr} {pos apos cpos p : Pos}
/-- what stands at a key is another value now -/
def putX (k : Key) (d : D) : List Key → List D → List D
  | q :: ks, x :: xs => (if q = k then d else x) :: putX k d ks xs
  | _, _ => []
/-- d[k] = v, k a text: no key yet, or a key -/
def gSubD (wo wi : WE) : WG := fun d v m k => wo v m (fun o m1 => wi v m1 (fun i m2 => match o, i with
  | .raw (.ref a), .str s => ∃ ks xs, m2 a = some (.dct ks xs) ∧ ks.length < 1000000 ∧ ((Sum.inr s ∉ ks ∧ k v (setM m2 a (.dct (ks ++ [.inr s]) (xs ++ [d])))) ∨ (Sum.inr s ∈ ks ∧ k v (setM m2 a (.dct ks (putX (.inr s) d ks xs)))))
  | _, _ => False) kx0) kx0
theorem putK_new {kvs : List (Key × V)} {k : Key} {v : V} (h : k ∉ kvs.map (·.1)) : putK kvs k v = kvs ++ [(k, v)] := by
  unfold putK
  rw [if_neg]
  intro z
  rw [List.any_eq_true] at z
  obtain ⟨x, h1, h2⟩ := z
  exact h (List.mem_map.mpr ⟨x, h1, of_decide_eq_true h2⟩)
theorem putX_rep {K : PySem.W.Frag} {F : Hp} {k : Key} {d : D} {v : V} (hv : Rep K F d v) : ∀ {kvs : List (Key × V)} {xs : List D}, RepL K F xs (kvs.map (·.2)) → RepL K F (putX k d (kvs.map (·.1)) xs) ((kvs.map fun kv => if kv.1 = k then (kv.1, v) else kv).map (·.2))
  | [], xs, r => by
    obtain rfl : xs = [] := by cases xs with
      | nil => rfl
      | cons x xs => obtain ⟨_, _, e, _⟩ := repL_cons.mp r; cases e
    exact RepL.nil
  | p :: kvs, [], r => by cases (repL_nil.mp r)
  | p :: kvs, x :: xs, r => by
    obtain ⟨v1, t, e, r1, r2⟩ := repL_cons.mp r
    rw [List.map_cons] at e
    injection e with e1 e2
    subst e1 e2
    have ih := putX_rep (k := k) hv r2
    show RepL K F ((if p.1 = k then d else x) :: putX k d (kvs.map (·.1)) xs) _
    rw [List.map_cons, List.map_cons]
    refine RepL.cons ?_ ih
    split
    · exact hv
    · exact r1
theorem putK_old {K : PySem.W.Frag} {F : Hp} {k : Key} {d : D} {v : V} {kvs : List (Key × V)} {xs : List D} (h : k ∈ kvs.map (·.1)) (hv : Rep K F d v) (r : RepL K F xs (kvs.map (·.2))) : (putK kvs k v).map (·.1) = kvs.map (·.1) ∧ RepL K F (putX k d (kvs.map (·.1)) xs) ((putK kvs k v).map (·.2)) := by
  have e : putK kvs k v = kvs.map fun kv => if kv.1 = k then (kv.1, v) else kv := by
    unfold putK
    rw [if_pos]
    obtain ⟨x, h1, h2⟩ := List.mem_map.mp h
    exact List.any_eq_true.mpr ⟨x, h1, decide_eq_true h2⟩
  rw [e]
  refine ⟨?_, putX_rep hv r⟩
  rw [List.map_map]
  refine List.map_congr_left fun p _ => ?_
  show (if p.1 = k then (p.1, v) else p).1 = p.1
  split <;> rfl
theorem xg_subD {wo wi : WE} (hu : X.A.units + 1 < cLine) (ho : Xe X (fun _ _ _ _ => False) a wo) (hi : Xe X (fun _ _ _ _ => False) b wi) (hs : isSlice b = false) : Xg X (.Subscript a b pos) (gSubD wo wi) := by
  obtain ⟨to, p1, g1⟩ := ho.ex
  obtain ⟨ti, p2, g2⟩ := hi.ex
  refine ⟨_, pg_sub p1 p2 (set_dict hu) (assign_sub hs X.env), ⟨fun {B F v m σ H d x k Q} hm re rl hw hq => ?_⟩⟩
  refine g1.run hm re hw (fun o m1 F1 H1 vo hw1 e1 hm1 r1 => ?_) qx0
  refine g2.run hm1 (re.mono e1) hw1 (fun i m2 F2 H2 vi hw2 e2 hm2 r2 => ?_) qx0
  split at hw2
  · rename_i ad s
    obtain ⟨ks, xs, ha, hl, hw2⟩ := hw2
    unfold Rep at r1 r2
    subst r1 r2
    obtain ⟨_, ⟨kvs, q1, q2, q3⟩, _⟩ := hm2.mem _ _ ha
    refine ⟨ad, _, rfl, DPut.k (k := Sum.inr s) q1 (by rw [← q2, List.length_map] at hl; exact Nat.lt_of_lt_of_le hl (Nat.le_of_ble_eq_true rfl)), ?_⟩
    rcases hw2 with ⟨hn, hk⟩ | ⟨hn, hk⟩
    · rw [putK_new (by rw [q2]; exact hn)]
      refine hq _ _ F2 _ _ hk (e1.trans e2) (hm2.set ha ⟨kvs ++ [(Sum.inr s, x)], upd_same, by rw [List.map_append, q2]; rfl, ?_⟩) (re.mono (e1.trans e2))
      rw [List.map_append]
      exact q3.append (RepL.cons (rep_mono (e1.trans e2) d rl) RepL.nil)
    · subst q2
      obtain ⟨z1, z2⟩ := putK_old hn (rep_mono (e1.trans e2) d rl) q3
      exact hq _ _ F2 _ _ hk (e1.trans e2) (hm2.set ha ⟨putK kvs (Sum.inr s) x, upd_same, z1, z2⟩) (re.mono (e1.trans e2))
  · exact hw2.elim
/-- d.get(k) -/
def isDc (d : D) : Prop := match d with
  | .dct _ _ => True
  | _ => False
def wGet (a b : WE) : WE := fun v m k kx => a v m (fun d m1 => isDc (res m1 d) ∧ b v m1 (fun i m2 => match res m2 d, i with
  | .dct ks xs, .str s => k ((valD ks xs (.inr s)).getD .non) m2
  | _, _ => False) kx) kx
theorem valD_none {K : PySem.W.Frag} {F : Hp} {k : Key} : ∀ {kvs : List (Key × V)} {ks : List Key} {xs : List D}, kvs.map (·.1) = ks → RepL K F xs (kvs.map (·.2)) → valD ks xs k = none → valV kvs k = none
  | [], _, _, e, r, h => rfl
  | p :: r, _, [], e, q, h => by cases (repL_nil.mp q)
  | p :: r, _, x :: xs, e, q, h => by
    subst e
    obtain ⟨v, t, e1, h1, h2⟩ := repL_cons.mp q
    rw [List.map_cons] at e1 h
    injection e1 with e1 e2
    subst e2
    unfold valD at h
    by_cases c : p.1 = k
    · rw [if_pos c] at h
      cases h
    · rw [if_neg c] at h
      rw [valV_neg c]
      exact valD_none rfl h2 h
theorem xe_get {wa wb : WE} (hu : X.A.units + 1 < cLine) (ho : Xe X W o wa) (he : Xe X W e wb) (hn : noSuper o = true) (hs : starred e = false) (hline : (apos.endLine == cpos.line) = true) : Xe X W (.Call (.Attribute o "get" apos) [e] [] cpos) (wGet wa wb) := by
  obtain ⟨to, p1, g1⟩ := ho.ex
  obtain ⟨te, p2, g2⟩ := he.ex
  have hs1 : ([e] : List Expr).any starred = false := by rw [List.any_cons, hs]; rfl
  refine ⟨_, pe_dget1 hu p1 p2 ⟨base_ok hn _ _, few_ok hs1 (by show 1 < 29; decide), hline, by rw [star_eq hs]; rfl⟩, ⟨fun {B F v m σ H k kx Q} hm re hw hq hx => ?_⟩⟩
  refine g1.run hm re hw (fun d m1 F1 H1 x hw1 e1 hm1 r1 => ?_) hx
  obtain ⟨hd, hw1⟩ := hw1
  have vr := view_res hm1 r1
  cases ed : res m1 d with
  | dct ks xs =>
    rw [ed] at vr
    obtain ⟨ad, kvs, rfl, h1, h2, h3⟩ := vr
    refine ⟨ad, rfl, .inl ⟨kvs, h1⟩, ?_⟩
    refine g2.run hm1 (re.mono e1) hw1 (fun i m2 F2 H2 y hw2 e2 hm2 r2 => ?_) (hx.mono e1)
    have vr2 := view_res hm2 (rep_mono e2 d r1)
    split at hw2
    · rename_i ks2 xs2 s ed2
      rw [ed2] at vr2
      obtain ⟨ad', kvs2, q0, q1, q2, q3⟩ := vr2
      cases q0
      unfold Rep at r2
      subst r2
      refine ⟨valV kvs2 (Sum.inr s), .inl ⟨kvs2, Sum.inr s, q1, rfl, rfl⟩, ?_⟩
      cases c : valD ks2 xs2 (Sum.inr s) with
      | none =>
        rw [c] at hw2
        rw [valD_none q2 q3 c]
        exact hq .non m2 F2 H2 _ hw2 (e1.trans e2) hm2 rep_non
      | some x =>
        rw [c] at hw2
        obtain ⟨u, u1, u2⟩ := valD_ok q2 q3 c
        rw [u1]
        exact hq x m2 F2 H2 u hw2 (e1.trans e2) hm2 u2
    · exact hw2.elim
  | _ => rw [ed] at hd; exact hd.elim
end
end Ab
end
section
/-! Ab8d: sorted of pairs, of texts, of a dict; dict(d); methods of texts. -/
namespace Ab
open PySem PySem.Spec PyProof.Rows L2
/-! ### pairs of ints, sorted -/
def leP (a b : Int × Int) : Prop := a.1 < b.1 ∨ (a.1 = b.1 ∧ a.2 ≤ b.2)
def pairD (p : Int × Int) : D := .tup [.int p.1, .int p.2]
def rSortedPT (K : PySem.W.Frag) : List V → Hp → VK → Prop := fun vs H Q => ∃ (a : Addr) (zs : List (V × (Int × Int))), vs = [V.ref a] ∧ SqL K H a (zs.map (·.1)) ∧ (∀ z ∈ zs, ∃ t, z.1 = V.ref t ∧ SqT K H t [.int z.2.1, .int z.2.2]) ∧
  ∀ (zs' : List (V × (Int × Int))) (p : Addr), zs'.Perm zs → (zs'.map (·.2)).Pairwise leP → H p = none → Q (.ref p) (upd H p (.lst (zs'.map (·.1))))
open Classical in
theorem cr_sortedPT {X : Cx} : CallR X (.builtin "sorted") (rSortedPT X.K) := by
  intro pins s σ H vs us Q I r h
  obtain ⟨a, zs, rfl, hs, hx, q⟩ := h
  -- which pair stands at a thing
  let k : V → Int × Int := fun x => if c : ∃ p : Int × Int, ∃ t, x = V.ref t ∧ SqT X.K H t [.int p.1, .int p.2] then c.choose else (0, 0)
  have hk : ∀ z ∈ zs, k z.1 = z.2 := by
    intro z hz
    have c : ∃ p : Int × Int, ∃ t, z.1 = V.ref t ∧ SqT X.K H t [.int p.1, .int p.2] := ⟨z.2, hx z hz⟩
    have e : k z.1 = c.choose := dif_pos c
    rw [e]
    obtain ⟨t, e1, h1⟩ := c.choose_spec
    obtain ⟨t', e2, h2⟩ := hx z hz
    rw [e1] at e2
    cases e2
    have := I.tuple_inj h1 h2
    injection this with i1 i2
    injection i2 with i2 i3
    injection i1 with i1
    injection i2 with i2
    exact Prod.ext i1 i2
  obtain ⟨its, rv, hl, hz⟩ := I.list hs
  obtain ⟨u, rfl, ru⟩ := vals1 r
  obtain rfl : u = Value.ref a := ru
  have hx' : ∀ x ∈ zs.map (·.1), ∃ t, x = V.ref t ∧ SqT X.K H t [.int (k x).1, .int (k x).2] := by
    intro x hm
    obtain ⟨z, hm2, rfl⟩ := List.mem_map.mp hm
    obtain ⟨t, e, ht⟩ := hx z hm2
    exact ⟨t, e, by rw [hk z hm2]; exact ht⟩
  obtain ⟨e1, e2⟩ := refs_back rv fun x m => by
    obtain ⟨t, e, _⟩ := hx' x m
    exact ⟨t, e⟩
  refine SrtO.sorted_pairsO (k := fun u => k (backV u)) hl.isList (by rw [← rv.length]; exact hz) (fun v hv => ?_) fun h' d out h1 h2 kp hd hn => ?_
  · obtain ⟨t, rfl⟩ := e2 v hv
    have hm : V.ref t ∈ zs.map (·.1) := by rw [e1]; exact List.mem_map.mpr ⟨_, hv, rfl⟩
    obtain ⟨t', e, ht⟩ := hx' _ hm
    cases e
    obtain ⟨its2, r2, ⟨o, ho, hc, n, hd⟩, _⟩ := I.tuple ht
    obtain ⟨u1, u2, rfl, ri, rj⟩ := vals2 r2
    obtain ⟨t1, rfl⟩ := ri
    obtain ⟨t2, rfl⟩ := rj
    exact ⟨t, o, t1, t2, n, rfl, ho, hc, hd⟩
  · have h3 : ∀ u ∈ out, ∃ a, u = Value.ref a := fun u hu => e2 u (h2.perm.mem_iff.mp hu)
    obtain ⟨n, hn⟩ := hn
    have hb : SrtO.Stb (ltP k) (out.map backV) (zs.map (·.1)) := by
      rw [e1]
      exact SrtO.Stb.map (ltP_swo k) backV h2
    have hsr := SrtO.srtd_map (lt := ltP k) (f := backV) h1
    have q2 := q ((out.map backV).map fun x => (x, k x)) d ?_ ?_ (I.hok.fresh hd)
    · rw [List.map_map] at q2
      have e3 : (out.map backV).map ((fun z : V × (Int × Int) => z.1) ∘ fun x => (x, k x)) = out.map backV := by
        conv => rhs; rw [← List.map_id (out.map backV)]
        rfl
      rw [e3] at q2
      refine ⟨.ref d, upd H d (.lst (out.map backV)), I.laid (t' := s.toks) kp hd ⟨?_, out, n, vals_back h3, hn⟩, rfl, q2⟩
      rw [hb.len]
      exact hz
    · have p1 := hb.perm.map fun x => (x, k x)
      have e4 : (zs.map (·.1)).map (fun x => (x, k x)) = zs := by
        rw [List.map_map]
        conv => rhs; rw [← List.map_id zs]
        exact List.map_congr_left fun z hz => by
          show (z.1, k z.1) = z
          rw [hk z hz]
      rw [e4] at p1
      exact p1
    · rw [List.map_map]
      refine List.pairwise_map.mpr (List.Pairwise.imp (fun {x y} hxy => ?_) hsr)
      have := SrtO.lexB_no.mp hxy
      show leP (k x) (k y)
      unfold leP
      omega
/-- texts, in order -/
def rSortAll (K : PySem.W.Frag) : List V → Hp → VK → Prop := fun vs H Q => rSortedPT K vs H Q ∨ (rSortedS K vs H Q ∨ ∃ (a : Addr) (kvs : List (Key × V)) (ks : List Str), vs = [.ref a] ∧ Rd H a (.dK kvs) ∧ kvs.map (·.1) = ks.map Sum.inr ∧ ks.length < 64 ∧ ∀ ys p, ys.Perm ks → sortedS ys = true → H p = none → Q (.ref p) (upd H p (.lst (ys.map V.str))))
theorem repL_strs {K : PySem.W.Frag} {F : Hp} {ss : List Str} : ∀ {vs : List V}, RepL K F (ss.map D.str) vs ↔ vs = ss.map V.str := by
  induction ss with
  | nil => intro vs; exact repL_nil
  | cons n ns ih =>
    intro vs
    rw [List.map_cons, repL_cons, List.map_cons]
    constructor
    · rintro ⟨v, r, rfl, h1, h2⟩
      rw [ih.mp h2]
      unfold Rep at h1
      rw [h1]
    · rintro rfl
      exact ⟨_, _, rfl, by unfold Rep; rfl, ih.mpr rfl⟩
theorem rep_pairs {K : PySem.W.Frag} {F : Hp} : ∀ {ps : List (Int × Int)} {vs : List V}, RepL K F (ps.map pairD) vs → ∃ zs : List (V × (Int × Int)), zs.map (·.1) = vs ∧ zs.map (·.2) = ps ∧ (∀ z ∈ zs, ∃ t, z.1 = V.ref t ∧ SqT K F t [.int z.2.1, .int z.2.2])
  | [], vs, h => ⟨[], (repL_nil.mp h).symm, rfl, fun z hz => nomatch hz⟩
  | p :: ps, vs, h => by
    obtain ⟨v, r, rfl, h1, h2⟩ := repL_cons.mp h
    obtain ⟨zs, z1, z2, z3⟩ := rep_pairs h2
    unfold pairD Rep at h1
    obtain ⟨t, us, rfl, h3, h4⟩ := h1
    have e : us = [.int p.1, .int p.2] := by
      have := repL_ints (ns := [p.1, p.2]).mp h4
      exact this
    rw [e] at h3
    refine ⟨(.ref t, p) :: zs, by rw [List.map_cons, z1], by rw [List.map_cons, z2], fun z hz => ?_⟩
    rcases List.mem_cons.mp hz with rfl | hz
    · exact ⟨t, rfl, h3⟩
    · exact z3 z hz
theorem rep_of_pairs {K : PySem.W.Frag} {F : Hp} : ∀ {zs : List (V × (Int × Int))}, (∀ z ∈ zs, ∃ t, z.1 = V.ref t ∧ SqT K F t [.int z.2.1, .int z.2.2]) → RepL K F ((zs.map (·.2)).map pairD) (zs.map (·.1))
  | [], _ => RepL.nil
  | z :: zs, h => by
    obtain ⟨t, e, h1⟩ := h z (List.mem_cons_self ..)
    rw [List.map_cons, List.map_cons, List.map_cons, e]
    refine RepL.cons ?_ (rep_of_pairs fun y hy => h y (List.mem_cons_of_mem _ hy))
    unfold pairD Rep
    exact ⟨t, _, rfl, h1, repL_ints (ns := [z.2.1, z.2.2]).mpr rfl⟩
def cSort (z : Bool) : OC := fun m ds k => match ds with
  | [.lst xs] => (∃ ps : List (Int × Int), xs = ps.map pairD ∧ ∀ qs : List (Int × Int), qs.Perm ps → qs.Pairwise leP → newK z (.lst (qs.map pairD)) m k) ∨ (∃ ss : List Str, xs = ss.map D.str ∧ ss.length < 64 ∧ ∀ ys : List Str, ys.Perm ss → sortedS ys = true → newK z (.lst (ys.map D.str)) m k)
  | [.dct ks _] => ∃ ss : List Str, ks = ss.map Sum.inr ∧ ss.length < 64 ∧ ∀ ys : List Str, ys.Perm ss → sortedS ys = true → newK z (.lst (ys.map D.str)) m k
  | _ => False
theorem gc_sort {K : PySem.W.Frag} {z : Bool} : GC K (rSortAll K) (cSort z) := by
  refine ⟨fun {B F m H vs ds k Q} hm vd h hq => ?_⟩
  unfold cSort at h
  split at h
  · obtain ⟨v, rfl, a, vs, rfl, ha, ra⟩ := vl1 vd
    rcases h with ⟨ps, rfl, h⟩ | ⟨ss, rfl, h1, h2⟩
    · obtain ⟨zs, z1, z2, z3⟩ := rep_pairs ra
      refine .inl ⟨a, zs, rfl, by rw [z1]; exact .inl (.inl ha), fun z hz => ?_, fun zs' p hp hs hn => ?_⟩
      · obtain ⟨t, e, h1⟩ := z3 z hz
        exact ⟨t, e, sqt_mono hm.fr h1⟩
      · have := h (zs'.map (·.2)) (by rw [← z2]; exact hp.map _) hs
        exact newK_ok hm hn (rep_of_pairs fun z hz => z3 z (hp.mem_iff.mp hz)) this hq
    · refine .inr (.inl ⟨a, ss, rfl, ?_, h1, fun ys p hp hs hn => newK_ok hm hn (repL_strs.mpr rfl) (h2 ys hp hs) hq⟩)
      rw [repL_strs.mp ra] at ha
      exact .inl (.inl ha)
  · obtain ⟨v, rfl, a, kvs, rfl, ha, hk, ra⟩ := vl1 vd
    obtain ⟨ss, h0, h1, h2⟩ := h
    exact .inr (.inr ⟨a, kvs, ss, rfl, ha, hk.trans h0, h1, fun ys p hp hs hn => newK_ok hm hn (repL_strs.mpr rfl) (h2 ys hp hs) hq⟩)
  · exact h.elim
theorem xc_sort {X : Cx} {z : Bool} (hc : X.calm = true) : XC X (.builtin "sorted") (cSort z) := ⟨_, cr_sortedPT.or (cr_sortedS.or (call_sortedD hc)), gc_sort⟩
/-! ### dict(d) -/
/-! ### methods of texts -/
section
variable {X : Cx}
theorem rep_str_inv {K : PySem.W.Frag} {F : Hp} {s : Str} {v : V} (h : Rep K F (.str s) v) : v = .str s := by unfold Rep at h; exact h
def sFind : OM := fun m d ds k => match d, ds with
  | .str a, [.str b] => k (.int (Txt.find a b)) m
  | _, _ => False
theorem xm_find : XM X "str.find" sFind := by
  refine ⟨_, mt_find, ⟨fun {B F m H x vs d ds k Q} hm r rl h hq => ?_⟩⟩
  unfold sFind at h
  split at h
  · obtain ⟨v, t, rfl, r1, rt⟩ := repL_cons.mp rl
    rw [repL_nil.mp rt, rep_str_inv r, rep_str_inv r1]
    exact ⟨_, _, rfl, rfl, hq _ m F H _ h (Same.refl _) hm rep_int⟩
  · exact h.elim
def sJoin : OM := fun m d ds k => match d, ds with
  | .str a, [.lst xs] => ∃ ss : List Str, xs = ss.map D.str ∧ (ss.map (·.length)).sum + ss.length * a.length ≤ 16777216 ∧ k (.str (Txt.join a ss)) m
  | _, _ => False
theorem xm_join : XM X "str.join" sJoin := by
  refine ⟨_, mt_join, ⟨fun {B F m H x vs d ds k Q} hm r rl h hq => ?_⟩⟩
  unfold sJoin at h
  split at h
  · obtain ⟨v, t, rfl, r1, rt⟩ := repL_cons.mp rl
    obtain ⟨ss, rfl, h1, h2⟩ := h
    rw [repL_nil.mp rt, rep_str_inv r]
    unfold Rep at r1
    obtain ⟨p, us, rfl, hp, ru⟩ := r1
    rw [repL_strs.mp ru] at hp
    exact ⟨_, p, ss, rfl, rfl, .inl (.inl (.inl (hm.fr _ _ hp))), h1, hq _ m F H _ h2 (Same.refl _) hm rep_str⟩
  · exact h.elim
def sLstrip : OM := fun m d ds k => match d, ds with
  | .str a, [.str b] => a.length ≤ sizeLine ∧ k (.str (Txt.lstripChars a b)) m
  | _, _ => False
theorem xm_lstrip : XM X "str.lstrip" sLstrip := by
  refine ⟨_, mt_lstripChars, ⟨fun {B F m H x vs d ds k Q} hm r rl h hq => ?_⟩⟩
  unfold sLstrip at h
  split at h
  · obtain ⟨v, t, rfl, r1, rt⟩ := repL_cons.mp rl
    rw [repL_nil.mp rt, rep_str_inv r, rep_str_inv r1]
    exact ⟨_, _, rfl, rfl, h.1, hq _ m F H _ h.2 (Same.refl _) hm rep_str⟩
  · exact h.elim
def sUpper : OM := fun m d ds k => match d, ds with
  | .str a, [] => a.length ≤ 5592405 ∧ k (.str (Txt.upper a)) m
  | _, _ => False
theorem xm_upper : XM X "str.upper" sUpper := by
  refine ⟨_, mt_upper, ⟨fun {B F m H x vs d ds k Q} hm r rl h hq => ?_⟩⟩
  unfold sUpper at h
  split at h
  · rw [repL_nil.mp rl, rep_str_inv r]
    exact ⟨_, rfl, rfl, h.1, hq _ m F H _ h.2 (Same.refl _) hm rep_str⟩
  · exact h.elim
def sIndex : OM := fun m d ds k => match d, ds with
  | .str a, [.str b] => ∃ (i : Nat) (rest : List Nat), Builtin.Str.occurrences a b 0 a.length 1 = i :: rest ∧ k (.int (i : Nat)) m
  | _, _ => False
theorem xm_sindex : XM X "str.index" sIndex := by
  refine ⟨_, mt_sindex, ⟨fun {B F m H x vs d ds k Q} hm r rl h hq => ?_⟩⟩
  unfold sIndex at h
  split at h
  · obtain ⟨v, t, rfl, r1, rt⟩ := repL_cons.mp rl
    obtain ⟨i, rest, h1, h2⟩ := h
    rw [repL_nil.mp rt, rep_str_inv r, rep_str_inv r1]
    exact ⟨_, _, i, rest, rfl, rfl, h1, hq _ m F H _ h2 (Same.refl _) hm rep_int⟩
  · exact h.elim
def sStarts : OM := fun m d ds k => match d, ds with
  | .str a, [.str b] => k (.bl (Txt.startswith a b)) m
  | _, _ => False
theorem xm_starts : XM X "str.startswith" sStarts := by
  refine ⟨_, mt_startswith, ⟨fun {B F m H x vs d ds k Q} hm r rl h hq => ?_⟩⟩
  unfold sStarts at h
  split at h
  · obtain ⟨v, t, rfl, r1, rt⟩ := repL_cons.mp rl
    rw [repL_nil.mp rt, rep_str_inv r, rep_str_inv r1]
    exact ⟨_, _, rfl, rfl, hq _ m F H _ h (Same.refl _) hm rep_bl⟩
  · exact h.elim
def sZfill : OM := fun m d ds k => match d, ds with
  | .str a, [.int i] => PadOk i = true ∧ k (.str (Txt.zfill a i)) m
  | _, _ => False
theorem xm_zfill : XM X "str.zfill" sZfill := by
  refine ⟨_, mt_zfill, ⟨fun {B F m H x vs d ds k Q} hm r rl h hq => ?_⟩⟩
  unfold sZfill at h
  split at h
  · obtain ⟨v, t, rfl, r1, rt⟩ := repL_cons.mp rl
    rw [repL_nil.mp rt, rep_str_inv r]
    unfold Rep at r1
    rw [r1]
    exact ⟨_, _, rfl, rfl, h.1, hq _ m F H _ h.2 (Same.refl _) hm rep_str⟩
  · exact h.elim
end
/-! ### d.get(k, e) -/
def wGet2 (a b c : WE) : WE := fun v m k kx => a v m (fun d m1 => isDc (res m1 d) ∧ b v m1 (fun i m2 => c v m2 (fun e m3 => match res m3 d, i with
  | .dct ks xs, .str s => k ((valD ks xs (.inr s)).getD e) m3
  | _, _ => False) kx) kx) kx
section
variable {X : Cx} {W : WX} {e f o : Expr} {apos cpos : Pos}
theorem xe_get2 {wa wb wc : WE} (hu : X.A.units + 1 < cLine) (ho : Xe X W o wa) (he : Xe X W e wb) (hf : Xe X W f wc) (hn : noSuper o = true) (hs : starred e = false) (hs2 : starred f = false) (hline : (apos.endLine == cpos.line) = true) : Xe X W (.Call (.Attribute o "get" apos) [e, f] [] cpos) (wGet2 wa wb wc) := by
  obtain ⟨to, p1, g1⟩ := ho.ex
  obtain ⟨te, p2, g2⟩ := he.ex
  obtain ⟨tf, p3, g3⟩ := hf.ex
  have hs1 : ([e, f] : List Expr).any starred = false := by rw [List.any_cons, List.any_cons, hs, hs2]; rfl
  refine ⟨_, pe_dget2 hu p1 p2 p3 ⟨base_ok hn _ _, few_ok hs1 (by show 2 < 29; decide), hline, by rw [star_eq hs, star_eq hs2]; rfl⟩, ⟨fun {B F v m σ H k kx Q} hm re hw hq hx => ?_⟩⟩
  refine g1.run hm re hw (fun d m1 F1 H1 x hw1 e1 hm1 r1 => ?_) hx
  obtain ⟨hd, hw1⟩ := hw1
  have vr := view_res hm1 r1
  cases ed : res m1 d with
  | dct ks xs =>
    rw [ed] at vr
    obtain ⟨ad, kvs, rfl, h1, h2, h3⟩ := vr
    refine ⟨ad, rfl, .inl ⟨kvs, h1⟩, ?_⟩
    refine g2.run hm1 (re.mono e1) hw1 (fun i m2 F2 H2 y hw2 e2 hm2 r2 => ?_) (hx.mono e1)
    refine g3.run hm2 (re.mono (e1.trans e2)) hw2 (fun z m3 F3 H3 vz hw3 e3 hm3 r3 => ?_) (hx.mono (e1.trans e2))
    have vr2 := view_res hm3 (rep_mono (e2.trans e3) d r1)
    split at hw3
    · rename_i ks2 xs2 s ed2
      rw [ed2] at vr2
      obtain ⟨ad', kvs2, q0, q1, q2, q3⟩ := vr2
      cases q0
      unfold Rep at r2
      subst r2
      refine ⟨valV kvs2 (Sum.inr s), .inl ⟨kvs2, Sum.inr s, q1, rfl, rfl⟩, ?_⟩
      cases c : valD ks2 xs2 (Sum.inr s) with
      | none =>
        rw [c] at hw3
        rw [valD_none q2 q3 c]
        exact hq z m3 F3 H3 vz hw3 ((e1.trans e2).trans e3) hm3 r3
      | some x =>
        rw [c] at hw3
        obtain ⟨u, u1, u2⟩ := valD_ok q2 q3 c
        rw [u1]
        exact hq x m3 F3 H3 u hw3 ((e1.trans e2).trans e3) hm3 u2
    · exact hw3.elim
  | _ => rw [ed] at hd; exact hd.elim
end
end Ab
end
section
/-! Ab8e: repr of a dict of plain values; dict(a list of pairs). -/
namespace Ab
open PySem PySem.Spec PyProof.Rows L2
/-! ### the modules' dict is no list -/
def smK (K : PySem.W.Frag) : Bool := match K.lookup sysModules with
  | some o => (match o.cls with
    | .type c => decide (c ≠ "list")
    | _ => false)
  | none => false
theorem not_sm {K : PySem.W.Frag} {h : Heap} {b : Addr} {o : Obj} (hk : smK K = true) (X : K.In h) (hb : h.get? b = some o) (hc : o.cls = .type "list") : b ≠ sysModules := by
  rintro rfl
  unfold smK at hk
  cases e : K.lookup sysModules with
  | none => rw [e] at hk; cases hk
  | some o' =>
    rw [e] at hk
    have h2 := X _ _ e
    rw [hb] at h2
    cases h2
    have hk2 : (match o.cls with
      | .type c => decide (c ≠ "list")
      | _ => false) = true := hk
    rw [hc] at hk2
    exact absurd hk2 (by decide)
/-! ### a value that a dict holds -/
def toE0 : D → Option PyData
  | .non => some .none
  | .bl b => some (.bool b)
  | .int i => some (.int i)
  | .str x => some (.str x)
  | _ => none
def toE0s : List D → Option (List PyData)
  | [] => some []
  | d :: ds => match toE0 d, toE0s ds with
    | some p, some q => some (p :: q)
    | _, _ => none
def toW : D → Option PyData
  | .lst xs => (toE0s xs).map .list
  | d => toE0 d
def toWs : List D → Option (List PyData)
  | [] => some []
  | d :: ds => match toW d, toWs ds with
    | some p, some q => some (p :: q)
    | _, _ => none
def keyP : Key → PyData
  | .inl i => .int i
  | .inr x => .str x
inductive Dl : V → PyData → Prop where
  | non : Dl .non .none
  | bl (b : Bool) : Dl (.bl b) (.bool b)
  | int (b : Int) : Dl (.int b) (.int b)
  | str (b : Str) : Dl (.str b) (.str b)
theorem Dl.reads {h : Heap} {v : V} {u : Value} {p : PyData} (d : Dl v p) (r : RelV v u) : Reads h u p [] := by
  cases d with
  | non => cases r; exact Reads.none
  | bl b => cases r; exact Reads.bool b
  | int b => obtain ⟨t, rfl⟩ := r; exact Reads.int b t
  | str b => obtain ⟨t, rfl⟩ := r; exact Reads.str b t
theorem dl_of {K : PySem.W.Frag} {F : Hp} {d : D} {v : V} {p : PyData} (r : Rep K F d v) (h : toE0 d = some p) : Dl v p := by
  cases d with
  | non => cases h; unfold Rep at r; subst r; exact .non
  | bl b => cases h; unfold Rep at r; subst r; exact .bl _
  | int b => cases h; unfold Rep at r; subst r; exact .int _
  | str b => cases h; unfold Rep at r; subst r; exact .str _
  | _ => cases h
inductive DlAll : List V → List PyData → Prop where
  | nil : DlAll [] []
  | cons {v : V} {p : PyData} {vs : List V} {ps : List PyData} (h : Dl v p) (t : DlAll vs ps) : DlAll (v :: vs) (p :: ps)
theorem DlAll.reads {h : Heap} {vs : List V} {ps : List PyData} (d : DlAll vs ps) : ∀ {us : List Value}, Vals vs us → ReadsAll h us ps [] := by
  induction d with
  | nil =>
    intro us r
    cases r
    exact ReadsAll.nil
  | cons d t ih =>
    intro us r
    cases r with
    | cons r1 r2 => exact ReadsAll.cons (d.reads r1) (ih r2)
theorem dls_of {K : PySem.W.Frag} {F : Hp} : ∀ {xs : List D} {vs : List V} {ps : List PyData}, RepL K F xs vs → toE0s xs = some ps → DlAll vs ps
  | [], vs, ps, r, h => by
    cases h
    rw [repL_nil.mp r]
    exact .nil
  | d :: ds, vs, ps, r, h => by
    obtain ⟨v, t, rfl, r1, r2⟩ := repL_cons.mp r
    unfold toE0s at h
    split at h
    · rename_i p q h1 h2
      cases h
      exact .cons (dl_of r1 h1) (dls_of r2 h2)
    · cases h
/-- what a dict's value is, in the heap -/
inductive Dw (K : PySem.W.Frag) (H : Hp) : V → PyData → Prop where
  | leaf {v : V} {p : PyData} (h : Dl v p) : Dw K H v p
  | lst {a : Addr} {vs : List V} {ps : List PyData} (h : SqL K H a vs) (t : DlAll vs ps) : Dw K H (.ref a) (.list ps)
section
variable {X : Cx} {pins : List (Addr × Obj)} {σ : L2.St} {H : Hp} {s : Shared}
theorem Dw.reads (I : Inv X pins σ H s) (hk : smK X.K = true) {v : V} {u : Value} {p : PyData} (d : Dw X.K H v p) (r : RelV v u) : ∃ as, Reads s.heap u p as ∧ sysModules ∉ as := by
  cases d with
  | leaf h => exact ⟨[], h.reads r, fun z => nomatch z⟩
  | lst h t =>
    cases r
    obtain ⟨its, rv, ⟨o, n, ho, hc, hd, hdat⟩, hz⟩ := I.list h
    refine ⟨_, Reads.list ho hc hdat (t.reads rv), ?_⟩
    intro z
    rw [List.mem_singleton] at z
    exact not_sm hk I.kIn ho hc z.symm
inductive DwAll (K : PySem.W.Frag) (H : Hp) : List V → List PyData → Prop where
  | nil : DwAll K H [] []
  | cons {v : V} {p : PyData} {vs : List V} {ps : List PyData} (h : Dw K H v p) (t : DwAll K H vs ps) : DwAll K H (v :: vs) (p :: ps)
theorem dw_of {K : PySem.W.Frag} {F : Hp} (e : Same F H) {d : D} {v : V} {p : PyData} (r : Rep K F d v) (h : toW d = some p) : Dw K H v p := by
  cases d with
  | lst xs =>
    obtain ⟨ps, h1, rfl⟩ := Option.map_eq_some_iff.mp h
    unfold Rep at r
    obtain ⟨a, vs, rfl, h2, h3⟩ := r
    exact .lst (.inl (.inl (e _ _ h2))) (dls_of h3 h1)
  | non => exact .leaf (dl_of r h)
  | bl b => exact .leaf (dl_of r h)
  | int b => exact .leaf (dl_of r h)
  | str b => exact .leaf (dl_of r h)
  | _ => cases h
theorem dws_of {K : PySem.W.Frag} {F : Hp} (e : Same F H) : ∀ {xs : List D} {vs : List V} {ps : List PyData}, RepL K F xs vs → toWs xs = some ps → DwAll K H vs ps
  | [], vs, ps, r, h => by
    cases h
    rw [repL_nil.mp r]
    exact .nil
  | d :: ds, vs, ps, r, h => by
    obtain ⟨v, t, rfl, r1, r2⟩ := repL_cons.mp r
    unfold toWs at h
    split at h
    · rename_i p q h1 h2
      cases h
      exact .cons (dw_of e r1 h1) (dws_of e r2 h2)
    · cases h
theorem reads_keys {h : Heap} {P : Program} {w : World} : ∀ {es : List DictEntry} {vs : List (Key × Value)}, Pairs (mixKind P w) es vs → ReadsAll h (es.map (·.key)) (vs.map fun p => keyP p.1) []
  | _, _, .nil => ReadsAll.nil
  | _, _, .cons h1 h2 t => by
    refine ReadsAll.cons (as := []) (bs := []) ?_ (reads_keys t)
    dsimp only
    rcases keyIs_shape h1 with ⟨i, t, e1, e2⟩ | ⟨x, t, e1, e2⟩
    · rw [e1, e2]
      exact Reads.int i t
    · rw [e1, e2]
      exact Reads.str x t
theorem reads_vals (I : Inv X pins σ H s) (hk : smK X.K = true) : ∀ {es : List DictEntry} {vs : List (Key × Value)} {kvs : List (Key × V)} {ps : List PyData}, Pairs (mixKind X.prog X.w) es vs → KV kvs vs → DwAll X.K H (kvs.map (·.2)) ps → ∃ as, ReadsAll s.heap (es.map (·.val)) ps as ∧ sysModules ∉ as
  | _, _, _, _, .nil, .nil, .nil => ⟨[], ReadsAll.nil, fun z => nomatch z⟩
  | _, _, _, _, .cons h1 h2 t, .cons r rt, d => by
    cases d with
    | cons d dt =>
      obtain ⟨as, q1, q2⟩ := d.reads I hk r.2
      obtain ⟨bs, q3, q4⟩ := reads_vals I hk t rt dt
      rw [List.map_cons, h2]
      exact ⟨_, ReadsAll.cons q1 q3, fun z => (List.mem_append.mp z).elim q2 q4⟩
end
theorem kv_keys : ∀ {kvs : List (Key × V)} {vs : List (Key × Value)}, KV kvs vs → vs.map (fun p => keyP p.1) = kvs.map fun p => keyP p.1
  | _, _, .nil => rfl
  | _, _, .cons r t => by rw [List.map_cons, List.map_cons, kv_keys t, r.1]
theorem zip_two {α β : Type} : ∀ {a : List α} {b : List β}, a.length = b.length → (a.zip b).map (·.1) = a ∧ (a.zip b).map (·.2) = b
  | [], [], _ => ⟨rfl, rfl⟩
  | x :: a, y :: b, h => by
    obtain ⟨h1, h2⟩ := zip_two (a := a) (b := b) (by simpa using h)
    exact ⟨by simp [h1], by simp [h2]⟩
  | [], _ :: _, h => by simp at h
  | _ :: _, [], h => by simp at h
theorem DwAll.len {K : PySem.W.Frag} {H : Hp} {vs : List V} {ps : List PyData} (h : DwAll K H vs ps) : vs.length = ps.length := by
  induction h with
  | nil => rfl
  | cons _ _ ih => simp [ih]
section
variable {X : Cx}
theorem call_reprD (hg : X.A.guards = some []) (hu : X.A.units + 100 < cLine) : CallR X (.builtin "repr") (fun xs H Q => ∃ a kvs ps, xs = [.ref a] ∧ smK X.K = true ∧ Rd H a (.dK kvs) ∧ DwAll X.K H (kvs.map (·.2)) ps ∧
    (PyData.dict ((kvs.map fun p => keyP p.1).zip ps)).showable = true ∧ (PyData.dict ((kvs.map fun p => keyP p.1).zip ps)).depth ≤ 60 ∧ (PyData.dict ((kvs.map fun p => keyP p.1).zip ps)).shown.length ≤ sizeLine ∧ Q (.str (PyData.dict ((kvs.map fun p => keyP p.1).zip ps)).shown) H) := by
  intro pins s σ H xs us Q I r h
  obtain ⟨a, kvs, ps, rfl, hk, hd, hw, g1, g2, g3, q⟩ := h
  obtain ⟨u, rfl, rx⟩ := vals1 r
  obtain rfl : u = Value.ref a := rx
  obtain ⟨_, hs, vs, kv, o, es, ep, h1, h2, h3, _, h5, _⟩ := dk_rd I.hok hd
  obtain ⟨bs, q1, q2⟩ := reads_vals I hk h5 kv hw
  have hl : (kvs.map fun p => keyP p.1).length = ps.length := by rw [List.length_map, ← hw.len, List.length_map]
  obtain ⟨z1, z2⟩ := zip_two hl
  have rd : Reads s.heap (.ref a) (.dict ((kvs.map fun p => keyP p.1).zip ps)) (a :: [] ++ bs) := Reads.dict h1 h2.1 h3 (by rw [z1, ← kv_keys kv]; exact reads_keys h5) (by rw [z2]; exact q1)
  have hns : sysModules ∉ (a :: [] ++ bs) := by
    intro z
    rcases List.mem_append.mp z with z | z
    · rw [List.mem_singleton] at z
      subst z
      simp at hs
    · exact q2 z
  exact repr_of_reads' rd g1 (fun _ => hns) hg (by omega) (fun _ _ e => e) (fun h' u tk hk => ⟨.str _, H, I.kept (t' := tk) hk, ⟨_, rfl⟩, q⟩) g3
/-- repr, of dicts too -/
def cReprK (K : PySem.W.Frag) : OC := fun m ds k => cRepr m ds k ∨ ∃ ks xs ps, ds = [.dct ks xs] ∧ smK K = true ∧ toWs xs = some ps ∧ (PyData.dict ((ks.map keyP).zip ps)).showable = true ∧ (PyData.dict ((ks.map keyP).zip ps)).depth ≤ 60 ∧ (PyData.dict ((ks.map keyP).zip ps)).shown.length ≤ sizeLine ∧ k (.str (PyData.dict ((ks.map keyP).zip ps)).shown) m
theorem xc_reprK (hg : X.A.guards = some []) (hu : X.A.units + 100 < cLine) : XC X (.builtin "repr") (cReprK X.K) := by
  obtain ⟨r, c, g⟩ := (xc_repr hg hu).ex
  refine ⟨_, CallR.or c (call_reprD hg hu), ⟨fun {B F m H vs ds k Q} hm vd h hq => ?_⟩⟩
  rcases h with h | ⟨ks, xs, ps, rfl, hk, hw, g1, g2, g3, h⟩
  · exact .inl (g.run hm vd h hq)
  · obtain ⟨v, rfl, h1⟩ := vl1 vd
    obtain ⟨a, kvs, rfl, ha, hks, ra⟩ := h1
    subst hks
    rw [List.map_map] at g1 g2 g3 h
    exact .inr ⟨a, kvs, ps, rfl, hk, ha, dws_of hm.fr ra hw, g1, g2, g3, qstr hm hq h⟩
end
/-! ### dict(a list of pairs) -/
def cDict2 (z : Bool) : OC := fun m ds k => match ds with
  | [.dct ks xs] => newK z (.dct ks xs) m k
  | [.lst xs] => ∃ ps : List (Str × D), xs = ps.map (fun p => .tup [.str p.1, p.2]) ∧ (ps.map (·.1)).Nodup ∧ newK z (.dct (ps.map fun p => .inr p.1) (ps.map (·.2))) m k
  | _ => False
theorem merge_newK : ∀ {ps : List (Key × V)} {kvs : List (Key × V)}, ((kvs ++ ps).map (·.1)).Nodup → mergeK kvs ps = kvs ++ ps
  | [], kvs, _ => by rw [List.append_nil]; rfl
  | p :: ps, kvs, h => by
    show mergeK (putK kvs p.1 p.2) ps = _
    have hn : p.1 ∉ kvs.map (·.1) := by
      rw [List.map_append, List.map_cons] at h
      intro z
      exact (List.nodup_append.mp h).2.2 _ z _ (List.mem_cons_self ..) rfl
    rw [putK_new hn]
    have e : kvs ++ [(p.1, p.2)] ++ ps = kvs ++ p :: ps := by simp
    rw [merge_newK (by rw [e]; exact h), e]
theorem pairs_rep {K : PySem.W.Frag} {F H : Hp} (e : Same F H) : ∀ {ps : List (Str × D)} {vs : List V}, RepL K F (ps.map fun p => .tup [.str p.1, p.2]) vs → ∃ (as : List Addr) (kvs : List (Key × V)), vs = as.map V.ref ∧ Paired (fun p (kv : Key × V) => SqT K H p [kV kv.1, kv.2]) as kvs ∧ kvs.map (·.1) = ps.map (fun p => Sum.inr p.1) ∧ RepL K F (ps.map (·.2)) (kvs.map (·.2))
  | [], vs, r => ⟨[], [], by rw [List.map_nil] at r; exact repL_nil.mp r, .nil, rfl, RepL.nil⟩
  | p :: ps, vs, r => by
    rw [List.map_cons] at r
    obtain ⟨v, t, rfl, r1, r2⟩ := repL_cons.mp r
    obtain ⟨as, kvs, rfl, h1, h2, h3⟩ := pairs_rep e r2
    unfold Rep at r1
    obtain ⟨a, us, rfl, g1, g2⟩ := r1
    obtain ⟨v1, t1, rfl, q1, q2⟩ := repL_cons.mp g2
    obtain ⟨v2, t2, rfl, q3, q4⟩ := repL_cons.mp q2
    obtain rfl := repL_nil.mp q4
    rw [rep_str_inv q1] at g1
    refine ⟨a :: as, (Sum.inr p.1, v2) :: kvs, rfl, .cons (sqt_mono e g1) h1, by rw [List.map_cons, List.map_cons, h2], ?_⟩
    rw [List.map_cons, List.map_cons]
    exact RepL.cons q3 h3
theorem xc_dict2 {X : Cx} {z : Bool} (hc : X.calm = true) : XC X (.type "dict") (cDict2 z) := by
  refine ⟨_, CallR.or call_dictD (call_dictP hc), ⟨fun {B F m H vs ds k Q} hm vd h hq => ?_⟩⟩
  unfold cDict2 at h
  split at h
  · obtain ⟨v, rfl, a, kvs, rfl, ha, hk, ra⟩ := vl1 vd
    exact .inl ⟨a, kvs, rfl, ha, fun p hp => newD_ok hm hp hk ra h hq⟩
  · obtain ⟨v, rfl, a, us, rfl, ha, ra⟩ := vl1 vd
    obtain ⟨ps, rfl, hn, h⟩ := h
    obtain ⟨as, kvs, rfl, h1, h2, h3⟩ := pairs_rep hm.fr ra
    refine .inr ⟨a, as, kvs, rfl, .inl (.inl ha), h1, fun p hp => ?_⟩
    have hnd : (([] ++ kvs : List (Key × V)).map (·.1)).Nodup := by
      rw [List.nil_append, h2, show (ps.map fun p => (Sum.inr p.1 : Key)) = (ps.map (·.1)).map Sum.inr by rw [List.map_map]; rfl]
      exact List.Pairwise.map _ (fun a b hab e => hab (Sum.inr.inj e)) hn
    rw [merge_newK hnd, List.nil_append]
    exact newD_ok hm hp h2 h3 h hq
  · exact h.elim
end Ab
end
section
/-! Ab9: from the text to what it comes to: expressions. -/
namespace Ab
open PySem PySem.Spec L2
/-! ### walks over a list or a tuple, names -/
def keyD : Key → D
  | .inl i => .int i
  | .inr s => .str s
def iSeq (a : WE) : WI := fun v m k kx => a v m (fun d m1 => match d with
  | .lst xs => k xs m1
  | .frl xs => k xs m1
  | .tup xs => k xs m1
  | .raw (.ref a) => (match m1 a with
    | some (.lst xs) => k xs (delM m1 a)
    | some (.dct ks _) => k (ks.map keyD) (delM m1 a)
    | _ => False)
  | .str s => k (s.cps.toList.map fun c => .str ⟨#[c]⟩) m1
  | _ => False) kx
def tISeq (K : PySem.W.Frag) (tl : TE) : TI := fun σ H R => tl σ H fun x H1 => (∃ s, x = .str s ∧ R (Its s) H1) ∨ ∃ a, x = .ref a ∧ (((∃ xs, SqL K H1 a xs) ∧ R (Itl K a) H1) ∨ ((∃ xs, SqT K H1 a xs) ∧ R (Itt K a) H1) ∨ ∃ kvs, H1 a = some (.dK kvs) ∧ ∀ o, R (Itk a o kvs) (upd H1 a (.frz o (.dK kvs))))
theorem jok_keys {K : PySem.W.Frag} {F : Hp} {a : Addr} {o : Obj} {kvs : List (Key × V)} (h : F a = some (.frz o (.dK kvs))) : JOk K (Itk a o kvs) ((kvs.map (·.1)).map keyD) F := by
  intro i H F1 e1 e2
  have hH := (e1.trans e2) _ _ h
  refine ⟨fun hi => ?_, fun hi => ?_⟩
  · rw [List.length_map, List.length_map] at hi
    refine ⟨⟨hH, hi⟩, fun x H' hy => ?_⟩
    obtain ⟨rfl, k, v, hk, rfl⟩ := hy
    refine ⟨keyD k, F1, ?_, ?_, .inl ⟨rfl, rfl⟩⟩
    · rw [List.getElem?_map, List.getElem?_map, hk]
      rfl
    · cases k with
      | inl i => exact rep_int
      | inr s => exact rep_str
  · rw [List.length_map, List.length_map] at hi
    exact ⟨hH, hi⟩
/-- a dict that may be changed is held from now on -/
theorem HM.hold {K : PySem.W.Frag} {B : Bs} {F H : Hp} {m : Mem} (h : HM K B F m H) {a : Addr} {d : D} (ha : m a = some d) (o' : HO) : HM K B (upd F a o') (delM m a) (upd H a o') ∧ Same F (upd F a o') := by
  obtain ⟨h1, h2, h3⟩ := h.mem a d ha
  have sF : Same F (upd F a o') := same_new h1
  refine ⟨⟨fun b u q => ?_, fun b u q => sF b u (h.f0 b u q), fun b u q => ?_, fun b u q1 q2 => ?_, fun b e q => ?_, fun b q => ?_⟩, sF⟩
  · by_cases z : b = a
    · subst z; rw [upd_same] at q ⊢; exact q
    · rw [upd_ne z] at q ⊢; exact h.fr b u q
  · by_cases z : b = a
    · subst z
      rcases h3 with y | y
      · exact .inr (.inr y)
      · exact .inr (.inl y)
    · rw [upd_ne z] at q; exact h.fresh b u q
  · by_cases z : b = a
    · subst z
      rcases h3 with y | y
      · exact absurd q2 y
      · rw [y] at q1; cases q1
    · rw [upd_ne z]; exact h.frame b u q1 q2
  · by_cases z : b = a
    · subst z; unfold delM at q; rw [if_pos rfl] at q; cases q
    · rw [delM_ne z] at q
      obtain ⟨k1, k2, k3⟩ := h.mem b e q
      exact ⟨by rw [upd_ne z]; exact k1, k2.mono sF (upd_ne z), k3⟩
  · by_cases z : b = a
    · subst z; rw [upd_same]; exact fun y => nomatch y
    · rw [upd_ne z]; exact h.grow b q
theorem jok_str {K : PySem.W.Frag} {F : Hp} {s : Str} : JOk K (Its s) (s.cps.toList.map fun c => D.str ⟨#[c]⟩) F := by
  intro i H F1 e1 e2
  refine ⟨fun hi => ?_, fun hi => ?_⟩
  · rw [List.length_map, Array.length_toList] at hi
    refine ⟨hi, fun x H' hy => ?_⟩
    obtain ⟨rfl, c, hc, rfl⟩ := hy
    refine ⟨.str ⟨#[c]⟩, F1, ?_, by unfold Rep; rfl, .inl ⟨rfl, rfl⟩⟩
    rw [List.getElem?_map, Array.getElem?_toList, hc]
    rfl
  · rw [List.length_map, Array.length_toList] at hi
    exact hi
section
variable {X : Cx} {W : WX} {e a b c o tg : Expr} {es : List Expr} {pos apos cpos : Pos}
theorem pi_seq {tl : TE} (hl : PE X e tl) : PI X tg e (tISeq X.K tl) := by
  refine ⟨fun pins s σ H R I h => ?_⟩
  refine thn (hl.run pins s σ H _ I h) fun v s1 ⟨x, H1, I1, r1, q1⟩ => ?_
  rcases q1 with ⟨z, rfl, q⟩ | q1
  · obtain ⟨t, rfl⟩ := r1
    cases ha : z.cps.all (· < 128)
    · exact wpAny_pyIter_wide ha (pi_one (tk := s1.toks) I1 _ (turn_str _ z t "str_iterator" (.inr rfl)) ⟨_, Heap.get?_push_size _ rfl, rfl, rfl⟩ q)
    · exact wpAny_pyIter_ascii ha (pi_one (tk := s1.toks) I1 _ (turn_str _ z t "str_ascii_iterator" (.inl rfl)) ⟨_, Heap.get?_push_size _ rfl, rfl, rfl⟩ q)
  obtain ⟨a, rfl, q1⟩ := q1
  cases r1
  have fresh : ∀ b ∈ [s1.heap.objs.size], FpOk X pins H1 b := fun b hb => by
    rw [List.mem_singleton.mp hb]
    exact I1.fpOk (Nat.le_refl _) (I1.hok.fresh (Nat.le_refl _))
  rcases q1 with ⟨⟨xs, hq⟩, q⟩ | ⟨⟨xs, hq⟩, q⟩ | ⟨kvs, hq, q⟩
  rotate_left 2
  · obtain ⟨od, I2⟩ := I1.lock hq (by trivial)
    obtain ⟨hs, hgd, hx, es, ep, vs, hdt, hsz, kv, hm⟩ := I2.frzK upd_same
    refine iter_keys hs hgd hx hdt (pi_one (tk := s1.toks) I2 _ (turn_keys _ hdt) ⟨_, Heap.get?_push_size _ rfl, rfl, ?_⟩ (q od))
    rw [hsz] <;> rfl
  · obtain ⟨its, rv, p, hz⟩ := I1.list hq
    exact wpAny_pyIter_list p.isList ⟨s1.heap.objs.size, _, _, _, H1, rfl, I1.kept (t' := s1.toks) fun b o e => Heap.get?_push_of_some _ e, turn_list a _, ⟨_, Heap.get?_push_size _ rfl, rfl, rfl⟩, fresh, q⟩
  · obtain ⟨its, rv, p, hz⟩ := I1.tuple hq
    exact wpAny_pyIter_tuple (show s1.heap.IsTuple a its.toArray from p) ⟨s1.heap.objs.size, _, _, _, H1, rfl, I1.kept (t' := s1.toks) fun b o e => Heap.get?_push_of_some _ e, turn_tuple a _, ⟨_, Heap.get?_push_size _ rfl, rfl, rfl⟩, fresh, q⟩
theorem xi_seq {wa : WE} (h : Xe X W a wa) : Xi X W tg a (iSeq wa) := by
  obtain ⟨t, p, g⟩ := h.ex
  refine ⟨_, pi_seq p, ⟨fun {B F v m σ H k kx R} hm re hw hr hx => ?_⟩⟩
  refine g.run hm re hw (fun d m1 F1 H1 x hw1 e1 hm1 r1 => ?_) hx
  cases d with
  | lst xs =>
    unfold Rep at r1
    obtain ⟨a, vs, rfl, h1, h2⟩ := r1
    exact .inr ⟨a, rfl, .inl ⟨⟨vs, .inl (.inl (hm1.fr _ _ h1))⟩, hr _ xs m1 F1 H1 hw1 e1 hm1 (jok_list (.inl (.inl h1)) h2 fun _ _ _ _ => trivial)⟩⟩
  | frl xs =>
    unfold Rep at r1
    obtain ⟨a, vs, rfl, h1, h2⟩ := r1
    exact .inr ⟨a, rfl, .inl ⟨⟨vs, hm1.fr.seq h1⟩, hr _ xs m1 F1 H1 hw1 e1 hm1 (jok_list h1 h2 fun _ _ _ _ => trivial)⟩⟩
  | tup xs =>
    unfold Rep at r1
    obtain ⟨a, vs, rfl, h1, h2⟩ := r1
    exact .inr ⟨a, rfl, .inr (.inl ⟨⟨vs, sqt_mono hm1.fr h1⟩, hr _ xs m1 F1 H1 hw1 e1 hm1 (jok_tup h1 h2)⟩)⟩
  | raw u =>
    cases u with
    | ref a =>
      have hw1 : (match m1 a with
        | some (.lst xs) => k xs (delM m1 a)
        | some (.dct ks _) => k (ks.map keyD) (delM m1 a)
        | _ => False) := hw1
      split at hw1
      · rename_i xs ea
        obtain ⟨ob, _, hm2, r2, e2⟩ := hm1.freeze ea
        unfold Rep at r1
        subst r1
        unfold Rep at r2
        obtain ⟨a', vs, q1, h1, h2⟩ := r2
        cases q1
        exact .inr ⟨a, rfl, .inl ⟨⟨vs, .inl (.inl (hm2.fr _ _ h1))⟩, hr _ xs _ _ H1 hw1 (e1.trans e2) hm2 (jok_list (.inl (.inl h1)) h2 fun _ _ _ _ => trivial)⟩⟩
      · rename_i ks xs ea
        unfold Rep at r1
        subst r1
        obtain ⟨kvs, h1, rfl, h3⟩ := (hm1.mem _ _ ea).2.1
        refine .inr ⟨a, rfl, .inr (.inr ⟨kvs, h1, fun o => ?_⟩)⟩
        obtain ⟨hm2, e2⟩ := hm1.hold ea (.frz o (.dK kvs))
        exact hr _ _ _ _ _ hw1 (e1.trans e2) hm2 (jok_keys upd_same)
      · exact hw1.elim
    | _ => exact hw1.elim
  | str z =>
    unfold Rep at r1
    exact .inl ⟨z, r1, hr _ _ m1 F1 H1 hw1 e1 hm1 jok_str⟩
  | _ => exact hw1.elim
theorem xe_var {i : Nat} {x : Str} (hN : X.N[i]? = some x) (hv : Vis X.env.scope x) (hd : (x == ("__debug__" : Str)) = false) (hcd : (x == ("__classdict__" : Str)) = false) : Xe X W (.Name x pos) (wVar i) := ⟨_, pe_var hN hv hd hcd, ge_var⟩
theorem xe_glob {x : Str} {v : V} {u : Value} {d : D} (hg : Gl X x) (hm : X.mg x = some u) (r : RelV v u) (hd : (x == ("__debug__" : Str)) = false) (h : ∀ F, Rep X.K F d v) : Xe X W (.Name x pos) (wCon d) := ⟨_, pe_glob hg hm r hd, ge_con h⟩
theorem xe_ty {x : Str} {T : String} (hg : Gl X x) (hm : X.mg x = none) (hv : bootBuiltins x = some (.type T)) (hn : x ≠ "__name__") (hd : (x == ("__debug__" : Str)) = false) : Xe X W (.Name x pos) (wCon (.raw (.ty T))) :=
  ⟨_, pe_bltn (v := .ty T) hg hm hv rfl hn hd, ge_con fun F => by unfold Rep; rfl⟩
end
/-! ### what is known of the place -/
structure TC where
  K : PySem.W.Frag
  N : List Str
  sc : Scope
  muts : List Nat
  rmut : Bool
  fns : List (Str × Nat × ASp)
  cons : List (Str × D)
  excs : List (Str × List Str)
  xs : List Str
  fs : List Str
  cls : ClsT
  dcts : List Nat
def bltNames : List Str := ["abs", "len", "max", "min", "sum", "divmod", "isinstance", "repr", "any", "all", "int", "str", "list", "tuple", "bool", "dict", "range", "enumerate", "zip", "sorted", "set"]
structure Cok (c : TC) (X : Cx) (W : WX) : Prop where
  K : X.K = c.K
  N : X.N = c.N
  nd : X.N.Nodup
  sc : X.env.scope = c.sc
  calm : X.calm = true
  gd : X.A.guards = some []
  un : X.A.units + 164 < cLine
  tk : Takes X W
  fns : ∀ x n sp, c.fns.lookup x = some (n, sp) → ∃ k, CalA X.prog X.w X.K X.mg X.base k x n sp ∧ Rm k X.A
  blt : ∀ x ∈ bltNames, X.mg x = none
  cons : ∀ x d, c.cons.lookup x = some d → ∃ v u, X.mg x = some u ∧ RelV v u ∧ ∀ F, Rep X.K F d v
  excs : ∀ x ps, c.excs.lookup x = some ps → ∃ k, XCls X.prog X.w X.K X.mg X.base k x ps ∧ Room (k + 1) X.A
  xf : XF X.K X.mg c.xs c.fs
  own : OwnC X.K X.mg c.cls
  ms : MsOk X c.cls
def ixIn : List Str → Str → Option Nat
  | [], _ => none
  | y :: r, x => if y = x then some 0 else (ixIn r x).map (· + 1)
theorem ixIn_ok : ∀ {N : List Str} {x : Str} {i : Nat}, ixIn N x = some i → N[i]? = some x
  | [], _, _, h => by cases h
  | y :: r, x, i, h => by
    unfold ixIn at h
    split at h
    · cases h; subst_vars; rfl
    · obtain ⟨j, hj, rfl⟩ := Option.map_eq_some_iff.mp h
      rw [List.getElem?_cons_succ]
      exact ixIn_ok hj
def dunder (x : Str) : Bool := (x == ("__debug__" : Str)) || (x == ("__classdict__" : Str))
theorem dunder_ok {x : Str} (h : dunder x = false) : (x == ("__debug__" : Str)) = false ∧ (x == ("__classdict__" : Str)) = false := by
  unfold dunder at h
  rwa [Bool.or_eq_false_iff] at h
def isLoc (sc : Scope) (x : Str) : Bool := match sc.names.lookup x with
  | some .local => true
  | some .cell => true
  | _ => false
def isVis (sc : Scope) (x : Str) : Bool := match sc.names.lookup x with
  | some .local => true
  | some .cell => true
  | some .free => true
  | _ => false
def isGl (sc : Scope) (x : Str) : Bool := match sc.names.lookup x with
  | some .globalImplicit => true
  | _ => false
def isPl (sc : Scope) (x : Str) : Bool := match sc.names.lookup x with
  | some .local => true
  | _ => false
theorem isLoc_ok {sc : Scope} {x : Str} (h : isLoc sc x = true) : Loc sc x := by
  unfold isLoc at h
  split at h
  · exact .inl (by assumption)
  · exact .inr (by assumption)
  · cases h
theorem isVis_ok {sc : Scope} {x : Str} (h : isVis sc x = true) : Vis sc x := by
  unfold isVis at h
  split at h
  · exact .inl (by assumption)
  · exact .inr (.inl (by assumption))
  · exact .inr (.inr (by assumption))
  · cases h
theorem isPl_ok {sc : Scope} {x : Str} (h : isPl sc x = true) : sc.names.lookup x = some .local := by
  unfold isPl at h
  split at h
  · assumption
  · cases h
theorem isGl_ok {sc : Scope} {x : Str} (h : isGl sc x = true) : sc.names.lookup x = some .globalImplicit := by
  unfold isGl at h
  split at h
  · assumption
  · cases h
theorem Cok.gl {c : TC} {X : Cx} {W : WX} (h : Cok c X W) {x : Str} (g : isGl c.sc x = true) : Gl X x := by
  unfold Gl PySem.Env.kindOf
  rw [h.sc]
  exact isGl_ok g
/-! ### tables -/
def tyTab : List (Str × String) := [("int", "int"), ("str", "str"), ("list", "list"), ("tuple", "tuple"), ("bool", "bool"), ("dict", "dict")]
theorem tyTab_ok : ∀ p ∈ tyTab, bootBuiltins p.1 = some (.type p.2) ∧ p.1 ≠ "__name__" ∧ (p.1 == ("__debug__" : Str)) = false ∧ p.1 ∈ bltNames := by decide +kernel
def bltF (K : PySem.W.Frag) : List (Str × OC) := [("abs", cAbs), ("len", cLen), ("max", cMax), ("min", cMin), ("sum", cSum), ("divmod", cDivmod), ("isinstance", cIsi K), ("repr", cReprK K), ("any", cAny), ("all", cAll)]
def bltT (z : Bool) : List (Str × OC) := [("int", cInt), ("str", cStr), ("list", cList z), ("tuple", cTuple), ("sorted", cSort z), ("dict", cDict2 z)]
theorem lk_mem {β : Type} {x : Str} {y : β} : ∀ {l : List (Str × β)}, l.lookup x = some y → (x, y) ∈ l
  | [], h => by cases h
  | (k, v) :: r, h => by
    rw [List.lookup_cons] at h
    split at h
    · rename_i e
      cases h
      rw [eq_of_beq e]
      exact List.mem_cons_self
    · exact List.mem_cons_of_mem _ (lk_mem h)
section
variable {c : TC} {X : Cx} {W : WX}
def BltOk (X : Cx) (x : Str) (o : OC) : Prop := x ∈ bltNames ∧ x ≠ "__name__" ∧ ((∃ id, bootBuiltins x = some (.builtin id) ∧ XC X (.builtin id) o) ∨ ∃ T, bootBuiltins x = some (.type T) ∧ XC X (.type T) o)
theorem bltF_ok (h : Cok c X W) {x : Str} {o : OC} (hl : (bltF c.K).lookup x = some o) : BltOk X x o := by
  have hm := lk_mem hl
  have hu := h.un
  rw [← h.K] at hm
  unfold bltF at hm
  simp only [List.mem_cons, List.not_mem_nil, or_false, Prod.mk.injEq] at hm
  rcases hm with ⟨rfl, rfl⟩ | ⟨rfl, rfl⟩ | ⟨rfl, rfl⟩ | ⟨rfl, rfl⟩ | ⟨rfl, rfl⟩ | ⟨rfl, rfl⟩ | ⟨rfl, rfl⟩ | ⟨rfl, rfl⟩ | ⟨rfl, rfl⟩ | ⟨rfl, rfl⟩
  · exact ⟨by decide, by decide, .inl ⟨_, rfl, xc_abs⟩⟩
  · exact ⟨by decide, by decide, .inl ⟨_, rfl, xc_len⟩⟩
  · exact ⟨by decide, by decide, .inl ⟨_, rfl, xc_max h.calm⟩⟩
  · exact ⟨by decide, by decide, .inl ⟨_, rfl, xc_min h.calm⟩⟩
  · exact ⟨by decide, by decide, .inl ⟨_, rfl, xc_sum h.calm⟩⟩
  · exact ⟨by decide, by decide, .inl ⟨_, rfl, xc_divmod⟩⟩
  · exact ⟨by decide, by decide, .inl ⟨_, rfl, xc_isi⟩⟩
  · exact ⟨by decide, by decide, .inl ⟨_, rfl, xc_reprK h.gd (by omega)⟩⟩
  · exact ⟨by decide, by decide, .inl ⟨_, rfl, xc_any h.calm⟩⟩
  · exact ⟨by decide, by decide, .inl ⟨_, rfl, xc_all h.calm⟩⟩
theorem bltT_ok (h : Cok c X W) {z : Bool} {x : Str} {o : OC} (hl : (bltT z).lookup x = some o) : BltOk X x o := by
  have hm := lk_mem hl
  unfold bltT at hm
  simp only [List.mem_cons, List.not_mem_nil, or_false, Prod.mk.injEq] at hm
  rcases hm with ⟨rfl, rfl⟩ | ⟨rfl, rfl⟩ | ⟨rfl, rfl⟩ | ⟨rfl, rfl⟩ | ⟨rfl, rfl⟩ | ⟨rfl, rfl⟩
  · exact ⟨by decide, by decide, .inr ⟨_, rfl, xc_int⟩⟩
  · exact ⟨by decide, by decide, .inr ⟨_, rfl, xc_str⟩⟩
  · exact ⟨by decide, by decide, .inr ⟨_, rfl, xc_list⟩⟩
  · exact ⟨by decide, by decide, .inr ⟨_, rfl, xc_tuple⟩⟩
  · exact ⟨by decide, by decide, .inl ⟨_, rfl, xc_sort h.calm⟩⟩
  · exact ⟨by decide, by decide, .inr ⟨_, rfl, xc_dict2 h.calm⟩⟩
end
def opB (z : Bool) : Operator → Option O2
  | .Add => some (oAdd z)
  | .Sub => some oSub
  | .Mult => some (oMul z)
  | .FloorDiv => some oDiv
  | .Mod => some oMod
  | .Pow => some oPow
  | .LShift => some oShl
  | .RShift => some oShr
  | .BitAnd => some oAnd
  | .BitOr => some oOr
  | .BitXor => some oXor
  | _ => none
theorem opB_ok {X : Cx} {z : Bool} {op : Operator} {o : O2} (h : opB z op = some o) : XO X (binaryOp op) o := by
  cases op <;> cases h
  · exact xo_add
  · exact xo_sub
  · exact xo_mul
  · exact xo_mod
  · exact xo_pow
  · exact xo_shl
  · exact xo_shr
  · exact xo_or
  · exact xo_xor
  · exact xo_and
  · exact xo_div
def opI : Operator → Option O2
  | .Add => some oIAdd
  | .Sub => some oSub
  | .Mult => some oIMul
  | _ => none
theorem opI_ok {X : Cx} {op : Operator} {o : O2} (h : opI op = some o) : XO X (inplaceOp op) o := by
  cases op <;> cases h
  · exact xo_iadd
  · exact xo_isub
  · exact xo_imul
def opC : CmpOp → Option O2
  | .Eq => some oEq
  | .NotEq => some oNe
  | .Lt => some oLt
  | .LtE => some oLe
  | .Gt => some oGt
  | .GtE => some oGe
  | .Is => some oIs
  | .IsNot => some oIsNot
  | _ => none
theorem opC_ok {X : Cx} (hu : X.A.units + 64 < cLine) {op : CmpOp} {o : O2} (h : opC op = some o) : XO X (compareOp op) o := by
  cases op <;> cases h
  · exact xo_eq hu
  · exact xo_ne hu
  · exact xo_lt
  · exact xo_le
  · exact xo_gt
  · exact xo_ge
  · exact xo_is
  · exact xo_isnot
theorem opC_mk {op : CmpOp} {o : O2} {b : Expr} (h : opC op = some o) : behindInMarks op b = false := by
  cases op <;> cases h <;> (cases b <;> first
    | rfl
    | simp [behindInMarks])
end Ab
end
section
/-! Ab9b: a comprehension over a list that may be changed, and is not. -/
namespace Ab
open PySem PySem.Spec L2
def wLcR (z : Bool) (i : Nat) (own : List Nat) (g : WG) (tt : WT) (te : WE) : WE := fun v m k kx => ∃ a xs, look v i = some (.raw (.ref a)) ∧ m a = some (.lst xs) ∧ ∃ I : Nat → List D → Mem → Prop, I 0 [] m ∧
  (∀ j d acc m2, xs[j]? = some d → I j acc m2 → m2 a = some (.lst xs) ∧ g d (wipeE v own) m2 fun v3 m3 => tt v3 m3 (fun q m4 =>
    (q = true → te v3 m4 (fun y m5 => acc.length < sizeLine ∧ I (j + 1) (acc ++ [y]) m5) kx0) ∧ (q = false → I (j + 1) acc m4)) kx0) ∧
  ∀ acc m2, I xs.length acc m2 → m2 a = some (.lst xs) ∧ newK z (.lst acc) m2 k
theorem lcR_ok {K : PySem.W.Frag} {W : WX} {own : List Nat} {i : Nat} {g : TG} {tt : TT} {te : TE} {wg : WG} {wt : WT} {we : WE} {z : Bool} (gg : GGo K own g wg) (gt : GT K W0 tt wt) (ge : GE K W0 te we) : GE K W (tLc (tISeq K (tVar i)) g tt te own) (wLcR z i own wg wt we) := by
  refine ⟨fun {B F v m σ H k kx Q} hm re hw hq hx => ?_⟩
  obtain ⟨a, xs, ha, hma, I, h0, hI, hE⟩ := hw
  obtain ⟨x, q1, q2⟩ := re.get i _ (look_some ha)
  unfold Rep at q2
  subst q2
  obtain ⟨vs0, hH0, r0⟩ := (hm.mem _ _ hma).2.1
  refine ⟨_, q1, .inr ⟨a, rfl, .inl ⟨⟨vs0, .inl (.inl hH0)⟩, ?_⟩⟩⟩
  intro D hD
  have D0 : B.H0 D = none := hm.h0 hD
  have re1 := re.wipes own
  have aD : a ≠ D := hm.ne hD hma
  refine ⟨fun i n H => n = xs.length - i ∧ i ≤ xs.length ∧ ∃ acc m F' vs, I i acc m ∧ Same F F' ∧ HM K B F' m H ∧ m D = none ∧ F' D = none ∧ H D = some (.lst vs) ∧ RepL K F' acc vs,
    ⟨xs.length, by simp, Nat.zero_le _, [], m, F, [], h0, Same.refl _, hm.aside hD _, hm.mn hD, hm.fn hD, upd_same, RepL.nil⟩, ?_⟩
  rintro i n H ⟨rfl, hil, acc, m, F', vs, hi, e', hm', dm, dF, hv, ra⟩
  by_cases hlt : i < xs.length
  · obtain ⟨hma2, hw2⟩ := hI i _ acc m (List.getElem?_eq_getElem hlt) hi
    obtain ⟨us, hH2, r2⟩ := (hm'.mem _ _ hma2).2.1
    obtain ⟨u, u1, u2⟩ := r2.get (List.getElem?_eq_getElem hlt)
    refine .inr ⟨⟨us, u, .inl (.inl hH2), u1⟩, fun H' => ∃ acc m F' vs, I (i + 1) acc m ∧ Same F F' ∧ HM K B F' m H' ∧ m D = none ∧ F' D = none ∧ H' D = some (.lst vs) ∧ RepL K F' acc vs, fun H' h => ⟨xs.length - (i + 1), by omega, rfl, hlt, h⟩, fun x H' y => ?_⟩
    obtain ⟨rfl, hy⟩ := y
    have zx := hy us (.inl (.inl hH2))
    rw [u1] at zx
    cases zx
    have st := hm'.start
    have re2 := re1.mono e'
    refine gg.run st re2 u2 hw2 fun v3 m3 F3 H3 σ3 hw3 e3 hm3 re3 z3 => ⟨z3.trans wipe_wipe, ?_⟩
    refine gt.run hm3 re3 hw3 (fun q m4 F4 H4 hw4 e4 hm4 => ?_) qx0
    cases q with
    | false =>
      rw [if_neg Bool.false_ne_true]
      obtain ⟨q1, q2, q3⟩ := hm4.hidden hv dm dF
      exact ⟨acc, m4, F4, vs, hw4.2 rfl, e'.trans (e3.trans e4), hm'.after hm4, q2, q3, q1, repL_mono (e3.trans e4) _ ra⟩
    | true =>
      rw [if_pos rfl]
      refine ge.run hm4 (re3.mono e4) (hw4.1 rfl) (fun y m5 F5 H5 u hw5 e5 hm5 r5 => ?_) qx0
      obtain ⟨q1, q2, q3⟩ := hm5.hidden hv dm dF
      refine ⟨vs, q1, by rw [ra.len]; exact hw5.1, acc ++ [y], m5, F5, vs ++ [u], hw5.2, e'.trans ((e3.trans e4).trans e5), (hm'.after hm5).poke q2 q3 D0 _, q2, q3, upd_same, ?_⟩
      exact (repL_mono ((e3.trans e4).trans e5) _ ra).append (RepL.cons r5 RepL.nil)
  · have el : i = xs.length := by omega
    subst el
    obtain ⟨hma2, hk⟩ := hE acc m hi
    obtain ⟨us, hH2, r2⟩ := (hm'.mem _ _ hma2).2.1
    refine .inl ⟨⟨us, .inl (.inl hH2), by rw [r2.len]; exact Nat.le_refl _⟩, ?_⟩
    cases z with
    | true =>
      exact hq (.lst acc) m _ _ _ hk (e'.trans (same_new dF)) (hm'.adopt dm dF D0 hv) (by unfold Rep; exact ⟨D, vs, rfl, upd_same, repL_mono (same_new dF) _ ra⟩)
    | false =>
      exact hq (.raw (.ref D)) _ _ _ _ (hk D dm) e' (hm'.adoptM dF D0 ⟨vs, hv, ra⟩) (by unfold Rep; rfl)
theorem xe_lcR {X : Cx} {W : WX} {elt tg : Expr} {x : Str} {ifs : List Expr} {pos px : Pos} {scope : Scope} {ow : List (Str × Nat)} {i : Nat} {wg : WG} {wt : WT} {we : WE} {z : Bool} (hc : X.calm = true) (hN : X.N.Nodup) (hx : X.N[i]? = some x) (hv : Vis X.env.scope x) (hd : (x == ("__debug__" : Str)) = false) (hcd : (x == ("__classdict__" : Str)) = false) (ok : BlkOk X.N X.env.scope scope ow)
    (hg : ∀ i, Xgo (blkOf X scope i) (ow.map (·.2)) tg wg) (ht : ∀ i, Xts (blkOf X scope i) W0 ifs wt) (he : ∀ i, Xe (blkOf X scope i) W0 elt we) :
    Xe X W (.ListComp elt [⟨tg, .Name x px, ifs, 0⟩] scope pos) (wLcR z i (ow.map (·.2)) wg wt we) := by
  obtain ⟨tg', p2, g2⟩ := uni_g (Xf := fun i => blkOf X scope i) (K := X.K) (fun _ => rfl) hg
  obtain ⟨tt', p3, g3⟩ := uni_ts (Xf := fun i => blkOf X scope i) (K := X.K) (fun _ => rfl) ht
  obtain ⟨te', p4, g4⟩ := uni_e (Xf := fun i => blkOf X scope i) (K := X.K) (fun _ => rfl) he
  exact ⟨_, pe_lc hc hN (pi_seq (pe_var hx hv hd hcd)) ok (fun s H C cl fp => p2 (s, H, C, cl, fp)) (fun s H C cl fp => p3 (s, H, C, cl, fp)) (fun s H C cl fp => p4 (s, H, C, cl, fp)) (set_ok (fun z k p e => by cases e) _), lcR_ok g2 g3 g4⟩
end Ab
end
section
/-! Ab9c: a dict's display, its keys texts. -/
namespace Ab
open PySem PySem.Spec L2
def zipS (ks : List Str) (vs : List V) : List (V × V) := (ks.zip vs).map fun p => (V.str p.1, p.2)
def zipK (ks : List Str) (vs : List V) : List (Key × V) := (ks.zip vs).map fun p => (Sum.inr p.1, p.2)
structure GPs (K : PySem.W.Frag) (W : WX) (ks : List Str) (trs : List (TE × TE)) (w : WL) : Prop where
  run : ∀ {B : Bs} {F : Hp} {v : Env} {m : Mem} {σ : L2.St} {H : Hp} {k : KL} {Z : List (V × V) → Hp → Prop}, HM K B F m H → REnv K F v σ → w v m k kx0 →
    (∀ ds m1 F1 H1 vs, k ds m1 → Same F F1 → HM K B F1 m1 H1 → RepL K F1 ds vs → vs.length = ks.length → Z (zipS ks vs) H1) → tPairs trs σ H Z
theorem gps_nil {K : PySem.W.Frag} {W : WX} : GPs K W [] [] wNil := ⟨fun {B F v m σ H k Z} hm re hw hz => hz [] m F H [] hw (Same.refl _) hm RepL.nil rfl⟩
theorem gps_cons {K : PySem.W.Frag} {W : WX} {x : Str} {ks : List Str} {tv : TE} {trs : List (TE × TE)} {we : WE} {w : WL} (ge : GE K W tv we) (gr : GPs K W ks trs w) : GPs K W (x :: ks) ((tC (.str x), tv) :: trs) (wCons we w) := by
  refine ⟨fun {B F v m σ H k Z} hm re hw hz => ?_⟩
  refine ge.run hm re hw (fun d m1 F1 H1 u hw1 e1 hm1 r1 => ?_) qx0
  refine gr.run hm1 (re.mono e1) hw1 (fun ds m2 F2 H2 vs hw2 e2 hm2 r2 hl => ?_)
  exact hz (d :: ds) m2 F2 H2 (u :: vs) hw2 (e1.trans e2) hm2 (RepL.cons (rep_mono e2 d r1) r2) (by rw [List.length_cons, List.length_cons, hl])
structure XPs (X : Cx) (W : WX) (pos : Pos) (keys : List (Option Expr)) (values : List Expr) (ks : List Str) (w : WL) : Prop where
  ex : ∃ trs, PPs X pos keys values trs ∧ GPs X.K W ks trs w
theorem xps_nil {X : Cx} {W : WX} {pos : Pos} : XPs X W pos [] [] [] wNil := ⟨[], pps_nil, gps_nil⟩
theorem xps_cons {X : Cx} {W : WX} {pos p : Pos} {x : Str} {j : Nat} {e : Expr} {keys : List (Option Expr)} {values : List Expr} {ks : List Str} {we : WE} {w : WL} (he : Xe X W e we) (hr : XPs X W pos keys values ks w) : XPs X W pos (some (.Constant (.str x) j p) :: keys) (e :: values) (x :: ks) (wCons we w) := by
  obtain ⟨tv, p1, g1⟩ := he.ex
  obtain ⟨trs, p2, g2⟩ := hr.ex
  exact ⟨_, pps_cons pe_str p1 p2, gps_cons g1 g2⟩
theorem merge_new : ∀ (more acc : List (Key × V)), (more.map (·.1)).Nodup → (∀ p ∈ acc, ∀ q ∈ more, p.1 ≠ q.1) → mergeK acc more = acc ++ more
  | [], acc, _, _ => by simp [mergeK]
  | p :: r, acc, hn, hd => by
    rw [List.map_cons, List.nodup_cons] at hn
    have e : putK acc p.1 p.2 = acc ++ [p] := by
      unfold putK
      rw [if_neg]
      rw [List.any_eq_true]
      rintro ⟨q, hq, hz⟩
      exact hd q hq p List.mem_cons_self (of_decide_eq_true hz)
    have ih := merge_new r (acc ++ [p]) hn.2 (fun q hq t ht => by
      rcases List.mem_append.mp hq with hq | hq
      · exact hd q hq t (List.mem_cons_of_mem _ ht)
      · rw [List.mem_singleton.mp hq]
        intro z
        exact hn.1 (List.mem_map.mpr ⟨t, ht, z.symm⟩))
    show mergeK (putK acc p.1 p.2) r = _
    rw [e, ih, List.append_assoc]
    rfl
def wDct (z : Bool) (ks : List Str) (w : WL) : WE := fun v m k _ => w v m (fun ds m1 => newK z (.dct (ks.map Sum.inr) ds) m1 k) kx0
theorem zipK_fst {ks : List Str} {vs : List V} (h : vs.length = ks.length) : (zipK ks vs).map (·.1) = ks.map Sum.inr := by
  unfold zipK
  rw [List.map_map]
  show (ks.zip vs).map (fun p => (Sum.inr p.1 : Key)) = _
  have : (ks.zip vs).map (fun p => (Sum.inr p.1 : Key)) = ((ks.zip vs).map (·.1)).map Sum.inr := by rw [List.map_map]; rfl
  rw [this, List.map_fst_zip (by omega)]
theorem zipK_snd {ks : List Str} {vs : List V} (h : vs.length = ks.length) : (zipK ks vs).map (·.2) = vs := by
  unfold zipK
  rw [List.map_map]
  show (ks.zip vs).map (·.2) = _
  rw [List.map_snd_zip (by omega)]
theorem xe_dct {X : Cx} {W : WX} {pos : Pos} {keys : List (Option Expr)} {values : List Expr} {ks : List Str} {w : WL} {z : Bool} (h : XPs X W pos keys values ks w) (hall : keys.all (·.isSome) = true) (hl : keys.length = values.length) (h0 : keys ≠ []) (h15 : keys.length ≤ 15) (hk : ks.length = keys.length) (hn : ks.Nodup) :
    Xe X W (.Dict keys values pos) (wDct z ks w) := by
  obtain ⟨trs, pp, g⟩ := h.ex
  refine ⟨_, pe_disp pp hall hl h0 h15, ⟨fun {B F v m σ H k kx Q} hm re hw hq hx => ?_⟩⟩
  intro p hp
  have h1 := hm.aside hp (.dK [])
  refine g.run h1.start re hw (fun ds m1 F1 H1 vs hk1 e1 hm1 r1 hlen => ?_)
  obtain ⟨q1, q2, q3⟩ := hm1.hidden upd_same (hm.mn hp) (hm.fn hp)
  have D0 : B.H0 p = none := hm.h0 hp
  have f1 := zipK_fst hlen
  have f2 := zipK_snd hlen
  refine ⟨q1, zipK ks vs, ?_, ?_, ?_⟩
  · unfold zipS zipK
    rw [List.map_map]
    rfl
  · have : (zipK ks vs).length = ks.length := by rw [← List.length_map (f := (·.1)), f1, List.length_map]
    omega
  · have nd : ((zipK ks vs).map (·.1)).Nodup := by
      rw [f1]
      rw [List.nodup_iff_pairwise_ne] at hn ⊢
      exact List.pairwise_map.mpr (hn.imp fun h e => h (Sum.inr.inj e))
    have em : mergeK [] (zipK ks vs) = zipK ks vs := by
      rw [merge_new _ _ nd (fun p hp => by cases hp)]
      rfl
    rw [em]
    have hm3 := (h1.after hm1).poke q2 q3 D0 (.dK (zipK ks vs))
    have rr : RepL X.K F1 ds ((zipK ks vs).map (·.2)) := by rw [f2]; exact r1
    cases z with
    | true =>
      exact hq _ m1 _ _ _ hk1 (e1.trans (same_new q3)) (hm3.adopt q2 q3 D0 upd_same) (by unfold Rep; exact ⟨p, _, rfl, .inl upd_same, f1, repL_mono (same_new q3) _ rr⟩)
    | false =>
      exact hq (.raw (.ref p)) _ _ _ _ (hk1 p q2) e1 (hm3.adoptM q3 D0 ⟨_, upd_same, f1, rr⟩) (by unfold Rep; rfl)
/-! ### the text -/
def trKs : List (Option Expr) → Option (List Str)
  | [] => some []
  | some (.Constant (.str x) _ _) :: r => (trKs r).map fun ks => x :: ks
  | _ => none
theorem trKs_all : ∀ {keys : List (Option Expr)} {ks : List Str}, trKs keys = some ks → keys.all (·.isSome) = true ∧ ks.length = keys.length
  | [], ks, h => by cases h; exact ⟨rfl, rfl⟩
  | none :: r, ks, h => by cases h
  | some e :: r, ks, h => by
    cases e <;> first | (cases h; done) | skip
    rename_i c j p
    cases c <;> first | (cases h; done) | skip
    obtain ⟨l, h1, rfl⟩ := Option.map_eq_some_iff.mp h
    obtain ⟨a, b⟩ := trKs_all h1
    exact ⟨by simpa using a, by rw [List.length_cons, List.length_cons, b]⟩
def trVs (f : Expr → Option WE) : List Expr → Option WL
  | [] => some wNil
  | e :: es => (f e).bind fun a => (trVs f es).map fun r => wCons a r
theorem trVs_ok {X : Cx} {W : WX} {pos : Pos} {f : Expr → Option WE} (h : ∀ {e w}, f e = some w → Xe X W e w) : ∀ {keys : List (Option Expr)} {values : List Expr} {ks : List Str} {w : WL}, trKs keys = some ks → trVs f values = some w → keys.length = values.length → XPs X W pos keys values ks w
  | [], [], ks, w, h1, h2, _ => by cases h1; cases h2; exact xps_nil
  | [], _ :: _, _, _, _, _, hl => by cases hl
  | _ :: _, [], _, _, _, _, hl => by cases hl
  | none :: r, e :: es, ks, w, h1, _, _ => by cases h1
  | some a :: r, e :: es, ks, w, h1, h2, hl => by
    cases a <;> first | (cases h1; done) | skip
    rename_i c j p
    cases c <;> first | (cases h1; done) | skip
    obtain ⟨l, q1, rfl⟩ := Option.map_eq_some_iff.mp h1
    obtain ⟨u, q2, q⟩ := Option.bind_eq_some_iff.mp h2
    obtain ⟨y, q3, rfl⟩ := Option.map_eq_some_iff.mp q
    exact xps_cons (h q2) (trVs_ok h q1 q3 (by simpa using hl))
def trD (f : Expr → Option WE) (z : Bool) (keys : List (Option Expr)) (values : List Expr) : Option WE :=
  if (decide (keys.length = values.length) && !keys.isEmpty && decide (keys.length ≤ 15)) = true then (trKs keys).bind fun ks => if ks.Nodup then (trVs f values).map fun w => wDct z ks w else none else none
theorem trD_ok {X : Cx} {W : WX} {pos : Pos} {f : Expr → Option WE} (h : ∀ {e w}, f e = some w → Xe X W e w) {z : Bool} {keys : List (Option Expr)} {values : List Expr} {w : WE} (q : trD f z keys values = some w) : Xe X W (.Dict keys values pos) w := by
  unfold trD at q
  split at q
  · rename_i hb
    simp only [Bool.and_eq_true, decide_eq_true_eq, Bool.not_eq_true'] at hb
    obtain ⟨⟨b1, b2⟩, b3⟩ := hb
    obtain ⟨ks, q1, q⟩ := Option.bind_eq_some_iff.mp q
    split at q
    · rename_i hn
      obtain ⟨u, q2, rfl⟩ := Option.map_eq_some_iff.mp q
      obtain ⟨a1, a2⟩ := trKs_all q1
      exact xe_dct (trVs_ok h q1 q2 b1) a1 b1 (by rintro rfl; cases b2) b3 a2 hn
    · cases q
  · cases q
/-! ### x in a tuple | list of ints -/
def intsOf : List D → Option (List Int)
  | [] => some []
  | .int i :: ds => (intsOf ds).map (i :: ·)
  | _ :: _ => none
theorem intsOf_map : ∀ {xs : List D} {is : List Int}, intsOf xs = some is → xs = is.map D.int
  | [], _, h => by cases h; rfl
  | .int i :: ds, _, h => by
    obtain ⟨js, h1, rfl⟩ := Option.map_eq_some_iff.mp (show (intsOf ds).map (i :: ·) = some _ from h)
    rw [intsOf_map h1]; rfl
  | .non :: _, _, h => by cases h
  | .bl _ :: _, _, h => by cases h
  | .str _ :: _, _, h => by cases h
  | .lst _ :: _, _, h => by cases h
  | .frl _ :: _, _, h => by cases h
  | .tup _ :: _, _, h => by cases h
  | .dct _ _ :: _, _, h => by cases h
  | .obj _ _ _ :: _, _, h => by cases h
  | .raw _ :: _, _, h => by cases h
theorem inV_ints (i : Int) : ∀ is : List Int, inV (.int i) (is.map V.int) = decide (i ∈ is)
  | [] => rfl
  | j :: js => by
    have ih := inV_ints i js
    unfold inV at ih ⊢
    rw [List.map_cons, List.any_cons, ih]
    show ((j == i) || decide (i ∈ js)) = _
    rw [Bool.eq_iff_iff]
    simp only [Bool.or_eq_true, beq_iff_eq, decide_eq_true_eq, List.mem_cons]
    constructor
    · rintro (h | h)
      · exact .inl h.symm
      · exact .inr h
    · rintro (h | h)
      · exact .inl h.symm
      · exact .inr h
theorem flat_ints : ∀ is : List Int, (is.map V.int).all flatV = true
  | [] => rfl
  | _ :: js => flat_ints js
theorem inV_strs (x : Str) : ∀ ss : List Str, inV (.str x) (ss.map V.str) = decide (x ∈ ss)
  | [] => rfl
  | j :: js => by
    have ih := inV_strs x js
    unfold inV at ih ⊢
    rw [List.map_cons, List.any_cons, ih]
    show ((j == x) || decide (x ∈ js)) = _
    rw [Bool.eq_iff_iff]
    simp only [Bool.or_eq_true, beq_iff_eq, decide_eq_true_eq, List.mem_cons]
    constructor
    · rintro (h | h)
      · exact .inl h.symm
      · exact .inr h
    · rintro (h | h)
      · exact .inl h.symm
      · exact .inr h
theorem flat_strs : ∀ is : List Str, (is.map V.str).all flatV = true
  | [] => rfl
  | _ :: js => flat_strs js
def optD : Option Int → D
  | none => .non
  | some i => .int i
def optV : Option Int → V
  | none => .non
  | some i => .int i
theorem repL_opts {K : PySem.W.Frag} {F : Hp} {os : List (Option Int)} : ∀ {vs : List V}, RepL K F (os.map optD) vs → vs = os.map optV := by
  induction os with
  | nil => intro vs h; exact repL_nil.mp h
  | cons n ns ih =>
    intro vs h
    obtain ⟨v, r, rfl, h1, h2⟩ := repL_cons.mp h
    rw [ih h2]
    cases n with
    | none => unfold optD Rep at h1; rw [h1]; rfl
    | some i => unfold optD Rep at h1; rw [h1]; rfl
theorem inV_opts : ∀ os : List (Option Int), inV .non (os.map optV) = decide (none ∈ os)
  | [] => rfl
  | j :: js => by
    have ih := inV_opts js
    unfold inV at ih ⊢
    rw [List.map_cons, List.any_cons, ih]
    cases j with
    | none =>
      show (true || _) = _
      rw [Bool.true_or, decide_eq_true (List.mem_cons_self ..)]
    | some i =>
      show (false || decide (none ∈ js)) = _
      rw [Bool.false_or, Bool.eq_iff_iff]
      simp
theorem flat_opts : ∀ os : List (Option Int), (os.map optV).all flatV = true
  | [] => rfl
  | none :: js => flat_opts js
  | some _ :: js => flat_opts js
/-! ### lists of lists of texts -/
def pdS (ss : List Str) : PyData := .list (ss.map PyData.str)
theorem eqvAll_strs : ∀ a b : List Str, PyData.eqvAll (a.map PyData.str) (b.map PyData.str) = decide (a = b)
  | [], [] => rfl
  | [], y :: ys => rfl
  | x :: xs, [] => rfl
  | x :: xs, y :: ys => by
    rw [List.map_cons, List.map_cons, PyData.eqvAll, eqvAll_strs xs ys, PyData.eqv]
    by_cases e : x = y
    · subst e
      by_cases e2 : xs = ys
      · subst e2; simp
      · simp [e2]
    · simp [e]
theorem eqv_pdS (a b : List Str) : PyData.eqv (pdS a) (pdS b) = decide (a = b) := by
  unfold pdS
  rw [PyData.eqv]
  exact eqvAll_strs a b
theorem canLay_strs : ∀ ss : List Str, (∀ z ∈ ss, PyData.strOk z = true) → PyData.canLayAll0 (ss.map PyData.str) = true
  | [], _ => rfl
  | s :: ss, h => by
    rw [List.map_cons, PyData.canLayAll0, canLay_strs ss fun z hz => h z (List.mem_cons_of_mem _ hz), PyData.canLay0, h s (List.mem_cons_self ..)]
    rfl
theorem depth_strs : ∀ ss : List Str, PyData.depthAll (ss.map PyData.str) = 0
  | [] => rfl
  | s :: ss => by
    rw [List.map_cons, PyData.depthAll, depth_strs ss]
    rfl
theorem shaped_pdS (ss : List Str) (h : ∀ z ∈ ss, PyData.strOk z = true) : SeqAt.shaped (pdS ss) = true := by
  unfold SeqAt.shaped pdS
  rw [PyData.canLay0, canLay_strs ss h, PyData.depth, depth_strs]
  rfl
theorem canLay_pdS : ∀ ss : List (List Str), (∀ s ∈ ss, ∀ z ∈ s, PyData.strOk z = true) → PyData.canLayAll0 (ss.map pdS) = true
  | [], _ => rfl
  | s :: ss, h => by
    rw [List.map_cons, PyData.canLayAll0, canLay_pdS ss fun z hz => h z (List.mem_cons_of_mem _ hz)]
    show (PyData.canLay0 (pdS s) && true) = true
    unfold pdS
    rw [PyData.canLay0, canLay_strs s (h s (List.mem_cons_self ..))]
    rfl
theorem depth_pdS : ∀ ss : List (List Str), PyData.depthAll (ss.map pdS) ≤ 1
  | [] => Nat.zero_le _
  | s :: ss => by
    have ih := depth_pdS ss
    rw [List.map_cons, PyData.depthAll]
    have : (pdS s).depth = 1 := by
      unfold pdS
      rw [PyData.depth, depth_strs]
    omega
theorem shaped_pdL (ss : List (List Str)) (hs : ∀ s ∈ ss, ∀ z ∈ s, PyData.strOk z = true) : SeqAt.shaped (.list (ss.map pdS)) = true := by
  have h := depth_pdS ss
  unfold SeqAt.shaped
  rw [PyData.canLay0, canLay_pdS ss hs, PyData.depth, decide_eq_true (by omega)]
  rfl
theorem any_pdS (s : List Str) : ∀ ss : List (List Str), (ss.map pdS).any (fun z => PyData.eqv z (pdS s)) = decide (s ∈ ss)
  | [] => rfl
  | t :: ts => by
    rw [List.map_cons, List.any_cons, any_pdS s ts, eqv_pdS]
    by_cases e : t = s
    · subst e; simp
    · have e' : ¬ s = t := fun z => e z.symm
      simp [e, e']
theorem dps_strs {K : PySem.W.Frag} {F : Hp} : ∀ {ss : List Str} {vs : List V}, RepL K F (ss.map D.str) vs → DpAll K F vs (ss.map PyData.str)
  | [], _, r => by rw [repL_nil.mp r]; exact .nil
  | s :: ss, _, r => by
    obtain ⟨v, t, rfl, r1, r2⟩ := repL_cons.mp r
    unfold Rep at r1
    subst r1
    exact .cons (.str s) (dps_strs r2)
theorem dps_pdS {K : PySem.W.Frag} {F H : Hp} (e : Same F H) : ∀ {ss : List (List Str)} {vs : List V}, RepL K F (ss.map fun z => .lst (z.map D.str)) vs → DpAll K H vs (ss.map pdS)
  | [], _, r => by rw [repL_nil.mp r]; exact .nil
  | s :: ss, _, r => by
    obtain ⟨v, t, rfl, r1, r2⟩ := repL_cons.mp r
    unfold Rep at r1
    obtain ⟨a, us, rfl, h1, h2⟩ := r1
    exact .cons (.lst (.inl (.inl (e _ _ h1))) (dps_strs (repL_mono e _ h2))) (dps_pdS e r2)
def memK (k : Key) (ks : List Key) : Bool := ks.any fun q => decide (q = k)
theorem memK_iff {k : Key} {ks : List Key} : memK k ks = true ↔ k ∈ ks := by
  unfold memK
  rw [List.any_eq_true]
  constructor
  · rintro ⟨x, h1, h2⟩
    rw [← of_decide_eq_true h2]; exact h1
  · intro h
    exact ⟨k, h, decide_eq_true rfl⟩
theorem valV_mem {x : Key} : ∀ {kvs : List (Key × V)}, (valV kvs x).isSome = memK x (kvs.map Prod.fst)
  | [] => rfl
  | p :: r => by
    unfold memK
    rw [List.map_cons, List.any_cons]
    by_cases e : p.1 = x
    · rw [valV_pos e, decide_eq_true e]
      rfl
    · rw [valV_neg e, valV_mem, decide_eq_false e]
      rfl
def nB (neg q : Bool) : Bool := if neg then !q else q
def oMem (neg : Bool) : O2 := fun m a b k => match a, b with
  | .int i, .tup xs => ∃ is, intsOf xs = some is ∧ k (.bl (nB neg (decide (i ∈ is)))) m
  | .int i, .lst xs => ∃ is, intsOf xs = some is ∧ k (.bl (nB neg (decide (i ∈ is)))) m
  | .int i, .frl xs => ∃ is, intsOf xs = some is ∧ k (.bl (nB neg (decide (i ∈ is)))) m
  | .str x, .str z => ∃ c, x = ⟨#[c]⟩ ∧ k (.bl (nB neg (decide (c ∈ z.cps.toList)))) m
  | .str x, .lst xs => ∃ ss : List Str, xs = ss.map D.str ∧ k (.bl (nB neg (decide (x ∈ ss)))) m
  | .str x, .tup xs => ∃ ss : List Str, xs = ss.map D.str ∧ k (.bl (nB neg (decide (x ∈ ss)))) m
  | .non, .lst xs => ∃ os : List (Option Int), xs = os.map optD ∧ k (.bl (nB neg (decide (none ∈ os)))) m
  | .str x, .dct ks _ => k (.bl (nB neg (memK (.inr x) ks))) m
  | .lst ys, .lst xs => ∃ (s : List Str) (ss : List (List Str)), ys = s.map D.str ∧ xs = ss.map (fun z => .lst (z.map D.str)) ∧ (∀ z ∈ s, PyData.strOk z = true) ∧ (∀ t ∈ ss, ∀ z ∈ t, PyData.strOk z = true) ∧ k (.bl (nB neg (decide (s ∈ ss)))) m
  | _, _ => False
abbrev oIn : O2 := oMem false
abbrev oNin : O2 := oMem true
def rMem (K : PySem.W.Frag) (neg : Bool) : R2 := fun x y H Q => rIn K neg x y H Q ∨ (∃ (c : Nat) (z : Str), x = .str ⟨#[c]⟩ ∧ y = .str z ∧ Q (.bl (nB neg (decide (c ∈ z.cps.toList)))) H) ∨ (∃ a o, y = .ref a ∧ DGet H a x o ∧ Q (.bl (nB neg o.isSome)) H) ∨
  ∃ d ds, Dp K H x d ∧ Dp K H y (.list ds) ∧ SeqAt.shaped d = true ∧ SeqAt.shaped (.list ds) = true ∧ Q (.bl (nB neg (ds.any fun z => PyData.eqv z d))) H
theorem go_mem {K : PySem.W.Frag} {neg : Bool} : GO K (rMem K neg) (oMem neg) := by
  refine ⟨fun {B F m H x y a b k Q} hm va vb h hq => ?_⟩
  cases a <;> cases b <;> first
    | exact False.elim h
    | skip
  · cases va
    obtain ⟨b, us, rfl, hb, rb⟩ := vb
    obtain ⟨os, rfl, h2⟩ := h
    rw [repL_opts rb] at hb
    exact .inl ⟨b, _, rfl, .inl (.inl (.inl hb)), rfl, flat_opts os, by rw [inV_opts]; exact qbl hm hq h2⟩
  · cases va
    obtain ⟨b, us, rfl, hb, rb⟩ := vb
    obtain ⟨is, h1, h2⟩ := h
    rw [intsOf_map h1] at rb
    rw [repL_ints.mp rb] at hb
    exact .inl ⟨b, _, rfl, .inl (.inl (.inl hb)), rfl, flat_ints is, by rw [inV_ints]; exact qbl hm hq h2⟩
  · cases va
    obtain ⟨b, us, rfl, hb, rb, _⟩ := vb
    obtain ⟨is, h1, h2⟩ := h
    rw [intsOf_map h1] at rb
    rw [repL_ints.mp rb] at hb
    exact .inl ⟨b, _, rfl, .inr hb, rfl, flat_ints is, by rw [inV_ints]; exact qbl hm hq h2⟩
  · cases va
    obtain ⟨b, us, rfl, hb, rb⟩ := vb
    obtain ⟨is, h1, h2⟩ := h
    rw [intsOf_map h1] at rb
    rw [repL_ints.mp rb] at hb
    exact .inl ⟨b, _, rfl, .inl hb, rfl, flat_ints is, by rw [inV_ints]; exact qbl hm hq h2⟩
  · cases va
    cases vb
    obtain ⟨c, rfl, h2⟩ := h
    exact .inr (.inl ⟨c, _, rfl, rfl, qbl hm hq h2⟩)
  · cases va
    obtain ⟨b, us, rfl, hb, rb⟩ := vb
    obtain ⟨is, rfl, h2⟩ := h
    rw [repL_strs.mp rb] at hb
    exact .inl ⟨b, _, rfl, .inl (.inl (.inl hb)), rfl, flat_strs is, by rw [inV_strs]; exact qbl hm hq h2⟩
  · cases va
    obtain ⟨b, us, rfl, hb, rb, _⟩ := vb
    obtain ⟨is, rfl, h2⟩ := h
    rw [repL_strs.mp rb] at hb
    exact .inl ⟨b, _, rfl, .inr hb, rfl, flat_strs is, by rw [inV_strs]; exact qbl hm hq h2⟩
  · cases va
    obtain ⟨a, kvs, rfl, hb, rfl, rb⟩ := vb
    refine .inr (.inr (.inl ⟨a, _, rfl, .inl ⟨kvs, .inr _, hb, rfl, rfl⟩, ?_⟩))
    rw [valV_mem]
    exact qbl hm hq h
  · obtain ⟨b, us, rfl, hb, rb⟩ := va
    obtain ⟨b2, us2, rfl, hb2, rb2⟩ := vb
    obtain ⟨s, ss, rfl, rfl, o1, o2, h2⟩ := h
    refine .inr (.inr (.inr ⟨pdS s, ss.map pdS, .lst (.inl (.inl hb)) (dps_strs (repL_mono hm.fr _ rb)), .lst (.inl (.inl hb2)) (dps_pdS hm.fr rb2), shaped_pdS s o1, shaped_pdL ss o2, ?_⟩))
    rw [any_pdS]
    exact qbl hm hq h2
theorem op_inK {X : Cx} (hu : X.A.units + 1 < cLine) : OpR X (compareOp .In) (fun x y H Q => ∃ a o, y = .ref a ∧ DGet H a x o ∧ Q (.bl o.isSome) H) := by
  intro pins s σ H x y v u Q I rx ry h
  obtain ⟨a, o, rfl, g, q⟩ := h
  cases ry
  exact d_in hu I g rx fun s' I' => ⟨.bl _, H, I', rfl, q⟩
theorem op_ninK {X : Cx} (hu : X.A.units + 1 < cLine) : OpR X (compareOp .NotIn) (fun x y H Q => ∃ a o, y = .ref a ∧ DGet H a x o ∧ Q (.bl (!o.isSome)) H) := by
  intro pins s σ H x y v u Q I rx ry h
  obtain ⟨a, o, rfl, g, q⟩ := h
  cases ry
  exact d_notIn hu I g rx fun s' I' => ⟨.bl _, H, I', rfl, q⟩
theorem xo_in {X : Cx} (hu : X.A.units + 65 < cLine) : XO X (compareOp .In) oIn := by
  refine ⟨_, op_in_seq.or (op_in_sign.or ((op_inK (by omega)).or (op_inD hu))), ⟨fun {B F m H x y a b k Q} hm va vb h hq => ?_⟩⟩
  exact go_mem.run hm va vb h hq
theorem xo_nin {X : Cx} (hu : X.A.units + 65 < cLine) : XO X (compareOp .NotIn) oNin := by
  refine ⟨_, op_notIn_seq.or (op_notIn_sign.or ((op_ninK (by omega)).or (op_notInD hu))), ⟨fun {B F m H x y a b k Q} hm va vb h hq => ?_⟩⟩
  exact go_mem.run hm va vb h hq
end Ab
end
section
/-! Ab9d: sorted(set(xs)) of ints; min(xs, default=d) of ints. -/
namespace Ab
open PySem PySem.Spec PyProof.Rows L2
/-- a set that holds nothing yet -/
abbrev fset (w : World) : Obj := { cls := .type "set", dict := none, data := .set #[] 0 (.fresh 0 0 (!w.params.followText "set-order")) }
section
variable {P : Program} {w : World} {A : Around} {E : Value → Shared → Prop} {s : Shared}
/-- what set(xs) leaves behind -/
def SetLeft (w : World) (s s₂ : Shared) (ns : List Int) : Prop :=
  ∃ h' tk c, s₂ = { s with heap := h', toks := tk } ∧ SetR w h' s.heap.objs.size (fun j => decide (j ∈ ns)) c ∧ c ≤ ns.length ∧ ∀ b o, s.heap.get? b = some o → h'.get? b = some o
theorem set_of_list {l : Addr} {its : Array Value} (ns : List Int) {Q : Value → Shared → Prop} (hh : A.handled = none) (hl : s.heap.IsList l its) (hi : IntsAre its.toList ns) (hb : ns.length + 1 < scanBound)
    (h : ∀ s₂, SetLeft w s s₂ ns → Q (.ref s.heap.objs.size) s₂) : wpAny (model P w) A (call (.type "set") [.ref l]) Q E s := by
  have hz : its.size = ns.length := by rw [← IntsAre.length hi, Array.length_toList]
  obtain ⟨c0, tl0, hm0⟩ := F.called_set.mro
  have f1 := F.called_set.made
  have f2 := F.called_set.sub
  refine wpAny_call (codeAny_of_tree (by
    show wpAny _ _ (callAny (.type "set") _) _ _ _
    exact wpAny_pure ⟨Code.quiet_builtin _ (by decide +kernel), codeAny_builtin F.entry_type_call (by
      rw [Around.under_plain (weight_type_call_type "set" [.ref l] []) rfl]
      have f3 := F.called_set.notType
      have f4 := F.called_set.canCreate
      have f5 := F.typeCall_set_1 (.ref l)
      repeat (any_goals (first | assumption | wp_step))
      refine codeAny_mono (code_set_led1 (.ref l) (E := E) (Q₁ := fun x t => x = .ref s.heap.objs.size ∧ t = { s with heap := s.heap.push (fset w) }) ⟨rfl, rfl⟩) fun r t hr => ?_
      rcases r with e | fl
      · exact hr
      rcases fl with x | _ | _ | _
      all_goals first | exact hr.elim | skip
      obtain ⟨e1, e2⟩ := hr
      subst e1; subst e2
      have g1 : (s.heap.push (fset w)).get? s.heap.objs.size = some (fset w) := Heap.get?_push_size _ rfl
      have g2 : Shared.TypeIs { s with heap := s.heap.push (fset w) } (.ref s.heap.objs.size) "set" := ⟨_, g1, rfl⟩
      have f6 := F.called_set.init.lookup
      have f7 := F.called_set.init.bind (.ref s.heap.objs.size)
      repeat (any_goals (first | assumption | wp_step))
      refine codeAny_mono (codeAny_call_builtin (R := wants (fun x t => x = .none ∧ SetLeft w s t ns) E) F.called_set.init.plain F.entry_set_init (check_set_init_1 g2 ?_)) fun r t hr => ?_
      · obtain ⟨⟨oc, od, oa, os⟩, ho, z1, n0, z2⟩ := hl
        simp only at z1 z2
        subst z1; subst z2
        have g3 : (s.heap.push (fset w)).get? l = some { cls := .type "list", dict := od, data := .seq its n0, slots := os } := Heap.get?_push_of_some _ ho
        have f8 := F.sub_list_set
        have f9 := F.sub_list_frozenset
        have g4 : (Value.type "list" == Value.type "dict") = false := by decide
        have g5 : (s.heap.push (fset w)).IsList l its := ⟨_, g3, rfl, n0, rfl⟩
        unfold Builtin.«set.__init__» noKeywords Builtin.Frozenset.updateFrom
        generalize hPI : pyIter = PI
        wp_walk
        subst hPI
        refine wpAny_pyIter_list g5 (wpAny_bind (wpAny_runValue ?_))
        have lt : l < s.heap.objs.size := Heap.lt_size ho
        have hs3 : A.in1.in1.in1.handled = none := by simp [hh]
        have ne1 : l ≠ (s.heap.push (fset w)).objs.size := by rw [Heap.size_push]; exact Nat.ne_of_lt (Nat.lt_succ_of_lt lt)
        have ne2 : s.heap.objs.size ∉ [(s.heap.push (fset w)).objs.size, l] := by
          rw [Heap.size_push]
          intro z
          simp only [List.mem_cons, List.not_mem_nil, or_false] at z
          exact z.elim (fun e => absurd e (Nat.ne_of_lt (Nat.lt_succ_self _))) fun e => absurd e (Nat.ne_of_gt lt)
        have val : ∀ (i : Nat) (v : Value), its[i]? = some v → ∃ k t, ns[i]? = some k ∧ v = .int k t := fun i v hv => by
          have hi2 : i < ns.length := by rw [← hz]; exact (Array.getElem?_eq_some_iff.mp hv).1
          obtain ⟨t, e⟩ := IntsAre.int_at hi i v (by rw [Array.getElem?_toList]; exact hv)
          refine ⟨ns[i], t, List.getElem?_eq_getElem hi2, ?_⟩
          rw [e, List.getD_eq_getElem?_getD, List.getElem?_eq_getElem hi2]
          rfl
        have old : ∀ b o, s.heap.get? b = some o → b ≠ s.heap.objs.size ∧ b ≠ (s.heap.push (fset w)).objs.size := fun b o e => by
          have q := Heap.lt_size e
          rw [Heap.size_push]
          exact ⟨Nat.ne_of_lt q, Nat.ne_of_lt (Nat.lt_succ_of_lt q)⟩
        refine set_update_ints ((Walks.list hs3 _ l ne1 its).toS) s.heap.objs.size ne2 ns hz hb val (its.size - 0) 0 _ (by omega) (Nat.zero_le _) ⟨⟨_, Heap.get?_push_size _ rfl, rfl, rfl⟩, g5.push _⟩ ⟨0, Nat.le_refl 0, setR_new_at (Heap.get?_push_of_some _ g1)⟩ fun t c mv hc hS => ?_
        obtain ⟨h', g', d', tk', os'⟩ := t
        have y1 : g' = s.gens := mv.gens
        have y2 : d' = s.drawn := mv.drawn
        have y3 : os' = s.os := mv.os
        subst y1; subst y2; subst y3
        refine wpAny_pure (wpAny_pure ⟨rfl, h', tk', c, rfl, hS, by rw [← hz]; exact hc, fun b o e => ?_⟩)
        refine mv.heap b o (fun z => ?_) (Heap.get?_push_of_some _ (Heap.get?_push_of_some _ e))
        simp only [List.mem_cons, List.not_mem_nil, or_false] at z
        exact z.elim (old b o e).1 (old b o e).2
      · rcases r with e | fl
        · exact hr
        rcases fl with x | _ | _ | _
        all_goals first | exact hr.elim | skip
        obtain ⟨e1, e2⟩ := hr
        subst e1
        repeat (any_goals (first | assumption | wp_step))
        exact h _ e2)⟩))
end
/-! ### the sorted list of all that is in a list, each once -/
def ins (x : Int) : List Int → List Int
  | [] => [x]
  | y :: r => if x < y then x :: y :: r else if x = y then y :: r else y :: ins x r
def sset : List Int → List Int
  | [] => []
  | x :: r => ins x (sset r)
theorem mem_ins {x z : Int} : ∀ {l : List Int}, z ∈ ins x l ↔ z = x ∨ z ∈ l
  | [] => by simp [ins]
  | y :: r => by
    unfold ins
    split
    · simp
    · split
      · subst_vars
        simp
      · simp only [List.mem_cons, mem_ins (l := r)]
        constructor
        · rintro (h | h | h)
          · exact .inr (.inl h)
          · exact .inl h
          · exact .inr (.inr h)
        · rintro (h | h | h)
          · exact .inr (.inl h)
          · exact .inl h
          · exact .inr (.inr h)
theorem mem_sset {z : Int} : ∀ {l : List Int}, z ∈ sset l ↔ z ∈ l
  | [] => by simp [sset]
  | x :: r => by rw [sset, mem_ins, mem_sset, List.mem_cons]
theorem ins_sorted {x : Int} : ∀ {l : List Int}, l.Pairwise (· < ·) → (ins x l).Pairwise (· < ·)
  | [], _ => by simp [ins]
  | y :: r, h => by
    obtain ⟨h1, h2⟩ := List.pairwise_cons.mp h
    unfold ins
    split
    · rename_i c
      refine List.pairwise_cons.mpr ⟨fun z hz => ?_, h⟩
      rcases List.mem_cons.mp hz with rfl | hz
      · exact c
      · exact Int.lt_trans c (h1 z hz)
    · split
      · exact h
      · rename_i c1 c2
        refine List.pairwise_cons.mpr ⟨fun z hz => ?_, ins_sorted h2⟩
        rcases mem_ins.mp hz with rfl | hz
        · omega
        · exact h1 z hz
theorem sset_sorted : ∀ {l : List Int}, (sset l).Pairwise (· < ·)
  | [] => List.Pairwise.nil
  | _ :: _ => ins_sorted sset_sorted
theorem sorted_uniq : ∀ {a b : List Int}, a.Pairwise (· < ·) → b.Pairwise (· < ·) → (∀ z, z ∈ a ↔ z ∈ b) → a = b
  | [], [], _, _, _ => rfl
  | [], y :: s, _, _, h => absurd ((h y).mpr List.mem_cons_self) (by simp)
  | x :: r, [], _, _, h => absurd ((h x).mp List.mem_cons_self) (by simp)
  | x :: r, y :: s, ha, hb, h => by
    obtain ⟨a1, a2⟩ := List.pairwise_cons.mp ha
    obtain ⟨b1, b2⟩ := List.pairwise_cons.mp hb
    have e : x = y := by
      rcases List.mem_cons.mp ((h x).mp List.mem_cons_self) with e | e
      · exact e
      · rcases List.mem_cons.mp ((h y).mpr List.mem_cons_self) with f | f
        · exact f.symm
        · have := b1 x e
          have := a1 y f
          omega
    subst e
    rw [sorted_uniq a2 b2 fun z => ?_]
    constructor
    · intro hz
      rcases List.mem_cons.mp ((h z).mp (List.mem_cons_of_mem _ hz)) with e | e
      · subst e; have := a1 z hz; omega
      · exact e
    · intro hz
      rcases List.mem_cons.mp ((h z).mpr (List.mem_cons_of_mem _ hz)) with e | e
      · subst e; have := b1 z hz; omega
      · exact e
def mn (n : Int) (r : List Int) : Int := r.foldl (fun a y => if y < a then y else a) n
def mnD (e : Int) : List Int → Int
  | [] => e
  | n :: r => mn n r
theorem mn_eq (n : Int) (r : List Int) : PySem.W.minOf n r = mn n r := by
  unfold PySem.W.minOf mn
  congr 1
  funext a y
  show (if decide (y < a) = true then y else a) = _
  simp only [decide_eq_true_eq]
/-! ### the rules -/
def rSS (K : PySem.W.Frag) : List V → Hp → VK → Prop := fun xs H Q => ∃ (l : Addr) (ns : List Int), xs = [.ref l] ∧ SqL K H l (ns.map V.int) ∧ ns.length < 64 ∧ ∀ p, H p = none → Q (.ref p) (upd H p (.lst ((sset ns).map V.int)))
def rMinD (K : PySem.W.Frag) : List V → List V → Hp → VK → Prop := fun xs zs H Q => ∃ (l : Addr) (ns : List Int) (e : Int), xs = [.ref l] ∧ zs = [.int e] ∧ SqL K H l (ns.map V.int) ∧ Q (.int (mnD e ns)) H
def rMinD2 (K : PySem.W.Frag) : List V → Hp → VK → Prop := fun vs H Q => match vs with
  | [x, y] => rMinD K [x] [y] H Q
  | _ => False
section
variable {X : Cx} {W : WX}
theorem cr_minD (hc : X.calm = true) (hu : X.A.units + 8 < cLine) : CallRK X (.builtin "min") [Str.ofString "default"] (rMinD X.K) := by
  intro pins s σ H xs zs us ws Q I r rz h
  obtain ⟨l, ns, e, rfl, rfl, hq, q⟩ := h
  obtain rfl := Vals.ref1 r
  obtain ⟨w1, rfl, e1⟩ := vals1 rz
  obtain ⟨its, rv, pl, hz⟩ := I.list hq
  have hi : IntsAre its ns := rv.ints
  refine PySem.W.min_list_datum_default (α := Int) (xs := ns) (I.ok.hd hc) pl.isList (PySem.W.HoldAll.of_ints (by simpa using hi)) (by show X.A.units + 1 + 0 < cLine; omega) (fun hn h' tk hk => ?_) fun y ys i v h' tk hn hv hh hk => ?_
  · subst hn
    exact ⟨.int e, H, I.kept hk, e1, q⟩
  · subst hn
    obtain ⟨as, hr⟩ := hh
    rw [mn_eq] at hr
    have : ∃ t, v = .int (mn y ys) t := by
      cases hr with
      | int n t => exact ⟨t, rfl⟩
    obtain ⟨t, rfl⟩ := this
    exact ⟨.int _, H, I.kept hk, ⟨t, rfl⟩, q⟩
theorem pe_minD {a d : Expr} {ta td : TE} {p kp pos : Pos} (hc : X.calm = true) (hu : X.A.units + 8 < cLine) (hg : Gl X "min") (hm : X.mg "min" = none) (ha : PE X a ta) (hd : PE X d td) (sa : starred a = false) :
    PE X (.Call (.Name "min" p) [a] [⟨some (Str.ofString "default"), d, kp⟩] pos) (tCB (rMinD2 X.K) (tCons ta (tCons td tNil))) :=
  ⟨fun pins s σ H Q I h => (pe_callBK (cr_minD hc hu) hg hm PyProof.Rows.boot_min (pa_cons ha pa_nil (star_eq sa _)) (pk_cons hd pk_nil) (by decide) (by decide) (by rw [star_eq sa]; rfl) (by rw [star_eq sa]; rfl) (by rfl) (by rfl) (by rfl)).run pins s σ H Q I h⟩
theorem pe_sortSet {a : Expr} {ta : TE} {p p2 q pos : Pos} (hc : X.calm = true) (hg : Gl X "sorted") (hm : X.mg "sorted" = none) (hg2 : Gl X "set") (hm2 : X.mg "set" = none) (ha : PE X a ta) (sa : starred a = false) :
    PE X (.Call (.Name "sorted" p) [.Call (.Name "set" p2) [a] [] q] [] pos) (tCB (rSS X.K) (tCons ta tNil)) := by
  refine ⟨fun pins s σ H Q I h => ?_⟩
  refine Call_ (ld_blt I hg hm PyProof.Rows.boot_sorted (PyProof.Rows.callWith_builtin1 (PyProof.Rows.args_cons ?_ rfl) rfl rfl))
  refine Call_ (ld_blt I hg2 hm2 PyProof.Rows.boot_set (PyProof.Rows.callWith_type1 (PyProof.Rows.args_cons (thn (ha.run pins s σ H _ I h) fun v s1 ⟨x, H1, I1, r1, q1⟩ => PyProof.Rows.args_nil ?_) (star_eq sa _)) (star_eq sa _) rfl))
  obtain ⟨l, ns, e0, hq, hl, q1⟩ := q1
  obtain rfl : x = .ref l := by injection e0
  cases r1
  obtain ⟨its, r, pl, hz⟩ := I1.list hq
  have hi : IntsAre its ns := r.ints
  refine set_of_list ns (I1.ok.hd hc) pl.isList (by simpa using hi) (by unfold scanBound; omega) fun s₂ hL => PyProof.Rows.args_nil ?_
  obtain ⟨h', tk, c, rfl, hS, hc', hk⟩ := hL
  have I2 : Inv X pins σ H1 { s1 with heap := h', toks := tk } := I1.kept hk
  refine sorted_set hS (I2.ok.hd hc) (by omega) fun s' p out c ns' k g o hp hgp hi2 hs hm hl => ?_
  have e1 : ns' = sset ns := sorted_uniq hs sset_sorted fun z => by rw [hm, mem_sset, decide_eq_true_eq]
  subst e1
  have len : ((sset ns).map V.int).length ≤ sizeLine := by rw [List.length_map, hl, sizeLine_eq]; omega
  have new : H1 p = none := I2.hok.fresh hp
  obtain ⟨h2, gs2, d2, tk2, os2⟩ := s'
  obtain rfl : gs2 = s1.gens := g
  obtain rfl : os2 = s1.os := o
  generalize hs3 : ({ heap := h', gens := s1.gens, drawn := s1.drawn, toks := tk, os := s1.os } : Shared) = s3 at *
  have J := I2.call (ch := []) (g' := s3.gens) (t' := tk2) (d' := d2) (Un.laid k hp new) (I2.hok.laid k hp (o := .lst ((sset ns).map V.int)) ⟨len, out.toList, c, vals_of_ints hi2, hgp⟩) I2.bare (fun _ z => nomatch z)
  subst hs3
  exact ⟨.ref p, upd H1 p (.lst ((sset ns).map V.int)), J, rfl, q1 p new⟩
/-! ### the readings -/
def cSS (z : Bool) : OC := fun m ds k => match ds with
  | [.lst xs] => ∃ ns : List Int, xs = ns.map D.int ∧ ns.length < 64 ∧ newK z (.lst ((sset ns).map D.int)) m k
  | [.frl xs] => ∃ ns : List Int, xs = ns.map D.int ∧ ns.length < 64 ∧ newK z (.lst ((sset ns).map D.int)) m k
  | _ => False
def cMinD : OC := fun m ds k => match ds with
  | [.lst xs, .int e] => ∃ ns : List Int, xs = ns.map D.int ∧ k (.int (mnD e ns)) m
  | [.frl xs, .int e] => ∃ ns : List Int, xs = ns.map D.int ∧ k (.int (mnD e ns)) m
  | _ => False
theorem gl_none {K : PySem.W.Frag} {W : WX} : GL K W tNil wNil := ⟨fun {B F v m σ H k kx Q} hm re hw hq hx => hq [] m F H [] hw (Same.refl _) hm RepL.nil⟩
theorem gc_ss {K : PySem.W.Frag} {z : Bool} : GC K (rSS K) (cSS z) := by
  refine ⟨fun {B F m H vs ds k Q} hm vd h hq => ?_⟩
  unfold cSS at h
  split at h
  · obtain ⟨v, rfl, a, vs, rfl, ha, ra⟩ := vl1 vd
    obtain ⟨ns, h1, h2, h3⟩ := h
    refine ⟨a, ns, rfl, ?_, h2, fun p hp => newK_ok hm hp (repL_ints.mpr rfl) h3 hq⟩
    rw [← ints_of ra h1]
    exact .inl (.inl ha)
  · obtain ⟨v, rfl, a, vs, rfl, ha, ra⟩ := vl1 vd
    obtain ⟨ns, h1, h2, h3⟩ := h
    refine ⟨a, ns, rfl, ?_, h2, fun p hp => newK_ok hm hp (repL_ints.mpr rfl) h3 hq⟩
    rw [← ints_of ra h1]
    exact ha
  · exact h.elim
theorem gc_minD {K : PySem.W.Frag} : GC K (rMinD2 K) cMinD := by
  refine ⟨fun {B F m H vs ds k Q} hm vd h hq => ?_⟩
  unfold cMinD at h
  split at h
  · obtain ⟨v, u, rfl, h1, h2⟩ := vl2 vd
    obtain ⟨a, vs, rfl, ha, ra⟩ := h1
    cases h2
    obtain ⟨ns, h3, h4⟩ := h
    refine ⟨a, ns, _, rfl, rfl, ?_, qint hm hq h4⟩
    rw [← ints_of ra h3]
    exact .inl (.inl ha)
  · obtain ⟨v, u, rfl, h1, h2⟩ := vl2 vd
    obtain ⟨a, vs, rfl, ha, ra⟩ := h1
    cases h2
    obtain ⟨ns, h3, h4⟩ := h
    refine ⟨a, ns, _, rfl, rfl, ?_, qint hm hq h4⟩
    rw [← ints_of ra h3]
    exact ha
  · exact h.elim
theorem xe_sortSet {a : Expr} {wa : WE} {z : Bool} {p p2 q pos : Pos} (hc : X.calm = true) (hg : Gl X "sorted") (hm : X.mg "sorted" = none) (hg2 : Gl X "set") (hm2 : X.mg "set" = none) (ha : Xe X W a wa) (sa : starred a = false) :
    Xe X W (.Call (.Name "sorted" p) [.Call (.Name "set" p2) [a] [] q] [] pos) (wCB (cSS z) (wCons wa wNil)) := by
  obtain ⟨t, p1, g1⟩ := ha.ex
  exact ⟨_, pe_sortSet hc hg hm hg2 hm2 p1 sa, ge_cb gc_ss (gl_cons g1 gl_none)⟩
theorem xe_minD {a d : Expr} {wa wd : WE} {p kp pos : Pos} (hc : X.calm = true) (hu : X.A.units + 8 < cLine) (hg : Gl X "min") (hm : X.mg "min" = none) (ha : Xe X W a wa) (hd : Xe X W d wd) (sa : starred a = false) :
    Xe X W (.Call (.Name "min" p) [a] [⟨some (Str.ofString "default"), d, kp⟩] pos) (wCB cMinD (wCons wa (wCons wd wNil))) := by
  obtain ⟨t, p1, g1⟩ := ha.ex
  obtain ⟨u, p2, g2⟩ := hd.ex
  exact ⟨_, pe_minD hc hu hg hm p1 p2 sa, ge_cb gc_minD (gl_cons g1 (gl_cons g2 gl_none))⟩
end
end Ab
end
section
/-! Ab10: the reading of an expression's text. -/
namespace Ab
open PySem PySem.Spec L2
structure Tr where
  e : TC → Bool → Expr → Option WE
  t : TC → Expr → Option WT
structure TrOk (r : Tr) : Prop where
  e : ∀ {c : TC} {X : Cx} {W : WX} {z : Bool} {e : Expr} {w : WE}, Cok c X W → r.e c z e = some w → Xe X W e w
  t : ∀ {c : TC} {X : Cx} {W : WX} {e : Expr} {w : WT}, Cok c X W → r.t c e = some w → Xt X W e w
def trL (f : Expr → Option WE) : List Expr → Option WL
  | [] => some wNil
  | e :: es => if starred e = true then none else (f e).bind fun a => (trL f es).map fun r => wCons a r
theorem trL_ok {X : Cx} {W : WX} {f : Expr → Option WE} (h : ∀ {e w}, f e = some w → Xe X W e w) : ∀ {es : List Expr} {w : WL}, trL f es = some w → Xl X W es w ∧ es.any starred = false
  | [], w, q => by cases q; exact ⟨xl_nil, rfl⟩
  | e :: es, w, q => by
    unfold trL at q
    split at q
    · cases q
    · rename_i hs
      obtain ⟨a, q1, q⟩ := Option.bind_eq_some_iff.mp q
      obtain ⟨r, q2, rfl⟩ := Option.map_eq_some_iff.mp q
      obtain ⟨i1, i2⟩ := trL_ok h q2
      have hs' : starred e = false := by simpa using hs
      exact ⟨xl_cons (h q1) i1 hs', by rw [List.any_cons, hs', i2]; rfl⟩
/-! ### names -/
def trN (c : TC) (x : Str) : Option WE :=
  if dunder x = true then none
  else if isVis c.sc x = true then (ixIn c.N x).map wVar
  else if isGl c.sc x = true then (match c.cons.lookup x with
    | some d => some (wCon d)
    | none => (tyTab.lookup x).map fun T => wCon (.raw (.ty T)))
  else none
theorem trN_ok {c : TC} {X : Cx} {W : WX} (h : Cok c X W) {x : Str} {w : WE} {pos : Pos} (q : trN c x = some w) : Xe X W (.Name x pos) w := by
  unfold trN at q
  split at q
  · cases q
  · rename_i hd
    obtain ⟨d1, d2⟩ := dunder_ok (by simpa using hd)
    split at q
    · rename_i hv
      obtain ⟨i, q1, rfl⟩ := Option.map_eq_some_iff.mp q
      exact xe_var (by rw [h.N]; exact ixIn_ok q1) (by rw [h.sc]; exact isVis_ok hv) d1 d2
    · split at q
      · rename_i hg
        have g := h.gl hg
        split at q
        · rename_i d q1
          cases q
          obtain ⟨v, u, m1, m2, m3⟩ := h.cons _ _ q1
          exact xe_glob g m1 m2 d1 m3
        · obtain ⟨T, q1, rfl⟩ := Option.map_eq_some_iff.mp q
          obtain ⟨k1, k2, k3, k4⟩ := tyTab_ok _ (lk_mem q1)
          exact xe_ty g (h.blt _ k4) k1 k2 k3
      · cases q
def trC : Const → Option WE
  | .int i => some (wCon (.int i))
  | .bool b => some (wCon (.bl b))
  | .none => some (wCon .non)
  | .str x => some (wCon (.str x))
  | _ => none
theorem trC_ok {X : Cx} {W : WX} {k : Const} {j : Nat} {pos : Pos} {w : WE} (q : trC k = some w) : Xe X W (.Constant k j pos) w := by
  cases k <;> cases q
  · exact xe_non
  · exact xe_bl
  · exact xe_int
  · exact xe_str
/-! ### and, or -/
def trV (f : Expr → Option WE) : BoolOp → List Expr → Option WE
  | _, [] => none
  | _, [a] => f a
  | .And, a :: es => (f a).bind fun x => (trV f .And es).map fun y => wAndV x y
  | .Or, a :: es => (f a).bind fun x => (trV f .Or es).map fun y => wOrV x y
theorem trV_ok {X : Cx} {W : WX} {f : Expr → Option WE} (h : ∀ {e w}, f e = some w → Xe X W e w) : ∀ {op : BoolOp} {es : List Expr} {w : WE}, trV f op es = some w → Xb X W op es w
  | .And, [], w, q => by cases q
  | .Or, [], w, q => by cases q
  | .And, [a], w, q => xb_one (h q)
  | .Or, [a], w, q => xb_one (h q)
  | .And, a :: b :: es, w, q => by
    obtain ⟨x, q1, q⟩ := Option.bind_eq_some_iff.mp (show (f a).bind _ = some w from q)
    obtain ⟨y, q2, rfl⟩ := Option.map_eq_some_iff.mp q
    exact xb_and (h q1) (trV_ok h q2)
  | .Or, a :: b :: es, w, q => by
    obtain ⟨x, q1, q⟩ := Option.bind_eq_some_iff.mp (show (f a).bind _ = some w from q)
    obtain ⟨y, q2, rfl⟩ := Option.map_eq_some_iff.mp q
    exact xb_or (h q1) (trV_ok h q2)
def trW (f : Expr → Option WT) : BoolOp → List Expr → Option WT
  | _, [] => none
  | _, [a] => f a
  | .And, a :: es => (f a).bind fun x => (trW f .And es).map fun y => wAnd x y
  | .Or, a :: es => (f a).bind fun x => (trW f .Or es).map fun y => wOr x y
theorem trW_ok {X : Cx} {W : WX} {f : Expr → Option WT} {pos : Pos} (h : ∀ {e w}, f e = some w → Xt X W e w) : ∀ {op : BoolOp} {es : List Expr} {w : WT}, trW f op es = some w → Xw X W (.BoolOp op es pos) w
  | .And, [], w, q => by cases q
  | .Or, [], w, q => by cases q
  | .And, [a], w, q => xw_and1 (h q)
  | .Or, [a], w, q => xw_or1 (h q)
  | .And, a :: b :: es, w, q => by
    obtain ⟨x, q1, q⟩ := Option.bind_eq_some_iff.mp (show (f a).bind _ = some w from q)
    obtain ⟨y, q2, rfl⟩ := Option.map_eq_some_iff.mp q
    exact xw_and (h q1) (trW_ok h q2)
  | .Or, a :: b :: es, w, q => by
    obtain ⟨x, q1, q⟩ := Option.bind_eq_some_iff.mp (show (f a).bind _ = some w from q)
    obtain ⟨y, q2, rfl⟩ := Option.map_eq_some_iff.mp q
    exact xw_or (h q1) (trW_ok h q2)
/-! ### comparisons, parts -/
def trCmp (f : Expr → Option WE) (a : Expr) : List CmpOp → List Expr → Option WE
  | [.In], [b] => if behindInMarks .In b = true then none else (f a).bind fun x => (f b).map fun y => wOp oIn x y
  | [.NotIn], [b] => if behindInMarks .NotIn b = true then none else (f a).bind fun x => (f b).map fun y => wOp oNin x y
  | [op], [b] => (opC op).bind fun o => (f a).bind fun x => (f b).map fun y => wOp o x y
  | [op, op'], [b, d] => (opC op).bind fun o => (opC op').bind fun o' => (f a).bind fun x => (f b).bind fun y => (f d).map fun u => wChain o o' x y u
  | _, _ => none
theorem trCmp_ok {X : Cx} {W : WX} {f : Expr → Option WE} (hu : X.A.units + 65 < cLine) (h : ∀ {e w}, f e = some w → Xe X W e w) {a : Expr} {ops : List CmpOp} {es : List Expr} {w : WE} {pos : Pos} (q : trCmp f a ops es = some w) :
    Xe X W (.Compare a ops es pos) w ∧ Xt X W (.Compare a ops es pos) (wIsB w) := by
  unfold trCmp at q
  split at q
  · split at q
    · cases q
    · rename_i hb
      obtain ⟨x, q2, q⟩ := Option.bind_eq_some_iff.mp q
      obtain ⟨y, q3, rfl⟩ := Option.map_eq_some_iff.mp q
      exact ⟨xe_cmp (xo_in hu) (h q2) (h q3) (Bool.not_eq_true _ ▸ hb), xt_cmp (xo_in hu) (h q2) (h q3) (Bool.not_eq_true _ ▸ hb)⟩
  · split at q
    · cases q
    · rename_i hb
      obtain ⟨x, q2, q⟩ := Option.bind_eq_some_iff.mp q
      obtain ⟨y, q3, rfl⟩ := Option.map_eq_some_iff.mp q
      exact ⟨xe_cmp (xo_nin hu) (h q2) (h q3) (Bool.not_eq_true _ ▸ hb), xt_cmp (xo_nin hu) (h q2) (h q3) (Bool.not_eq_true _ ▸ hb)⟩
  · obtain ⟨o, q1, q⟩ := Option.bind_eq_some_iff.mp q
    obtain ⟨x, q2, q⟩ := Option.bind_eq_some_iff.mp q
    obtain ⟨y, q3, rfl⟩ := Option.map_eq_some_iff.mp q
    exact ⟨xe_cmp (opC_ok (by omega) q1) (h q2) (h q3) (opC_mk q1), xt_cmp (opC_ok (by omega) q1) (h q2) (h q3) (opC_mk q1)⟩
  · obtain ⟨o, q1, q⟩ := Option.bind_eq_some_iff.mp q
    obtain ⟨o', q2, q⟩ := Option.bind_eq_some_iff.mp q
    obtain ⟨x, q3, q⟩ := Option.bind_eq_some_iff.mp q
    obtain ⟨y, q4, q⟩ := Option.bind_eq_some_iff.mp q
    obtain ⟨u, q5, rfl⟩ := Option.map_eq_some_iff.mp q
    exact ⟨xe_chain (opC_ok (by omega) q1) (opC_ok (by omega) q2) (h q3) (h q4) (h q5) (opC_mk q2), xt_chain (opC_ok (by omega) q1) (opC_ok (by omega) q2) (h q3) (h q4) (h q5) (opC_mk q2)⟩
  · cases q
def trP (f : Expr → Option WE) : Option Expr → Option WO
  | none => some wNoPart
  | some e => (f e).map wPart
theorem trP_ok {X : Cx} {W : WX} {f : Expr → Option WE} (h : ∀ {e w}, f e = some w → Xe X W e w) {e : Option Expr} {w : WO} (q : trP f e = some w) : Xo X W e w := by
  cases e with
  | none => cases q; exact xo_none
  | some e =>
    obtain ⟨x, q1, rfl⟩ := Option.map_eq_some_iff.mp q
    exact xo_some (h q1)
def trS (f : Expr → Option WE) (z : Bool) (a : Expr) : Expr → Option WE
  | .Slice lo hi none _ => (f a).bind fun x => (trP f lo).bind fun l => (trP f hi).map fun h => wSl z x l h
  | .Slice none none (some (.UnaryOp .USub (.Constant (.int 1) _ _) _)) _ => (f a).map fun x => wRev z x
  | b => if isSlice b = true then none else (f a).bind fun x => (f b).map fun y => wOp oIdx x y
theorem trS_ok {X : Cx} {W : WX} {f : Expr → Option WE} (hu : X.A.units + 1 < cLine) (h : ∀ {e w}, f e = some w → Xe X W e w) {z : Bool} {a b : Expr} {w : WE} {pos : Pos} (q : trS f z a b = some w) : Xe X W (.Subscript a b pos) w := by
  unfold trS at q
  split at q
  · obtain ⟨x, q1, q⟩ := Option.bind_eq_some_iff.mp q
    obtain ⟨l, q2, q⟩ := Option.bind_eq_some_iff.mp q
    obtain ⟨u, q3, rfl⟩ := Option.map_eq_some_iff.mp q
    exact xe_sl (h q1) (trP_ok h q2) (trP_ok h q3)
  · obtain ⟨x, q1, rfl⟩ := Option.map_eq_some_iff.mp q
    exact xe_rev (h q1)
  · split at q
    · cases q
    · rename_i hs
      obtain ⟨x, q1, q⟩ := Option.bind_eq_some_iff.mp q
      obtain ⟨y, q2, rfl⟩ := Option.map_eq_some_iff.mp q
      exact xe_idx hu (h q1) (h q2) (by simpa using hs)
/-! ### methods -/
def mtTab : List ((Str × Nat) × OM) := [(("append", 1), mAppend), (("insert", 2), mInsert), (("extend", 1), mExtend), (("pop", 1), mPopAt), (("pop", 0), mPop)]
def lk2 (x : Str) (n : Nat) : List ((Str × Nat) × OM) → Option OM
  | [] => none
  | ((y, k), o) :: r => if y = x ∧ k = n then some o else lk2 x n r
theorem lk2_mem {x : Str} {n : Nat} {o : OM} : ∀ {l : List ((Str × Nat) × OM)}, lk2 x n l = some o → ((x, n), o) ∈ l
  | [], h => by cases h
  | ((y, k), u) :: r, h => by
    unfold lk2 at h
    split at h
    · rename_i e
      cases h
      rw [e.1, e.2]
      exact List.mem_cons_self
    · exact List.mem_cons_of_mem _ (lk2_mem h)
/-- x.bit_length() -/
def wBits (a : WE) : WE := fun v m k kx => a v m (fun d m1 => match d with
  | .int i => k (.int (Builtin.Int.intBits i : Nat)) m1
  | _ => False) kx
theorem xe_bits {X : Cx} {W : WX} {o : Expr} {wa : WE} {apos cpos : Pos} (ho : Xe X W o wa) (hn : noSuper o = true) (hline : (apos.endLine == cpos.line) = true) : Xe X W (.Call (.Attribute o "bit_length" apos) [] [] cpos) (wBits wa) := by
  obtain ⟨to, p1, g1⟩ := ho.ex
  refine ⟨_, pe_bits p1 (base_ok hn _ _) hline, ⟨fun {B F v m σ H k kx Q} hm re hw hq hx => ?_⟩⟩
  refine g1.run hm re hw (fun d m1 F1 H1 x hw1 e1 hm1 r1 => ?_) hx
  cases d with
  | int i =>
    unfold Rep at r1
    exact ⟨i, r1, (hq.mono e1) _ m1 F1 H1 _ hw1 (Same.refl _) hm1 rep_int⟩
  | _ => exact hw1.elim
/-- l.index(x), of lists of texts -/
def mIndex : OM := fun m d ds k => match res m d, ds.map (res m) with
  | .lst xs, [.lst ys] => ∃ (s : List Str) (ss : List (List Str)) (j : Nat), ys = s.map D.str ∧ xs = ss.map (fun z => .lst (z.map D.str)) ∧ (∀ z ∈ s, PyData.strOk z = true) ∧ (∀ t ∈ ss, ∀ z ∈ t, PyData.strOk z = true) ∧ ss[j]? = some s ∧ (∀ i t, i < j → ss[i]? = some t → t ≠ s) ∧ k (.int (j : Nat)) m
  | _, _ => False
theorem xm_index {X : Cx} (hu : X.A.units + 65 < cLine) : XM X "list.index" mIndex := by
  refine ⟨_, mt_indexD hu, ⟨fun {B F m H x vs d ds k Q} hm r rl h hq => ?_⟩⟩
  have vd := view_res hm r
  have vs' := viewL_res hm rl
  unfold mIndex at h
  split at h
  · rename_i xs ys e1 e2
    rw [e1] at vd
    rw [e2] at vs'
    obtain ⟨b, us, rfl, hb, rb⟩ := vd
    obtain ⟨y, rfl, b2, us2, rfl, hb2, rb2⟩ := vl1 vs'
    obtain ⟨s, ss, j, rfl, rfl, o1, o2, h1, h2, h3⟩ := h
    refine ⟨b, _, pdS s, ss.map pdS, j, pdS s, rfl, rfl, .lst (.inl (.inl hb)) (dps_pdS hm.fr rb), .lst (.inl (.inl hb2)) (dps_strs (repL_mono hm.fr _ rb2)), shaped_pdL ss o2, shaped_pdS s o1, by rw [List.getElem?_map, h1]; rfl, by rw [eqv_pdS, decide_eq_true rfl], fun i z hi hz => ?_, qint hm hq h3⟩
    rw [List.getElem?_map] at hz
    obtain ⟨t, ht, rfl⟩ := Option.map_eq_some_iff.mp hz
    rw [eqv_pdS]
    exact decide_eq_false (h2 i t hi ht)
  · exact h.elim
def trX (f : Expr → Option WE) (o : Expr) (name : Str) (l1 : Bool) : List Expr → Option WE
  | [e] => if (decide (name = "index") && noSuper o && l1 && !starred e) = true then (f o).bind fun x => (f e).map fun y => wMt "list" mIndex x (wCons y wNil) else none
  | _ => none
theorem trX_ok {X : Cx} {W : WX} (hu : X.A.units + 65 < cLine) {f : Expr → Option WE} (h : ∀ {e w}, f e = some w → Xe X W e w) {o : Expr} {name : Str} {es : List Expr} {w : WE} {apos cpos : Pos} (q : trX f o name (apos.endLine == cpos.line) es = some w) :
    Xe X W (.Call (.Attribute o name apos) es [] cpos) w := by
  unfold trX at q
  split at q
  · split at q
    · rename_i e hb
      simp only [Bool.and_eq_true, decide_eq_true_eq, Bool.not_eq_true'] at hb
      obtain ⟨⟨⟨rfl, b2⟩, b3⟩, b4⟩ := hb
      obtain ⟨x, q1, q⟩ := Option.bind_eq_some_iff.mp q
      obtain ⟨y, q2, rfl⟩ := Option.map_eq_some_iff.mp q
      have q3 : trL f [e] = some (wCons y wNil) := by
        unfold trL trL
        rw [q2]
        simp [b4]
      obtain ⟨l1, l2⟩ := trL_ok h q3
      exact xe_mt (xm_index hu) PySem.F.plainAttrs_list PySem.F.slot_list_index PySem.F.type_list_index (h q1) l1 b2 l2 (by show 1 < 29; omega) b3
    · cases q
  · cases q
def trM (f : Expr → Option WE) (o : Expr) (name : Str) (l1 : Bool) (es : List Expr) : Option WE :=
  if name = "bit_length" then (if (noSuper o && l1 && es.isEmpty) = true then (f o).map wBits else none)
  else if (noSuper o && l1 && decide (es.length < 29)) = true then (lk2 name es.length mtTab).bind fun m => (f o).bind fun x => (trL f es).map fun w => wMt "list" m x w
  else none
theorem trM_ok {X : Cx} {W : WX} {f : Expr → Option WE} (h : ∀ {e w}, f e = some w → Xe X W e w) {o : Expr} {name : Str} {es : List Expr} {w : WE} {apos cpos : Pos} (q : trM f o name (apos.endLine == cpos.line) es = some w) :
    Xe X W (.Call (.Attribute o name apos) es [] cpos) w := by
  unfold trM at q
  split at q
  · rename_i hn
    subst hn
    split at q
    · rename_i hb
      rw [Bool.and_eq_true, Bool.and_eq_true, List.isEmpty_iff] at hb
      obtain ⟨⟨b1, b2⟩, rfl⟩ := hb
      obtain ⟨x, q1, rfl⟩ := Option.map_eq_some_iff.mp q
      exact xe_bits (h q1) b1 b2
    · cases q
  split at q
  · rename_i hb
    rw [Bool.and_eq_true, Bool.and_eq_true, decide_eq_true_eq] at hb
    obtain ⟨⟨b1, b2⟩, b3⟩ := hb
    obtain ⟨m, q1, q⟩ := Option.bind_eq_some_iff.mp q
    obtain ⟨x, q2, q⟩ := Option.bind_eq_some_iff.mp q
    obtain ⟨u, q3, rfl⟩ := Option.map_eq_some_iff.mp q
    obtain ⟨l1, l2⟩ := trL_ok h q3
    have hm := lk2_mem q1
    unfold mtTab at hm
    simp only [List.mem_cons, List.not_mem_nil, or_false, Prod.mk.injEq] at hm
    have ne : ∀ n, es.length = n + 1 → ∃ a r, es = a :: r := fun n hn => by
      cases es with
      | nil => cases hn
      | cons a r => exact ⟨a, r, rfl⟩
    rcases hm with ⟨⟨rfl, hn⟩, rfl⟩ | ⟨⟨rfl, hn⟩, rfl⟩ | ⟨⟨rfl, hn⟩, rfl⟩ | ⟨⟨rfl, hn⟩, rfl⟩ | ⟨⟨rfl, hn⟩, rfl⟩
    · obtain ⟨a, r, rfl⟩ := ne _ hn
      exact xe_mt xm_append PySem.F.plainAttrs_list PySem.F.slot_list_append PySem.F.type_list_append (h q2) l1 b1 l2 b3 b2
    · obtain ⟨a, r, rfl⟩ := ne _ hn
      exact xe_mt xm_insert PySem.F.plainAttrs_list PySem.F.slot_list_insert PySem.F.type_list_insert (h q2) l1 b1 l2 b3 b2
    · obtain ⟨a, r, rfl⟩ := ne _ hn
      exact xe_mt xm_extend PySem.F.plainAttrs_list PySem.F.slot_list_extend PySem.F.type_list_extend (h q2) l1 b1 l2 b3 b2
    · obtain ⟨a, r, rfl⟩ := ne _ hn
      exact xe_mt xm_popAt PySem.F.plainAttrs_list PySem.F.slot_list_pop PySem.F.type_list_pop (h q2) l1 b1 l2 b3 b2
    · obtain rfl := List.length_eq_zero_iff.mp hn
      cases q3
      exact xe_mt0 xm_pop PySem.F.plainAttrs_list PySem.F.slot_list_pop PySem.F.type_list_pop (h q2) b1 b2
  · cases q
/-! ### methods of texts -/
def stTab : List ((Str × Nat) × OM) := [(("find", 1), sFind), (("join", 1), sJoin), (("lstrip", 1), sLstrip), (("upper", 0), sUpper), (("startswith", 1), sStarts), (("zfill", 1), sZfill)]
def strC : Expr → Bool
  | .Constant (.str _) _ _ => true
  | _ => false
def trMs (f : Expr → Option WE) (o : Expr) (name : Str) (l1 : Bool) (es : List Expr) : Option WE :=
  if (noSuper o && l1 && decide (es.length < 29)) = true then
    (if name = "index" then (if (strC o && decide (es.length = 1)) = true then some sIndex else none) else lk2 name es.length stTab).bind fun m => (f o).bind fun x => (trL f es).map fun w => wMt "str" m x w
  else none
theorem trMs_ok {X : Cx} {W : WX} {f : Expr → Option WE} (h : ∀ {e w}, f e = some w → Xe X W e w) {o : Expr} {name : Str} {es : List Expr} {w : WE} {apos cpos : Pos} (q : trMs f o name (apos.endLine == cpos.line) es = some w) :
    Xe X W (.Call (.Attribute o name apos) es [] cpos) w := by
  unfold trMs at q
  split at q
  · rename_i hb
    rw [Bool.and_eq_true, Bool.and_eq_true, decide_eq_true_eq] at hb
    obtain ⟨⟨b1, b2⟩, b3⟩ := hb
    obtain ⟨m, q1, q⟩ := Option.bind_eq_some_iff.mp q
    obtain ⟨x, q2, q⟩ := Option.bind_eq_some_iff.mp q
    obtain ⟨u, q3, rfl⟩ := Option.map_eq_some_iff.mp q
    obtain ⟨l1, l2⟩ := trL_ok h q3
    have ne : ∀ n, es.length = n + 1 → ∃ a r, es = a :: r := fun n hn => by
      cases es with
      | nil => cases hn
      | cons a r => exact ⟨a, r, rfl⟩
    split at q1
    · rename_i hn
      subst hn
      split at q1
      · rename_i hc
        rw [Bool.and_eq_true, decide_eq_true_eq] at hc
        cases q1
        obtain ⟨a, r, rfl⟩ := ne _ hc.2
        exact xe_mt xm_sindex PySem.F.plainAttrs_str PySem.F.slot_str_index PySem.F.type_str_index (h q2) l1 b1 l2 b3 b2
      · cases q1
    · have hm := lk2_mem q1
      unfold stTab at hm
      simp only [List.mem_cons, List.not_mem_nil, or_false, Prod.mk.injEq] at hm
      rcases hm with ⟨⟨rfl, hn⟩, rfl⟩ | ⟨⟨rfl, hn⟩, rfl⟩ | ⟨⟨rfl, hn⟩, rfl⟩ | ⟨⟨rfl, hn⟩, rfl⟩ | ⟨⟨rfl, hn⟩, rfl⟩ | ⟨⟨rfl, hn⟩, rfl⟩
      · obtain ⟨a, r, rfl⟩ := ne _ hn
        exact xe_mt xm_find PySem.F.plainAttrs_str PySem.F.slot_str_find PySem.F.type_str_find (h q2) l1 b1 l2 b3 b2
      · obtain ⟨a, r, rfl⟩ := ne _ hn
        exact xe_mt xm_join PySem.F.plainAttrs_str PySem.F.slot_str_join PySem.F.type_str_join (h q2) l1 b1 l2 b3 b2
      · obtain ⟨a, r, rfl⟩ := ne _ hn
        exact xe_mt xm_lstrip PySem.F.plainAttrs_str PySem.F.slot_str_lstrip PySem.F.type_str_lstrip (h q2) l1 b1 l2 b3 b2
      · obtain rfl := List.length_eq_zero_iff.mp hn
        cases q3
        exact xe_mt0 xm_upper PySem.F.plainAttrs_str PySem.F.slot_str_upper PySem.F.type_str_upper (h q2) b1 b2
      · obtain ⟨a, r, rfl⟩ := ne _ hn
        exact xe_mt xm_starts PySem.F.plainAttrs_str PySem.F.slot_str_startswith PySem.F.type_str_startswith (h q2) l1 b1 l2 b3 b2
      · obtain ⟨a, r, rfl⟩ := ne _ hn
        exact xe_mt xm_zfill PySem.F.plainAttrs_str PySem.F.slot_str_zfill PySem.F.type_str_zfill (h q2) l1 b1 l2 b3 b2
  · cases q
/-! ### calls -/
def trCall (c : TC) (f : Expr → Option WE) (z : Bool) (x : Str) (es : List Expr) : Option WE :=
  if (isGl c.sc x && !dunder x) = true then (trL f es).bind fun w => (match c.fns.lookup x with
    | some (n, sp) => some (wCall n sp w)
    | none => if es.isEmpty = true then none else (match (bltF c.K).lookup x with
      | some o => some (wCB o w)
      | none => ((bltT z).lookup x).map fun o => wCB o w))
  else none
theorem blt_call {X : Cx} {W : WX} {x : Str} {o : OC} {e : Expr} {es : List Expr} {w : WL} {p pos : Pos} (h : BltOk X x o) (hb : ∀ x ∈ bltNames, X.mg x = none) (g : Gl X x) (hd : (x == ("__debug__" : Str)) = false) (ha : Xl X W (e :: es) w) (hs : (e :: es).any starred = false) :
    Xe X W (.Call (.Name x p) (e :: es) [] pos) (wCB o w) := by
  obtain ⟨h1, h2, ⟨id, h3, h4⟩ | ⟨T, h3, h4⟩⟩ := h
  · exact xe_callB h4 g (hb _ h1) h3 ha h2 hd hs
  · exact xe_callTy h4 g (hb _ h1) h3 ha h2 hd hs
theorem trCall_ok {c : TC} {X : Cx} {W : WX} (k : Cok c X W) {f : Expr → Option WE} (h : ∀ {e w}, f e = some w → Xe X W e w) {z : Bool} {x : Str} {es : List Expr} {w : WE} {p pos : Pos} (q : trCall c f z x es = some w) :
    Xe X W (.Call (.Name x p) es [] pos) w := by
  unfold trCall at q
  split at q
  · rename_i hb
    rw [Bool.and_eq_true, Bool.not_eq_true'] at hb
    have g := k.gl hb.1
    obtain ⟨d1, d2⟩ := dunder_ok hb.2
    obtain ⟨u, q1, q0⟩ := Option.bind_eq_some_iff.mp q
    clear q
    obtain ⟨l1, l2⟩ := trL_ok h q1
    split at q0
    · rename_i n sp q2
      cases q0
      obtain ⟨j, C, rm⟩ := k.fns _ _ _ q2
      cases es with
      | nil => cases q1; exact xe_call0 C rm k.tk g d1
      | cons e es => exact xe_call C rm k.tk g l1 d1 l2
    · split at q0
      · cases q0
      · rename_i he
        cases es with
        | nil => exact absurd rfl he
        | cons e es =>
          split at q0
          · rename_i o q2
            cases q0
            exact blt_call (bltF_ok k q2) k.blt g d1 l1 l2
          · obtain ⟨o, q2, rfl⟩ := Option.map_eq_some_iff.mp q0
            exact blt_call (bltT_ok k q2) k.blt g d1 l1 l2
  · cases q
end Ab
end
section
/-! Ab11: the reading of an expression's text: comprehensions, the whole. -/
namespace Ab
open PySem PySem.Spec L2
/-! ### what is walked -/
def isTup : Expr → Bool
  | .Tuple .. => true
  | _ => false
theorem isTup_ok {e : Expr} (h : isTup e = true) : ∃ es j p, e = .Tuple es j p := by
  cases e <;> first
    | exact ⟨_, _, _, rfl⟩
    | cases h
def trI0 (f : Expr → Option WE) (tup : Bool) (x : Str) (es : List Expr) : Option WI :=
  if x = "range" then (match es with
    | [a] => if starred a = true then none else (f a).map iR1
    | [a, b] => if (starred a || starred b) = true then none else (f a).bind fun u => (f b).map fun v => iR2 u v
    | [a, b, d] => if (starred a || starred b || starred d) = true then none else (f a).bind fun u => (f b).bind fun v => (f d).map fun y => iR3 u v y
    | _ => none)
  else if x = "enumerate" then (match es with
    | [a] => if (starred a || !tup) = true then none else (f a).map iEnumD
    | _ => none)
  else if x = "zip" then (match es with
    | [a, b] => if (starred a || starred b || !tup) = true then none else (f a).bind fun u => (f b).map fun v => iZipD u v
    | _ => none)
  else none
def trI (c : TC) (f : Expr → Option WE) (tg : Expr) (it : Expr) : Option WI := match it with
  | .Call (.Name x _) es [] _ => if isGl c.sc x = true then (trI0 f (isTup tg) x es).or ((f it).map iSeq) else (f it).map iSeq
  | _ => (f it).map iSeq
theorem trI0_ok {c : TC} {X : Cx} {W : WX} (k : Cok c X W) {f : Expr → Option WE} (h : ∀ {e w}, f e = some w → Xe X W e w) {tg : Expr} {x : Str} {es : List Expr} {w : WI} {p pos : Pos} (g : Gl X x) (q : trI0 f (isTup tg) x es = some w) :
    Xi X W tg (.Call (.Name x p) es [] pos) w := by
  unfold trI0 at q
  split at q
  · subst_vars
    have hm : X.mg "range" = none := k.blt _ (by decide)
    split at q
    · split at q
      · cases q
      · rename_i s1
        obtain ⟨u, q1, rfl⟩ := Option.map_eq_some_iff.mp q
        exact xi_range1 g hm (h q1) (by simpa using s1)
    · split at q
      · cases q
      · rename_i s1
        obtain ⟨u, q1, q⟩ := Option.bind_eq_some_iff.mp q
        obtain ⟨v, q2, rfl⟩ := Option.map_eq_some_iff.mp q
        simp only [Bool.or_eq_true, not_or, Bool.not_eq_true] at s1
        exact xi_range2 g hm (h q1) (h q2) s1.1 s1.2
    · split at q
      · cases q
      · rename_i s1
        obtain ⟨u, q1, q⟩ := Option.bind_eq_some_iff.mp q
        obtain ⟨v, q2, q⟩ := Option.bind_eq_some_iff.mp q
        obtain ⟨y, q3, rfl⟩ := Option.map_eq_some_iff.mp q
        simp only [Bool.or_eq_true, not_or, Bool.not_eq_true] at s1
        exact xi_range3 g hm (h q1) (h q2) (h q3) s1.1.1 s1.1.2 s1.2
    · cases q
  · split at q
    · subst_vars
      have hm : X.mg "enumerate" = none := k.blt _ (by decide)
      split at q
      · split at q
        · cases q
        · rename_i s1
          obtain ⟨u, q1, rfl⟩ := Option.map_eq_some_iff.mp q
          simp only [Bool.or_eq_true, not_or, Bool.not_eq_true, Bool.not_eq_true', Bool.not_eq_false] at s1
          obtain ⟨a1, a2, a3, rfl⟩ := isTup_ok s1.2
          exact xi_enum g hm (h q1) s1.1
      · cases q
    · split at q
      · subst_vars
        have hm : X.mg "zip" = none := k.blt _ (by decide)
        split at q
        · split at q
          · cases q
          · rename_i s1
            obtain ⟨u, q1, q⟩ := Option.bind_eq_some_iff.mp q
            obtain ⟨v, q2, rfl⟩ := Option.map_eq_some_iff.mp q
            simp only [Bool.or_eq_true, not_or, Bool.not_eq_true, Bool.not_eq_true', Bool.not_eq_false] at s1
            obtain ⟨a1, a2, a3, rfl⟩ := isTup_ok s1.2
            exact xi_zip g hm (h q1) (h q2) s1.1.1 s1.1.2
        · cases q
      · cases q
theorem trI_ok {c : TC} {X : Cx} {W : WX} (k : Cok c X W) {f : Expr → Option WE} (h : ∀ {e w}, f e = some w → Xe X W e w) {tg it : Expr} {w : WI} (q : trI c f tg it = some w) : Xi X W tg it w := by
  unfold trI at q
  split at q
  · split at q
    · rename_i g
      rcases Option.or_eq_some_iff.mp q with q | ⟨_, q⟩
      · exact trI0_ok k h (k.gl g) q
      · obtain ⟨u, q1, rfl⟩ := Option.map_eq_some_iff.mp q
        exact xi_seq (h q1)
    · obtain ⟨u, q1, rfl⟩ := Option.map_eq_some_iff.mp q
      exact xi_seq (h q1)
  · obtain ⟨u, q1, rfl⟩ := Option.map_eq_some_iff.mp q
    exact xi_seq (h q1)
/-! ### targets of a comprehension -/
def trGo1 (c : TC) (own : List Nat) : Expr → Option WG
  | .Name x _ => if isPl c.sc x = true then (ixIn c.N x).bind fun i => if own.contains i = true then some (gN i) else none else none
  | _ => none
def trGos (c : TC) (own : List Nat) : List Expr → Option WGs
  | [] => some gs0
  | e :: es => (trGo1 c own e).bind fun g => (trGos c own es).map fun r => gs1 g r
def trGo (c : TC) (own : List Nat) : Expr → Option WG
  | .Tuple es _ _ => (trGos c own es).map fun r => gT es.length r
  | e => trGo1 c own e
theorem trGo1_ok {c : TC} {X : Cx} {own : List Nat} (hN : X.N = c.N) (nd : X.N.Nodup) (hs : X.env.scope = c.sc) {e : Expr} {g : WG} (q : trGo1 c own e = some g) : Xgo X own e g ∧ starred e = false := by
  unfold trGo1 at q
  split at q
  · split at q
    · rename_i hp
      obtain ⟨i, q1, q⟩ := Option.bind_eq_some_iff.mp q
      split at q
      · rename_i ho
        cases q
        have pl := isPl_ok hp
        rw [← hs] at pl
        exact ⟨xgo_name nd (by rw [hN]; exact ixIn_ok q1) (.inl pl) (.inr pl) (List.contains_iff_mem.mp ho), rfl⟩
      · cases q
    · cases q
  · cases q
theorem trGos_ok {c : TC} {X : Cx} {own : List Nat} (hN : X.N = c.N) (nd : X.N.Nodup) (hs : X.env.scope = c.sc) : ∀ {es : List Expr} {r : WGs}, trGos c own es = some r → Xgso X own es r ∧ es.any starred = false
  | [], r, q => by cases q; exact ⟨xgso_nil, rfl⟩
  | e :: es, r, q => by
    obtain ⟨g, q1, q⟩ := Option.bind_eq_some_iff.mp (show (trGo1 c own e).bind _ = some r from q)
    obtain ⟨u, q2, rfl⟩ := Option.map_eq_some_iff.mp q
    obtain ⟨a1, a2⟩ := trGo1_ok hN nd hs q1
    obtain ⟨b1, b2⟩ := trGos_ok hN nd hs q2
    exact ⟨xgso_cons a1 b1 a2, by rw [List.any_cons, a2, b2]; rfl⟩
theorem trGo_ok {c : TC} {X : Cx} {own : List Nat} (hN : X.N = c.N) (nd : X.N.Nodup) (hs : X.env.scope = c.sc) (hc : X.calm = true) {e : Expr} {g : WG} (q : trGo c own e = some g) : Xgo X own e g := by
  unfold trGo at q
  split at q
  · obtain ⟨r, q1, rfl⟩ := Option.map_eq_some_iff.mp q
    obtain ⟨b1, b2⟩ := trGos_ok hN nd hs q1
    exact xgo_tup hc b1 b2
  · exact (trGo1_ok hN nd hs q).1
/-! ### comprehensions -/
def ownOf (N : List Str) (scope : Scope) : List (Str × Nat) := scope.names.filterMap fun p => match p.2 with
  | .local => (ixIn N p.1).map fun i => (p.1, i)
  | .cell => (ixIn N p.1).map fun i => (p.1, i)
  | _ => none
def isSet : Expr → Bool
  | .Set .. => true
  | _ => false
theorem isSet_ok {it : Expr} (h : isSet it = false) (env : PySem.Env) : ∀ x, foldedSetIterable it env x = pure x := set_ok (fun z k p e => by subst e; cases h) env
def trIfs (t : Expr → Option WT) : List Expr → Option WT
  | [] => some wYes
  | [e] => t e
  | _ => none
theorem trIfs_ok {X : Cx} {W : WX} {t : Expr → Option WT} (h : ∀ {e w}, t e = some w → Xt X W e w) {es : List Expr} {w : WT} (q : trIfs t es = some w) : Xts X W es w := by
  unfold trIfs at q
  split at q
  · cases q; exact xts_nil
  · exact xts_one (h q)
  · cases q
def inner (c : TC) (scope : Scope) : TC := { c with sc := relS scope c.sc }
def trLc (r : Tr) (c : TC) (z : Bool) (elt : Expr) (scope : Scope) (tg it : Expr) (ifs : List Expr) : Option WE :=
  if (blkC c.N c.sc scope (ownOf c.N scope) && !isSet it) = true then
    (trI c (r.e c true) tg it).bind fun wi => (trGo (inner c scope) ((ownOf c.N scope).map (·.2)) tg).bind fun g => (trIfs (r.t (inner c scope)) ifs).bind fun t => (r.e (inner c scope) true elt).map fun e => wLc z wi ((ownOf c.N scope).map (·.2)) g t e
  else none
theorem Cok.inner {c : TC} {X : Cx} {W : WX} (k : Cok c X W) (scope : Scope) (i : BI) : Cok (inner c scope) (blkOf X scope i) W0 where
  K := k.K
  N := k.N
  nd := k.nd
  sc := by show relS scope X.env.scope = relS scope c.sc; rw [k.sc]
  calm := k.calm
  gd := k.gd
  un := k.un
  tk := fun u s' ⟨_, _, _, _, _, _, _, _, _, _, _, _, _, _, _, _, w⟩ => w.elim
  fns := k.fns
  blt := k.blt
  cons := k.cons
  excs := k.excs
  xf := k.xf
  own := k.own
  ms := k.ms
theorem trLc_ok {r : Tr} (R : TrOk r) {c : TC} {X : Cx} {W : WX} (k : Cok c X W) {z : Bool} {elt tg it : Expr} {scope : Scope} {ifs : List Expr} {w : WE} {pos : Pos} (q : trLc r c z elt scope tg it ifs = some w) : Xe X W (.ListComp elt [⟨tg, it, ifs, 0⟩] scope pos) w := by
  unfold trLc at q
  split at q
  · rename_i hb
    rw [Bool.and_eq_true, Bool.not_eq_true'] at hb
    obtain ⟨wi, q1, q⟩ := Option.bind_eq_some_iff.mp q
    obtain ⟨g, q2, q⟩ := Option.bind_eq_some_iff.mp q
    obtain ⟨t, q3, q⟩ := Option.bind_eq_some_iff.mp q
    obtain ⟨e, q4, rfl⟩ := Option.map_eq_some_iff.mp q
    refine xe_lc k.calm k.nd (trI_ok k (fun h => R.e k h) q1) (by rw [k.N, k.sc]; exact blkOk_by hb.1) (fun i => ?_) (fun i => ?_) (fun i => ?_) (isSet_ok hb.2 _)
    · exact trGo_ok (k.inner scope i).N (k.inner scope i).nd (k.inner scope i).sc (k.inner scope i).calm q2
    · exact trIfs_ok (fun h => R.t (k.inner scope i) h) q3
    · exact R.e (k.inner scope i) q4
  · cases q
/-! ### a comprehension over a name's list that may be changed -/
def rawIx (c : TC) : Expr → Option (Str × Nat)
  | .Name x _ => if (isVis c.sc x && !dunder x) = true then (ixIn c.N x).bind fun i => if c.muts.contains i = true then some (x, i) else none else none
  | _ => none
def trLcR (r : Tr) (c : TC) (z : Bool) (i : Nat) (elt : Expr) (scope : Scope) (tg : Expr) (ifs : List Expr) : Option WE :=
  if blkC c.N c.sc scope (ownOf c.N scope) = true then
    (trGo (inner c scope) ((ownOf c.N scope).map (·.2)) tg).bind fun g => (trIfs (r.t (inner c scope)) ifs).bind fun t => (r.e (inner c scope) true elt).map fun e => wLcR z i ((ownOf c.N scope).map (·.2)) g t e
  else none
theorem trLcR_ok {r : Tr} (R : TrOk r) {c : TC} {X : Cx} {W : WX} (k : Cok c X W) {z : Bool} {elt tg it : Expr} {x : Str} {i : Nat} {scope : Scope} {ifs : List Expr} {w : WE} {pos : Pos} (hr : rawIx c it = some (x, i)) (q : trLcR r c z i elt scope tg ifs = some w) : Xe X W (.ListComp elt [⟨tg, it, ifs, 0⟩] scope pos) w := by
  unfold rawIx at hr
  split at hr
  · rename_i y py
    split at hr
    · rename_i hb
      rw [Bool.and_eq_true, Bool.not_eq_true'] at hb
      obtain ⟨d1, d2⟩ := dunder_ok hb.2
      obtain ⟨j, q1, hr⟩ := Option.bind_eq_some_iff.mp hr
      split at hr
      · cases hr
        unfold trLcR at q
        split at q
        · rename_i hb2
          obtain ⟨g, q2, q⟩ := Option.bind_eq_some_iff.mp q
          obtain ⟨t, q3, q⟩ := Option.bind_eq_some_iff.mp q
          obtain ⟨e, q4, rfl⟩ := Option.map_eq_some_iff.mp q
          refine xe_lcR k.calm k.nd (by rw [k.N]; exact ixIn_ok q1) (by rw [k.sc]; exact isVis_ok hb.1) d1 d2 (by rw [k.N, k.sc]; exact blkOk_by hb2) (fun i => ?_) (fun i => ?_) (fun i => ?_)
          · exact trGo_ok (k.inner scope i).N (k.inner scope i).nd (k.inner scope i).sc (k.inner scope i).calm q2
          · exact trIfs_ok (fun h => R.t (k.inner scope i) h) q3
          · exact R.e (k.inner scope i) q4
        · cases q
      · cases hr
    · cases hr
  · cases hr
/-! ### an empty dict -/
def wDct0 (z : Bool) : WE := fun _ m k _ => newK z (.dct [] []) m k
theorem xe_dct0 {X : Cx} {W : WX} {pos : Pos} {z : Bool} : Xe X W (.Dict [] [] pos) (wDct0 z) :=
  ⟨_, pe_dnewK, ⟨fun {B F v m σ H k kx Q} hm re hw hq hx => fun p hp => newD_ok (kvs := []) hm hp rfl RepL.nil hw hq⟩⟩
/-! ### sorted(set(xs)), min(xs, default=d) -/
def trSS (c : TC) (f : Expr → Option WE) (z : Bool) (x : Str) : List Expr → Option WE
  | [.Call (.Name y _) [a] [] _] => if (decide (x = "sorted") && decide (y = "set") && isGl c.sc x && isGl c.sc y && !starred a) = true then (f a).map fun w => wCB (cSS z) (wCons w wNil) else none
  | _ => none
def trMD (c : TC) (f : Expr → Option WE) (x : Str) : List Expr → List Keyword → Option WE
  | [a], [⟨some y, d, _⟩] => if (decide (x = "min") && decide (y = Str.ofString "default") && isGl c.sc x && !starred a) = true then (f a).bind fun u => (f d).map fun w => wCB cMinD (wCons u (wCons w wNil)) else none
  | _, _ => none
theorem trSS_ok {c : TC} {X : Cx} {W : WX} (k : Cok c X W) {f : Expr → Option WE} (h : ∀ {e w}, f e = some w → Xe X W e w) {z : Bool} {x : Str} {es : List Expr} {w : WE} {p pos : Pos} (q : trSS c f z x es = some w) :
    Xe X W (.Call (.Name x p) es [] pos) w := by
  unfold trSS at q
  split at q
  · split at q
    · rename_i hb
      simp only [Bool.and_eq_true, decide_eq_true_eq, Bool.not_eq_true'] at hb
      obtain ⟨⟨⟨⟨rfl, rfl⟩, b3⟩, b4⟩, b5⟩ := hb
      obtain ⟨u, q1, rfl⟩ := Option.map_eq_some_iff.mp q
      exact xe_sortSet k.calm (k.gl b3) (k.blt _ (by decide)) (k.gl b4) (k.blt _ (by decide)) (h q1) b5
    · cases q
  · cases q
theorem trMD_ok {c : TC} {X : Cx} {W : WX} (k : Cok c X W) {f : Expr → Option WE} (h : ∀ {e w}, f e = some w → Xe X W e w) {x : Str} {es : List Expr} {ks : List Keyword} {w : WE} {p pos : Pos} (q : trMD c f x es ks = some w) :
    Xe X W (.Call (.Name x p) es ks pos) w := by
  have hu : X.A.units + 8 < cLine := by have := k.un; omega
  unfold trMD at q
  split at q
  · split at q
    · rename_i hb
      simp only [Bool.and_eq_true, decide_eq_true_eq, Bool.not_eq_true'] at hb
      obtain ⟨⟨⟨rfl, rfl⟩, b3⟩, b5⟩ := hb
      obtain ⟨u, q1, q⟩ := Option.bind_eq_some_iff.mp q
      obtain ⟨v, q2, rfl⟩ := Option.map_eq_some_iff.mp q
      exact xe_minD k.calm hu (k.gl b3) (k.blt _ (by decide)) (h q1) (h q2) b5
    · cases q
  · cases q
/-! ### own classes -/
def trMk (c : TC) (f : Expr → Option WE) (x : Str) : List Expr → Option WE
  | [] => none
  | e :: es => if (isGl c.sc x && !dunder x && c.cls.cs.contains x) = true then (mLook x "__init__" c.cls.ms).bind fun p => (trL f (e :: es)).map fun w => wMake x p.1 p.2 w else none
theorem trMk_ok {c : TC} {X : Cx} {W : WX} (k : Cok c X W) {f : Expr → Option WE} (h : ∀ {e w}, f e = some w → Xe X W e w) {x : Str} {es : List Expr} {w : WE} {p pos : Pos} (q : trMk c f x es = some w) :
    Xe X W (.Call (.Name x p) es [] pos) w := by
  unfold trMk at q
  split at q
  · cases q
  · split at q
    · rename_i hb
      simp only [Bool.and_eq_true, Bool.not_eq_true', List.contains_iff_mem] at hb
      obtain ⟨⟨b1, b2⟩, b3⟩ := hb
      obtain ⟨p, q1, q⟩ := Option.bind_eq_some_iff.mp q
      obtain ⟨u, q2, rfl⟩ := Option.map_eq_some_iff.mp q
      obtain ⟨l1, l2⟩ := trL_ok h q2
      exact xe_make k.own k.ms k.tk b3 q1 (k.gl b1) (dunder_ok b2).1 l1 l2
    · cases q
def trIs (c : TC) (f : Expr → Option WE) (x : Str) : List Expr → Option WE
  | [a, .Name y _] => if (decide (x = "isinstance") && isGl c.sc x && isGl c.sc y && !dunder y && c.cls.cs.contains y && !starred a) = true then (f a).map (wIsO c.cls y) else none
  | _ => none
theorem trIs_ok {c : TC} {X : Cx} {W : WX} (k : Cok c X W) {f : Expr → Option WE} (h : ∀ {e w}, f e = some w → Xe X W e w) {x : Str} {es : List Expr} {w : WE} {p pos : Pos} (q : trIs c f x es = some w) :
    Xe X W (.Call (.Name x p) es [] pos) w := by
  unfold trIs at q
  split at q
  · split at q
    · rename_i hb
      simp only [Bool.and_eq_true, decide_eq_true_eq, Bool.not_eq_true', List.contains_iff_mem] at hb
      obtain ⟨⟨⟨⟨⟨rfl, b2⟩, b3⟩, b4⟩, b5⟩, b6⟩ := hb
      obtain ⟨u, q1, rfl⟩ := Option.map_eq_some_iff.mp q
      exact xe_isO k.own b5 (k.gl b2) (k.blt _ (by decide)) (k.gl b3) (dunder_ok b4).1 (h q1) b6
    · cases q
  · cases q
def trIn (c : TC) (f : Expr → Option WE) (o : Expr) (name : Str) (l1 : Bool) (es : List Expr) : Option WE := match o, es with
  | .Name x _, e :: r => if (decide (name = "__init__") && isGl c.sc x && !dunder x && c.cls.cs.contains x && l1 && decide ((e :: r).length < 29)) = true then (mLook x "__init__" c.cls.ms).bind fun p => (trL f (e :: r)).map fun w => wCall p.1 p.2 w else none
  | _, _ => none
theorem trIn_ok {c : TC} {X : Cx} {W : WX} (k : Cok c X W) {f : Expr → Option WE} (h : ∀ {e w}, f e = some w → Xe X W e w) {o : Expr} {name : Str} {es : List Expr} {w : WE} {apos cpos : Pos} (q : trIn c f o name (apos.endLine == cpos.line) es = some w) :
    Xe X W (.Call (.Attribute o name apos) es [] cpos) w := by
  unfold trIn at q
  split at q
  · split at q
    · rename_i hb
      simp only [Bool.and_eq_true, decide_eq_true_eq, Bool.not_eq_true', List.contains_iff_mem] at hb
      obtain ⟨⟨⟨⟨⟨rfl, b1⟩, b2⟩, b3⟩, b4⟩, b5⟩ := hb
      obtain ⟨p, q1, q⟩ := Option.bind_eq_some_iff.mp q
      obtain ⟨u, q2, rfl⟩ := Option.map_eq_some_iff.mp q
      obtain ⟨l1, l2⟩ := trL_ok h q2
      exact xe_init k.own k.ms k.tk b3 q1 (k.gl b1) (dunder_ok b2).1 l1 l2 b5 b4
    · cases q
  · cases q
def hasM (name : Str) (l : List ((Str × Str) × (Nat × ASp))) : Bool := l.any fun q => decide (q.1.2 = name)
def trOm (c : TC) (f : Expr → Option WE) (o : Expr) (name : Str) (l1 : Bool) (es : List Expr) : Option WE :=
  if (hasM name c.cls.ms && noSuper o && l1 && decide (es.length < 29)) = true then (f o).bind fun x => (trL f es).map fun w => wMth c.cls name x w else none
theorem trOm_ok {c : TC} {X : Cx} {W : WX} (k : Cok c X W) {f : Expr → Option WE} (h : ∀ {e w}, f e = some w → Xe X W e w) {o : Expr} {name : Str} {es : List Expr} {w : WE} {apos cpos : Pos} (q : trOm c f o name (apos.endLine == cpos.line) es = some w) :
    Xe X W (.Call (.Attribute o name apos) es [] cpos) w := by
  unfold trOm at q
  split at q
  · rename_i hb
    simp only [Bool.and_eq_true, decide_eq_true_eq] at hb
    obtain ⟨⟨⟨_, b2⟩, b3⟩, b4⟩ := hb
    obtain ⟨x, q1, q⟩ := Option.bind_eq_some_iff.mp q
    obtain ⟨u, q2, rfl⟩ := Option.map_eq_some_iff.mp q
    obtain ⟨l1, l2⟩ := trL_ok h q2
    cases es with
    | nil => cases q2; exact xe_mth0 k.own k.ms k.tk (h q1) b2 b3
    | cons e es => exact xe_mth k.own k.ms k.tk (h q1) l1 b2 l2 b4 b3
  · cases q
def trGet (f : Expr → Option WE) (o : Expr) (name : Str) (l1 : Bool) : List Expr → Option WE
  | [e] => if (decide (name = "get") && noSuper o && l1 && !starred e) = true then (f o).bind fun x => (f e).map fun y => wGet x y else none
  | [e, g] => if (decide (name = "get") && noSuper o && l1 && !starred e && !starred g) = true then (f o).bind fun x => (f e).bind fun y => (f g).map fun z => wGet2 x y z else none
  | _ => none
theorem trGet_ok {c : TC} {X : Cx} {W : WX} (k : Cok c X W) {f : Expr → Option WE} (h : ∀ {e w}, f e = some w → Xe X W e w) {o : Expr} {name : Str} {es : List Expr} {w : WE} {apos cpos : Pos} (q : trGet f o name (apos.endLine == cpos.line) es = some w) :
    Xe X W (.Call (.Attribute o name apos) es [] cpos) w := by
  unfold trGet at q
  split at q
  · split at q
    · rename_i hb
      simp only [Bool.and_eq_true, decide_eq_true_eq, Bool.not_eq_true'] at hb
      obtain ⟨⟨⟨rfl, b2⟩, b3⟩, b4⟩ := hb
      obtain ⟨x, q1, q⟩ := Option.bind_eq_some_iff.mp q
      obtain ⟨y, q2, rfl⟩ := Option.map_eq_some_iff.mp q
      exact xe_get (by have := k.un; omega) (h q1) (h q2) b2 b4 b3
    · cases q
  · split at q
    · rename_i hb
      simp only [Bool.and_eq_true, decide_eq_true_eq, Bool.not_eq_true'] at hb
      obtain ⟨⟨⟨⟨rfl, b2⟩, b3⟩, b4⟩, b5⟩ := hb
      obtain ⟨x, q1, q⟩ := Option.bind_eq_some_iff.mp q
      obtain ⟨y, q2, q⟩ := Option.bind_eq_some_iff.mp q
      obtain ⟨z, q3, rfl⟩ := Option.map_eq_some_iff.mp q
      exact xe_get2 (by have := k.un; omega) (h q1) (h q2) (h q3) b2 b4 b5 b3
    · cases q
  · cases q
/-! ### isinstance of one of two own classes -/
def trIT (c : TC) (f : Expr → Option WE) (x : Str) : List Expr → Option WE
  | [a, .Tuple [.Name y _, .Name z _] _ _] => if (decide (x = "isinstance") && isGl c.sc x && isGl c.sc y && !dunder y && c.cls.cs.contains y && isGl c.sc z && !dunder z && c.cls.cs.contains z && !starred a) = true then (f a).map (wIsOT c.cls [y, z]) else none
  | _ => none
theorem trIT_ok {c : TC} {X : Cx} {W : WX} (k : Cok c X W) {f : Expr → Option WE} (h : ∀ {e w}, f e = some w → Xe X W e w) {x : Str} {es : List Expr} {w : WE} {p pos : Pos} (q : trIT c f x es = some w) :
    Xe X W (.Call (.Name x p) es [] pos) w := by
  unfold trIT at q
  split at q
  · split at q
    · rename_i hb
      simp only [Bool.and_eq_true, decide_eq_true_eq, Bool.not_eq_true', List.contains_iff_mem] at hb
      obtain ⟨⟨⟨⟨⟨⟨⟨⟨rfl, b2⟩, b3⟩, b4⟩, b5⟩, b6⟩, b7⟩, b8⟩, b9⟩ := hb
      obtain ⟨u, q1, rfl⟩ := Option.map_eq_some_iff.mp q
      exact xe_isOT k.own b5 b8 (k.gl b2) (k.blt _ (by decide)) (k.gl b3) (k.gl b6) (dunder_ok b4).1 (dunder_ok b7).1 (h q1) b9
    · cases q
  · cases q
/-! ### a call out of a table: [f, g, ..][i](..) -/
def wTab (n : Nat) (tab : List ASp) (wi : WE) (w : WL) : WE := fun v m k kx => wi v m (fun d m1 => match d with
  | .int i => ∃ sp, atI tab i = some sp ∧ w v m1 (fun ds m2 => ds.length = n ∧ sp ds m2 fun r m3 => match r with
    | .ret d => k d m3
    | .exc x => kx x m3) kx
  | _ => False) kx
/-- a value that is a def with this promise -/
def FnV (X : Cx) (n : Nat) (sp : ASp) (v : V) : Prop := ∃ k f fd ps, v = V.ref f ∧ FnA X.prog X.w X.K X.mg X.base k f fd ps (toSp X.K n sp) ∧ Rm k X.A ∧ PySem.W.keepIn X.K (.ref f) = true ∧ Binds X.K fd ps []
inductive FnVs (X : Cx) (n : Nat) : List ASp → List V → Prop
  | nil : FnVs X n [] []
  | cons {sp : ASp} {v : V} {l : List ASp} {vs : List V} (h : FnV X n sp v) (r : FnVs X n l vs) : FnVs X n (sp :: l) (v :: vs)
theorem FnVs.len {X : Cx} {n : Nat} {l : List ASp} {vs : List V} (h : FnVs X n l vs) : vs.length = l.length := by
  induction h with
  | nil => rfl
  | cons h r ih => rw [List.length_cons, List.length_cons, ih]
theorem FnVs.get {X : Cx} {n : Nat} {l : List ASp} {vs : List V} (h : FnVs X n l vs) : ∀ {j : Nat} {sp : ASp}, l[j]? = some sp → ∃ v, vs[j]? = some v ∧ FnV X n sp v := by
  induction h with
  | nil => intro j sp e; cases e
  | cons h r ih =>
    intro j sp e
    cases j with
    | zero => cases e; exact ⟨_, rfl, h⟩
    | succ j => exact ih e
theorem FnVs.at {X : Cx} {n : Nat} {l : List ASp} {vs : List V} (h : FnVs X n l vs) {i : Int} {sp : ASp} (e : atI l i = some sp) : ∃ v, atI vs i = some v ∧ FnV X n sp v := by
  unfold atI at *
  rw [h.len]
  cases e1 : ixN l.length i with
  | none => rw [e1] at e; cases e
  | some j =>
    rw [e1] at e
    exact h.get (show l[j]? = some sp from e)
def trTab (c : TC) (n : Nat) : List Expr → Option (List ASp)
  | [] => some []
  | .Name x _ :: r => if (isGl c.sc x && !dunder x) = true then (match c.fns.lookup x with
    | some (m, sp) => if m = n then (trTab c n r).map (sp :: ·) else none
    | none => none) else none
  | _ => none
theorem trTab_ok {c : TC} {X : Cx} {W : WX} (k : Cok c X W) {n : Nat} : ∀ {es : List Expr} {tab : List ASp}, trTab c n es = some tab → ∃ t vs, PA X es t ∧ (∀ σ H Q, Q vs H → t σ H Q) ∧ FnVs X n tab vs ∧ es.any starred = false
  | [], tab, q => by
    cases q
    exact ⟨_, [], pa_nil, fun _ _ _ h => h, .nil, rfl⟩
  | e :: r, tab, q => by
    unfold trTab at q
    split at q
    · rename_i e1
      cases e1
    · rename_i x px r' e1
      cases e1
      split at q
      · rename_i hb
        rw [Bool.and_eq_true, Bool.not_eq_true'] at hb
        split at q
        · rename_i m sp hl
          split at q
          · rename_i hm
            subst hm
            obtain ⟨l, q1, rfl⟩ := Option.map_eq_some_iff.mp q
            obtain ⟨t, vs, h1, h2, h3, h4⟩ := trTab_ok k q1
            obtain ⟨j, C, rm⟩ := k.fns _ _ _ hl
            obtain ⟨f, fd, ps, F, hmg, hk, hbd⟩ := C.ex
            have pf : PE X (.Name x px) (tC (.ref f)) := pe_glob (k.gl hb.1) hmg rfl (dunder_ok hb.2).1
            refine ⟨_, .ref f :: vs, pa_cons pf h1 (star_eq (es := r) rfl X.env), fun σ H Q h => ?_, .cons ⟨j, f, fd, ps, rfl, F, rm, hk, hbd⟩ h3, by rw [List.any_cons, h4]; rfl⟩
            exact h2 σ H _ h
          · cases q
        · cases q
      · cases q
    · cases q
theorem xe_tab {X : Cx} {W : WX} {n : Nat} {tab : List ASp} {es0 es : List Expr} {ix e : Expr} {wi : WE} {w : WL} {t0 : TA} {vs0 : List V} {lp sp_ pos : Pos} (tk : Takes X W) (p0 : PA X es0 t0) (h0 : ∀ σ H Q, Q vs0 H → t0 σ H Q) (hv : FnVs X n tab vs0) (hz : vs0.length ≤ sizeLine) (hi : Xe X W ix wi) (hsl : isSlice ix = false) (ha : Xl X W (e :: es) w)
    (hs : (e :: es).any starred = false) : Xe X W (.Call (.Subscript (.List es0 lp) ix sp_) (e :: es) [] pos) (wTab n tab wi w) := by
  obtain ⟨ti, p1, g1⟩ := hi.ex
  obtain ⟨t, p2, g2⟩ := ha.ex
  rw [List.any_cons, Bool.or_eq_false_iff] at hs
  have pf : PE X (.Subscript (.List es0 lp) ix sp_) (tOp (rIxL X.K) (tLst t0) ti) := pe_ix ix_list (pe_lst p0) p1 (plain_ix hsl)
  have pe : PE X (.Call (.Subscript (.List es0 lp) ix sp_) (e :: es) [] pos) (fun σ H Q => tOp (rIxL X.K) (tLst t0) ti σ H fun x H1 => ∃ sp, FnV X n sp x ∧ t σ H1 fun vs H2 => toSp X.K n sp vs H2 Q (L2.WE W σ)) := by
    refine ⟨fun pins s σ H Q I h => ?_⟩
    show wpAny _ _ (eval (.Subscript (.List es0 lp) ix sp_) X.env >>= fun f => callWith pos f [] (backTo pos (starEach (e :: es) X.env)) (backToKw pos (keywordEach [] X.env))) _ X.xe s
    refine wpAny_bind (thn (pf.run pins s σ H _ I h) fun u s1 ⟨x, H1, I1, rx, sp, ⟨k, f, fd, ps, ex, F, rm, hk, hb⟩, q⟩ => ?_)
    subst ex
    obtain rfl : u = Value.ref f := rx
    exact PySem.W.callWith_K (h₀ := X.base) I1.ok.mod.kin hk (thn (p2.run pos pins s1 σ H1 _ I1 q) fun us s2 ⟨vs, H2, I2, r, q2⟩ => ⟨I2.kIn, run_fnA F rm hb (passAt tk σ) I2 r q2⟩) (star_eq hs.1 _) (any_star hs.2)
  refine ⟨_, pe, ⟨fun {B F v m σ H k kx Q} hm re hw hq hx => ?_⟩⟩
  show tLst t0 σ H _
  refine h0 σ H _ ⟨hz, fun p hp => ?_⟩
  have hm2 := hm.new hp (.lst vs0)
  have e2 : Same F (upd F p (.lst vs0)) := same_new (hm.fn hp)
  refine g1.run hm2 (re.mono e2) hw (fun d m1 F1 H1 y hw1 e1 hm1 r1 => ?_) (hx.mono e2)
  cases d with
  | int i =>
    unfold Rep at r1
    have hp1 : H1 p = some (.lst vs0) := hm1.fr _ _ (e1 _ _ upd_same)
    obtain ⟨sp, ht, hw2⟩ := hw1
    obtain ⟨u, hu, fv⟩ := hv.at ht
    have ee := e2.trans e1
    refine ⟨p, vs0, i, u, rfl, r1, .inl (.inl hp1), hu, sp, fv, ?_⟩
    exact g2.run hm1 (re.mono ee) hw2 (fun ds m3 F3 H3 vs hw3 e3 hm3 r3 => sp_use hm3 r3 hw3.1 hw3.2 (hq.mono (ee.trans e3)) (hx.mono (ee.trans e3))) (hx.mono ee)
  | _ => exact hw1.elim
def trTb (c : TC) (f : Expr → Option WE) (ns : List Expr) (ix : Expr) : List Expr → Option WE
  | [] => none
  | e :: es => if (!isSlice ix && decide (ns.length < 1000)) = true then (trTab c (e :: es).length ns).bind fun tab => (f ix).bind fun wi => (trL f (e :: es)).map fun w => wTab (e :: es).length tab wi w else none
theorem trTb_ok {c : TC} {X : Cx} {W : WX} (k : Cok c X W) {f : Expr → Option WE} (h : ∀ {e w}, f e = some w → Xe X W e w) {ns es : List Expr} {ix : Expr} {w : WE} {lp sp_ pos : Pos} (q : trTb c f ns ix es = some w) :
    Xe X W (.Call (.Subscript (.List ns lp) ix sp_) es [] pos) w := by
  unfold trTb at q
  split at q
  · cases q
  · split at q
    · rename_i hb
      rw [Bool.and_eq_true, Bool.not_eq_true', decide_eq_true_eq] at hb
      obtain ⟨tab, q1, q⟩ := Option.bind_eq_some_iff.mp q
      obtain ⟨wi, q2, q⟩ := Option.bind_eq_some_iff.mp q
      obtain ⟨u, q3, rfl⟩ := Option.map_eq_some_iff.mp q
      obtain ⟨l1, l2⟩ := trL_ok h q3
      obtain ⟨t, vs, h1, h2, h3, h4⟩ := trTab_ok k q1
      have hl : tab.length = ns.length := by
        have : ∀ {n : Nat} {es : List Expr} {tab : List ASp}, trTab c n es = some tab → tab.length = es.length := by
          intro n es
          induction es with
          | nil => intro tab q; cases q; rfl
          | cons a r ih =>
            intro tab q
            unfold trTab at q
            split at q
            · rename_i e1; cases e1
            · rename_i e1
              cases e1
              split at q
              · split at q
                · split at q
                  · obtain ⟨l, z1, rfl⟩ := Option.map_eq_some_iff.mp q
                    rw [List.length_cons, List.length_cons, ih z1]
                  · cases q
                · cases q
              · cases q
            · cases q
        exact this q1
      exact xe_tab k.tk h1 h2 h3 (by rw [h3.len, hl, sizeLine_eq]; omega) (h q2) hb.1 l1 l2
    · cases q
def orE (a b : Option WE) : Option WE := match a with
  | some w => some w
  | none => b
theorem orE_ok {a b : Option WE} {w : WE} (h : orE a b = some w) : a = some w ∨ b = some w := by
  unfold orE at h
  split at h
  · exact .inl h
  · exact .inr h
/-! ### the whole -/
def stE (r : Tr) (c : TC) (z : Bool) : Expr → Option WE
  | .Constant k _ _ => trC k
  | .Name x _ => trN c x
  | .BinOp a op b _ => (opB z op).bind fun o => (r.e c true a).bind fun x => (r.e c true b).map fun y => wOp o x y
  | .UnaryOp .USub a _ => (r.e c true a).map wNeg
  | .UnaryOp .Not a _ => (r.e c true a).map wNotV
  | .BoolOp op es _ => trV (r.e c true) op es
  | .Compare a ops es _ => trCmp (r.e c true) a ops es
  | .IfExp t a b _ => (r.t c t).bind fun w => (r.e c z a).bind fun x => (r.e c z b).map fun y => wIf w x y
  | .Tuple es _ _ => (trL (r.e c true) es).map wTup
  | .List es _ => (trL (r.e c true) es).map (wLst z)
  | .Dict [] [] _ => some (wDct0 z)
  | .Dict keys values _ => trD (r.e c true) z keys values
  | .Subscript a b _ => trS (r.e c true) z a b
  | .ListComp elt [⟨tg, it, ifs, 0⟩] scope _ => (match rawIx c it with
    | some (_, i) => trLcR r c z i elt scope tg ifs
    | none => trLc r c z elt scope tg it ifs)
  | .Call (.Name x _) es [] _ => (match trSS c (r.e c true) z x es with
    | some w => some w
    | none => orE (trMk c (r.e c true) x es) (orE (trIs c (r.e c true) x es) (orE (trIT c (r.e c true) x es) (trCall c (r.e c true) z x es))))
  | .Call (.Name x _) es ks _ => trMD c (r.e c true) x es ks
  | .Call (.Subscript (.List ns _) ix _) es [] _ => trTb c (r.e c true) ns ix es
  | .Call (.Attribute o name apos) es [] cpos => orE (trIn c (r.e c true) o name (apos.endLine == cpos.line) es) (orE (trOm c (r.e c true) o name (apos.endLine == cpos.line) es) (orE (trGet (r.e c true) o name (apos.endLine == cpos.line) es) (orE (trM (r.e c true) o name (apos.endLine == cpos.line) es) (orE (trMs (r.e c true) o name (apos.endLine == cpos.line) es) (trX (r.e c true) o name (apos.endLine == cpos.line) es)))))
  | .Attribute o f _ => if (noSuper o && c.cls.fl.contains f) = true then (r.e c true o).map (wFld c.cls f) else none
  | _ => none
def plain : Expr → Bool
  | .Name .. => true
  | .Call .. => true
  | .Subscript .. => true
  | .Constant .. => true
  | .BinOp .. => true
  | _ => false
def stT (r : Tr) (c : TC) : Expr → Option WT
  | .BoolOp op es _ => trW (r.t c) op es
  | .UnaryOp .Not a _ => (r.t c a).map wNot
  | .Compare a ops es _ => (trCmp (r.e c true) a ops es).map wIsB
  | e => if plain e = true then (r.e c true e).map wTru else none
/-- what has no reading: never to be reached -/
def wBad : WE := fun _ _ _ _ => False
def tBad : WT := fun _ _ _ _ => False
theorem xe_bad {X : Cx} {W : WX} {e : Expr} : Xe X W e wBad := ⟨fun _ _ _ => False, ⟨fun _ _ _ _ _ _ h => h.elim⟩, ⟨fun {_ _ _ _ _ _ _ _ _} _ _ h _ _ => h.elim⟩⟩
theorem xt_bad {X : Cx} {W : WX} {e : Expr} : Xt X W e tBad := ⟨fun _ _ _ => False, ⟨fun _ _ _ _ _ _ h => h.elim⟩, ⟨fun {_ _ _ _ _ _ _ _ _} _ _ h _ _ => h.elim⟩⟩
/-- not getD: what stands in `some` must be evaluated, or the kernel compares readings unfolded -/
def orB {α : Type} (b : α) : Option α → Option α
  | some a => some a
  | none => some b
def step (r : Tr) : Tr := ⟨fun c z e => orB wBad (stE r c z e), fun c e => orB tBad (stT r c e)⟩
theorem step_ok {r : Tr} (R : TrOk r) : TrOk (step r) := by
  refine ⟨fun {c X W z e w} k q => ?_, fun {c X W e w} k q => ?_⟩
  · have q1 : orB wBad (stE r c z e) = some w := q
    clear q
    cases q0 : stE r c z e with
    | none =>
      rw [q0] at q1
      cases q1
      exact xe_bad
    | some w' =>
    rw [q0] at q1
    obtain rfl : w' = w := Option.some.inj q1
    clear q1
    have hu : X.A.units + 65 < cLine := by have := k.un; omega
    unfold stE at q0
    split at q0
    · exact trC_ok q0
    · exact trN_ok k q0
    · obtain ⟨o, q1, q0⟩ := Option.bind_eq_some_iff.mp q0
      obtain ⟨x, q2, q0⟩ := Option.bind_eq_some_iff.mp q0
      obtain ⟨y, q3, rfl⟩ := Option.map_eq_some_iff.mp q0
      exact xe_op (opB_ok q1) (R.e k q2) (R.e k q3)
    · obtain ⟨x, q1, rfl⟩ := Option.map_eq_some_iff.mp q0
      exact xe_neg (R.e k q1)
    · obtain ⟨x, q1, rfl⟩ := Option.map_eq_some_iff.mp q0
      exact xe_notV (R.e k q1)
    · exact (trV_ok (fun h => R.e k h) q0).toXe
    · exact (trCmp_ok hu (fun h => R.e k h) q0).1
    · obtain ⟨o, q1, q0⟩ := Option.bind_eq_some_iff.mp q0
      obtain ⟨x, q2, q0⟩ := Option.bind_eq_some_iff.mp q0
      obtain ⟨y, q3, rfl⟩ := Option.map_eq_some_iff.mp q0
      exact xe_if (R.t k q1) (R.e k q2) (R.e k q3)
    · obtain ⟨x, q1, rfl⟩ := Option.map_eq_some_iff.mp q0
      exact xe_tup (trL_ok (fun h => R.e k h) q1).1
    · obtain ⟨x, q1, rfl⟩ := Option.map_eq_some_iff.mp q0
      exact xe_lst (trL_ok (fun h => R.e k h) q1).1
    · cases q0
      exact xe_dct0
    · exact trD_ok (fun h => R.e k h) q0
    · exact trS_ok (by omega) (fun h => R.e k h) q0
    · split at q0
      · rename_i x i hr
        exact trLcR_ok R k hr q0
      · exact trLc_ok R k q0
    · split at q0
      · rename_i w1 q1
        cases q0
        exact trSS_ok k (fun h => R.e k h) q1
      · rcases orE_ok q0 with q0 | q0
        · exact trMk_ok k (fun h => R.e k h) q0
        rcases orE_ok q0 with q0 | q0
        · exact trIs_ok k (fun h => R.e k h) q0
        rcases orE_ok q0 with q0 | q0
        · exact trIT_ok k (fun h => R.e k h) q0
        · exact trCall_ok k (fun h => R.e k h) q0
    · exact trMD_ok k (fun h => R.e k h) q0
    · exact trTb_ok k (fun h => R.e k h) q0
    · rcases orE_ok q0 with q0 | q0
      · exact trIn_ok k (fun h => R.e k h) q0
      rcases orE_ok q0 with q0 | q0
      · exact trOm_ok k (fun h => R.e k h) q0
      rcases orE_ok q0 with q0 | q0
      · exact trGet_ok k (fun h => R.e k h) q0
      rcases orE_ok q0 with q0 | q0
      · exact trM_ok (fun h => R.e k h) q0
      rcases orE_ok q0 with q0 | q0
      · exact trMs_ok (fun h => R.e k h) q0
      · exact trX_ok hu (fun h => R.e k h) q0
    · split at q0
      · rename_i hb
        rw [Bool.and_eq_true, List.contains_iff_mem] at hb
        obtain ⟨x, q1, rfl⟩ := Option.map_eq_some_iff.mp q0
        exact xe_fld k.own hb.2 (R.e k q1) hb.1
      · cases q0
    · cases q0
  · have q1 : orB tBad (stT r c e) = some w := q
    clear q
    cases q0 : stT r c e with
    | none =>
      rw [q0] at q1
      cases q1
      exact xt_bad
    | some w' =>
    rw [q0] at q1
    obtain rfl : w' = w := Option.some.inj q1
    clear q1
    have hu : X.A.units + 65 < cLine := by have := k.un; omega
    unfold stT at q0
    split at q0
    · exact (trW_ok (fun h => R.t k h) q0).t
    · obtain ⟨x, q1, rfl⟩ := Option.map_eq_some_iff.mp q0
      exact xt_not (R.t k q1)
    · obtain ⟨x, q1, rfl⟩ := Option.map_eq_some_iff.mp q0
      exact (trCmp_ok hu (fun h => R.e k h) q1).2
    · split at q0
      · rename_i hp
        obtain ⟨x, q1, rfl⟩ := Option.map_eq_some_iff.mp q0
        refine xt_tru (R.e k q1) fun whole => ?_
        cases e <;> first
          | rfl
          | cases hp
      · cases q0
def trZ : Tr := ⟨fun _ _ _ => none, fun _ _ => none⟩
def tr : Nat → Tr
  | 0 => trZ
  | n + 1 => step (tr n)
theorem tr_ok : ∀ n, TrOk (tr n)
  | 0 => by
    refine ⟨?_, ?_⟩
    · intro c X W z e w k h
      cases h
    · intro c X W e w k h
      cases h
  | n + 1 => step_ok (tr_ok n)
end Ab
end
section
/-! Ab11b: a, b = x, y. -/
namespace Ab
open PySem PySem.Spec L2
def swapB (a : List Expr) : Bool := !(a.any starred) && (!(a.all (foldedForSure 8)) && !(a.all (constantsAlone 8)))
theorem swap2 {env : PySem.Env} {x y : Str} {a b : Expr} {px py pt pt2 : Pos} {kt k2 : Nat} (hb : env.blockKind = .function) (hx : env.kindOf x = some .local) (hy : env.kindOf y = some .local) (hl : py.line = px.line) (hne : x ≠ y) (h : swapB [a, b] = true) :
    swappedStores [.Tuple [.Name x px, .Name y py] kt pt] (.Tuple [a, b] k2 pt2) env = pure (some [x, y]) := by
  unfold swapB at h
  simp only [Bool.and_eq_true, Bool.not_eq_true'] at h
  obtain ⟨h1, h2, h3⟩ := h
  unfold swappedStores
  simp [hb, hx, hy, hl, h2, h3, hne, Expr.pos, List.eraseDups]
  rw [if_neg, if_pos]
  · have n : (y == x) = false := by simpa using Ne.symm hne
    simp [List.eraseDupsBy, List.eraseDupsBy.loop, n]
  · simp only [List.any_cons, List.any_nil, Bool.or_false, Bool.or_eq_false_iff] at h1
    rintro (z | z)
    · have q := h1.1
      cases a <;> first
        | (cases z; done)
        | cases q
    · have q := h1.2
      cases b <;> first
        | (cases z; done)
        | cases q
/-- constants alone: no swap -/
def foldB (a : List Expr) : Bool := a.all (foldedForSure 8)
theorem swapF {env : PySem.Env} {x y : Str} {a b : Expr} {px py pt pt2 : Pos} {kt k2 : Nat} (h : foldB [a, b] = true) :
    swappedStores [.Tuple [.Name x px, .Name y py] kt pt] (.Tuple [a, b] k2 pt2) env = pure none := by
  unfold foldB at h
  unfold swappedStores
  simp only [h]
  simp
theorem swap3 {env : PySem.Env} {x y z : Str} {a b c : Expr} {px py pz pt pt2 : Pos} {kt k2 : Nat} (hb : env.blockKind = .function) (hx : env.kindOf x = some .local) (hy : env.kindOf y = some .local) (hz : env.kindOf z = some .local) (hl : py.line = px.line) (hl2 : pz.line = px.line) (n1 : x ≠ y) (n2 : x ≠ z) (n3 : y ≠ z) (h : swapB [a, b, c] = true) :
    swappedStores [.Tuple [.Name x px, .Name y py, .Name z pz] kt pt] (.Tuple [a, b, c] k2 pt2) env = pure (some [x, y, z]) := by
  unfold swapB at h
  simp only [Bool.and_eq_true, Bool.not_eq_true'] at h
  obtain ⟨h1, h2, h3⟩ := h
  unfold swappedStores
  simp [hb, hx, hy, hz, hl, hl2, h2, h3, Expr.pos, List.eraseDups]
  rw [if_neg, if_pos]
  · have m1 : (y == x) = false := by simpa using Ne.symm n1
    have m2 : (z == x) = false := by simpa using Ne.symm n2
    have m3 : (z == y) = false := by simpa using Ne.symm n3
    simp [List.eraseDupsBy, List.eraseDupsBy.loop, m1, m2, m3]
  · simp only [List.any_cons, List.any_nil, Bool.or_false, Bool.or_eq_false_iff] at h1
    rintro (q | q | q)
    · have w := h1.1
      cases a <;> first
        | (cases q; done)
        | cases w
    · have w := h1.2.1
      cases b <;> first
        | (cases q; done)
        | cases w
    · have w := h1.2.2
      cases c <;> first
        | (cases q; done)
        | cases w
/-- the stores, side by side -/
def putAll : Ab.Env → List Nat → List D → Ab.Env
  | v, i :: is, d :: ds => putAll (v.set i (some d)) is ds
  | v, _, _ => v
def sPar (is : List Nat) (w : WL) : WS := fun v m P => w v m (fun ds m1 => ds.length = is.length ∧ P.nx (putAll v is ds) m1) fun x m => P.ex x v m
theorem xs_par2 {X : Cx} {W : WX} {i j : Nat} {x y : Str} {a b : Expr} {px py pt pt2 pos : Pos} {kt k2 : Nat} {w : WL} (hc : X.calm = true) (hN : X.N.Nodup) (hi : X.N[i]? = some x) (hj : X.N[j]? = some y) (hij : i ≠ j) (hx : X.env.scope.names.lookup x = some .local) (hy : X.env.scope.names.lookup y = some .local) (ha : Xl X W [a, b] w)
    (hb : X.env.blockKind = .function) (hl : py.line = px.line) (h : swapB [a, b] = true) : Xs X W (.Assign [.Tuple [.Name x px, .Name y py] kt pt] (.Tuple [a, b] k2 pt2) pos) (sPar [i, j] w) := by
  obtain ⟨t, p, g⟩ := ha.ex
  have hne : x ≠ y := by
    rintro rfl
    obtain ⟨q1, e1⟩ := List.getElem?_eq_some_iff.mp hi
    obtain ⟨q2, e2⟩ := List.getElem?_eq_some_iff.mp hj
    exact hij ((List.getElem_inj hN).mp (e1.trans e2.symm))
  refine ⟨_, ps_par hc hN hi hj hij hx hy p (swap2 hb hx hy hl hne h), ⟨fun {B F v m σ H P E} hm re hw rl => ?_⟩⟩
  refine g.run hm re hw (fun ds m1 F1 H1 vs hw1 e1 hm1 r1 => ?_) (rl.qx re)
  obtain ⟨hl, hk⟩ := hw1
  match ds, hl with
  | [d, e], _ =>
    obtain ⟨u, t, rfl, r2, r3⟩ := repL_cons.mp r1
    obtain ⟨u2, t, rfl, r4, r5⟩ := repL_cons.mp r3
    rw [repL_nil.mp r5]
    exact ⟨u, u2, rfl, rl.nx _ m1 F1 H1 _ hk e1 hm1 (((re.mono e1).set i r2).set j r4)⟩
theorem xs_par3 {X : Cx} {W : WX} {i j l : Nat} {x y z : Str} {a b c : Expr} {px py pz pt pt2 pos : Pos} {kt k2 : Nat} {w : WL} (hc : X.calm = true) (hN : X.N.Nodup) (hi : X.N[i]? = some x) (hj : X.N[j]? = some y) (hl : X.N[l]? = some z) (hij : i ≠ j) (hil : i ≠ l) (hjl : j ≠ l)
    (hx : X.env.scope.names.lookup x = some .local) (hy : X.env.scope.names.lookup y = some .local) (hz : X.env.scope.names.lookup z = some .local) (ha : Xl X W [a, b, c] w)
    (hb : X.env.blockKind = .function) (hl1 : py.line = px.line) (hl2 : pz.line = px.line) (h : swapB [a, b, c] = true) : Xs X W (.Assign [.Tuple [.Name x px, .Name y py, .Name z pz] kt pt] (.Tuple [a, b, c] k2 pt2) pos) (sPar [i, j, l] w) := by
  obtain ⟨t, p, g⟩ := ha.ex
  have ne : ∀ {i j : Nat} {x y : Str}, X.N[i]? = some x → X.N[j]? = some y → i ≠ j → x ≠ y := fun hi hj hij => by
    rintro rfl
    obtain ⟨q1, e1⟩ := List.getElem?_eq_some_iff.mp hi
    obtain ⟨q2, e2⟩ := List.getElem?_eq_some_iff.mp hj
    exact hij ((List.getElem_inj hN).mp (e1.trans e2.symm))
  refine ⟨_, ps_par3 hc hN hi hj hl hij hil hjl hx hy hz p (swap3 hb hx hy hz hl1 hl2 (ne hi hj hij) (ne hi hl hil) (ne hj hl hjl) h), ⟨fun {B F v m σ H P E} hm re hw rl => ?_⟩⟩
  refine g.run hm re hw (fun ds m1 F1 H1 vs hw1 e1 hm1 r1 => ?_) (rl.qx re)
  obtain ⟨hl, hk⟩ := hw1
  match ds, hl with
  | [d, e, f], _ =>
    obtain ⟨u, t, rfl, r2, r3⟩ := repL_cons.mp r1
    obtain ⟨u2, t, rfl, r4, r5⟩ := repL_cons.mp r3
    obtain ⟨u3, t, rfl, r6, r7⟩ := repL_cons.mp r5
    rw [repL_nil.mp r7]
    exact ⟨u, u2, u3, rfl, rl.nx _ m1 F1 H1 _ hk e1 hm1 ((((re.mono e1).set i r2).set j r4).set l r6)⟩
end Ab
end
section
/-! Ab12: the reading of a body's text. -/
namespace Ab
open PySem PySem.Spec L2
structure Sok (c : TC) (X : Cx) (W : WX) : Prop where
  k : Cok c X W
  po : PassesOwn (model X.prog X.w) X.A X.env X.xe
  st : X.stack = X.env :: X.outer
  fr : X.env.frame = some X.env.locals
  fn : ∀ x, X.fn x = true
  bk : X.env.blockKind = .function
theorem Cok.w0 {c : TC} {X : Cx} {W : WX} (k : Cok c X W) : Cok c X W0 := ⟨k.K, k.N, k.nd, k.sc, k.calm, k.gd, k.un, fun u s' ⟨_, _, _, _, _, _, _, _, _, _, _, _, _, _, _, _, w⟩ => w.elim, k.fns, k.blt, k.cons, k.excs, k.xf, k.own, k.ms⟩
theorem Sok.tr {c : TC} {X : Cx} {W V : WX} (k : Sok c X W) {pn : List (Addr × Obj)} {xe : Value → Shared → Prop} (h1 : Takes (X.tr pn xe) V) (h2 : PassesOwn (model X.prog X.w) X.A X.env xe) : Sok c (X.tr pn xe) V where
  k := ⟨k.k.K, k.k.N, k.k.nd, k.k.sc, k.k.calm, k.k.gd, k.k.un, h1, k.k.fns, k.k.blt, k.k.cons, k.k.excs, k.k.xf, k.k.own, k.k.ms⟩
  po := h2
  st := k.st
  fr := k.fr
  fn := k.fn
  bk := k.bk
/-! ### targets -/
def isDct (c : TC) : Expr → Bool
  | .Name x _ => (ixIn c.N x).any fun i => c.dcts.contains i
  | _ => false
def trG1 (E : Tr) (c : TC) : Expr → Option WG
  | .Name x _ => if isLoc c.sc x = true then (ixIn c.N x).map gN else none
  | .Subscript a b _ => if isSlice b = true then none else (E.e c true a).bind fun x => (E.e c true b).map fun y => if isDct c a = true then gSubD x y else gSubL x y
  | _ => none
def trGs (E : Tr) (c : TC) : List Expr → Option WGs
  | [] => some gs0
  | e :: es => (trG1 E c e).bind fun g => (trGs E c es).map fun r => gs1 g r
def trG (E : Tr) (c : TC) : Expr → Option WG
  | .Tuple es _ _ => (trGs E c es).map fun r => gT es.length r
  | e => trG1 E c e
section
variable {c : TC} {X : Cx} {W : WX} {E : Tr}
theorem trG1_ok (R : TrOk E) (k : Cok c X W) (fn : ∀ x, X.fn x = true) {e : Expr} {g : WG} (q : trG1 E c e = some g) : Xg X e g ∧ starred e = false := by
  unfold trG1 at q
  split at q
  · split at q
    · rename_i hl
      obtain ⟨i, q1, rfl⟩ := Option.map_eq_some_iff.mp q
      exact ⟨xg_name k.nd (by rw [k.N]; exact ixIn_ok q1) (by rw [k.sc]; exact isLoc_ok hl) (.inl (fn _)), rfl⟩
    · cases q
  · split at q
    · cases q
    · rename_i hs
      obtain ⟨x, q1, q⟩ := Option.bind_eq_some_iff.mp q
      obtain ⟨y, q2, rfl⟩ := Option.map_eq_some_iff.mp q
      split
      · exact ⟨xg_subD (by have := k.un; omega) (R.e k.w0 q1) (R.e k.w0 q2) (by simpa using hs), rfl⟩
      · exact ⟨xg_sub (R.e k.w0 q1) (R.e k.w0 q2) (by simpa using hs), rfl⟩
  · cases q
theorem trGs_ok (R : TrOk E) (k : Cok c X W) (fn : ∀ x, X.fn x = true) : ∀ {es : List Expr} {r : WGs}, trGs E c es = some r → Xgs X es r ∧ es.any starred = false
  | [], r, q => by cases q; exact ⟨xgs_nil, rfl⟩
  | e :: es, r, q => by
    obtain ⟨g, q1, q⟩ := Option.bind_eq_some_iff.mp (show (trG1 E c e).bind _ = some r from q)
    obtain ⟨u, q2, rfl⟩ := Option.map_eq_some_iff.mp q
    obtain ⟨a1, a2⟩ := trG1_ok R k fn q1
    obtain ⟨b1, b2⟩ := trGs_ok R k fn q2
    exact ⟨xgs_cons a1 b1 a2, by rw [List.any_cons, a2, b2]; rfl⟩
theorem trG_ok (R : TrOk E) (k : Cok c X W) (fn : ∀ x, X.fn x = true) {e : Expr} {g : WG} (q : trG E c e = some g) : Xg X e g ∧ starred e = false := by
  unfold trG at q
  split at q
  · obtain ⟨r, q1, rfl⟩ := Option.map_eq_some_iff.mp q
    obtain ⟨b1, b2⟩ := trGs_ok R k fn q1
    exact ⟨xg_tup k.calm b1 b2, rfl⟩
  · exact trG1_ok R k fn q
end
/-! ### clauses -/
def trH1 (c : TC) : ExceptHandler → Option Hnd
  | .ExceptHandler (some (.Name x _)) (some n) [.Return (some (.List [.Constant (.str s) _ _, .Attribute (.Name n' _) f _] _)) _] _ =>
    if (decide (n' = n) && isPl c.sc n && !dunder n && isGl c.sc x && !dunder x && c.xs.contains x && c.fs.contains f) = true then (ixIn c.N n).map fun i => (x, some i, .ret s f) else none
  | .ExceptHandler (some (.Name x _)) (some n) [.Assign [.Name y _] (.List [.Constant (.int k) _ _, .Attribute (.Name n' _) f _] _) _] _ =>
    if (decide (n' = n) && isPl c.sc n && !dunder n && isGl c.sc x && !dunder x && c.xs.contains x && c.fs.contains f && isPl c.sc y) = true then (ixIn c.N n).bind fun i => (ixIn c.N y).map fun j => (x, some i, .set j k f) else none
  | .ExceptHandler (some (.Name x _)) (some n) [.Return (some (.Compare (.Call (.Name r _) [.Attribute (.Name n' _) f _] [] _) [.Eq] [.Call (.Name r' _) [.Name y _] [] _] _)) _] _ =>
    if (decide (n' = n) && decide (r = "repr") && decide (r' = "repr") && isPl c.sc n && !dunder n && isGl c.sc x && !dunder x && c.xs.contains x && c.fs.contains f && isVis c.sc y && !dunder y && isGl c.sc r) = true then (ixIn c.N n).bind fun i => (ixIn c.N y).map fun j => (x, some i, .rep f j) else none
  | .ExceptHandler (some (.Name x _)) none [.Return (some (.Constant .none _ _)) _] _ =>
    if (isGl c.sc x && !dunder x && c.xs.contains x) = true then some (x, none, .non) else none
  | _ => none
def trHs (c : TC) : List ExceptHandler → Option (List Hnd)
  | [] => some []
  | h :: hs => (trH1 c h).bind fun x => (trHs c hs).map fun r => x :: r
theorem trHs_ok {c : TC} {X : Cx} {W : WX} (k : Cok c X W) : ∀ {hs : List ExceptHandler} {l : List Hnd}, trHs c hs = some l → HCs X c.xs c.fs hs l
  | [], l, q => by cases q; exact .nil
  | h :: hs, l, q => by
    obtain ⟨x, q1, q0⟩ := Option.bind_eq_some_iff.mp (show (trH1 c h).bind _ = some l from q)
    clear q
    obtain ⟨r, q2, rfl⟩ := Option.map_eq_some_iff.mp q0
    have ih := trHs_ok k q2
    have pl : ∀ {n : Str}, isPl c.sc n = true → X.env.scope.names.lookup n = some .local := fun h => by rw [k.sc]; exact isPl_ok h
    unfold trH1 at q1
    split at q1
    · split at q1
      · rename_i hb
        simp only [Bool.and_eq_true, decide_eq_true_eq, Bool.not_eq_true', List.contains_iff_mem] at hb
        obtain ⟨⟨⟨⟨⟨⟨rfl, b2⟩, b3⟩, b4⟩, b5⟩, b6⟩, b7⟩ := hb
        obtain ⟨i, q3, rfl⟩ := Option.map_eq_some_iff.mp q1
        exact .ret (by rw [k.N]; exact ixIn_ok q3) (pl b2) (.inl (pl b2)) (dunder_ok b3).1 (dunder_ok b3).2 (k.gl b4) (dunder_ok b5).1 b6 b7 ih
      · cases q1
    · split at q1
      · rename_i hb
        simp only [Bool.and_eq_true, decide_eq_true_eq, Bool.not_eq_true', List.contains_iff_mem] at hb
        obtain ⟨⟨⟨⟨⟨⟨⟨rfl, b2⟩, b3⟩, b4⟩, b5⟩, b6⟩, b7⟩, b8⟩ := hb
        obtain ⟨i, q3, q4⟩ := Option.bind_eq_some_iff.mp q1
        obtain ⟨j, q5, rfl⟩ := Option.map_eq_some_iff.mp q4
        exact .set (by rw [k.N]; exact ixIn_ok q3) (pl b2) (.inl (pl b2)) (dunder_ok b3).1 (dunder_ok b3).2 k.nd (by rw [k.N]; exact ixIn_ok q5) (.inl (pl b8)) (pl b8) (k.gl b4) (dunder_ok b5).1 b6 b7 ih
      · cases q1
    · split at q1
      · rename_i hb
        simp only [Bool.and_eq_true, decide_eq_true_eq, Bool.not_eq_true', List.contains_iff_mem] at hb
        obtain ⟨⟨⟨⟨⟨⟨⟨⟨⟨⟨⟨rfl, rfl⟩, rfl⟩, b2⟩, b3⟩, b4⟩, b5⟩, b6⟩, b7⟩, b8⟩, b9⟩, b10⟩ := hb
        obtain ⟨i, q3, q4⟩ := Option.bind_eq_some_iff.mp q1
        obtain ⟨j, q5, rfl⟩ := Option.map_eq_some_iff.mp q4
        exact .rep (by rw [k.N]; exact ixIn_ok q3) (pl b2) (.inl (pl b2)) (dunder_ok b3).1 (dunder_ok b3).2 (by rw [k.N]; exact ixIn_ok q5) (by rw [k.sc]; exact isVis_ok b8) (dunder_ok b9).1 (dunder_ok b9).2 (k.gl b10) (k.blt _ (by decide)) k.gd (by have := k.un; omega) (k.gl b4) (dunder_ok b5).1 b6 b7 ih
      · cases q1
    · split at q1
      · rename_i hb
        simp only [Bool.and_eq_true, Bool.not_eq_true', List.contains_iff_mem] at hb
        obtain ⟨⟨b4, b5⟩, b6⟩ := hb
        cases q1
        exact .non (k.gl b4) (dunder_ok b5).1 b6 ih
      · cases q1
    · cases q1
/-! ### statements -/
structure TS' where
  s : TC → Stmt → Option WS
structure TSOk (r : TS') : Prop where
  s : ∀ {c : TC} {X : Cx} {W : WX} {st : Stmt} {w : WS}, Sok c X W → r.s c st = some w → Xs X W st w
def trSs (f : Stmt → Option WS) : List Stmt → Option WS
  | [] => some sNil
  | [s] => f s
  | s :: r => (f s).bind fun a => (trSs f r).map fun b => sSeq a b
theorem trSs_ok {X : Cx} {W : WX} {f : Stmt → Option WS} (h : ∀ {s w}, f s = some w → Xs X W s w) : ∀ {ss : List Stmt} {w : WS}, trSs f ss = some w → Xss X W ss w
  | [], w, q => by cases q; exact xss_nil
  | [s], w, q => xss_one (h q)
  | s :: u :: r, w, q => by
    obtain ⟨a, q1, q0⟩ := Option.bind_eq_some_iff.mp (show (f s).bind _ = some w from q)
    clear q
    obtain ⟨b, q2, rfl⟩ := Option.map_eq_some_iff.mp q0
    exact xss_cons (h q1) (trSs_ok h q2)
def noPair : Expr → Expr → Bool
  | .Tuple ts _ _, .Tuple .. => decide (4 ≤ ts.length)
  | .Tuple .., _ => true
  | .Subscript .., _ => true
  | _, _ => false
theorem swap4 {ts vs : List Expr} {k1 k2 : Nat} {p1 p2 : Pos} {env : PySem.Env} (h : 4 ≤ ts.length) : swappedStores [.Tuple ts k1 p1] (.Tuple vs k2 p2) env = pure none := by
  have h1 : (!(ts.length == 2 || ts.length == 3) || vs.length != ts.length || env.blockKind != .function) = true := by
    have a : (ts.length == 2) = false := beq_false_of_ne (by omega)
    have b : (ts.length == 3) = false := beq_false_of_ne (by omega)
    rw [a, b]
    rfl
  unfold swappedStores
  simp only
  rw [if_pos h1]
theorem noPair_ok {tg e : Expr} {env : PySem.Env} (h : noPair tg e = true) : swappedStores [tg] e env = pure none := by
  cases tg <;> first
    | (cases h; done)
    | rfl
    | (cases e <;> first
      | rfl
      | (exact swap4 (of_decide_eq_true h))
      | (cases h; done))
theorem isPl_of {sc : Scope} {x : Str} (h : sc.names.lookup x = some .local) : isPl sc x = true := by
  unfold isPl
  rw [h]
theorem swapN {env : PySem.Env} {x y : Str} {a b : Expr} {px py pt pt2 : Pos} {kt k2 : Nat} (h : ¬ (env.kindOf x = some .local ∧ env.kindOf y = some .local)) : swappedStores [.Tuple [.Name x px, .Name y py] kt pt] (.Tuple [a, b] k2 pt2) env = pure none := by
  unfold swappedStores
  dsimp only
  split
  · rfl
  split
  · rfl
  rename_i h1 h2
  by_cases hx : env.kindOf x = some .local
  · have hy : (env.kindOf y == some .local) = false := by
      have : env.kindOf y ≠ some .local := fun e => h ⟨hx, e⟩
      simpa using this
    simp [List.filterMap, hx, hy]
    intro e
    exfalso
    revert e
    split <;> simp
  · have hx : (env.kindOf x == some .local) = false := by simpa using hx
    simp [List.filterMap, hx]
    intro e
    exfalso
    revert e
    split <;> simp
def trLz (f : Bool → Expr → Option WE) : List Bool → List Expr → Option WL
  | _, [] => some wNil
  | z :: zs, e :: es => if starred e = true then none else (f z e).bind fun a => (trLz f zs es).map fun r => wCons a r
  | [], _ :: _ => none
theorem trLz_ok {X : Cx} {W : WX} {f : Bool → Expr → Option WE} (h : ∀ {z e w}, f z e = some w → Xe X W e w) : ∀ {zs : List Bool} {es : List Expr} {w : WL}, trLz f zs es = some w → Xl X W es w
  | _, [], w, q => by
    have q0 : some wNil = some w := by
      unfold trLz at q
      exact q
    cases q0
    exact xl_nil
  | z :: zs, e :: es, w, q => by
    unfold trLz at q
    split at q
    · cases q
    · rename_i hs
      obtain ⟨a, q1, q0⟩ := Option.bind_eq_some_iff.mp q
      obtain ⟨r, q2, rfl⟩ := Option.map_eq_some_iff.mp q0
      exact xl_cons (h q1) (trLz_ok h q2) (by simpa using hs)
  | [], _ :: _, w, q => by cases q
/-- x = [.. for ..] -/
def lcB (c : TC) (x : Str) (px cpos : Pos) (scope : Scope) : Bool := isPl c.sc x && decide (px.line = cpos.line) && !(scope.names.any fun (n, k) => n == x && (k == .local || k == .cell))
theorem lc_swap {env : PySem.Env} {elt : Expr} {gs : List Comprehension} {scope : Scope} {cpos px : Pos} {x : Str} {l : Nat} (hb : env.blockKind = .function) (hx : env.kindOf x = some .local) (hl : px.line = cpos.line) (hn : (scope.names.any fun (n, k) => n == x && (k == .local || k == .cell)) = false) :
    swapsWith (.ListComp elt gs scope cpos) (some (.Name x px)) l env = pure true := by
  unfold swapsWith
  simp [hb, hx, hl, Expr.pos]
  have hn' : (scope.names.any fun p => p.1 == x && (p.2 == .local || p.2 == .cell)) = false := hn
  rw [hn']
  rfl
theorem trLcS_ok {E : Tr} (R : TrOk E) {c : TC} {X : Cx} {W : WX} (K : Sok c X W) {z : Bool} {elt tg it : Expr} {scope : Scope} {ifs : List Expr} {w : WE} {pos px spos : Pos} {x : Str} {i : Nat} (hb : lcB c x px pos scope = true) (hi : ixIn c.N x = some i) (q : trLc E c z elt scope tg it ifs = some w) :
    Xs X W (.Assign [.Name x px] (.ListComp elt [⟨tg, it, ifs, 0⟩] scope pos) spos) (sSet i w) := by
  have k := K.k
  unfold lcB at hb
  simp only [Bool.and_eq_true, decide_eq_true_eq, Bool.not_eq_true'] at hb
  obtain ⟨⟨b1, b2⟩, b3⟩ := hb
  have pl : X.env.scope.names.lookup x = some .local := by rw [k.sc]; exact isPl_ok b1
  unfold trLc at q
  split at q
  · rename_i hb
    rw [Bool.and_eq_true, Bool.not_eq_true'] at hb
    obtain ⟨wi, q1, q⟩ := Option.bind_eq_some_iff.mp q
    obtain ⟨g, q2, q⟩ := Option.bind_eq_some_iff.mp q
    obtain ⟨t, q3, q⟩ := Option.bind_eq_some_iff.mp q
    obtain ⟨e, q4, rfl⟩ := Option.map_eq_some_iff.mp q
    refine xs_setLc k.calm k.nd (by rw [k.N]; exact ixIn_ok hi) pl (lc_swap K.bk pl b2 b3) (trI_ok k (fun h => R.e k h) q1) (by rw [k.N, k.sc]; exact blkOk_by hb.1) (fun i => ?_) (fun i => ?_) (fun i => ?_) (isSet_ok hb.2 _)
    · exact trGo_ok (k.inner scope i).N (k.inner scope i).nd (k.inner scope i).sc (k.inner scope i).calm q2
    · exact trIfs_ok (fun h => R.t (k.inner scope i) h) q3
    · exact R.e (k.inner scope i) q4
  · cases q
def sBad : WS := fun _ _ _ => False
theorem xs_bad {X : Cx} {W : WX} {st : Stmt} : Xs X W st sBad := ⟨fun _ _ _ => False, ⟨fun _ _ _ _ _ _ h => h.elim⟩, ⟨fun {_ _ _ _ _ _ _ _} _ _ h _ => h.elim⟩⟩
def stS (E : Tr) (r : TS') (c : TC) : Stmt → Option WS
  | .Assign [.Name x px] (.ListComp elt [⟨tg, it, ifs, 0⟩] scope cpos) _ => if lcB c x px cpos scope = true then (ixIn c.N x).bind fun i => (trLc E c (!c.muts.contains i) elt scope tg it ifs).map fun w => sSet i w else none
  | .Assign [.Name x _] e _ => if (isLoc c.sc x && !isComp e) = true then (ixIn c.N x).bind fun i => (E.e c (!c.muts.contains i) e).map fun w => sSet i w else none
  | .Assign [.Tuple [.Name x px, .Name y py] t1 t2] (.Tuple [a, b] k1 k2) _ => if (isPl c.sc x && isPl c.sc y && decide (py.line = px.line) && swapB [a, b]) = true then (ixIn c.N x).bind fun i => (ixIn c.N y).bind fun j => if i = j then none else (trLz (E.e c) [!c.muts.contains i, !c.muts.contains j] [a, b]).map fun w => sPar [i, j] w else if foldB [a, b] = true then (trG E c (.Tuple [.Name x px, .Name y py] t1 t2)).bind fun g => (E.e c true (.Tuple [a, b] k1 k2)).map fun w => sAsg g w else if (isPl c.sc x && isPl c.sc y) = true then none else (trG E c (.Tuple [.Name x px, .Name y py] t1 t2)).bind fun g => (E.e c true (.Tuple [a, b] k1 k2)).map fun w => sAsg g w
  | .Assign [.Tuple [.Name x px, .Name y py, .Name u pu] _ _] (.Tuple [a, b, d] _ _) _ => if (isPl c.sc x && isPl c.sc y && isPl c.sc u && decide (py.line = px.line) && decide (pu.line = px.line) && swapB [a, b, d]) = true then (ixIn c.N x).bind fun i => (ixIn c.N y).bind fun j => (ixIn c.N u).bind fun l => if i = j ∨ i = l ∨ j = l then none else (trLz (E.e c) [!c.muts.contains i, !c.muts.contains j, !c.muts.contains l] [a, b, d]).map fun w => sPar [i, j, l] w else none
  | .Assign [.Attribute o f _] e _ => if (!isComp e && c.cls.fl.contains f) = true then (E.e c true o).bind fun x => (E.e c true e).map fun w => sFldD c.cls f x w else none
  | .Assign [tg] e _ => if (!isComp e && noPair tg e) = true then (trG E c tg).bind fun g => (E.e c true e).map fun w => sAsg g w else none
  | .AugAssign (.Name x _) op e _ => if isLoc c.sc x = true then (ixIn c.N x).bind fun i => (opI op).bind fun o => (E.e c true e).map fun w => sAug i o w else none
  | .Expr (.Constant (.str _) _ _) _ => some sNil
  | .Expr e _ => if isComp e = true then none else (E.e c true e).map sDrop
  | .Return none _ => some sRetN
  | .Return (some e) _ => (E.e c (!c.rmut) e).map sRet
  | .If t a b _ => (E.t c t).bind fun w => (trSs (r.s c) a).bind fun x => (trSs (r.s c) b).map fun y => sIf w x y
  | .While t b [] _ => (E.t c t).bind fun w => (trSs (r.s c) b).map fun x => sWhile w x
  | .For tg it b [] _ => if isSet it = true then none else (trI c (E.e c true) tg it).bind fun wi => (trG E c tg).bind fun g => (trSs (r.s c) b).map fun x => sFor wi g x
  | .Pass _ => some sNil
  | .Break _ => some sBrk
  | .Continue _ => some sCont
  | .Raise (some (.Call (.Name C _) (e :: es) [] _)) none _ => if (isGl c.sc C && !dunder C) = true then (c.excs.lookup C).bind fun ps => (trL (E.e c true) (e :: es)).map fun w => sRaise C ps w else none
  | .Try b (h0 :: hs) [] [] _ => (trHs c (h0 :: hs)).bind fun l => (trSs (r.s c) b).map fun w => sTry c.xs c.fs w l
  | _ => none
theorem stS_ok {E : Tr} (R : TrOk E) {r : TS'} (Q : TSOk r) : TSOk ⟨stS E r⟩ := by
  refine ⟨fun {c X W st w} k q => ?_⟩
  have q0 : stS E r c st = some w := q
  clear q
  have kk := k.k
  have nm : ∀ {x : Str} {i : Nat}, ixIn c.N x = some i → X.N[i]? = some x := fun h => by rw [kk.N]; exact ixIn_ok h
  have lc : ∀ {x : Str}, isLoc c.sc x = true → Loc X.env.scope x := fun h => by rw [kk.sc]; exact isLoc_ok h
  have ss : ∀ {b : List Stmt} {u : WS}, trSs (r.s c) b = some u → Xss X W b u := fun h => trSs_ok (fun h => Q.s k h) h
  unfold stS at q0
  split at q0
  · split at q0
    · rename_i hb
      obtain ⟨i, q1, q0⟩ := Option.bind_eq_some_iff.mp q0
      obtain ⟨u, q2, rfl⟩ := Option.map_eq_some_iff.mp q0
      exact trLcS_ok R k hb q1 q2
    · cases q0
  · split at q0
    · rename_i hb
      rw [Bool.and_eq_true, Bool.not_eq_true'] at hb
      obtain ⟨i, q1, q0⟩ := Option.bind_eq_some_iff.mp q0
      obtain ⟨u, q2, rfl⟩ := Option.map_eq_some_iff.mp q0
      exact xs_set kk.nd (nm q1) (lc hb.1) (R.e kk q2) hb.2 (.inl (k.fn _))
    · cases q0
  · split at q0
    · rename_i hb
      simp only [Bool.and_eq_true, decide_eq_true_eq] at hb
      obtain ⟨⟨⟨b1, b2⟩, b3⟩, b4⟩ := hb
      obtain ⟨i, q1, q0⟩ := Option.bind_eq_some_iff.mp q0
      obtain ⟨j, q2, q0⟩ := Option.bind_eq_some_iff.mp q0
      split at q0
      · cases q0
      · rename_i hij
        obtain ⟨u, q3, rfl⟩ := Option.map_eq_some_iff.mp q0
        exact xs_par2 kk.calm kk.nd (nm q1) (nm q2) hij (by rw [kk.sc]; exact isPl_ok b1) (by rw [kk.sc]; exact isPl_ok b2) (trLz_ok (fun h => R.e kk h) q3) k.bk b3 b4
    · split at q0
      · rename_i hf
        obtain ⟨g, q1, q0⟩ := Option.bind_eq_some_iff.mp q0
        obtain ⟨u, q2, rfl⟩ := Option.map_eq_some_iff.mp q0
        obtain ⟨g1, g2⟩ := trG_ok R kk k.fn q1
        exact xs_asg (R.e kk q2) g1 rfl (swapF hf) g2
      split at q0
      · cases q0
      · rename_i hp
        obtain ⟨g, q1, q0⟩ := Option.bind_eq_some_iff.mp q0
        obtain ⟨u, q2, rfl⟩ := Option.map_eq_some_iff.mp q0
        obtain ⟨g1, g2⟩ := trG_ok R kk k.fn q1
        refine xs_asg (R.e kk q2) g1 rfl (swapN fun z => hp ?_) g2
        rw [Bool.and_eq_true]
        exact ⟨isPl_of (by rw [← kk.sc]; exact z.1), isPl_of (by rw [← kk.sc]; exact z.2)⟩
  · split at q0
    · rename_i hb
      simp only [Bool.and_eq_true, decide_eq_true_eq] at hb
      obtain ⟨⟨⟨⟨⟨b1, b2⟩, b3⟩, b4⟩, b5⟩, b6⟩ := hb
      obtain ⟨i, q1, q0⟩ := Option.bind_eq_some_iff.mp q0
      obtain ⟨j, q2, q0⟩ := Option.bind_eq_some_iff.mp q0
      obtain ⟨l, q3, q0⟩ := Option.bind_eq_some_iff.mp q0
      split at q0
      · cases q0
      · rename_i hn
        simp only [not_or] at hn
        obtain ⟨u, q4, rfl⟩ := Option.map_eq_some_iff.mp q0
        exact xs_par3 kk.calm kk.nd (nm q1) (nm q2) (nm q3) hn.1 hn.2.1 hn.2.2 (by rw [kk.sc]; exact isPl_ok b1) (by rw [kk.sc]; exact isPl_ok b2) (by rw [kk.sc]; exact isPl_ok b3) (trLz_ok (fun h => R.e kk h) q4) k.bk b4 b5 b6
    · cases q0
  · split at q0
    · rename_i hb
      rw [Bool.and_eq_true, Bool.not_eq_true', List.contains_iff_mem] at hb
      obtain ⟨x, q1, q0⟩ := Option.bind_eq_some_iff.mp q0
      obtain ⟨u, q2, rfl⟩ := Option.map_eq_some_iff.mp q0
      exact xs_fld kk.own hb.2 (R.e kk q1) (R.e kk q2) hb.1
    · cases q0
  · split at q0
    · rename_i hb
      rw [Bool.and_eq_true, Bool.not_eq_true'] at hb
      obtain ⟨g, q1, q0⟩ := Option.bind_eq_some_iff.mp q0
      obtain ⟨u, q2, rfl⟩ := Option.map_eq_some_iff.mp q0
      obtain ⟨g1, g2⟩ := trG_ok R kk k.fn q1
      exact xs_asg (R.e kk q2) g1 hb.1 (noPair_ok hb.2) g2
    · cases q0
  · split at q0
    · rename_i hb
      obtain ⟨i, q1, q0⟩ := Option.bind_eq_some_iff.mp q0
      obtain ⟨o, q2, q0⟩ := Option.bind_eq_some_iff.mp q0
      obtain ⟨u, q3, rfl⟩ := Option.map_eq_some_iff.mp q0
      exact xs_aug kk.nd (nm q1) (lc hb) (R.e kk q3) (opI_ok q2) (.inl (k.fn _))
    · cases q0
  · cases q0
    exact xs_doc
  · split at q0
    · cases q0
    · rename_i hb
      obtain ⟨u, q1, rfl⟩ := Option.map_eq_some_iff.mp q0
      exact xs_drop (R.e kk q1) (by simpa using hb)
  · cases q0
    exact xs_retN
  · obtain ⟨u, q1, rfl⟩ := Option.map_eq_some_iff.mp q0
    exact xs_ret (R.e kk q1)
  · obtain ⟨u, q1, q0⟩ := Option.bind_eq_some_iff.mp q0
    obtain ⟨x, q2, q0⟩ := Option.bind_eq_some_iff.mp q0
    obtain ⟨y, q3, rfl⟩ := Option.map_eq_some_iff.mp q0
    exact xs_if (R.t kk q1) (ss q2) (ss q3)
  · obtain ⟨u, q1, q0⟩ := Option.bind_eq_some_iff.mp q0
    obtain ⟨x, q2, rfl⟩ := Option.map_eq_some_iff.mp q0
    exact xs_while k.po (R.t kk q1) (ss q2)
  · split at q0
    · cases q0
    · rename_i hb
      obtain ⟨wi, q1, q0⟩ := Option.bind_eq_some_iff.mp q0
      obtain ⟨g, q2, q0⟩ := Option.bind_eq_some_iff.mp q0
      obtain ⟨x, q3, rfl⟩ := Option.map_eq_some_iff.mp q0
      exact xs_for k.po kk.calm (trI_ok kk (fun h => R.e kk h) q1) (trG_ok R kk k.fn q2).1 (ss q3) (isSet_ok (by simpa using hb) _)
  · cases q0
    exact xs_pass
  · cases q0
    exact xs_break
  · cases q0
    exact xs_cont
  · split at q0
    · rename_i hb
      rw [Bool.and_eq_true, Bool.not_eq_true'] at hb
      obtain ⟨ps, q1, q0⟩ := Option.bind_eq_some_iff.mp q0
      obtain ⟨u, q2, rfl⟩ := Option.map_eq_some_iff.mp q0
      obtain ⟨j, T, rm⟩ := kk.excs _ _ q1
      obtain ⟨l1, l2⟩ := trL_ok (fun h => R.e kk h) q2
      exact xs_raise kk.calm T rm kk.tk (kk.gl hb.1) l1 (dunder_ok hb.2).1 l2
    · cases q0
  · obtain ⟨l, q1, q0⟩ := Option.bind_eq_some_iff.mp q0
    obtain ⟨u, q2, rfl⟩ := Option.map_eq_some_iff.mp q0
    exact xs_try k.st k.fr kk.nd kk.tk kk.xf (fun V pn xe h1 h2 => trSs_ok (fun h => Q.s (k.tr h1 h2) h) q2) (trHs_ok kk q1)
  · cases q0
def trT (E : Tr) : Nat → TS'
  | 0 => ⟨fun _ _ => none⟩
  | n + 1 => ⟨fun c st => some ((stS E (trT E n) c st).getD sBad)⟩
theorem bad_ok {r : TS'} (Q : TSOk r) : TSOk ⟨fun c st => some ((r.s c st).getD sBad)⟩ := by
  refine ⟨fun {c X W st w} k q => ?_⟩
  have q1 : (r.s c st).getD sBad = w := Option.some.inj q
  cases q0 : r.s c st with
  | none =>
    rw [q0] at q1
    subst q1
    exact xs_bad
  | some w' =>
    rw [q0] at q1
    obtain rfl : w' = w := q1
    exact Q.s k q0
theorem trT_ok {E : Tr} (R : TrOk E) : ∀ n, TSOk (trT E n)
  | 0 => by
    refine ⟨?_⟩
    intro c X W st w k h
    cases h
  | n + 1 => bad_ok (r := ⟨stS E (trT E n)⟩) (stS_ok R (trT_ok R n))
/-- a body -/
def trB (c : TC) (b : List Stmt) : Option WS := trSs ((trT (tr 40) 20).s c) b
theorem trB_ok {c : TC} {X : Cx} {W : WX} {b : List Stmt} {w : WS} (k : Sok c X W) (q : trB c b = some w) : Xss X W b w := trSs_ok (fun h => (trT_ok (tr_ok 40) 20).s k h) q
end Ab
end
section
/-! Ab13: a def keeps the promise that its text is. -/
namespace Ab
open PySem PySem.Spec PyProof.Rows L2
/-- the entry's slots -/
def entry (n : Nat) (ds : List D) : Env := ds.map some ++ List.replicate (n - ds.length) none
/-- the promise: what the text comes to -/
def spOf (n : Nat) (w : WS) : ASp := fun ds m R => w (entry n ds) m ⟨fun _ m => R (.ret .non) m, fun d m => R (.ret d) m, fun _ _ => False, fun _ _ => False, fun x _ m => R (.exc x) m⟩
theorem Rm.deeper {k : Nat} {A : Around} (r : Rm (k + 1) A) (env : PySem.Env) : Rm k (A.deeper env) := ⟨r.room.deeper env, r.gd⟩
theorem Rm.mono {j k : Nat} {A : Around} (r : Rm k A) (h : j ≤ k) : Rm j A := ⟨r.room.mono h, r.gd⟩
/-- what is known of the names that a body calls -/
structure Tab (P : Program) (w : World) (K : PySem.W.Frag) (mg : Str → Option Value) (base : Heap) (k : Nat) (c : TC) : Prop where
  fns : ∀ x n sp, c.fns.lookup x = some (n, sp) → ∃ j, j ≤ k ∧ CalA P w K mg base j x n sp
  blt : ∀ x ∈ bltNames, mg x = none
  cons : ∀ x d, c.cons.lookup x = some d → ∃ v u, mg x = some u ∧ RelV v u ∧ ∀ F, Rep K F d v
  excs : ∀ x ps, c.excs.lookup x = some ps → ∃ j, j + 1 ≤ k ∧ XCls P w K mg base j x ps
  xf : XF K mg c.xs c.fs
  own : OwnC K mg c.cls
  ms : ∀ C m n sp, mLook C m c.cls.ms = some (n, sp) → ∃ j, j + 1 ≤ k ∧ MetA P w K mg base j C m n sp
section
variable {P : Program} {w : World} {K : PySem.W.Frag} {mg : Str → Option Value} {base : Heap} {k : Nat} {c : TC}
theorem sok_of {qual : Str} {scope : Scope} {f : Addr} {cd : Value} {A : Around} {outer : List PySem.Env} {s : Shared} {H : Hp} {E : XK} {ps : List Str} (M : Tab P w K mg base k c) (hK : c.K = K) (hS : c.sc = scope) (S : FnScope c.N ps scope) (hr : Rm k (A.deeper (envOfC qual scope s.heap.objs.size f cd))) :
    Sok c (cxOf (L2.CX P w) P w K mg base c.N qual scope f cd A outer s H E) (fun cls d _ H => E cls d H) where
  k := {
    K := hK.symm
    N := rfl
    nd := S.nd
    sc := hS.symm
    calm := rfl
    gd := hr.gd
    un := by have := hr.room.un; show (A.deeper _).units + 164 < cLine; omega
    tk := takes_of (X := cxOf (L2.CX P w) P w K mg base c.N qual scope f cd A outer s H E) (E := E) rfl rfl rfl rfl
    fns := fun x n sp h => by
      obtain ⟨j, hj, C⟩ := M.fns x n sp h
      exact ⟨j, C, hr.mono hj⟩
    blt := M.blt
    cons := M.cons
    excs := fun x ps h => by
      obtain ⟨j, hj, T⟩ := M.excs x ps h
      exact ⟨j, T, hr.room.mono hj⟩
    xf := M.xf
    own := M.own
    ms := fun C m n sp h => by
      obtain ⟨j, hj, C'⟩ := M.ms C m n sp h
      exact ⟨j, C', hr.mono hj⟩ }
  po := passes_of (X := cxOf (L2.CX P w) P w K mg base c.N qual scope f cd A outer s H E) rfl
  st := rfl
  fr := rfl
  fn := fun _ => rfl
  bk := by
    show (if scope.kind.isAnnotationScope = true then ScopeKind.function else scope.kind) = .function
    rw [S.kind]
    rfl
theorem renv_entry {F : Hp} {N : List Str} : ∀ {ds : List D} {vs : List V}, RepL K F ds vs → REnv K F (entry N.length ds) (L2.start N vs) := by
  intro ds vs r
  have hl := r.len
  refine ⟨by unfold entry L2.start; simp [hl], fun i d h => ?_⟩
  unfold entry at h
  have hi : i < ds.length := by
    by_cases hi : i < ds.length
    · exact hi
    · rw [List.getElem?_append_right (by simpa using hi), List.getElem?_replicate] at h
      split at h <;> cases h
  rw [List.getElem?_append_left (by simpa using hi), List.getElem?_map] at h
  cases e : ds[i]? with
  | none => rw [e] at h; cases h
  | some d' =>
    rw [e] at h
    cases h
    obtain ⟨v, q1, q2⟩ := r.get e
    refine ⟨v, ?_, q2⟩
    unfold L2.start
    rw [List.getElem?_append_left (by rw [List.length_map, hl]; exact hi), List.getElem?_map, q1]
    rfl
theorem fnA_of {f : Addr} {name qual : Str} {params : Arguments} {body : List Stmt} {scope : Scope} {dV kV doc pm cdv ct oc : Value} {an od : Option Addr} {osl : Array (Option Value)} {ps : List Str} {ww : WS} (M : Tab P w K mg base k c) (hK : c.K = K) (hS : c.sc = scope) (S : FnScope c.N ps scope)
    (lk : K.lookup f = some ⟨oc, od, .func (PySem.W.fnOf name qual params body scope dV kV doc pm an cdv ct), osl⟩) (hcd : PySem.W.codeIn K cdv qual = true) (q : trB c body = some ww) :
    FnA P w K mg base (k + 1) f (PySem.W.fnOf name qual params body scope dV kV doc pm an cdv ct) ps (toSp K ps.length (spOf c.N.length ww)) := by
  have len : ∀ vs H Q E, toSp K ps.length (spOf c.N.length ww) vs H Q E → vs.length = ps.length := fun vs H Q E ⟨F, m, ds, R, r, hl, _⟩ => by rw [r.len]; exact hl
  refine ⟨len, ?_⟩
  intro A outer s H args us vs Q E hr e0 hb rv hsp
  have inK : K.In s.heap := e0.mod.kin.keeps fun b o e => (e0.bs b o e).1
  refine codeAny_call_function hr.room.depth (inK _ _ lk) rfl S.co S.gen rfl (PySem.W.codeRec_of inK hcd) (hb _ _ _ _ (wpAny_newFunctionEnv_cells S.kind (fun y hy => ?_) fun env he s1 x => ?_))
  · rcases S.par y.1 (List.of_mem_zip (show (y.1, y.2) ∈ ps.zip us from hy)).1 with z | z
    · exact .inl z
    · exact .inr ⟨z, PySem.W.cellsFrom_some _ _ _ (.inl z)⟩
  · subst he
    have lim : s.heap.NoLimit := e0.mod.nolimit.keeps fun b o e => (e0.bs b o e).1
    refine ⟨lim.keeps x.toInCall.keep, codeAny_func ?_⟩
    obtain ⟨t, pt, gt⟩ := (trB_ok (sok_of (A := A) (outer := outer) (s := s) (H := H) (E := E) (qual := qual) (f := f) (cd := cdv) M hK hS S (hr.deeper _)) q).ex
    obtain ⟨F, m, ds, R, r1, r2, hm, hw, hR, hX⟩ := hsp
    have J0 := inv_start (CX := L2.CX P w) (E := E) S hr.room.hd e0 (len vs H Q E ⟨F, m, ds, R, r1, r2, hm, hw, hR, hX⟩) rv x
    have go := gt.run (P := ⟨fun _ m => R (.ret .non) m, fun d m => R (.ret d) m, fun _ _ => False, fun _ _ => False, fun x _ m => R (.exc x) m⟩) (E := { nx := fun _ H' => Q .non H', rt := Q }) hm (renv_entry (N := c.N) r1) hw ⟨fun v1 m1 F1 H1 σ1 a b d e => hR .non m1 F1 H1 _ a d rep_non, fun d1 m1 F1 H1 v1 a b d e => hR d1 m1 F1 H1 v1 a d e, fun v1 m1 F1 H1 σ1 a b d e => a, fun v1 m1 F1 H1 σ1 a b d e => a, fun x1 v1 m1 F1 σ1 H1 dd a b d e g => hX x1 m1 F1 H1 dd a d g⟩
    refine wpAny_mono (pt.run [] s1 _ H _ J0 go) (fun fl s' hs => ?_) fun _ _ z => z
    cases fl with
    | ret u =>
      obtain ⟨v, σ1, H1, J, r, h⟩ := hs
      exact ⟨v, H1, J.os, J.bare, J.base, J.hok, r, h⟩
    | next =>
      obtain ⟨σ1, H1, J, h⟩ := hs
      exact ⟨V.non, H1, J.os, J.bare, J.base, J.hok, (rfl : RelV V.non Value.none), h⟩
    | brk =>
      obtain ⟨_, _, _, h⟩ := hs
      cases h
    | cont =>
      obtain ⟨_, _, _, h⟩ := hs
      cases h
theorem calA_of {f : Addr} {name qual : Str} {params : Arguments} {body : List Stmt} {scope : Scope} {dV kV doc pm cdv ct oc : Value} {an od : Option Addr} {osl : Array (Option Value)} {ps : List Str} {ww : WS} {x : Str} (M : Tab P w K mg base k c) (hK : c.K = K) (hS : c.sc = scope) (S : FnScope c.N ps scope)
    (lk : K.lookup f = some ⟨oc, od, .func (PySem.W.fnOf name qual params body scope dV kV doc pm an cdv ct), osl⟩) (hcd : PySem.W.codeIn K cdv qual = true) (q : trB c body = some ww) (hm : mg x = some (.ref f)) (hk : PySem.W.keepIn K (.ref f) = true) (hb : Binds K (PySem.W.fnOf name qual params body scope dV kV doc pm an cdv ct) ps []) :
    CalA P w K mg base (k + 1) x ps.length (spOf c.N.length ww) := ⟨f, _, ps, fnA_of M hK hS S lk hcd q, hm, hk, hb⟩
theorem CalA.mono {x : Str} {n j : Nat} {sp : ASp} (C : CalA P w K mg base j x n sp) (h : j ≤ k) : CalA P w K mg base k x n sp := by
  obtain ⟨f, fd, ps, F, a, b, d⟩ := C.ex
  exact ⟨f, fd, ps, ⟨F.len, fun A outer s H args us vs Q E hr => F.run A outer s H args us vs Q E (hr.mono h)⟩, a, b, d⟩
end
end Ab
end
section
/-! Ab14: own exceptions' making; what the head tells; the law's end. -/
namespace Ab
open PySem PySem.Spec PyProof.Rows L2
/-! ### Base.__init__(self, ..), Base an own class that has ValueError's -/
structure BaseC (K : PySem.W.Frag) (C : Addr) : Prop where
  sp : PySem.W.specialIn K (.ref C) "__getattribute__" = some (some (.builtin "type.__getattribute__"))
  rd : PySem.W.readsIn K C (.type "type") = true
  fi : PySem.W.findCls K (.ref C) (.type "type") "__init__" = some (.val (.builtin "ValueError.__init__"))
def baseB (K : PySem.W.Frag) (C : Addr) : Bool := decide (PySem.W.specialIn K (.ref C) "__getattribute__" = some (some (.builtin "type.__getattribute__"))) && (PySem.W.readsIn K C (.type "type") && (match PySem.W.findCls K (.ref C) (.type "type") "__init__" with
  | some (.val v) => decide (v = .builtin "ValueError.__init__")
  | _ => false))
theorem baseB_ok {K : PySem.W.Frag} {C : Addr} (h : baseB K C = true) : BaseC K C := by
  obtain ⟨h1, h⟩ := Bool.and_eq_true_iff.mp h
  obtain ⟨h2, h⟩ := Bool.and_eq_true_iff.mp h
  refine ⟨of_decide_eq_true h1, h2, ?_⟩
  cases e : PySem.W.findCls K (.ref C) (.type "type") "__init__" with
  | none => rw [e] at h; cases h
  | some r =>
    rw [e] at h
    cases r with
    | val v => rw [show v = _ from of_decide_eq_true h]
    | get => cases h
section
variable {X : Cx} {o e : Expr} {es : List Expr} {ta : TA} {p p' p1 p2 pos : Pos}
theorem pe_binit {x : Str} {C : Addr} {pl : Sem Bool} (B : BaseC X.K C) (hg : Gl X x) (hm : X.mg x = some (.ref C)) (hd : (x == ("__debug__" : Str)) = false) (ha : PA X (e :: es) ta)
    (hc : eval (.Call (.Attribute (.Name x p1) "__init__" p2) (e :: es) [] pos) X.env = (do
      let ov ← eval (.Name x p1) X.env
      standAt p2.atName
      let (f, first) ← holding [ov] (getMethod ov "__init__" pl)
      callWith pos f first (backTo pos (starEach (e :: es) X.env)) (backToKw pos (keywordEach [] X.env))) := by rfl)
    (he : starEach (e :: es) X.env = (false, eval e X.env) :: starEach es X.env) (hpl : (backTo pos (starEach es X.env)).any (·.1) = false) :
    PE X (.Call (.Attribute (.Name x p1) "__init__" p2) (e :: es) [] pos) (tVeI X.K ta) := by
  refine ⟨fun pins s σ H Q I h => ?_⟩
  refine PySem.W.methodCall_KW (ld_glob I hg hm (PySem.W.method_cls I.kIn B.sp (PySem.W.cls_value I.kIn B.rd B.fi (by decide +kernel) ?_)) hd) hc
  show wpAny _ _ (callWith pos (Value.builtin "ValueError.__init__") [] (backTo pos (starEach (e :: es) X.env)) []) _ _ _
  refine callWith_method1 (thn (ha.run pos pins _ σ H _ (I.tok _) h) fun us s1 ⟨vs, H1, I1, r1, q0⟩ => ?_) he hpl
  obtain ⟨a, C', ws, rfl, hl, T, ea, q⟩ := q0
  obtain ⟨u0, ur, rfl, ra, rw'⟩ : ∃ u0 ur, us = u0 :: ur ∧ RelV (.ref a) u0 ∧ Vals ws ur := by
    cases r1 with
    | cons ra rw' => exact ⟨_, _, rfl, ra, rw'⟩
  obtain rfl : u0 = Value.ref a := ra
  exact oinit_ok T I1 ea (by rw [← Paired.length rw', sizeLine_eq]; omega) fun s' J => ⟨.non, H1, J, rfl, q⟩
end
theorem mcall_eq {x n y : Str} {k : Const} {j : Nat} {p1 p2 p3 p4 pos : Pos} {env : PySem.Env} (hl : (p2.endLine == pos.line) = true) : eval (.Call (.Attribute (.Name x p1) n p2) [.Name y p3, .Constant k j p4] [] pos) env = (do
      let ov ← eval (.Name x p1) env
      standAt p2.atName
      let (f, first) ← holding [ov] (getMethod ov n (do return (← importBound (.Name x p1) env).getD true))
      callWith pos f first (backTo pos (starEach [.Name y p3, .Constant k j p4] env)) (backToKw pos (keywordEach [] env))) := by
  have e : methodCallPos true (.Name x p1) env p2 pos = pure pos := by
    unfold methodCallPos
    rw [hl]
    rfl
  show (do
      let ov ← eval (.Name x p1) env
      standAt p2.atName
      let (f, first) ← holding [ov] (getMethod ov n (do return (← importBound (.Name x p1) env).getD true))
      let cp ← methodCallPos true (.Name x p1) env p2 pos
      callWith cp f first (backTo pos (starEach [.Name y p3, .Constant k j p4] env)) (backToKw pos (keywordEach [] env))) = _
  rw [e]
  rfl
/-- the text of such an __init__: one field -/
def iniB : List Stmt → Option (Str × Str)
  | [.Expr (.Call (.Attribute (.Name b _) i p2) [.Name s _, .Constant (.str _) _ _] [] pos) _, .Assign [.Attribute (.Name s' _) f _] (.Name f' _) _] => if i = "__init__" ∧ s = "self" ∧ s' = "self" ∧ f' = f ∧ (p2.endLine == pos.line) = true then some (b, f) else none
  | _ => none
theorem ok_ini {P : Program} {w : World} {K : PySem.W.Frag} {mg : Str → Option Value} {base : Heap} {qual : Str} {params : Arguments} {body : List Stmt} {scope : Scope} {f : Addr} {fd : FuncData} {b fld : Str} {C CB : Addr} (F : FunD K "__init__" qual params body scope [] [] f fd) (hb : iniB body = some (b, fld))
    (S : FnScope ["self", fld] ["self", fld] scope) (hs : isPl scope "self" = true) (hf : isPl scope fld = true) (hg : isGl scope b = true) (h2 : dunder fld = false) (h3 : dunder b = false) (B : BaseC K CB) (hm : mg b = some (.ref CB)) (T : OexC K C) (no : PySem.W.findIn K (.ref C) fld = some none) :
    FnOk P w K mg base CX0 1 f fd ["self", fld] (spXI C 1 [fld]) := by
  refine F.ok S (fun vs H Q E h => ?_) (fun cdv A outer s H vs Q E hr h => ?_)
  · obtain ⟨a, ys, rfl, h1, _⟩ := h
    simp [h1]
  · unfold iniB at hb
    split at hb
    · split at hb
      · rename_i hh
        obtain ⟨rfl, rfl, rfl, rfl, hl⟩ := hh
        cases hb
        have v0 : ∀ {p : Pos}, PE (cxOf CX0 P w K mg base ["self", fld] qual scope f cdv A outer s H E) (.Name "self" p) (tVar 0) := pe_var rfl (.inl (isPl_ok hs)) (by decide) (by decide)
        have v1 : ∀ {p : Pos}, PE (cxOf CX0 P w K mg base ["self", fld] qual scope f cdv A outer s H E) (.Name fld p) (tVar 1) := pe_var rfl (.inl (isPl_ok hf)) (dunder_ok h2).1 (dunder_ok h2).2
        refine ⟨_, pss_cons (ps_expr (pe_binit B (isGl_ok hg) hm (dunder_ok h3).1 (pa_cons v0 (pa_cons pe_str pa_nil)) (mcall_eq hl) rfl rfl)) (pss_one (ps_ost v0 v1)), ?_⟩
        obtain ⟨a, ys, rfl, h1, _, ha, k⟩ := h
        obtain ⟨y, rfl⟩ : ∃ y, ys = [y] := List.length_eq_one_iff.mp h1
        refine ⟨_, rfl, a, C, [V.str _], rfl, by show 1 ≤ 1000; decide, T, ha, _, rfl, _, rfl, a, C, rfl, T, no, .inl ⟨ha, fun dx n ne => ?_⟩⟩
        exact k dx n ne
      · cases hb
    · cases hb
/-! ### Bool facts of the exception classes -/
def oexB (K : PySem.W.Frag) (C : Addr) : Bool := (match K.lookup C with
  | some ⟨.type t, _, .cls cd, sl⟩ => (match cd.mro, sl.toList with
    | .ref C' :: bm, [_, _, _, _, some (.builtin n), _] => decide (t = "type") && (decide (C' = C) && (decide (n = "ValueError.__new__") && (!cd.hasDel && (cd.hasDict && PySem.HandSPX.refsVE bm))))
    | _, _ => false)
  | _ => false) && (He.eqO (PySem.W.findIn K (.ref C) "__setattr__") (some (some (.builtin "object.__setattr__"))) && (decide (PySem.W.subIn K (.ref C) (.type "BaseException") = some true) && (decide (PySem.W.typeIn K (.ref C) = some (.type "type")) && PySem.W.keepIn K (.ref C))))
theorem oexB_ok {K : PySem.W.Frag} {C : Addr} (h : oexB K C = true) : OexC K C := by
  obtain ⟨q, h⟩ := Bool.and_eq_true_iff.mp h
  obtain ⟨h2, h⟩ := Bool.and_eq_true_iff.mp h
  obtain ⟨h3, h⟩ := Bool.and_eq_true_iff.mp h
  obtain ⟨h4, h5⟩ := Bool.and_eq_true_iff.mp h
  refine ⟨?_, He.eqO_ok h2, of_decide_eq_true h3, of_decide_eq_true h4, h5⟩
  split at q
  · rename_i t dd cd sl ho
    split at q
    · rename_i C' bm k0 k1 k2 k3 n k5 hm hs
      simp only [Bool.and_eq_true, decide_eq_true_eq, Bool.not_eq_true'] at q
      obtain ⟨rfl, rfl, rfl, q1, q2, q3⟩ := q
      obtain ⟨nm, bs, mro, ns, qn, hd, sn, sub, ab, col, del⟩ := cd
      dsimp only at hm q1 q2
      subst hm q1 q2
      have esl : sl = #[k0, k1, k2, k3, some (.builtin "ValueError.__new__"), k5] := by
        cases sl
        simpa using hs
      subst esl
      exact ⟨nm, qn, ns, bs, bm, sn, sub, ab, col, dd, k0, k1, k2, k3, k5, ho, q3⟩
    · cases q
  · cases q
/-- one own exception class: its fields -/
def excB (K : PySem.W.Frag) (x : Str) (fs : List Str) : Bool := oexB K (He.ga K x) && (xfB K (He.ga K x) && ((Fa.ok' K x) && fs.all fun f => He.eqO (PySem.W.findIn K (.ref (He.ga K x)) f) (some none)))
where Fa.ok' (K : PySem.W.Frag) (x : Str) : Bool := He.eqO (PySem.W.findIn K (.ref (He.ga K x)) "__init__") (some (some (.ref (He.ma K (He.ga K x) "__init__")))) && decide (PySem.W.typeIn K (.ref (He.ma K (He.ga K x) "__init__")) = some (.type "function"))
structure ExcF (K : PySem.W.Frag) (x : Str) (fs : List Str) : Prop where
  oex : OexC K (He.ga K x)
  xfc : XfC K (He.ga K x)
  ini : PySem.W.findIn K (.ref (He.ga K x)) "__init__" = some (some (.ref (He.ma K (He.ga K x) "__init__")))
  fun_ : PySem.W.typeIn K (.ref (He.ma K (He.ga K x) "__init__")) = some (.type "function")
  no : ∀ f ∈ fs, PySem.W.findIn K (.ref (He.ga K x)) f = some none
theorem excB_ok {K : PySem.W.Frag} {x : Str} {fs : List Str} (h : excB K x fs = true) : ExcF K x fs := by
  obtain ⟨h1, h⟩ := Bool.and_eq_true_iff.mp h
  obtain ⟨h2, h⟩ := Bool.and_eq_true_iff.mp h
  obtain ⟨h3, h4⟩ := Bool.and_eq_true_iff.mp h
  obtain ⟨h5, h6⟩ := Bool.and_eq_true_iff.mp h3
  exact ⟨oexB_ok h1, xfB_ok h2, He.eqO_ok h5, of_decide_eq_true h6, fun f hf => He.eqO_ok (List.all_eq_true.mp h4 f hf)⟩
def xfAll (K : PySem.W.Frag) (xs fs : List Str) : Bool := xs.all fun x => excB K x fs && (He.eqO (PySem.W.nsIn K mainGlobals x) (some (some (.ref (He.ga K x)))) && xs.all fun y => decide (PySem.W.exmOne K (.ref (He.ga K x)) (.ref (He.ga K y)) = some (decide (x = y))))
theorem xfAll_ok {K : PySem.W.Frag} {h : Heap} {mg : Str → Option Value} (X : K.In h) (G : h.Ns mainGlobals mg) {xs fs : List Str} (q : xfAll K xs fs = true) : XF K mg xs fs ∧ ∀ x ∈ xs, ExcF K x fs := by
  have q1 := fun x hx => Bool.and_eq_true_iff.mp (List.all_eq_true.mp q x hx)
  have q2 := fun x hx => Bool.and_eq_true_iff.mp (q1 x hx).2
  refine ⟨⟨fun x hx y hy => of_decide_eq_true (List.all_eq_true.mp (q2 x hx).2 y hy), fun x hx => (excB_ok (q1 x hx).1).xfc, fun x hx f hf => (excB_ok (q1 x hx).1).no f hf, fun x hx => PySem.W.mg_of X G (He.eqO_ok (q2 x hx).1)⟩, fun x hx => excB_ok (q1 x hx).1⟩
/-! ### own classes -/
def oneB (K : PySem.W.Frag) (C : Addr) : Bool :=
  PySem.W.plainGet K C Str.empty && (PySem.W.hasDictIn K C && (PySem.W.plainOver K C && (He.eqO (PySem.W.findIn K (.ref C) "__setattr__") (some (some (.builtin "object.__setattr__"))) && (PySem.W.makesIn K C && (PySem.W.keepIn K (.ref C) &&
  (decide (PySem.W.specialIn K (.ref C) "__getattribute__" = some (some (.builtin "type.__getattribute__"))) && (PySem.W.readsIn K C (.type "type") && ((match PySem.W.findIn K (.ref C) "__init__" with
    | some (some (.ref g)) => (match PySem.W.findCls K (.ref C) (.type "type") "__init__" with
      | some (.val v) => decide (v = .ref g)
      | _ => false)
    | _ => true) && (He.eqO (PySem.W.findIn K (.ref C) "__class__") (some (some (.builtin "object.__class__"))) && decide (PySem.W.mroIn K C (.type "object") = some true))))))))))
theorem oneB_ok {K : PySem.W.Frag} {C : Addr} (h : oneB K C = true) : OneC K C := by
  obtain ⟨h1, h⟩ := Bool.and_eq_true_iff.mp h
  obtain ⟨h2, h⟩ := Bool.and_eq_true_iff.mp h
  obtain ⟨h3, h⟩ := Bool.and_eq_true_iff.mp h
  obtain ⟨h4, h⟩ := Bool.and_eq_true_iff.mp h
  obtain ⟨h5, h⟩ := Bool.and_eq_true_iff.mp h
  obtain ⟨h6, h⟩ := Bool.and_eq_true_iff.mp h
  obtain ⟨h7, h⟩ := Bool.and_eq_true_iff.mp h
  obtain ⟨h8, h⟩ := Bool.and_eq_true_iff.mp h
  obtain ⟨h9, h⟩ := Bool.and_eq_true_iff.mp h
  obtain ⟨h10, h11⟩ := Bool.and_eq_true_iff.mp h
  refine ⟨⟨h1, h2, h3, He.eqO_ok h4⟩, h5, h6, of_decide_eq_true h7, h8, fun g e => ?_, He.eqO_ok h10, of_decide_eq_true h11⟩
  rw [e] at h9
  split at h9
  · rename_i g' e'
    cases e'
    split at h9
    · rename_i v e2
      rw [show v = Value.ref g from of_decide_eq_true h9] at e2
      exact e2
    · cases h9
  · rename_i hh
    exact absurd rfl (hh g)
/-- methods: a class, a name, the class whose def it is -/
abbrev MsL := List (Str × Str × Str)
def ownB (K : PySem.W.Frag) (cs fl : List Str) (sub : List (Str × Str)) (ms : MsL) : Bool :=
  (cs.all fun C => oneB K (He.ga K C) && (He.eqO (PySem.W.nsIn K mainGlobals C) (some (some (.ref (He.ga K C)))) && ((fl.all fun f => He.eqO (PySem.W.findIn K (.ref (He.ga K C)) f) (some none)) && (cs.all (fun D => decide (PySem.W.kitOne K (.ref (He.ga K C)) (.ref (He.ga K D)) = some (decide ((C, D) ∈ sub)))) && ("NoneType" :: tyNames).all fun a => decide (PySem.W.kitOne K (.type a) (.ref (He.ga K C)) = some false))))) &&
  ((cs.isEmpty || (decide (PySem.W.specialIn K (.builtin "object.__class__") "__get__" = some (some (.builtin "getset_descriptor.__get__"))) && decide (PySem.W.takesIn K (.builtin "object.__class__") = some true))) &&
  ms.all fun p => He.eqO (PySem.W.findIn K (.ref (He.ga K p.1)) p.2.1) (some (some (.ref (He.ma K (He.ga K p.2.2) p.2.1)))) && PySem.W.isFn K (.ref (He.ma K (He.ga K p.2.2) p.2.1)))
theorem ownB_ok {K : PySem.W.Frag} {h : Heap} {mg : Str → Option Value} (X : K.In h) (G : h.Ns mainGlobals mg) {cs fl : List Str} {sub : List (Str × Str)} {ms : MsL} (q : ownB K cs fl sub ms = true) :
    (∀ l, OwnC K mg ⟨cs, fl, l, sub⟩) ∧ ∀ p ∈ ms, PySem.W.findIn K (.ref (He.ga K p.1)) p.2.1 = some (some (.ref (He.ma K (He.ga K p.2.2) p.2.1))) ∧ PySem.W.isFn K (.ref (He.ma K (He.ga K p.2.2) p.2.1)) = true := by
  obtain ⟨q1, q⟩ := Bool.and_eq_true_iff.mp q
  obtain ⟨q2, q3⟩ := Bool.and_eq_true_iff.mp q
  have a1 := fun C hC => Bool.and_eq_true_iff.mp (List.all_eq_true.mp q1 C hC)
  have a2 := fun C hC => Bool.and_eq_true_iff.mp (a1 C hC).2
  have a3 := fun C hC => Bool.and_eq_true_iff.mp (a2 C hC).2
  have a4 : cs ≠ [] → _ ∧ _ := fun hne => Bool.and_eq_true_iff.mp ((Bool.or_eq_true_iff.mp q2).resolve_left (fun z => hne (List.isEmpty_iff.mp z)))
  refine ⟨fun l => ⟨fun C hC => oneB_ok (a1 C hC).1, fun C hC => PySem.W.mg_of X G (He.eqO_ok (a2 C hC).1), fun C hC f hf => He.eqO_ok (List.all_eq_true.mp (a3 C hC).1 f hf), fun hne => of_decide_eq_true (a4 hne).1, fun hne => of_decide_eq_true (a4 hne).2, fun C hC D hD => of_decide_eq_true (List.all_eq_true.mp (Bool.and_eq_true_iff.mp (a3 C hC).2).1 D hD), fun C hC a ha => of_decide_eq_true (List.all_eq_true.mp (Bool.and_eq_true_iff.mp (a3 C hC).2).2 a ha)⟩, fun p hp => ?_⟩
  obtain ⟨b1, b2⟩ := Bool.and_eq_true_iff.mp (List.all_eq_true.mp q3 p hp)
  exact ⟨He.eqO_ok b1, b2⟩
/-! ### the hook -/
abbrev AlX : Type := He.AlD × Bool
def obsX (fa : List He.Fa) (fn : List He.DefD) (b : PySem.W.Frag → Bool) (K : PySem.W.Frag) : AlX := ⟨He.obsD fa fn K, b K⟩
def valX (fn : List He.DefD) : AlX := ⟨He.valD fn, true⟩
def SaysX (fa : List He.Fa) (fn : List He.DefD) (b : PySem.W.Frag → Bool) (K : PySem.W.Frag) : Prop := obsX fa fn b K = valX fn
/-! ### .. over addresses that are written down (asD's own dropping of doubles costs a square) -/
def obsXL (as : List Addr) (fa : List He.Fa) (fn : List He.DefD) (b : PySem.W.Frag → Bool) (g : Addr → Option Obj) : AlX := obsX fa fn b (He.frG g as)
def hookL (as : List Addr) (fa : List He.Fa) (fn : List He.DefD) (b : PySem.W.Frag → Bool) : PySem.W.Hook := ⟨AlX, fun s => obsXL as fa fn b s.heap.get?, fun _ => valX fn, fun _ h => ∃ K : PySem.W.Frag, K.In h ∧ SaysX fa fn b K, fun _ _ e => ⟨_, He.frG_in, e⟩, fun _ _ _ ⟨K, hK, c⟩ k => ⟨K, hK.keeps k, c⟩⟩
theorem obsXL_eq {as : List Addr} {fa : List He.Fa} {fn : List He.DefD} {b : PySem.W.Frag → Bool} {g : Addr → Option Obj} {s : Shared} (h : ∀ a, g a = s.heap.get? a) : obsXL as fa fn b g = (hookL as fa fn b).obs s := by
  obtain rfl : g = s.heap.get? := funext h
  rfl
theorem SaysX.d {fa : List He.Fa} {fn : List He.DefD} {b : PySem.W.Frag → Bool} {K : PySem.W.Frag} (c : SaysX fa fn b K) : He.SaysD fa fn K := congrArg Prod.fst c
theorem SaysX.b {fa : List He.Fa} {fn : List He.DefD} {b : PySem.W.Frag → Bool} {K : PySem.W.Frag} (c : SaysX fa fn b K) : b K = true := congrArg Prod.snd c
end Ab
end
section
/-! Ab15: the law's end. -/
namespace Ab
open PySem PySem.Spec PyProof.Rows L2
theorem callerA_rm {k : Nat} (h : Room k callerA) : Rm k callerA := ⟨h, rfl⟩
/-- what is asked of the law's text: whatever the script is, True -/
def LawSp (n : Nat) (sp : ASp) : Prop := ∀ ns : List Int, ns.length ≤ n → (∀ k ∈ ns, Builtin.Int.intBits k ≤ 1048576) → sp [.frl (ns.map D.int)] m0 (fun r _ => match r with
  | .ret (.bl true) => True
  | _ => False)
section
variable {P : Program} {w : World} {K : PySem.W.Frag} {mg mb : Str → Option Value} {k : Nat} {fa a : Addr} {fd : FuncData} {x : Str} {sp : ASp} {s1 : Shared} {vs : List Value} {ns : List Int}
/-- over one abstract heap -/
theorem end_at {H : Hp} (hO : Only H) (hS : SqL K H a (ns.map V.int)) (hok : HOk P w H s1.heap) (only : ∀ b, H b ≠ none → b = a) (hK : H a ≠ none → K.lookup a = none) (KX : K.In s1.heap) (hns : s1.heap.Ns mainGlobals mg) (hb : s1.heap.Ns builtinsNs mb)
    (hbb : ∀ y : Str, y ≠ "__name__" → mb y = bootBuiltins y) (hlim : s1.heap.NoLimit) (hg : s1.gens = #[]) (ha : s1.heap.get? a = some { cls := .type "list", data := .seq vs.toArray }) (hr : Rm k callerA)
    (F : ∀ base : Heap, K.In base → base.Ns mainGlobals mg → FnA P w K mg base k fa fd [x] (toSp K 1 sp)) (hbind : ∀ (s : Shared) (u : Value), BindsTo s fd ⟨[u], []⟩ [(x, u)])
    (hsp : sp [.frl (ns.map D.int)] m0 (fun r _ => match r with
      | .ret (.bl true) => True
      | _ => False)) :
    codeAny (model P w) callerA (.call (.ref fa) ⟨[.ref a], []⟩) (fun r s' => r = .ok (.ret (.bool true)) ∧ OldK s1.heap s'.heap ∧ s'.os = s1.os ∧ AllBare s'.gens) s1 := by
  have free_of : ∀ {b : Addr}, b ≠ a → H b = none := fun {b} n => by
    cases q : H b with
    | none => rfl
    | some u => exact absurd (only b (by rw [q]; exact fun z => nomatch z)) n
  have dict_free : ∀ {b : Addr} {o : Obj} {es : Array DictEntry} {ep : Nat}, s1.heap.get? b = some o → o.data = .dict es ep → H b = none := fun {b o es ep} e d => free_of (by
    rintro rfl
    rw [ha] at e
    cases e
    cases (show Data.seq vs.toArray _ = Data.dict es ep from d))
  have ns_of : ∀ {b : Addr} {m : Str → Option Value}, s1.heap.Ns b m → (hidT s1.heap H).Ns b m := fun ⟨o, es, ep, e, d, r⟩ => ⟨o, es, ep, hidT_get e (dict_free e d), d, r⟩
  have kin : K.In (hidT s1.heap H) := fun b o e => hidT_get (KX b o e) (by
    by_cases hb : b = a
    · subst hb
      cases q : H b with
      | none => rfl
      | some u =>
        rw [hK (by rw [q]; exact fun z => nomatch z)] at e
        cases e
    · exact free_of hb)
  obtain ⟨mc, l1, l2⟩ := hlim
  have md : Mod K mg (hidT s1.heap H) := ⟨kin, ns_of hns, ⟨mb, ns_of hb, hbb⟩, ⟨mc, ns_of l1, l2⟩⟩
  have noF : ∀ b : Addr, b ∉ frs ([] : List PySem.Env) := fun b z => nomatch z
  have env : Env0 P w K mg (hidT s1.heap H) callerA [] s1 H := {
    frames := rfl
    mod := md
    bs := fun b o e => of_hidT e
    bsz := Nat.le_of_eq (hidT_size _ _)
    funs := trivial
    frf := fun b z => absurd z (noF b)
    hok := hok
    bare := .of_eq hg }
  have start : HM K ⟨H, H, m0⟩ H m0 H := ⟨Same.refl _, Same.refl _, fun _ _ q => .inl q, fun _ _ q _ => q, fun _ _ q => (by cases q), fun _ q => q⟩
  have rep : RepL K H [.frl (ns.map D.int)] [.ref a] := RepL.cons (by unfold Rep; exact ⟨a, _, rfl, hS, repL_ints.mpr rfl⟩) RepL.nil
  have promise : toSp K 1 sp [.ref a] H (fun v _ => v = .bl true) (fun _ _ _ => False) := by
    refine ⟨H, m0, _, _, rep, rfl, start, hsp, fun d m' F' H' v hR _ rv => ?_, fun y m' F' H' dd hR _ _ => ?_⟩
    · split at hR
      · rename_i e
        cases e
        unfold Rep at rv
        exact rv
      · exact hR.elim
    · exact hR.elim
  refine codeAny_mono ((F _ kin (ns_of hns)).run callerA [] s1 H ⟨[.ref a], []⟩ [.ref a] [.ref a] _ _ hr env (hbind s1 (.ref a)) (.cons rfl .nil) promise) fun r s' h => ?_
  match r, h with
  | .error e, h =>
    obtain ⟨_, _, _, _, _, _, _, _, _, _, _, _, q⟩ := h
    exact q.elim
  | .ok (.ret u), h =>
    obtain ⟨v, H', os, bare, un, hok', rv, q⟩ := h
    obtain rfl : v = V.bl true := q
    obtain rfl : u = Value.bool true := rv
    refine ⟨rfl, OldK.of_keep fun b o e => ?_, os, bare⟩
    rcases hO b with z | ⟨ob, xs, z⟩
    · exact un.keep b o e z (noF b) (fun y => nomatch y)
    · obtain ⟨e1, _⟩ := hok b _ z
      obtain ⟨e2, _⟩ := hok' b _ (un.frzs b ob _ z)
      exact e2.trans (e1.symm.trans e)
  | .ok .next, h => exact h.elim
  | .ok .brk, h => exact h.elim
  | .ok .cont, h => exact h.elim
theorem end_call (KX : K.In s1.heap) (hns : s1.heap.Ns mainGlobals mg) (hb : s1.heap.Ns builtinsNs mb) (hbb : ∀ y : Str, y ≠ "__name__" → mb y = bootBuiltins y) (hlim : s1.heap.NoLimit) (hg : s1.gens = #[])
    (ha : s1.heap.get? a = some { cls := .type "list", data := .seq vs.toArray }) (hi : IntsAre vs ns) (hl : ns.length ≤ sizeLine) (hr : Rm k callerA)
    (F : ∀ base : Heap, K.In base → base.Ns mainGlobals mg → FnA P w K mg base k fa fd [x] (toSp K 1 sp)) (hbind : ∀ (s : Shared) (u : Value), BindsTo s fd ⟨[u], []⟩ [(x, u)])
    (hsp : sp [.frl (ns.map D.int)] m0 (fun r _ => match r with
      | .ret (.bl true) => True
      | _ => False)) :
    codeAny (model P w) callerA (.call (.ref fa) ⟨[.ref a], []⟩) (fun r s' => r = .ok (.ret (.bool true)) ∧ OldK s1.heap s'.heap ∧ s'.os = s1.os ∧ AllBare s'.gens) s1 := by
  have rv := vals_ints hi
  have lv := hi.length
  cases hk : K.lookup a with
  | some o =>
    have e := (KX a o hk).symm.trans ha
    cases e
    exact end_at (H := fun _ => none) (fun _ => .inl rfl) (.inr ⟨_, vs.toArray, _, hk, rfl, rfl, rfl, by rw [List.size_toArray, lv]; exact hl, by simpa using rv⟩) (fun b u z => by cases z) (fun b z => absurd rfl z) (fun z => absurd rfl z) KX hns hb hbb hlim hg ha hr F hbind hsp
  | none =>
    let H1 : Hp := upd (fun _ => none) a (.frz { cls := .type "list", data := .seq vs.toArray } (.lst (ns.map V.int)))
    have h1 : ∀ {b}, b ≠ a → H1 b = none := fun n => upd_ne n
    have h2 : H1 a = some (.frz { cls := .type "list", data := .seq vs.toArray } (.lst (ns.map V.int))) := upd_same
    refine end_at (H := H1) (fun b => ?_) (.inl (.inr ⟨_, h2⟩)) (fun b u z => ?_) (fun b z => ?_) (fun _ => hk) KX hns hb hbb hlim hg ha hr F hbind hsp
    · by_cases hb : b = a
      · subst hb
        exact .inr ⟨_, _, h2⟩
      · exact .inl (h1 hb)
    · by_cases hb : b = a
      · subst hb
        cases h2.symm.trans z
        exact ⟨ha, by rw [List.length_map]; exact hl, vs, _, rv, ha⟩
      · cases (h1 hb).symm.trans z
    · by_cases hb : b = a
      · exact hb
      · exact absurd (h1 hb) z
end
theorem walkA {l : PySem.W.OpenLaw} {n k : Nat} {q : Program} {loose : List Str} {XP : (Str → Option Value) → Heap → Prop} {YP : World → Heap → Prop} {d : DefRec} {x : Str} (hn : l.most = some n) (hn2 : n ≤ sizeLine) (hdf : d.params.defaults = []) (hr : Room k callerA)
    (F : ∀ (w : World) (mg : Str → Option Value) (fa : Addr) (h : Heap), YP w h → h.Ns mainGlobals mg → mg d.name = some (.ref fa) → ∃ (K : PySem.W.Frag) (fd : FuncData) (sp : ASp), K.In h ∧ (∀ (s : Shared) (u : Value), BindsTo s fd ⟨[u], []⟩ [(x, u)]) ∧
      LawSp n sp ∧ ∀ base : Heap, K.In base → base.Ns mainGlobals mg → FnA l.prog w K mg base k fa fd [x] (toSp K 1 sp)) : PySem.W.WalkO q loose XP YP l.row.toRowW d [] (fun f vs => PySem.call f vs) := by
  refine Att.attach_callB hn hdf fun w s0 s1 mg mb fa o pm cd doc a vs ns G Y _ _ _ hmg hobj hints hlen hbits hg => ?_
  obtain ⟨K, fd, sp, KX, hb, hsp, hF⟩ := F w mg fa _ Y G.T.g hmg
  exact end_call KX G.T.g G.T.b G.T.builtins G.T.nolimit hg hobj hints (Nat.le_trans hlen hn2) (callerA_rm hr) hF hb (hsp ns hlen hbits)
end Ab
end
section
/-! Ab16: a law's defs, one after the other. -/
namespace Ab
open PySem PySem.Spec PyProof.Rows L2
def argsOf : Stmt → Arguments
  | .FunctionDef (args := a) .. => a
  | _ => ⟨[], [], none, [], [], none, []⟩
def bodyOf : Stmt → List Stmt
  | .FunctionDef (body := b) .. => b
  | _ => []
def scopeOf : Stmt → Scope
  | .FunctionDef (scope := s) .. => s
  | _ => ⟨.module, [], false, false, []⟩
def inCls : Stmt → Nat → Stmt
  | .ClassDef (body := b) .., i => b.getD i (.Pass ⟨0, 0, 0, 0⟩)
  | _, _ => .Pass ⟨0, 0, 0, 0⟩
/-- one def of the module -/
structure DF (K : PySem.W.Frag) (mg : Str → Option Value) (x : Str) (st : Stmt) : Prop where
  ex : ∃ f fd, FunD K x x (argsOf st) (bodyOf st) (scopeOf st) [] [] f fd ∧ mg x = some (.ref f)
def BindsN (x : Str) (st : Stmt) (ps : List Str) : Prop := ∀ (kV doc pm : Value) (an : Option Addr) (cdv ct : Value) (us : List Value), us.length = ps.length → bindArgs (PySem.W.fnOf x x (argsOf st) (bodyOf st) (scopeOf st) .none kV doc pm an cdv ct) ⟨us, []⟩ = pure (ps.zip us)
section
variable {P : Program} {w : World} {K : PySem.W.Frag} {mg : Str → Option Value} {base : Heap} {k : Nat} {c : TC} {x : Str} {st : Stmt} {ps : List Str} {ww : WS}
theorem cal_of (D : DF K mg x st) (M : Tab P w K mg base k c) (hK : c.K = K) (hS : c.sc = scopeOf st) (S : FnScope c.N ps (scopeOf st)) (hb : BindsN x st ps) (q : trB c (bodyOf st) = some ww) : CalA P w K mg base (k + 1) x ps.length (spOf c.N.length ww) := by
  obtain ⟨f, fd, F, hm⟩ := D.ex
  have b := FunD.bindsN F hb
  obtain ⟨oc, od, dV, kV, doc, pm, an, cdv, ct, osl, rfl, lk, hcd, _, _⟩ := F.ex
  exact calA_of M hK hS S lk hcd q hm F.kp b
/-- the law's def -/
theorem law_of (D : DF K mg x st) (M : Tab P w K mg base k c) (hK : c.K = K) (hS : c.sc = scopeOf st) (S : FnScope c.N ps (scopeOf st)) (q : trB c (bodyOf st) = some ww) {f : Addr} {fd : FuncData} (F : FunD K x x (argsOf st) (bodyOf st) (scopeOf st) [] [] f fd) :
    FnA P w K mg base (k + 1) f fd ps (toSp K ps.length (spOf c.N.length ww)) := by
  obtain ⟨oc, od, dV, kV, doc, pm, an, cdv, ct, osl, rfl, lk, hcd, _, _⟩ := F.ex
  exact fnA_of M hK hS S lk hcd q
/-- a promise that promises nothing -/
theorem cal_none (D : DF K mg x st) (hb : BindsN x st ps) : CalA P w K mg base k x ps.length (fun _ _ _ => False) := by
  obtain ⟨f, fd, F, hm⟩ := D.ex
  exact ⟨f, fd, ps, ⟨fun vs H Q E ⟨_, _, _, _, _, _, _, q, _⟩ => q.elim, fun _ _ _ _ _ _ _ _ _ _ _ _ _ ⟨_, _, _, _, _, _, _, q, _⟩ => q.elim⟩, hm, F.kp, FunD.bindsN F hb⟩
/-- a method's def -/
structure MF (K : PySem.W.Frag) (B m qual : Str) (st : Stmt) : Prop where
  ex : ∃ fd, FunD K m qual (argsOf st) (bodyOf st) (scopeOf st) [] [] (He.ma K (He.ga K B) m) fd
def BindsM (m qual : Str) (st : Stmt) (ps : List Str) : Prop := ∀ (kV doc pm : Value) (an : Option Addr) (cdv ct : Value) (us : List Value), us.length = ps.length → bindArgs (PySem.W.fnOf m qual (argsOf st) (bodyOf st) (scopeOf st) .none kV doc pm an cdv ct) ⟨us, []⟩ = pure (ps.zip us)
def FnM (P : Program) (w : World) (K : PySem.W.Frag) (mg : Str → Option Value) (base : Heap) (k : Nat) (g : Addr) (n : Nat) (sp : ASp) : Prop := ∃ fd ps, FnA P w K mg base k g fd ps (toSp K n sp) ∧ PySem.W.keepIn K (.ref g) = true ∧ Binds K fd ps []
theorem met_of {B m qual : Str} (D : MF K B m qual st) (M : Tab P w K mg base k c) (hK : c.K = K) (hS : c.sc = scopeOf st) (S : FnScope c.N ps (scopeOf st)) (hb : BindsM m qual st ps) (q : trB c (bodyOf st) = some ww) : FnM P w K mg base (k + 1) (He.ma K (He.ga K B) m) ps.length (spOf c.N.length ww) := by
  obtain ⟨fd, F⟩ := D.ex
  have b := FunD.bindsN F hb
  obtain ⟨oc, od, dV, kV, doc, pm, an, cdv, ct, osl, rfl, lk, hcd, _, _⟩ := F.ex
  exact ⟨_, ps, fnA_of M hK hS S lk hcd q, F.kp, b⟩
theorem FnM.at {C B m : Str} {n : Nat} {sp : ASp} (F : FnM P w K mg base k (He.ma K (He.ga K B) m) n sp) (f : PySem.W.findIn K (.ref (He.ga K C)) m = some (some (.ref (He.ma K (He.ga K B) m))) ∧ PySem.W.isFn K (.ref (He.ma K (He.ga K B) m)) = true) : MetA P w K mg base k C m n sp := by
  obtain ⟨fd, ps, h1, h2, h3⟩ := F
  exact ⟨_, fd, ps, h1, f.1, f.2, h2, h3⟩
inductive Mts (P : Program) (w : World) (K : PySem.W.Frag) (mg : Str → Option Value) (base : Heap) (k : Nat) : List ((Str × Str) × (Nat × ASp)) → Prop
  | nil : Mts P w K mg base k []
  | cons {j n : Nat} {C m : Str} {sp : ASp} {l : List ((Str × Str) × (Nat × ASp))} (F : MetA P w K mg base j C m n sp) (h : j + 1 ≤ k) (r : Mts P w K mg base k l) : Mts P w K mg base k (((C, m), (n, sp)) :: l)
theorem Mts.get {l : List ((Str × Str) × (Nat × ASp))} (h : Mts P w K mg base k l) : ∀ C m n sp, mLook C m l = some (n, sp) → ∃ j, j + 1 ≤ k ∧ MetA P w K mg base j C m n sp := by
  induction h with
  | nil => intro C m n sp e; cases e
  | cons F h r ih =>
    intro C m n sp e
    unfold mLook at e
    split at e
    · rename_i q
      cases e
      obtain ⟨rfl, rfl⟩ := q
      exact ⟨_, h, F⟩
    · exact ih C m n sp e
/-! ### tables -/
inductive Fns (P : Program) (w : World) (K : PySem.W.Frag) (mg : Str → Option Value) (base : Heap) (k : Nat) : List (Str × Nat × ASp) → Prop
  | nil : Fns P w K mg base k []
  | cons {j n : Nat} {x : Str} {sp : ASp} {l : List (Str × Nat × ASp)} (C : CalA P w K mg base j x n sp) (h : j ≤ k) (r : Fns P w K mg base k l) : Fns P w K mg base k ((x, n, sp) :: l)
theorem Fns.get {l : List (Str × Nat × ASp)} (h : Fns P w K mg base k l) : ∀ x n sp, l.lookup x = some (n, sp) → ∃ j, j ≤ k ∧ CalA P w K mg base j x n sp := by
  induction h with
  | nil => intro x n sp e; cases e
  | cons C h r ih =>
    intro y n sp e
    rw [List.lookup_cons] at e
    split at e
    · rename_i q
      cases e
      rw [eq_of_beq q]
      exact ⟨_, h, C⟩
    · exact ih y n sp e
/-- what does not change from def to def -/
structure Gen (P : Program) (w : World) (K : PySem.W.Frag) (mg : Str → Option Value) (base : Heap) (cons : List (Str × D)) (excs : List (Str × List Str)) (xs fs : List Str) (cs fl : List Str) (sub : List (Str × Str)) : Prop where
  blt : ∀ x ∈ bltNames, mg x = none
  cons : ∀ x d, cons.lookup x = some d → ∃ v u, mg x = some u ∧ RelV v u ∧ ∀ F, Rep K F d v
  excs : ∀ x ps, excs.lookup x = some ps → XCls P w K mg base 1 x ps
  xf : XF K mg xs fs
  own : ∀ l, OwnC K mg ⟨cs, fl, l, sub⟩
theorem Gen.tab {xs fs cs fl : List Str} {sub : List (Str × Str)} {cons : List (Str × D)} {excs : List (Str × List Str)} (G : Gen P w K mg base cons excs xs fs cs fl sub) (h1 : c.cons = cons) (h2 : c.excs = excs) (h3 : c.xs = xs) (h4 : c.fs = fs) (h5 : c.cls = ⟨cs, fl, c.cls.ms, sub⟩) (hk : 2 ≤ k) (F : Fns P w K mg base k c.fns) (M : Mts P w K mg base k c.cls.ms) : Tab P w K mg base k c := by
  subst h1 h2 h3 h4
  exact ⟨F.get, G.blt, G.cons, fun x ps h => ⟨1, hk, G.excs x ps h⟩, G.xf, by rw [h5]; exact G.own _, M.get⟩
/-! ### from the head -/
inductive ConOk (K : PySem.W.Frag) (mg : Str → Option Value) : List (Str × D) → Prop
  | nil : ConOk K mg []
  | cons {x : Str} {d : D} {l : List (Str × D)} (h : ∃ v u, mg x = some u ∧ RelV v u ∧ ∀ F, Rep K F d v) (r : ConOk K mg l) : ConOk K mg ((x, d) :: l)
theorem ConOk.get {l : List (Str × D)} (h : ConOk K mg l) : ∀ x d, l.lookup x = some d → ∃ v u, mg x = some u ∧ RelV v u ∧ ∀ F, Rep K F d v := by
  induction h with
  | nil => intro x d e; cases e
  | cons h r ih =>
    intro y d e
    rw [List.lookup_cons] at e
    split at e
    · rename_i q
      cases e
      rw [eq_of_beq q]
      exact h
    · exact ih y d e
theorem con_int {i : Int} (h : ∃ t, mg x = some (.int i t)) : ∃ v u, mg x = some u ∧ RelV v u ∧ ∀ F, Rep K F (.int i) v := by
  obtain ⟨t, h⟩ := h
  exact ⟨.int i, _, h, ⟨t, rfl⟩, fun F => rep_int⟩
theorem con_str {z : Str} (h : ∃ t, mg x = some (.str z t)) : ∃ v u, mg x = some u ∧ RelV v u ∧ ∀ F, Rep K F (.str z) v := by
  obtain ⟨t, h⟩ := h
  exact ⟨.str z, _, h, ⟨t, rfl⟩, fun F => rep_str⟩
inductive ExOk (P : Program) (w : World) (K : PySem.W.Frag) (mg : Str → Option Value) (base : Heap) : List (Str × List Str) → Prop
  | nil : ExOk P w K mg base []
  | cons {x : Str} {ps : List Str} {l : List (Str × List Str)} (h : XCls P w K mg base 1 x ps) (r : ExOk P w K mg base l) : ExOk P w K mg base ((x, ps) :: l)
theorem ExOk.get {l : List (Str × List Str)} (h : ExOk P w K mg base l) : ∀ x ps, l.lookup x = some ps → XCls P w K mg base 1 x ps := by
  induction h with
  | nil => intro x d e; cases e
  | cons h r ih =>
    intro y d e
    rw [List.lookup_cons] at e
    split at e
    · rename_i q
      cases e
      rw [eq_of_beq q]
      exact h
    · exact ih y d e
/-- an own exception class of one field, by its __init__ -/
theorem xcls_one {qual : Str} {fs : List Str} {fld b : Str} {fd : FuncData} (E : ExcF K x fs) (hf : fld ∈ fs) (g : mg x = some (.ref (He.ga K x))) (F : FunD K "__init__" qual (argsOf st) (bodyOf st) (scopeOf st) [] [] (He.ma K (He.ga K x) "__init__") fd) (hb : iniB (bodyOf st) = some (b, fld))
    (S : FnScope ["self", fld] ["self", fld] (scopeOf st)) (hs : isPl (scopeOf st) "self" = true) (hl : isPl (scopeOf st) fld = true) (hg : isGl (scopeOf st) b = true) (h2 : dunder fld = false) (h3 : dunder b = false) (B : BaseC K (He.ga K b)) (hm : mg b = some (.ref (He.ga K b)))
    (bn : ∀ (kV doc pm : Value) (an : Option Addr) (cdv ct : Value) (us : List Value), us.length = 2 → bindArgs (PySem.W.fnOf "__init__" qual (argsOf st) (bodyOf st) (scopeOf st) .none kV doc pm an cdv ct) ⟨us, []⟩ = pure ((["self", fld] : List Str).zip us)) : XCls P w K mg base 1 x [fld] :=
  ⟨E.oex, g, ⟨_, fd, ["self", fld], E.ini, E.fun_, ok_ini F hb S hs hl hg h2 h3 B hm E.oex (E.no _ hf), FunD.bindsN F bn⟩⟩
theorem free_all {h : Heap} {fa : List He.Fa} {fn : List He.DefD} (X : K.In h) (G : h.Ns mainGlobals mg) (c : He.SaysD fa fn K) (n : Nat) (hf : ∀ i : Nat, ∀ y, bltNames[i]? = some y → fa[n + i]? = some (.free y)) : ∀ y ∈ bltNames, mg y = none := fun y hy => by
  obtain ⟨i, hi⟩ := List.mem_iff_getElem?.mp hy
  exact He.free_ok X G (c.fact (n + i) (hf i y hi))
end
end Ab
end
section
/-! Ab17: working with readings. -/
namespace Ab
open PySem PySem.Spec PyProof.Rows L2
/-- between two statements -/
def Nx (b : WS) (P : SK) (v : Env) (m : Mem) : Prop := ∃ v2 m2, Gh v m v2 m2 ∧ b v2 m2 P
theorem nx_go {b : WS} {P : SK} {v : Env} {m : Mem} (h : b v m P) : Nx b P v m := ⟨v, m, Gh.refl, h⟩
theorem sSeq_eq {a b : WS} {v : Env} {m : Mem} {P : SK} : sSeq a b v m P = a v m ⟨Nx b P, P.rt, P.bk, P.ct, P.ex⟩ := rfl
theorem look0 {o : Option D} {v : Env} : look (o :: v) 0 = o := by
  show (some o).join = o
  cases o <;> rfl
theorem lookS {o : Option D} {v : Env} {i : Nat} : look (o :: v) (i + 1) = look v i := rfl
theorem res_int {m : Mem} {i : Int} : res m (.int i) = .int i := rfl
theorem res_bl {m : Mem} {i : Bool} : res m (.bl i) = .bl i := rfl
theorem res_str {m : Mem} {i : Str} : res m (.str i) = .str i := rfl
theorem res_non {m : Mem} : res m .non = .non := rfl
theorem res_lst {m : Mem} {i : List D} : res m (.lst i) = .lst i := rfl
theorem res_frl {m : Mem} {i : List D} : res m (.frl i) = .frl i := rfl
theorem res_tup {m : Mem} {i : List D} : res m (.tup i) = .tup i := rfl
theorem res_ty {m : Mem} {i : String} : res m (.raw (.ty i)) = .raw (.ty i) := rfl
theorem res_set {m : Mem} {a : Addr} {d : D} : res (setM m a d) (.raw (.ref a)) = d := res_some setM_same
theorem newK_t {d : D} {m : Mem} {k : KE} : newK true d m k = k d m := rfl
theorem newK_f {d : D} {m : Mem} {k : KE} : newK false d m k = ∀ a, m a = none → k (.raw (.ref a)) (setM m a d) := rfl
theorem mutL_some {m : Mem} {a : Addr} {xs : List D} {k : Addr → List D → Prop} (h : m a = some (.lst xs)) : mutL m (.raw (.ref a)) k = k a xs := by
  show (match m a with
    | some (.lst xs) => k a xs
    | _ => False) = k a xs
  rw [h]
theorem mutL_set {m : Mem} {a : Addr} {xs : List D} {k : Addr → List D → Prop} : mutL (setM m a (.lst xs)) (.raw (.ref a)) k = k a xs := mutL_some setM_same
theorem tru_int {m : Mem} {i : Int} {k : Bool → Prop} : tru m (.int i) k = k (i != 0) := rfl
theorem tru_bl {m : Mem} {i : Bool} {k : Bool → Prop} : tru m (.bl i) k = k i := rfl
theorem tru_non {m : Mem} {k : Bool → Prop} : tru m .non k = k false := rfl
theorem isB_bl {b : Bool} {k : Bool → Prop} : isB (.bl b) k = k b := rfl
theorem isi_ty {K : PySem.W.Frag} {d : D} {b : String} {k : Bool → Prop} : isiK K d (.ty b) k = ∃ a, tyD d = some a ∧ b ∈ tyNames ∧ k (isTy a b) := rfl
theorem ex_some {α : Type} {d : α} {k : α → Prop} : (∃ e, some d = some e ∧ k e) = k d := by
  apply propext
  exact ⟨fun ⟨e, h1, h2⟩ => by cases h1; exact h2, fun h => ⟨d, rfl, h⟩⟩
theorem at0 {α : Type} {x : α} {r : List α} : atI (x :: r) 0 = some x := by
  unfold atI ixN
  rw [if_pos (by omega), if_pos (by rw [List.length_cons]; omega)]
  rfl
theorem at1 {α : Type} {x y : α} {r : List α} : atI (x :: y :: r) 1 = some y := by
  unfold atI ixN
  rw [if_pos (by omega), if_pos (by rw [List.length_cons, List.length_cons]; omega)]
  rfl
theorem at2 {α : Type} {x y z : α} {r : List α} : atI (x :: y :: z :: r) 2 = some z := by
  unfold atI ixN
  rw [if_pos (by omega), if_pos (by rw [List.length_cons, List.length_cons, List.length_cons]; omega)]
  rfl
theorem at3 {α : Type} {x y z u : α} {r : List α} : atI (x :: y :: z :: u :: r) 3 = some u := by
  unfold atI ixN
  rw [if_pos (by omega), if_pos (by rw [List.length_cons, List.length_cons, List.length_cons, List.length_cons]; omega)]
  rfl
theorem ix40 {α : Type} {a b c d : α} : ixN [a, b, c, d].length 0 = some 0 := rfl
theorem ix43 {α : Type} {a b c d : α} : ixN [a, b, c, d].length 3 = some 3 := rfl
theorem setM_self {m : Mem} {a : Addr} {d : D} (h : m a = some d) : m = setM m a d := by
  funext b
  unfold setM
  split
  · rename_i e; rw [e, h]
  · rfl
theorem at_nat {α : Type} {xs : List α} {k : Int} {d : α} (h0 : 0 ≤ k) (h : xs[k.toNat]? = some d) : atI xs k = some d := by
  have hl := (List.getElem?_eq_some_iff.mp h).1
  unfold atI ixN
  rw [if_pos h0, if_pos (by omega)]
  exact h
theorem tn1 : ("int" ∈ tyNames) = True := eq_true (by decide)
theorem tn2 : ("bool" ∈ tyNames) = True := eq_true (by decide)
theorem tn3 : ("str" ∈ tyNames) = True := eq_true (by decide)
theorem tn4 : ("list" ∈ tyNames) = True := eq_true (by decide)
theorem tn5 : ("tuple" ∈ tyNames) = True := eq_true (by decide)
theorem tn6 : ("dict" ∈ tyNames) = True := eq_true (by decide)
theorem ity_NoneType_bool : isTy "NoneType" "bool" = false := by decide
theorem ity_NoneType_int : isTy "NoneType" "int" = false := by decide
theorem ity_NoneType_str : isTy "NoneType" "str" = false := by decide
theorem ity_NoneType_list : isTy "NoneType" "list" = false := by decide
theorem ity_NoneType_tuple : isTy "NoneType" "tuple" = false := by decide
theorem ity_bool_bool : isTy "bool" "bool" = true := by decide
theorem ity_bool_int : isTy "bool" "int" = true := by decide
theorem ity_bool_str : isTy "bool" "str" = false := by decide
theorem ity_bool_list : isTy "bool" "list" = false := by decide
theorem ity_bool_tuple : isTy "bool" "tuple" = false := by decide
theorem ity_int_bool : isTy "int" "bool" = false := by decide
theorem ity_int_int : isTy "int" "int" = true := by decide
theorem ity_int_str : isTy "int" "str" = false := by decide
theorem ity_int_list : isTy "int" "list" = false := by decide
theorem ity_int_tuple : isTy "int" "tuple" = false := by decide
theorem ity_str_bool : isTy "str" "bool" = false := by decide
theorem ity_str_int : isTy "str" "int" = false := by decide
theorem ity_str_str : isTy "str" "str" = true := by decide
theorem ity_str_list : isTy "str" "list" = false := by decide
theorem ity_str_tuple : isTy "str" "tuple" = false := by decide
theorem ity_list_bool : isTy "list" "bool" = false := by decide
theorem ity_list_int : isTy "list" "int" = false := by decide
theorem ity_list_str : isTy "list" "str" = false := by decide
theorem ity_list_list : isTy "list" "list" = true := by decide
theorem ity_list_tuple : isTy "list" "tuple" = false := by decide
theorem ity_tuple_bool : isTy "tuple" "bool" = false := by decide
theorem ity_tuple_int : isTy "tuple" "int" = false := by decide
theorem ity_tuple_str : isTy "tuple" "str" = false := by decide
theorem ity_tuple_list : isTy "tuple" "list" = false := by decide
theorem ity_tuple_tuple : isTy "tuple" "tuple" = true := by decide
theorem rng_at {lo c : Int} {n i : Nat} {d : D} (h : (rngD lo c n)[i]? = some d) : i < n ∧ d = .int (lo + (i : Int) * c) := by
  have hi : i < n := by
    have := (List.getElem?_eq_some_iff.mp h).1
    rwa [rngD_len] at this
  rw [rngD_get hi] at h
  cases h
  exact ⟨hi, rfl⟩
theorem eqD_nil {m : Mem} {k : Bool → Prop} (h : k true) : eqD m (.lst []) (.lst []) k := .inl ⟨.list [], .list [], rfl, rfl, rfl, rfl, h⟩
theorem size_line {n : Nat} (h : n ≤ 16000000) : n ≤ sizeLine := by
  rw [sizeLine_eq]
  omega
/-- a test by cases -/
theorem if_t {a b : Prop} {q : Bool} (h : q = true) (x : a) : (q = true → a) ∧ (q = false → b) := ⟨fun _ => x, fun e => by rw [h] at e; cases e⟩
theorem if_f {a b : Prop} {q : Bool} (h : q = false) (x : b) : (q = true → a) ∧ (q = false → b) := ⟨fun e => absurd (h.symm.trans e) Bool.false_ne_true, fun _ => x⟩
local macro_rules | `(tactic| walk_at "ab") => `(tactic| simp only [sSeq_eq, sSet, sAsg, sAug, sDrop, sRet, sRetN, sIf, sNil, sRaise, gN, gT, gs0, gs1, gSubL, wVar, wCon, wNil, wCons, wOp, wTru, wIsB, isB_bl, wAnd, wOr, wNot, wIf, wOfT, wAndV, wOrV, wNotV, wTup, wLst, wNeg, wCB, wSl, wPart, wNoPart, newK_t, newK_f, look0, lookS, List.set_cons_zero, List.set_cons_succ, res_int, res_bl, res_str, res_non, res_lst, res_frl, res_tup, res_ty, res_set, mutL_set, tru_int, tru_bl, tru_non, List.map_cons, List.map_nil, oAdd, oSub, oMul, oDiv, oMod, oPow, oShl, oShr, oAnd, oOr, oXor, oIAdd, oIMul, oEq, oNe, oLt, oLe, oGt, oGe, oIs, oIsNot, oIdx, oSl, cInt, cAbs, cLen, cMax, cMin, cSum, cDivmod, cStr, cList, cTuple, cIsi, isi_ty, wMt, isT, mAppend, at0, at1, at2, at3, ex_some, ix40, ix43, setM_setM, tn1, tn2, tn3, tn4, tn5, tn6, true_and, isNonD, tyD, true_implies, false_implies, Bool.true_eq_false, Bool.false_eq_true, and_true, decide_true, decide_false, Bool.not_true, Bool.not_false, wipeE, iR1, iR2, ity_NoneType_bool, ity_NoneType_int, ity_NoneType_str, ity_NoneType_list, ity_NoneType_tuple, ity_bool_bool, ity_bool_int, ity_bool_str, ity_bool_list, ity_bool_tuple, ity_int_bool, ity_int_int, ity_int_str, ity_int_list, ity_int_tuple, ity_str_bool, ity_str_int, ity_str_str, ity_str_list, ity_str_tuple, ity_list_bool, ity_list_int, ity_list_str, ity_list_list, ity_list_tuple, ity_tuple_bool, ity_tuple_int, ity_tuple_str, ity_tuple_list, ity_tuple_tuple])
/-! ### the law's own helpers -/
def w_law_box (K : PySem.W.Frag) : WS :=
  (sRet (wLst false (wCons (wCB cAbs (wCons (wVar 0) wNil)) (wCons (wOp oGe (wCB cAbs (wCons (wVar 0) wNil)) (wOp oPow (wCon (.int 10)) (wCon (.int 18)))) (wCons (wOp oMod (wCB cInt (wCons (wCB cAbs (wCons (wVar 0) wNil)) wNil)) (wCon (.int 2147483629))) (wCons (wCon (.int 0)) wNil))))))
/-- a box: never more than n numbers asked of it -/
def BoxV (n : Nat) (b0 : Int) (b1 : Bool) (b2 b3 : Int) : Prop := 0 ≤ b0 ∧ 0 ≤ b2 ∧ b2 < 2147483629 ∧ 0 ≤ b3 ∧ b3 ≤ n
def Box (m : Mem) (a : Addr) (n : Nat) : Prop := ∃ b0 b1 b2 b3, m a = some (.lst [.int b0, .bl b1, .int b2, .int b3]) ∧ BoxV n b0 b1 b2 b3
theorem p_law_box {K : PySem.W.Frag} {g : Int} {m : Mem} {R : ARes → Mem → Prop} (h : ∀ a m', m a = none → (∀ b, b ≠ a → m' b = m b) → Box m' a 0 → R (.ret (.raw (.ref a))) m') : spOf 1 (w_law_box K) [.int g] m R := by
  show w_law_box K [some (.int g)] m _
  unfold w_law_box
  walk_at "ab"
  refine ⟨⟨by omega, by omega, by decide⟩, by omega, by show 4 ≤ sizeLine; decide, fun a ha => ⟨_, _, GhD.refl, h a _ ha (fun b hb => setM_ne hb) ?_⟩⟩
  refine ⟨_, _, _, _, setM_same, ?_, ?_, ?_, ?_, ?_⟩ <;> (try split) <;> omega
def w_law_cell (K : PySem.W.Frag) : WS :=
  (sRet (wIf (wIsB (wOp oLt (wVar 1) (wCB cLen (wCons (wVar 0) wNil)))) (wOp oIdx (wVar 0) (wVar 1)) (wOp (oAdd true) (wOp (oMul true) (wCon (.int 7919)) (wVar 1)) (wOp oMod (wCB cInt (wCons (wCB cSum (wCons (wSl true (wVar 0) wNoPart (wPart (wCon (.int 1)))) wNil)) wNil)) (wCon (.int 1000003))))))
theorem p_law_cell {K : PySem.W.Frag} {ns : List Int} {k : Int} {m : Mem} {R : ARes → Mem → Prop} (hk : 0 ≤ k) (h : ∀ c : Int, R (.ret (.int c)) m) : spOf 2 (w_law_cell K) [.frl (ns.map D.int), .int k] m R := by
  show w_law_cell K [some (.frl (ns.map D.int)), some (.int k)] m _
  unfold w_law_cell
  walk_at "ab"
  by_cases hl : k < ((ns.map D.int).length : Int)
  · refine if_t (decide_eq_true hl) ?_
    have hi : k.toNat < ns.length := by rw [List.length_map] at hl; omega
    exact ⟨.int ns[k.toNat], at_nat hk (by rw [List.getElem?_map, List.getElem?_eq_getElem hi]; rfl), _, m, GhD.refl, h _⟩
  · refine if_f (decide_eq_false hl) ⟨.inl (.inl (by omega)), (ns.drop (HT.sIx (ns.map D.int).length 0 none)).take (HT.sIx (ns.map D.int).length (ns.map D.int).length (some 1) - HT.sIx (ns.map D.int).length 0 none), ?_, by omega, _, m, GhD.refl, h _⟩
    unfold cutD
    rw [List.map_take, List.map_drop]
def w_law_take_1 (K : PySem.W.Frag) : WS :=
  (sRet (wOp oMod (wCB cInt (wCons (wVar 4) wNil)) (wVar 1)))
def w_law_take_2 (K : PySem.W.Frag) : WS :=
  (sSeq (sAsg (gSubL (wVar 0) (wCon (.int 3))) (wOp (oAdd true) (wOp oIdx (wVar 0) (wCon (.int 3))) (wCon (.int 1))))
  (sSeq (sSet 3 (wOp oMod (wCB cInt (wCons (wOp oPow (wOp (oAdd true) (wOp (oAdd true) (wOp oIdx (wVar 0) (wCon (.int 2))) (wOp (oMul true) (wCon (.int 15485867)) (wOp oIdx (wVar 0) (wCon (.int 3))))) (wCon (.int 179425033))) (wCon (.int 5))) wNil)) (wCon (.int 2147483647))))
  (sSeq (sSet 4 (wOp oDiv (wOp oMod (wCB cInt (wCons (wOp oPow (wOp (oAdd true) (wOp (oMul true) (wVar 3) (wCon (.int 48271))) (wOp (oMul true) (wCon (.int 7919)) (wOp oIdx (wVar 0) (wCon (.int 3))))) (wCon (.int 3))) wNil)) (wCon (.int 2147483587))) (wCon (.int 64))))
  (sSeq (sIf (wIsB (wOp oGt (wVar 1) (wOp oPow (wCon (.int 10)) (wCon (.int 6))))) (sSet 4 (wOp (oAdd true) (wOp (oMul true) (wVar 4) (wCon (.int 2147483587))) (wOp oMod (wCB cInt (wCons (wOp oPow (wOp (oAdd true) (wOp (oMul true) (wVar 3) (wCon (.int 69621))) (wOp (oMul true) (wCon (.int 104729)) (wOp oIdx (wVar 0) (wCon (.int 3))))) (wCon (.int 3))) wNil)) (wCon (.int 2147483563))))) sNil)
  (w_law_take_1 K)))))
def w_law_take (K : PySem.W.Frag) : WS :=
  (sSeq (sIf (wAnd (wTru (wOp oIdx (wVar 0) (wCon (.int 1)))) (wIsB (wOp oGt (wOp oIdx (wVar 0) (wCon (.int 0))) (wCon (.int 0))))) (sSeq (sSet 2 (wOp oMod (wCB cInt (wCons (wOp oIdx (wVar 0) (wCon (.int 0))) wNil)) (wVar 1)))
  (sSeq (sAsg (gSubL (wVar 0) (wCon (.int 0))) (wOp oDiv (wOp oIdx (wVar 0) (wCon (.int 0))) (wVar 1)))
  (sRet (wVar 2)))) sNil)
  (w_law_take_2 K))
theorem p_law_take {K : PySem.W.Frag} {a : Addr} {n : Nat} {many : Int} {m : Mem} {R : ARes → Mem → Prop} (hb : Box m a n) (hn : n < 2 ^ 38) (h0 : 0 < many) (hd : DivOk many)
    (h : ∀ d m', 0 ≤ d → d < many → (∀ b, b ≠ a → m' b = m b) → Box m' a (n + 1) → R (.ret (.int d)) m') : spOf 5 (w_law_take K) [.raw (.ref a), .int many] m R := by
  obtain ⟨b0, b1, b2, b3, e, v0, v2, v3, v4, v5⟩ := hb
  have hn' : (n : Int) < 274877906944 := by omega
  show w_law_take K [some (.raw (.ref a)), some (.int many), none, none, none] m _
  rw [setM_self e]
  unfold w_law_take
  walk_at "ab"
  have rest : ∀ v, v = [some (.raw (.ref a)), some (D.int many), none, none, none] → ∀ P : SK, (∀ d m', P.rt d m' = R (.ret d) m') → Nx (w_law_take_2 K) P v (setM m a (.lst [.int b0, .bl b1, .int b2, .int b3])) := by
    rintro _ rfl P hP
    refine nx_go ?_
    unfold w_law_take_2
    walk_at "ab"
    refine nx_go ?_
    walk_at "ab"
    refine ⟨.inl (.inl (by omega)), ⟨by omega, by omega, by omega⟩, by omega, nx_go ?_⟩
    walk_at "ab"
    have hx := Int.emod_nonneg ((b2 + 15485867 * (b3 + 1) + 179425033) ^ (5 : Int).toNat) (by omega : (2147483647 : Int) ≠ 0)
    have hy := Int.emod_lt_of_pos ((b2 + 15485867 * (b3 + 1) + 179425033) ^ (5 : Int).toNat) (by omega : (0 : Int) < 2147483647)
    generalize (b2 + 15485867 * (b3 + 1) + 179425033) ^ (5 : Int).toNat % 2147483647 = mixed at hx hy ⊢
    refine ⟨.inl (.inr (by omega)), .inl (.inl (by omega)), ⟨by omega, by omega, by omega⟩, by omega, ⟨by omega, .inl (by omega)⟩, nx_go ?_⟩
    have hz := Int.emod_nonneg ((mixed * 48271 + 7919 * (b3 + 1)) ^ (3 : Int).toNat) (by omega : (2147483587 : Int) ≠ 0)
    have hw := Int.emod_lt_of_pos ((mixed * 48271 + 7919 * (b3 + 1)) ^ (3 : Int).toNat) (by omega : (0 : Int) < 2147483587)
    generalize (mixed * 48271 + 7919 * (b3 + 1)) ^ (3 : Int).toNat % 2147483587 = num at hz hw ⊢
    walk_at "ab"
    have fin : ∀ (x : Int) v, v = [some (.raw (.ref a)), some (D.int many), none, some (.int mixed), some (.int x)] → Nx (w_law_take_1 K) P v (setM m a (.lst [.int b0, .bl b1, .int b2, .int (b3 + 1)])) := by
      rintro x _ rfl
      refine nx_go ?_
      unfold w_law_take_1
      walk_at "ab"
      refine ⟨h0, _, _, GhD.refl, ?_⟩
      rw [hP]
      exact h _ _ (Int.emod_nonneg _ (by omega)) (Int.emod_lt_of_pos _ h0) (fun b hb => setM_ne hb) ⟨b0, b1, b2, b3 + 1, setM_same, v0, v2, v3, by omega, by omega⟩
    refine ⟨⟨by omega, by omega, by decide⟩, fun _ => ?_, fun _ => fin _ _ rfl⟩
    exact ⟨.inl (.inr (by omega)), .inl (.inr (by omega)), .inl (.inl (by omega)), ⟨by omega, by omega, by omega⟩, by omega, fin _ _ rfl⟩
  refine ⟨fun hb1 => ⟨fun hp => ?_, fun hp => rest _ rfl _ fun _ _ => rfl⟩, fun hb1 => rest _ rfl _ fun _ _ => rfl⟩
  have pos := of_decide_eq_true hp
  refine ⟨h0, nx_go ?_⟩
  walk_at "ab"
  refine ⟨hd, nx_go ?_⟩
  walk_at "ab"
  refine ⟨_, _, GhD.refl, h _ _ (Int.emod_nonneg _ (by omega)) (Int.emod_lt_of_pos _ h0) (fun b hb => setM_ne hb) ⟨b0 / many, b1, b2, b3, setM_same, Int.ediv_nonneg (by omega) (by omega), v2, v3, v4, by omega⟩⟩
end Ab
end
section
/-! Ab18: _law_same. -/
namespace Ab
open PySem PySem.Spec PyProof.Rows L2
local macro_rules | `(tactic| walk_at "ab") => `(tactic| simp only [sSeq_eq, sSet, sAsg, sAug, sDrop, sRet, sRetN, sIf, sNil, sRaise, gN, gT, gs0, gs1, gSubL, wVar, wCon, wNil, wCons, wOp, wTru, wIsB, isB_bl, wAnd, wOr, wNot, wIf, wOfT, wAndV, wOrV, wNotV, wTup, wLst, wNeg, wCB, wSl, wPart, wNoPart, newK_t, newK_f, look0, lookS, List.set_cons_zero, List.set_cons_succ, res_int, res_bl, res_str, res_non, res_lst, res_frl, res_tup, res_ty, res_set, mutL_set, tru_int, tru_bl, tru_non, List.map_cons, List.map_nil, oAdd, oSub, oMul, oDiv, oMod, oPow, oShl, oShr, oAnd, oOr, oXor, oIAdd, oIMul, oEq, oNe, oLt, oLe, oGt, oGe, oIs, oIsNot, oIdx, oSl, cInt, cAbs, cLen, cMax, cMin, cSum, cDivmod, cStr, cList, cTuple, cIsi, isi_ty, wMt, isT, mAppend, at0, at1, at2, at3, ex_some, ix40, ix43, setM_setM, tn1, tn2, tn3, tn4, tn5, tn6, true_and, isNonD, tyD, true_implies, false_implies, Bool.true_eq_false, Bool.false_eq_true, and_true, decide_true, decide_false, Bool.not_true, Bool.not_false, wipeE, iR1, iR2, ity_NoneType_bool, ity_NoneType_int, ity_NoneType_str, ity_NoneType_list, ity_NoneType_tuple, ity_bool_bool, ity_bool_int, ity_bool_str, ity_bool_list, ity_bool_tuple, ity_int_bool, ity_int_int, ity_int_str, ity_int_list, ity_int_tuple, ity_str_bool, ity_str_int, ity_str_str, ity_str_list, ity_str_tuple, ity_list_bool, ity_list_int, ity_list_str, ity_list_list, ity_list_tuple, ity_tuple_bool, ity_tuple_int, ity_tuple_str, ity_tuple_list, ity_tuple_tuple])
def w_law_same_1 (K : PySem.W.Frag) (sp : ASp) : WS :=
  (sRet (wAndV (wOp oEq (wCB cLen (wCons (wVar 0) wNil)) (wCB cLen (wCons (wVar 1) wNil))) (wOp oEq (wLc true (iR1 (wCB cLen (wCons (wVar 1) wNil))) [2] (gN 2) (wNot (wTru (wCall 2 sp (wCons (wOp oIdx (wVar 0) (wVar 2)) (wCons (wOp oIdx (wVar 1) (wVar 2)) wNil))))) (wVar 2)) (wLst true wNil))))
def w_law_same_2 (K : PySem.W.Frag) (sp : ASp) : WS :=
  (sSeq (sIf (wOr (wIsB (wOp oNe (wCB (cIsi K) (wCons (wVar 0) (wCons (wCon (.raw (.ty "list"))) wNil))) (wCB (cIsi K) (wCons (wVar 1) (wCons (wCon (.raw (.ty "list"))) wNil))))) (wIsB (wOp oNe (wCB (cIsi K) (wCons (wVar 0) (wCons (wCon (.raw (.ty "tuple"))) wNil))) (wCB (cIsi K) (wCons (wVar 1) (wCons (wCon (.raw (.ty "tuple"))) wNil)))))) (sRet (wCon (.bl false))) sNil)
  (w_law_same_1 K sp))
def w_law_same_3 (K : PySem.W.Frag) (sp : ASp) : WS :=
  (sSeq (sIf (wTru (wCB (cIsi K) (wCons (wVar 1) (wCons (wCon (.raw (.ty "str"))) wNil)))) (sRet (wAndV (wCB (cIsi K) (wCons (wVar 0) (wCons (wCon (.raw (.ty "str"))) wNil))) (wAndV (wOp oEq (wCB cLen (wCons (wVar 0) wNil)) (wCB cLen (wCons (wVar 1) wNil))) (wOp oEq (wLc true (iR1 (wCB cLen (wCons (wVar 1) wNil))) [2] (gN 2) (wIsB (wOp oNe (wSl true (wVar 0) (wPart (wVar 2)) (wPart (wOp (oAdd true) (wVar 2) (wCon (.int 1))))) (wOp oIdx (wVar 1) (wVar 2)))) (wVar 2)) (wLst true wNil))))) sNil)
  (w_law_same_2 K sp))
def w_law_same_4 (K : PySem.W.Frag) (sp : ASp) : WS :=
  (sSeq (sIf (wTru (wCB (cIsi K) (wCons (wVar 1) (wCons (wCon (.raw (.ty "int"))) wNil)))) (sRet (wAndV (wCB (cIsi K) (wCons (wVar 0) (wCons (wCon (.raw (.ty "int"))) wNil))) (wAndV (wNotV (wCB (cIsi K) (wCons (wVar 0) (wCons (wCon (.raw (.ty "bool"))) wNil)))) (wOp oEq (wOp oSub (wCB cInt (wCons (wVar 0) wNil)) (wVar 1)) (wCon (.int 0)))))) sNil)
  (w_law_same_3 K sp))
def w_law_same (K : PySem.W.Frag) (sp : ASp) : WS :=
  (sSeq (sIf (wOr (wIsB (wOp oIs (wVar 1) (wCon .non))) (wTru (wCB (cIsi K) (wCons (wVar 1) (wCons (wCon (.raw (.ty "bool"))) wNil))))) (sRet (wIf (wIsB (wOp oIs (wVar 1) (wCon .non))) (wOp oIs (wVar 0) (wCon .non)) (wAndV (wCB (cIsi K) (wCons (wVar 0) (wCons (wCon (.raw (.ty "bool"))) wNil))) (wOp oEq (wOp oIs (wVar 0) (wCon (.bl true))) (wOp oIs (wVar 1) (wCon (.bl true))))))) sNil)
  (w_law_same_4 K sp))
def sr_law_same (K : PySem.W.Frag) : Nat → ASp
  | 0 => fun _ _ _ => False
  | n + 1 => spOf 3 (w_law_same K (sr_law_same K n))
/-- alike: of one kind, part by part -/
inductive Sm : Nat → D → D → Prop
  | non {n : Nat} : Sm (n + 1) .non .non
  | bl {n : Nat} {b : Bool} : Sm (n + 1) (.bl b) (.bl b)
  | int {n : Nat} {i : Int} : Sm (n + 1) (.int i) (.int i)
  | str {n : Nat} {x : Str} (h : x.length ≤ 1000000) : Sm (n + 1) (.str x) (.str x)
  | seq {n : Nat} {d e : D} {xs ys : List D} {T : String} (hT : T = "list" ∨ T = "tuple") (hd : tyD d = some T) (he : tyD e = some T) (hdx : lstOf d = some xs ∨ d = .tup xs) (hey : lstOf e = some ys ∨ e = .tup ys) (hl : xs.length = ys.length) (hz : ys.length ≤ 1000000)
      (h : ∀ (i : Nat) x y, xs[i]? = some x → ys[i]? = some y → Sm n x y) : Sm (n + 1) d e
theorem chr_at {x : Str} {i : Nat} (hi : i < x.length) : cutS x (some (i : Int)) (some ((i : Int) + 1)) = ⟨#[x.cps.toList[i]'(by rw [Array.length_toList]; exact hi)]⟩ := by
  have hi2 : i < x.cps.toList.length := by rw [Array.length_toList]; exact hi
  unfold cutS
  rw [show ((i : Int) + 1) = ((i + 1 : Nat) : Int) by omega, HT.sIx_nat, HT.sIx_nat, Nat.min_eq_left (by omega), Nat.min_eq_left (by omega), Nat.add_sub_cancel_left]
  congr 1
  rw [List.drop_eq_getElem_cons hi2]
  rfl
/-- the last look: all parts alike -/
theorem same_parts {K : PySem.W.Frag} {d e : D} {xs ys : List D} {m : Mem} {P : SK} {R : ARes → Mem → Prop} (hP : ∀ d m, P.rt d m = R (.ret d) m) (hdx : lstOf d = some xs ∨ d = .tup xs) (hey : lstOf e = some ys ∨ e = .tup ys) (hl : xs.length = ys.length) (hz : ys.length ≤ 1000000)
    {sp : ASp} (h : ∀ (i : Nat) x y, xs[i]? = some x → ys[i]? = some y → ∀ Q : ARes → Mem → Prop, Q (.ret (.bl true)) m → sp [x, y] m Q) (hR : R (.ret (.bl true)) m) : w_law_same_1 K sp [some d, some e, none] m P := by
  have fd : (∀ m, res m d = d) ∧ (∀ m k, cLen m [d] k = k (.int xs.length) m) ∧ (∀ m i k, oIdx m d (.int i) k = ∃ y, atI xs i = some y ∧ k y m) := by
    rcases hdx with q | rfl
    · cases d <;> cases q <;> exact ⟨fun _ => rfl, fun _ _ => rfl, fun _ _ _ => rfl⟩
    · exact ⟨fun _ => rfl, fun _ _ => rfl, fun _ _ _ => rfl⟩
  have fe : (∀ m, res m e = e) ∧ (∀ m k, cLen m [e] k = k (.int ys.length) m) ∧ (∀ m i k, oIdx m e (.int i) k = ∃ y, atI ys i = some y ∧ k y m) := by
    rcases hey with q | rfl
    · cases e <;> cases q <;> exact ⟨fun _ => rfl, fun _ _ => rfl, fun _ _ _ => rfl⟩
    · exact ⟨fun _ => rfl, fun _ _ => rfl, fun _ _ _ => rfl⟩
  unfold w_law_same_1
  simp only [sRet, wAndV, wOp, wCB, wCons, wNil, wVar, look0, lookS, List.map_cons, List.map_nil, fd.1, fe.1, fd.2.1, fe.2.1, res_int, oEq, tru_bl, hl, decide_true, true_implies, Bool.true_eq_false, false_implies, and_true, wLc, iR1]
  refine ⟨by omega, by omega, fun i acc m2 => acc = [] ∧ m2 = m, ⟨rfl, rfl⟩, ?_, ?_⟩
  · rintro i z acc m2 hi ⟨rfl, rfl⟩
    obtain ⟨hi, rfl⟩ := rng_at hi
    have hy : i < ys.length := by omega
    have hx : i < xs.length := by omega
    have nat : ((0 : Int) + (i : Int) * 1).toNat = i := by omega
    simp only [gN, wipeE, List.set_cons_zero, List.set_cons_succ, wNot, wTru, wCall, wCons, wNil, wOp, wVar, look0, lookS, fd.1, fe.1, res_int, fd.2.2, fe.2.2]
    refine ⟨xs[i], at_nat (by omega) (by rw [nat]; exact List.getElem?_eq_getElem hx), ys[i], at_nat (by omega) (by rw [nat]; exact List.getElem?_eq_getElem hy), rfl, ?_⟩
    refine h i _ _ (List.getElem?_eq_getElem hx) (List.getElem?_eq_getElem hy) _ ?_
    simp [tru_bl]
  · rintro acc m2 ⟨rfl, rfl⟩
    simp only [newK_t, wLst, wNil, res_lst]
    refine ⟨size_line (Nat.zero_le _), eqD_nil ?_⟩
    refine ⟨_, _, GhD.refl, ?_⟩
    rw [hP]
    exact hR
theorem p_law_same {K : PySem.W.Frag} : ∀ {n : Nat} {d e : D} {m : Mem} {R : ARes → Mem → Prop}, Sm n d e → R (.ret (.bl true)) m → sr_law_same K n [d, e] m R
  | 0, _, _, _, _, hs, _ => by cases hs
  | n + 1, d, e, m, R, hs, hR => by
    show w_law_same K (sr_law_same K n) [some d, some e, none] m _
    unfold w_law_same
    cases hs with
    | non =>
      walk_at "ab"
      exact ⟨_, _, GhD.refl, hR⟩
    | @bl _ b =>
      walk_at "ab"
      refine ⟨_, rfl, _, rfl, _, _, GhD.refl, ?_⟩
      rw [decide_eq_true rfl]
      exact hR
    | @int _ i =>
      walk_at "ab"
      refine nx_go ?_
      unfold w_law_same_4
      walk_at "ab"
      refine ⟨_, _, GhD.refl, ?_⟩
      rw [Int.sub_self, decide_eq_true rfl]
      exact hR
    | @str _ x hx =>
      walk_at "ab"
      refine nx_go ?_
      unfold w_law_same_4
      walk_at "ab"
      refine nx_go ?_
      unfold w_law_same_3
      walk_at "ab"
      refine ⟨size_line (by omega), size_line (by omega), ?_⟩
      unfold wLc
      walk_at "ab"
      refine ⟨size_line (by omega), by omega, by omega, fun i acc m2 => acc = [] ∧ m2 = m, ⟨rfl, rfl⟩, ?_, ?_⟩
      · rintro i z acc m2 hi ⟨rfl, rfl⟩
        obtain ⟨hi, rfl⟩ := rng_at hi
        have hi' : i < x.length := by omega
        have hi2 : i < x.cps.toList.length := by rw [Array.length_toList]; exact hi'
        have nat : ((0 : Int) + (i : Int) * 1) = i := by omega
        walk_at "ab"
        rw [nat]
        refine ⟨size_line (by omega), size_line (by omega), x.cps.toList[i], at_nat (by omega) (by rw [Int.toNat_natCast]; exact List.getElem?_eq_getElem hi2), ?_⟩
        rw [chr_at hi']
        walk_at "ab"
      · rintro acc m2 ⟨rfl, rfl⟩
        refine ⟨size_line (Nat.zero_le _), eqD_nil ?_⟩
        exact ⟨_, _, GhD.refl, hR⟩
    | seq hT hd he hdx hey hl hz h =>
      have fin := same_parts (K := K) (m := m) (R := R) (P := ⟨fun _ m => R (.ret .non) m, fun d m => R (.ret d) m, fun _ _ => False, fun _ _ => False, fun x _ m => R (.exc x) m⟩) (sp := sr_law_same K n) (fun _ _ => rfl) hdx hey hl hz (fun i x y q1 q2 Q hQ => p_law_same (h i x y q1 q2) hQ) hR
      rcases hT with rfl | rfl <;> rcases hdx with q | rfl <;> rcases hey with q' | rfl <;> (first | cases d | skip) <;> (first | cases e | skip) <;> (first | (cases q; done) | (cases q'; done) | (cases hd; done) | (cases he; done) | exact absurd (show some "list" = some "tuple" from hd) (by decide) | exact absurd (show some "tuple" = some "list" from hd) (by decide) | exact absurd (show some "list" = some "tuple" from he) (by decide) | exact absurd (show some "tuple" = some "list" from he) (by decide) | skip)
      all_goals
        walk_at "ab"
        refine nx_go ?_
        unfold w_law_same_4
        walk_at "ab"
        refine nx_go ?_
        unfold w_law_same_3
        walk_at "ab"
        refine nx_go ?_
        unfold w_law_same_2
        walk_at "ab"
        exact nx_go fin
end Ab
end
section
/-! Ab19: more words for readings. -/
namespace Ab
open PySem PySem.Spec PyProof.Rows L2
def seqK (d : D) (m : Mem) (k : KL) : Prop := match d with
  | .lst xs => k xs m
  | .frl xs => k xs m
  | .tup xs => k xs m
  | .raw (.ref a) => (match m a with
    | some (.lst xs) => k xs (delM m a)
    | some (.dct ks _) => k (ks.map keyD) (delM m a)
    | _ => False)
  | .str s => k (s.cps.toList.map fun c => .str ⟨#[c]⟩) m
  | _ => False
theorem iSeq_eq {a : WE} {v : Env} {m : Mem} {k : KL} {kx : KX} : iSeq a v m k kx = a v m (fun d m1 => seqK d m1 k) kx := rfl
theorem seqK_lst {xs : List D} {m : Mem} {k : KL} : seqK (.lst xs) m k = k xs m := rfl
theorem seqK_frl {xs : List D} {m : Mem} {k : KL} : seqK (.frl xs) m k = k xs m := rfl
theorem seqK_tup {xs : List D} {m : Mem} {k : KL} : seqK (.tup xs) m k = k xs m := rfl
/-- the turns of a for -/
def Turns (g : WG) (b : WS) (P : SK) (items : List D) (v : Env) (m : Mem) : Prop := ∃ I : Nat → Env → Mem → Prop, I 0 v m ∧
  (∀ i d v1 m2, items[i]? = some d → I i v1 m2 → g d v1 m2 fun v2 m3 => b v2 m3 ⟨fun v3 m4 => ∃ v4 m5, Gh v3 m4 v4 m5 ∧ I (i + 1) v4 m5, P.rt, P.nx, fun v3 m4 => ∃ v4 m5, Gh v3 m4 v4 m5 ∧ I (i + 1) v4 m5, P.ex⟩) ∧ ∀ v1 m2, I items.length v1 m2 → P.nx v1 m2
theorem for_eq {it : WI} {g : WG} {b : WS} {v : Env} {m : Mem} {P : SK} : sFor it g b v m P = it v m (fun items m1 => Turns g b P items v m1) fun x m => P.ex x v m := rfl
theorem turns {g : WG} {b : WS} {P : SK} {items : List D} {v : Env} {m : Mem} (I : Nat → Env → Mem → Prop) (h0 : I 0 v m)
    (h1 : ∀ i d v1 m2, items[i]? = some d → I i v1 m2 → g d v1 m2 fun v2 m3 => b v2 m3 ⟨fun v3 m4 => ∃ v4 m5, Gh v3 m4 v4 m5 ∧ I (i + 1) v4 m5, P.rt, P.nx, fun v3 m4 => ∃ v4 m5, Gh v3 m4 v4 m5 ∧ I (i + 1) v4 m5, P.ex⟩) (h2 : ∀ v1 m2, I items.length v1 m2 → P.nx v1 m2) : Turns g b P items v m := ⟨I, h0, h1, h2⟩
theorem seq_go {a b : WS} {v : Env} {m : Mem} {P : SK} (h : a v m ⟨Nx b P, P.rt, P.bk, P.ct, P.ex⟩) : sSeq a b v m P := h
theorem call_go {n : Nat} {sp : ASp} {w : WL} {v : Env} {m : Mem} {k : KE} {kx : KX} (h : w v m (fun ds m1 => ds.length = n ∧ sp ds m1 fun r m2 => match r with
  | .ret d => k d m2
  | .exc x => kx x m2) kx) : wCall n sp w v m k kx := h
/-! ### one step at a time -/
section
variable {v : Env} {m : Mem} {k : KE} {kx : KX} {kl : KL} {P : SK} {d : D} {i : Nat} {e a b : WE} {w r : WL} {g : WG} {z q : Bool} {x y : Int}
theorem cons_go (h : a v m (fun d m1 => r v m1 (fun ds m2 => kl (d :: ds) m2) kx) kx) : wCons a r v m kl kx := h
theorem nil_go (h : kl [] m) : wNil v m kl kx := h
theorem var_go (h : look v i = some d) (h2 : k d m) : wVar i v m k kx := by
  unfold wVar
  rw [h]
  exact h2
theorem con_go (h : k d m) : wCon d v m k kx := h
theorem op_go {o : O2} (h : a v m (fun x m1 => b v m1 (fun y m2 => o m2 (res m2 x) (res m2 y) k) kx) kx) : wOp o a b v m k kx := h
theorem set_go (h : e v m (fun d m1 => P.nx (v.set i (some d)) m1) fun x m => P.ex x v m) : sSet i e v m P := h
theorem asg_go (h : e v m (fun d m1 => g d v m1 P.nx) fun x m => P.ex x v m) : sAsg g e v m P := h
theorem ret_go (h : e v m (fun d m1 => ∃ d' m', GhD d m1 d' m' ∧ P.rt d' m') fun x m => P.ex x v m) : sRet e v m P := h
theorem tup_go (h : w v m (fun ds m1 => ds.length ≤ sizeLine ∧ k (.tup ds) m1) kx) : wTup w v m k kx := h
theorem cb_go {o : OC} (h : w v m (fun ds m1 => o m1 (ds.map (res m1)) k) kx) : wCB o w v m k kx := h
theorem isB_go {k : KB} (h : a v m (fun d m1 => isB d fun b => k b m1) kx) : wIsB a v m k kx := h
theorem add_go (h : k (.int (x + y)) m) : oAdd z m (res m (.int x)) (res m (.int y)) k := h
theorem sub_go (h : k (.int (x - y)) m) : oSub m (res m (.int x)) (res m (.int y)) k := h
theorem lt_go (h : k (.bl (decide (x < y))) m) : oLt m (res m (.int x)) (res m (.int y)) k := h
theorem gt_go (h : k (.bl (decide (y < x))) m) : oGt m (res m (.int x)) (res m (.int y)) k := h
theorem ge_go (h : k (.bl (decide (y ≤ x))) m) : oGe m (res m (.int x)) (res m (.int y)) k := h
theorem eq_go (h : k (.bl (decide (x = y))) m) : oEq m (res m (.int x)) (res m (.int y)) k := h
theorem int_go (h : k (.int (if q = true then 1 else 0)) m) : cInt m ([D.bl q].map (res m)) k := h
theorem inti_go (h : k (.int x) m) : cInt m ([D.int x].map (res m)) k := h
theorem idx0_go {r : List D} (h : k d m) : oIdx m (res m (.tup (d :: r))) (res m (.int 0)) k := ⟨d, at0, h⟩
theorem two_go {e f : D} {i j : Nat} {k : Env → Mem → Prop} (h : k ((v.set i (some e)).set j (some f)) m) : gT 2 (gs1 (gN i) (gs1 (gN j) gs0)) (.tup [e, f]) v m k := ⟨rfl, h⟩
theorem drop_go (h : e v m (fun _ m1 => P.nx v m1) fun x m => P.ex x v m) : sDrop e v m P := h
theorem nil_s (h : P.nx v m) : sNil v m P := h
theorem raise_go {C : Str} {ps : List Str} (h : w v m (fun ds m1 => ds.length = ps.length ∧ ds.length ≤ 1000 ∧ P.ex ⟨C, ps.reverse, ds.reverse⟩ v m1) fun x m => P.ex x v m) : sRaise C ps w v m P := h
theorem tru_go {k : KB} (h : a v m (fun d m1 => tru m1 d fun b => k b m1) kx) : wTru a v m k kx := h
theorem trub_go {k : Bool → Prop} (h : k q) : tru m (.bl q) k := h
theorem not_go {t : WT} {k : KB} (h : t v m (fun q m1 => k (!q) m1) kx) : wNot t v m k kx := h
theorem or_go {t u : WT} {k : KB} (h : t v m (fun q m1 => (q = true → k true m1) ∧ (q = false → u v m1 k kx)) kx) : wOr t u v m k kx := h
theorem and_go {t u : WT} {k : KB} (h : t v m (fun q m1 => (q = true → u v m1 k kx) ∧ (q = false → k false m1)) kx) : wAnd t u v m k kx := h
theorem try_go {xs fs : List Str} {A : WS} {hs : List Hnd} (h : A v m { P with ex := hands xs fs P hs }) : sTry xs fs A hs v m P := h
theorem if_go {c : WT} {A B : WS} (h : c v m (fun q m1 => (q = true → A v m1 P) ∧ (q = false → B v m1 P)) fun x m => P.ex x v m) : sIf c A B v m P := h
end
end Ab
end
section
/-! Ab20: steps for readings, more of them. -/
namespace Ab
open PySem PySem.Spec PyProof.Rows L2
section
variable {v : Ab.Env} {m : Mem} {k : KE} {kx : KX} {kl : KL} {P : SK} {d : D} {i : Nat} {e a b : WE} {w r : WL} {g : WG} {z q : Bool} {x y : Int} {sp : ASp}
/-! ### tests -/
theorem if_dec {p A B : Prop} [Decidable p] (h1 : p → A) (h2 : ¬ p → B) : (decide p = true → A) ∧ (decide p = false → B) := ⟨fun h => h1 (of_decide_eq_true h), fun h => h2 (of_decide_eq_false h)⟩
theorem if_D {p A B : Prop} [Decidable p] (h : p) (h1 : A) : (decide p = true → A) ∧ (decide p = false → B) := if_t (decide_eq_true h) h1
theorem if_N {p A B : Prop} [Decidable p] (h : ¬ p) (h1 : B) : (decide p = true → A) ∧ (decide p = false → B) := if_f (decide_eq_false h) h1
theorem if_T {A B : Prop} (h1 : A) : (true = true → A) ∧ (true = false → B) := if_t rfl h1
theorem if_F {A B : Prop} (h1 : B) : (false = true → A) ∧ (false = false → B) := if_f rfl h1
theorem if_n {q : Bool} {A B : Prop} (h : (q = true → B) ∧ (q = false → A)) : ((!q) = true → A) ∧ ((!q) = false → B) := by
  cases q
  · exact ⟨fun _ => h.2 rfl, fun e => by cases e⟩
  · exact ⟨fun e => by (cases e), fun _ => h.1 rfl⟩
theorem if_b {q : Bool} {A B : Prop} (h1 : q = true → A) (h2 : q = false → B) : (q = true → A) ∧ (q = false → B) := ⟨h1, h2⟩
theorem isbl_go {k : Bool → Prop} (h : k q) : isB (.bl q) k := h
theorem tri_go {k : Bool → Prop} (h : k (decide (x ≠ 0))) : tru m (.int x) k := by
  have e : (x != 0) = decide (x ≠ 0) := by
    by_cases c : x = 0
    · subst c; rfl
    · rw [decide_eq_true c]; simpa using c
  rw [tru_int, e]
  exact h
theorem le_go (h : k (.bl (decide (x ≤ y))) m) : oLe m (res m (.int x)) (res m (.int y)) k := h
theorem ne_go (h : k (.bl (!decide (x = y))) m) : oNe m (res m (.int x)) (res m (.int y)) k := h
theorem eqs_go {s t : Str} (h : k (.bl (decide (s = t))) m) : oEq m (res m (.str s)) (res m (.str t)) k := h
theorem nes_go {s t : Str} (h : k (.bl (!decide (s = t))) m) : oNe m (res m (.str s)) (res m (.str t)) k := h
theorem eqb_go {s t : Bool} (h : k (.bl (decide (s = t))) m) : oEq m (res m (.bl s)) (res m (.bl t)) k := h
theorem neb_go {s t : Bool} (h : k (.bl (!decide (s = t))) m) : oNe m (res m (.bl s)) (res m (.bl t)) k := h
theorem chain_go {o o' : O2} {a b c : WE} (h : a v m (fun x m1 => b v m1 (fun y m2 => o m2 (res m2 x) (res m2 y) fun u m3 => isB u fun q => (q = true → c v m3 (fun z m4 => o' m4 (res m4 y) (res m4 z) k) kx) ∧ (q = false → k (.bl false) m3)) kx) kx) : wChain o o' a b c v m k kx := h
theorem iff_go {c : WT} {a b : WE} (h : c v m (fun q m1 => (q = true → a v m1 k kx) ∧ (q = false → b v m1 k kx)) kx) : wIf c a b v m k kx := h
theorem andv_go (h : a v m (fun d m1 => tru m1 d fun q => (q = true → b v m1 k kx) ∧ (q = false → k d m1)) kx) : wAndV a b v m k kx := h
theorem orv_go (h : a v m (fun d m1 => tru m1 d fun q => (q = true → k d m1) ∧ (q = false → b v m1 k kx)) kx) : wOrV a b v m k kx := h
theorem notv_go (h : a v m (fun d m1 => tru m1 d fun q => k (.bl (!q)) m1) kx) : wNotV a v m k kx := h
/-! ### arithmetic -/
theorem neg_go (h : a v m (fun d m1 => match d with
  | .int i => k (.int (-i)) m1
  | _ => False) kx) : wNeg a v m k kx := h
theorem bits_go (h : a v m (fun d m1 => match d with
  | .int i => k (.int (Builtin.Int.intBits i : Nat)) m1
  | _ => False) kx) : wBits a v m k kx := h
theorem mulg (h1 : MulOk x y) (h : k (.int (x * y)) m) : oMul z m (res m (.int x)) (res m (.int y)) k := ⟨h1, h⟩
theorem divg (h1 : DivOk y) (h : k (.int (x / y)) m) : oDiv m (res m (.int x)) (res m (.int y)) k := ⟨h1, h⟩
theorem modg (h1 : 0 < y) (h : k (.int (x % y)) m) : oMod m (res m (.int x)) (res m (.int y)) k := ⟨h1, h⟩
theorem shlg (h1 : ShlOk x y) (h : k (.int (x * 2 ^ y.toNat)) m) : oShl m (res m (.int x)) (res m (.int y)) k := ⟨h1, h⟩
theorem shl1g {n : Nat} (h1 : n ≤ 1000000) (h : k (.int (2 ^ n)) m) : oShl m (res m (.int 1)) (res m (.int (n : Nat))) k := by
  refine ⟨.inl ⟨by omega, by omega, by decide⟩, ?_⟩
  rw [Int.toNat_natCast, Int.one_mul]
  exact h
theorem shlng {n : Nat} (h1 : ShlOk x n) (h : k (.int (x * 2 ^ n)) m) : oShl m (res m (.int x)) (res m (.int (n : Nat))) k := ⟨h1, by rw [Int.toNat_natCast]; exact h⟩
theorem shrg (h1 : 0 ≤ y) (h : k (.int (x / 2 ^ y.toNat)) m) : oShr m (res m (.int x)) (res m (.int y)) k := ⟨h1, h⟩
theorem shrng {n : Nat} (h : k (.int (x / 2 ^ n)) m) : oShr m (res m (.int x)) (res m (.int (n : Nat))) k := ⟨by omega, by rw [Int.toNat_natCast]; exact h⟩
theorem pow_g (h1 : CPow x y) (h : k (.int (x ^ y.toNat)) m) : oPow m (res m (.int x)) (res m (.int y)) k := ⟨h1, h⟩
theorem band_go (h : k (.int (Builtin.bitAnd x y)) m) : oAnd m (res m (.int x)) (res m (.int y)) k := h
theorem bor_go (h : k (.int (Builtin.bitOr x y)) m) : oOr m (res m (.int x)) (res m (.int y)) k := h
theorem iadd_go (h : k (.int (x + y)) m) : oIAdd m (res m (.int x)) (res m (.int y)) k := h
theorem abs_go (h : k (.int (if x < 0 then -x else x)) m) : cAbs m ([D.int x].map (res m)) k := h
theorem min_go (h : k (.int (if y < x then y else x)) m) : cMin m ([D.int x, D.int y].map (res m)) k := h
theorem max_go (h : k (.int (if y > x then y else x)) m) : cMax m ([D.int x, D.int y].map (res m)) k := h
theorem aug_go {o : O2} (hi : look v i = some d) (h : e v m (fun d2 m1 => o m1 (res m1 d) (res m1 d2) fun d3 m2 => P.nx (v.set i (some d3)) m2) fun x m => P.ex x v m) : sAug i o e v m P := by
  unfold sAug
  rw [hi]
  exact h
/-! ### lists, tuples -/
theorem lenl_go {xs : List D} (h : k (.int xs.length) m) : cLen m ([D.lst xs].map (res m)) k := h
theorem lenf_go {xs : List D} (h : k (.int xs.length) m) : cLen m ([D.frl xs].map (res m)) k := h
theorem lent_go {xs : List D} (h : k (.int xs.length) m) : cLen m ([D.tup xs].map (res m)) k := h
theorem lenr_go {p : Addr} {xs : List D} (h : k (.int xs.length) (setM m p (.lst xs))) : cLen (setM m p (.lst xs)) ([D.raw (.ref p)].map (res (setM m p (.lst xs)))) k := by
  show cLen _ [res _ _] k
  rw [res_set]
  exact h
theorem idxl_go {xs : List D} (h : atI xs x = some d) (hk : k d m) : oIdx m (res m (.lst xs)) (res m (.int x)) k := ⟨d, h, hk⟩
theorem idxt_go {xs : List D} (h : atI xs x = some d) (hk : k d m) : oIdx m (res m (.tup xs)) (res m (.int x)) k := ⟨d, h, hk⟩
theorem idxf_go {xs : List D} (h : atI xs x = some d) (hk : k d m) : oIdx m (res m (.frl xs)) (res m (.int x)) k := ⟨d, h, hk⟩
theorem at4 {α : Type} {x y z u w : α} {r : List α} : atI (x :: y :: z :: u :: w :: r) 4 = some w := by
  unfold atI ixN
  rw [if_pos (by omega), if_pos (by simp only [List.length_cons]; omega)]
  rfl
theorem at5 {α : Type} {x y z u w t : α} {r : List α} : atI (x :: y :: z :: u :: w :: t :: r) 5 = some t := by
  unfold atI ixN
  rw [if_pos (by omega), if_pos (by simp only [List.length_cons]; omega)]
  rfl
theorem at_last {α : Type} {xs : List α} {y : α} : atI (xs ++ [y]) (-1) = some y := by
  unfold atI ixN
  rw [if_neg (by omega), if_pos (by simp only [List.length_append, List.length_cons, List.length_nil]; omega)]
  show (xs ++ [y])[((xs ++ [y]).length + (-1 : Int)).toNat]? = some y
  rw [show ((xs ++ [y]).length + (-1 : Int)).toNat = xs.length by simp only [List.length_append, List.length_cons, List.length_nil]; omega]
  simp
theorem sz_go {ds : List D} {Q : Prop} (hl : ds.length ≤ 1000) (h : Q) : ds.length ≤ sizeLine ∧ Q := ⟨size_line (by omega), h⟩
theorem lstk_go (h : w v m (fun ds m1 => ds.length ≤ sizeLine ∧ newK z (.lst ds) m1 k) kx) : wLst z w v m k kx := h
theorem newt_go (h : k d m) : newK true d m k := h
theorem newf_go (h : ∀ a, m a = none → k (.raw (.ref a)) (setM m a d)) : newK false d m k := h
theorem listl_go {xs : List D} (h : newK z (.lst xs) m k) : cList z m ([D.lst xs].map (res m)) k := h
theorem listf_go {xs : List D} (h : newK z (.lst xs) m k) : cList z m ([D.frl xs].map (res m)) k := h
theorem sl_go {l h : WO} (q : a v m (fun d m1 => l v m1 (fun lo m2 => h v m2 (fun hi m3 => oSl z m3 (res m3 d) lo hi k) kx) kx) kx) : wSl z a l h v m k kx := q
theorem nopart_go {ko : Option Int → Mem → Prop} (h : ko none m) : wNoPart v m ko kx := h
theorem part_go {ko : Option Int → Mem → Prop} (h : a v m (fun d m1 => match d with
  | .int i => ko (some i) m1
  | _ => False) kx) : wPart a v m ko kx := h
theorem sll_go {xs : List D} {lo hi : Option Int} (h : newK z (.lst (cutD xs lo hi)) m k) : oSl z m (res m (.lst xs)) lo hi k := h
theorem rev_go (h : a v m (fun d m1 => match res m1 d with
  | .lst xs => newK z (.lst xs.reverse) m1 k
  | .frl xs => newK z (.lst xs.reverse) m1 k
  | _ => False) kx) : wRev z a v m k kx := h
theorem mt_go {T : String} {o : OM} (q : a v m (fun d m1 => isT T (res m1 d) ∧ w v m1 (fun ds m2 => o m2 d ds k) kx) kx) : wMt T o a w v m k kx := q
theorem ist_set {p : Addr} {xs : List D} {Q : Prop} (h : Q) : isT "list" (res (setM m p (.lst xs)) (.raw (.ref p))) ∧ Q := ⟨by rw [res_set]; rfl, h⟩
theorem ist_at {p : Addr} {xs : List D} {Q : Prop} (hp : m p = some (.lst xs)) (h : Q) : isT "list" (res m (.raw (.ref p))) ∧ Q := ⟨by rw [res_some hp]; rfl, h⟩
theorem app_set {p : Addr} {xs : List D} (hl : xs.length < 16000000) (h : k .non (setM m p (.lst (xs ++ [d])))) : mAppend (setM m p (.lst xs)) (.raw (.ref p)) [d] k := by
  simp only [mAppend]
  rw [mutL_set, setM_setM]
  exact ⟨by rw [sizeLine_eq]; omega, h⟩
theorem app_at {p : Addr} {xs : List D} (hp : m p = some (.lst xs)) (hl : xs.length < 16000000) (h : k .non (setM m p (.lst (xs ++ [d])))) : mAppend m (.raw (.ref p)) [d] k := by
  simp only [mAppend]
  rw [mutL_some hp]
  exact ⟨by rw [sizeLine_eq]; omega, h⟩
/-! ### calls -/
theorem l1_go {a : D} {Q : Prop} (h : Q) : [a].length = 1 ∧ Q := ⟨rfl, h⟩
theorem l2_go {a b : D} {Q : Prop} (h : Q) : [a, b].length = 2 ∧ Q := ⟨rfl, h⟩
theorem l3_go {a b c : D} {Q : Prop} (h : Q) : [a, b, c].length = 3 ∧ Q := ⟨rfl, h⟩
theorem l4_go {a b c d : D} {Q : Prop} (h : Q) : [a, b, c, d].length = 4 ∧ Q := ⟨rfl, h⟩
theorem l5_go {a b c d e : D} {Q : Prop} (h : Q) : [a, b, c, d, e].length = 5 ∧ Q := ⟨rfl, h⟩
theorem l6_go {a b c d e f : D} {Q : Prop} (h : Q) : [a, b, c, d, e, f].length = 6 ∧ Q := ⟨rfl, h⟩
theorem rz1_go {a : D} {p : Str} {Q : Prop} (h : Q) : [a].length = [p].length ∧ [a].length ≤ 1000 ∧ Q := ⟨rfl, Nat.le_of_ble_eq_true rfl, h⟩
/-! ### returns -/
section
variable {Q : D → Mem → Prop}
theorem rt_int (h : Q (.int x) m) : ∃ d' m', GhD (.int x) m d' m' ∧ Q d' m' := ⟨_, _, GhD.refl, h⟩
theorem rt_bl (h : Q (.bl q) m) : ∃ d' m', GhD (.bl q) m d' m' ∧ Q d' m' := ⟨_, _, GhD.refl, h⟩
theorem rt_non (h : Q .non m) : ∃ d' m', GhD .non m d' m' ∧ Q d' m' := ⟨_, _, GhD.refl, h⟩
theorem rt_str {s : Str} (h : Q (.str s) m) : ∃ d' m', GhD (.str s) m d' m' ∧ Q d' m' := ⟨_, _, GhD.refl, h⟩
theorem rt_tup {ds : List D} (h : Q (.tup ds) m) : ∃ d' m', GhD (.tup ds) m d' m' ∧ Q d' m' := ⟨_, _, GhD.refl, h⟩
theorem rt_lst {ds : List D} (h : Q (.lst ds) m) : ∃ d' m', GhD (.lst ds) m d' m' ∧ Q d' m' := ⟨_, _, GhD.refl, h⟩
theorem rt_any {d : D} (h : Q d m) : ∃ d' m', GhD d m d' m' ∧ Q d' m' := ⟨_, _, GhD.refl, h⟩
theorem rt_at {p : Addr} {d : D} (hp : m p = some d) (h : Q d (delM m p)) : ∃ d' m', GhD (.raw (.ref p)) m d' m' ∧ Q d' m' := ⟨_, _, GhD.freeze hp, h⟩
theorem rt_set {p : Addr} {d : D} (hp : m p = none) (h : Q d m) : ∃ d' m', GhD (.raw (.ref p)) (setM m p d) d' m' ∧ Q d' m' := ⟨_, _, GhD.freeze setM_same, by rw [delM_setM hp]; exact h⟩
theorem rt_new {d : D} (h : Q d m) : newK false d m (fun d m1 => ∃ d' m', GhD d m1 d' m' ∧ Q d' m') := fun a ha => rt_set ha h
end
/-! ### loops -/
theorem for_go {it : WI} {b : WS} (h : it v m (fun items m1 => Turns g b P items v m1) fun x m => P.ex x v m) : sFor it g b v m P := h
theorem iseq_go {kl : KL} (h : a v m (fun d m1 => seqK d m1 kl) kx) : iSeq a v m kl kx := h
theorem skl_go {xs : List D} {k : KL} (h : k xs m) : seqK (.lst xs) m k := h
theorem skf_go {xs : List D} {k : KL} (h : k xs m) : seqK (.frl xs) m k := h
theorem skd_go {p : Addr} {ks : List Key} {xs : List D} {k : KL} (hp : m p = some (.dct ks xs)) (h : k (ks.map keyD) (delM m p)) : seqK (.raw (.ref p)) m k := by
  show (match m p with
    | some (.lst xs) => k xs (delM m p)
    | some (.dct ks _) => k (ks.map keyD) (delM m p)
    | _ => False)
  rw [hp]
  exact h
theorem mem_go {i : Int} {xs : List D} {is : List Int} {m : Mem} {k : KE} (h1 : intsOf xs = some is) (h : k (.bl (decide (i ∈ is))) m) : oIn m (res m (.int i)) (res m (.tup xs)) k := ⟨is, h1, h⟩
theorem skt_go {xs : List D} {k : KL} (h : k xs m) : seqK (.tup xs) m k := h
theorem ir1_go {kl : KL} (h : a v m (fun x m1 => match x with
  | .int i => -(2 ^ 62) ≤ i ∧ i < 2 ^ 62 ∧ kl (rngD 0 1 i.toNat) m1
  | _ => False) kx) : iR1 a v m kl kx := h
theorem rng_turns {g : WG} {b : WS} {P : SK} {lo : Int} {n : Nat} {v : Ab.Env} {m : Mem} (I : Nat → Ab.Env → Mem → Prop) (h0 : I 0 v m)
    (h1 : ∀ i v1 m2, i < n → I i v1 m2 → g (.int (lo + (i : Int))) v1 m2 fun v2 m3 => b v2 m3 ⟨fun v3 m4 => ∃ v4 m5, Gh v3 m4 v4 m5 ∧ I (i + 1) v4 m5, P.rt, P.nx, fun v3 m4 => ∃ v4 m5, Gh v3 m4 v4 m5 ∧ I (i + 1) v4 m5, P.ex⟩) (h2 : ∀ v1 m2, I n v1 m2 → P.nx v1 m2) : Turns g b P (rngD lo 1 n) v m := by
  refine turns I h0 (fun i d v1 m2 hi hI => ?_) (fun v1 m2 h => h2 v1 m2 (by rwa [rngD_len] at h))
  obtain ⟨hi', rfl⟩ := rng_at hi
  rw [Int.mul_one]
  exact h1 i v1 m2 hi' hI
theorem lst_turns {α : Type} {f : α → D} {g : WG} {b : WS} {P : SK} {xs : List α} {v : Ab.Env} {m : Mem} (I : Nat → Ab.Env → Mem → Prop) (h0 : I 0 v m)
    (h1 : ∀ i (hi : i < xs.length) v1 m2, I i v1 m2 → g (f xs[i]) v1 m2 fun v2 m3 => b v2 m3 ⟨fun v3 m4 => ∃ v4 m5, Gh v3 m4 v4 m5 ∧ I (i + 1) v4 m5, P.rt, P.nx, fun v3 m4 => ∃ v4 m5, Gh v3 m4 v4 m5 ∧ I (i + 1) v4 m5, P.ex⟩) (h2 : ∀ v1 m2, I xs.length v1 m2 → P.nx v1 m2) : Turns g b P (xs.map f) v m := by
  refine turns I h0 (fun i d v1 m2 hi hI => ?_) (fun v1 m2 h => h2 v1 m2 (by rwa [List.length_map] at h))
  have hl : i < xs.length := by
    have := (List.getElem?_eq_some_iff.mp hi).1
    rwa [List.length_map] at this
  rw [List.getElem?_map, List.getElem?_eq_getElem hl] at hi
  cases hi
  exact h1 i hl v1 m2 hI
/-- a for over a list: the rest of the items -/
theorem rest_turns {α : Type} {f : α → D} {g : WG} {b : WS} {P : SK} {xs : List α} {v : Ab.Env} {m : Mem} (I : List α → List α → Ab.Env → Mem → Prop) (h0 : I [] xs v m)
    (h1 : ∀ pre x r v1 m2, pre ++ x :: r = xs → I pre (x :: r) v1 m2 → g (f x) v1 m2 fun v2 m3 => b v2 m3 ⟨fun v3 m4 => ∃ v4 m5, Gh v3 m4 v4 m5 ∧ I (pre ++ [x]) r v4 m5, P.rt, P.nx, fun v3 m4 => ∃ v4 m5, Gh v3 m4 v4 m5 ∧ I (pre ++ [x]) r v4 m5, P.ex⟩) (h2 : ∀ v1 m2, I xs [] v1 m2 → P.nx v1 m2) : Turns g b P (xs.map f) v m := by
  refine lst_turns (fun i v m => I (xs.take i) (xs.drop i) v m) (by simpa using h0) (fun i hi v1 m2 hI => ?_) (fun v1 m2 h => h2 v1 m2 (by simpa using h))
  rw [List.drop_eq_getElem_cons hi] at hI
  have e : xs.take (i + 1) = xs.take i ++ [xs[i]] := by simp [List.take_append_getElem]
  have := h1 (xs.take i) xs[i] (xs.drop (i + 1)) v1 m2 (by rw [← List.drop_eq_getElem_cons hi]; exact List.take_append_drop i xs) hI
  rw [e]
  exact this
theorem while_go {c : WT} {b : WS} (I : Nat → Ab.Env → Mem → Prop) (h0 : ∃ n, I n v m) (h1 : ∀ n v m, I n v m → c v m (fun q m1 => (q = true → b v m1 { P with
    nx := fun v1 m1 => ∃ v2 m2 n', Gh v1 m1 v2 m2 ∧ n' < n ∧ I n' v2 m2
    ct := fun v1 m1 => ∃ v2 m2 n', Gh v1 m1 v2 m2 ∧ n' < n ∧ I n' v2 m2
    bk := P.nx }) ∧ (q = false → P.nx v m1)) fun x m => P.ex x v m) : sWhile c b v m P := ⟨I, h0, h1⟩
end
theorem dn_turns {g : WG} {b : WS} {P : SK} {n : Nat} {v : Ab.Env} {m : Mem} (I : Nat → Ab.Env → Mem → Prop) (h0 : I n v m)
    (h1 : ∀ r v1 m2, r < n → I (r + 1) v1 m2 → g (.int (r : Int)) v1 m2 fun v2 m3 => b v2 m3 ⟨fun v3 m4 => ∃ v4 m5, Gh v3 m4 v4 m5 ∧ I r v4 m5, P.rt, P.nx, fun v3 m4 => ∃ v4 m5, Gh v3 m4 v4 m5 ∧ I r v4 m5, P.ex⟩) (h2 : ∀ v1 m2, I 0 v1 m2 → P.nx v1 m2) : Turns g b P (rngD ((n : Int) - 1) (-1) n) v m := by
  refine turns (fun i v m => i ≤ n ∧ I (n - i) v m) ⟨Nat.zero_le _, by rw [Nat.sub_zero]; exact h0⟩ (fun i d v1 m2 hi hI => ?_) (fun v1 m2 h => h2 v1 m2 (by rw [rngD_len] at h; rw [Nat.sub_self] at h; exact h.2))
  obtain ⟨hi', rfl⟩ := rng_at hi
  obtain ⟨r, hr⟩ : ∃ r, n - i = r + 1 := ⟨n - i - 1, by omega⟩
  have e : ((n : Int) - 1 + (i : Int) * -1) = (r : Int) := by omega
  rw [e]
  have hI2 := hI.2
  rw [hr] at hI2
  have q := h1 r v1 m2 (by omega) hI2
  have e2 : n - (i + 1) = r := by omega
  rw [e2]
  have e3 : (fun v3 m4 => ∃ v4 m5, Gh v3 m4 v4 m5 ∧ i + 1 ≤ n ∧ I r v4 m5) = (fun v3 m4 => ∃ v4 m5, Gh v3 m4 v4 m5 ∧ I r v4 m5) := by
    funext v3 m4
    apply propext
    exact ⟨fun ⟨a, b, c, _, d⟩ => ⟨a, b, c, d⟩, fun ⟨a, b, c, d⟩ => ⟨a, b, c, by omega, d⟩⟩
  rw [e3]
  exact q
theorem rg_down {n : Nat} {Q : Nat → Prop} (hn : n ≤ 1000000000) (h : Q n) : ∃ l, RgC ((n : Int) - 1) (-1) (-1) l ∧ Q l := by
  have := RgC.neg (i := (n : Int) - 1) (j := -1) (by omega) (by omega) (by omega) (by omega)
  rw [show ((n : Int) - 1 - -1).toNat = n by omega] at this
  exact ⟨n, this, h⟩
theorem ir2_go {a b : WE} {v : Ab.Env} {m : Mem} {kl : KL} {kx : KX} (h : a v m (fun x m1 => b v m1 (fun y m2 => match x, y with
  | .int i, .int j => -(2 ^ 62) ≤ i ∧ i < 2 ^ 62 ∧ -(2 ^ 62) ≤ j ∧ j < 2 ^ 62 ∧ kl (rngD i 1 (j - i).toNat) m2
  | _, _ => False) kx) kx) : iR2 a b v m kl kx := h
theorem ir3_go {a b c : WE} {v : Ab.Env} {m : Mem} {kl : KL} {kx : KX} (h : a v m (fun x m1 => b v m1 (fun y m2 => c v m2 (fun z m3 => match x, y, z with
  | .int i, .int j, .int l => ∃ n, RgC i j l n ∧ kl (rngD i l n) m3
  | _, _, _ => False) kx) kx) kx) : iR3 a b c v m kl kx := h
theorem ienum_go {a : WE} {v : Ab.Env} {m : Mem} {kl : KL} {kx : KX} (h : a v m (fun d m1 => match d with
  | .lst xs => kl (enumD 0 xs) m1
  | .frl xs => kl (enumD 0 xs) m1
  | _ => False) kx) : iEnumD a v m kl kx := h
theorem par2_go {i j : Nat} {w : WL} {v : Ab.Env} {m : Mem} {P : SK} (h : w v m (fun ds m1 => match ds with
  | [d, e] => P.nx ((v.set i (some d)).set j (some e)) m1
  | _ => False) fun x m => P.ex x v m) : sPar [i, j] w v m P := by
  unfold sPar
  have e : (fun (ds : List D) (m1 : Mem) => ds.length = [i, j].length ∧ P.nx (putAll v [i, j] ds) m1) = fun ds m1 => match ds with
    | [d, e] => P.nx ((v.set i (some d)).set j (some e)) m1
    | _ => False := by
    funext ds m1
    apply propext
    match ds with
    | [] => exact ⟨fun h => (by cases h.1), fun h => False.elim h⟩
    | [a] => exact ⟨fun h => (by cases h.1), fun h => False.elim h⟩
    | [a, b] => exact ⟨fun h => h.2, fun h => ⟨rfl, h⟩⟩
    | a :: b :: c :: r => exact ⟨fun h => (by cases h.1), fun h => False.elim h⟩
  rw [e]
  exact h
theorem par3_go {i j l : Nat} {w : WL} {v : Ab.Env} {m : Mem} {P : SK} (h : w v m (fun ds m1 => match ds with
  | [d, e, f] => P.nx (((v.set i (some d)).set j (some e)).set l (some f)) m1
  | _ => False) fun x m => P.ex x v m) : sPar [i, j, l] w v m P := by
  unfold sPar
  have e : (fun (ds : List D) (m1 : Mem) => ds.length = [i, j, l].length ∧ P.nx (putAll v [i, j, l] ds) m1) = fun ds m1 => match ds with
    | [d, e, f] => P.nx (((v.set i (some d)).set j (some e)).set l (some f)) m1
    | _ => False := by
    funext ds m1
    apply propext
    match ds with
    | [] => exact ⟨fun h => (by cases h.1), fun h => False.elim h⟩
    | [a] => exact ⟨fun h => (by cases h.1), fun h => False.elim h⟩
    | [a, b] => exact ⟨fun h => (by cases h.1), fun h => False.elim h⟩
    | [a, b, c] => exact ⟨fun h => h.2, fun h => ⟨rfl, h⟩⟩
    | a :: b :: c :: d :: r => exact ⟨fun h => (by cases h.1), fun h => False.elim h⟩
  rw [e]
  exact h
/-- a comprehension that changes nothing and keeps all -/
theorem lc_map {α : Type} {f : α → D} {g : WG} {te : WE} {z : Bool} {own : List Nat} {xs : List α} {v : Ab.Env} {m : Mem} {k : KE} (r : α → D) (hl : xs.length ≤ 16000000)
    (h1 : ∀ i (hi : i < xs.length) (kk : KE) (Z : Mem → Prop), kk (r xs[i]) m → g (f xs[i]) (wipeE v own) m fun v3 m3 => wYes v3 m3 (fun q m4 => (q = true → te v3 m4 kk kx0) ∧ (q = false → Z m4)) kx0) (h2 : newK z (.lst (xs.map r)) m k) :
    (∃ I : Nat → List D → Mem → Prop, I 0 [] m ∧
  (∀ i d acc m2, (xs.map f)[i]? = some d → I i acc m2 → g d (wipeE v own) m2 fun v3 m3 => wYes v3 m3 (fun q m4 =>
    (q = true → te v3 m4 (fun y m5 => acc.length < sizeLine ∧ I (i + 1) (acc ++ [y]) m5) kx0) ∧ (q = false → I (i + 1) acc m4)) kx0) ∧
  ∀ acc m2, I (xs.map f).length acc m2 → newK z (.lst acc) m2 k) := by
  refine ⟨fun i acc m' => m' = m ∧ acc = (xs.take i).map r, ⟨rfl, by simp⟩, ?_, ?_⟩
  · rintro i d acc m2 hi ⟨rfl, rfl⟩
    have hl : i < xs.length := by
      have := (List.getElem?_eq_some_iff.mp hi).1
      rwa [List.length_map] at this
    rw [List.getElem?_map, List.getElem?_eq_getElem hl] at hi
    cases hi
    have := h1 i hl (fun y m5 => ((xs.take i).map r).length < sizeLine ∧ (m5 = m2 ∧ (xs.take i).map r ++ [y] = (xs.take (i + 1)).map r)) (fun m4 => m4 = m2 ∧ (xs.take i).map r = (xs.take (i + 1)).map r) ⟨by rw [List.length_map, List.length_take, sizeLine_eq]; omega, rfl, by rw [← List.take_append_getElem hl, List.map_append]; rfl⟩
    exact this
  · rintro acc m2 ⟨rfl, rfl⟩
    rw [List.length_map, List.take_length]
    exact h2
def sp_law_box (K : PySem.W.Frag) : ASp := spOf 1 (w_law_box K)
def sp_law_cell (K : PySem.W.Frag) : ASp := spOf 2 (w_law_cell K)
def sp_law_take (K : PySem.W.Frag) : ASp := spOf 5 (w_law_take K)
theorem nx_frz {b : WS} {P : SK} {v : Ab.Env} {m : Mem} {a : Addr} {d : D} (i : Nat) (hi : v[i]? = some (some (.raw (.ref a)))) (ha : m a = none) (h : b (v.set i (some d)) m P) : Nx b P v (setM m a d) :=
  ⟨_, _, Gh.freeze i hi setM_same, by rw [delM_setM ha]; exact h⟩
/-- is it of this type -/
def isiQ (d : D) (T : String) : Option Bool := match tyD d with
  | some a => if T ∈ tyNames then some (isTy a T) else none
  | none => none
theorem isiQ_ok {K : PySem.W.Frag} {m : Mem} {d : D} {T : String} {q : Bool} {k : KE} (h : isiQ d T = some q) (hk : k (.bl q) m) (hr : res m d = d) : cIsi K m ([d, .raw (.ty T)].map (res m)) k := by
  show cIsi K m [res m d, .raw (.ty T)] k
  rw [hr]
  unfold isiQ at h
  split at h
  · rename_i a e
    split at h
    · rename_i hm
      cases h
      exact ⟨a, e, hm, hk⟩
    · cases h
  · cases h
theorem isi_T {K : PySem.W.Frag} {m : Mem} {d : D} {T : String} {k : KE} (hr : res m d = d) (h : isiQ d T = some true) (hk : k (.bl true) m) : cIsi K m ([d, .raw (.ty T)].map (res m)) k := isiQ_ok h hk hr
theorem isi_F {K : PySem.W.Frag} {m : Mem} {d : D} {T : String} {k : KE} (hr : res m d = d) (h : isiQ d T = some false) (hk : k (.bl false) m) : cIsi K m ([d, .raw (.ty T)].map (res m)) k := isiQ_ok h hk hr
end Ab
end
section
/-! Ab21: steps through own classes. -/
namespace Ab
open PySem PySem.Spec PyProof.Rows L2
section
variable {m : Mem} {v : Ab.Env} {k : KE} {kx : KX} {P : SK} {T : ClsT} {C f : Str} {ns : List Str} {xs : List D} {a e o : WE} {w : WL}
theorem fld_go (h : a v m (fun d m1 => match res m1 d with
  | .obj C ns xs => C ∈ T.cs ∧ ∃ x, (ns.zip xs).lookup f = some x ∧ k x m1
  | _ => False) kx) : wFld T f a v m k kx := h
theorem fo_go {x : D} (hC : T.cs.contains C = true) (hl : (ns.zip xs).lookup f = some x) (h : k x m) : (match res m (.obj C ns xs) with
  | .obj C ns xs => C ∈ T.cs ∧ ∃ x, (ns.zip xs).lookup f = some x ∧ k x m
  | _ => False) := ⟨List.contains_iff_mem.mp hC, x, hl, h⟩
theorem fldv_go {i : Nat} {x : D} (hi : look v i = some (.obj C ns xs)) (hC : T.cs.contains C = true) (hl : (ns.zip xs).lookup f = some x) (h : k x m) : wFld T f (wVar i) v m k kx := by
  refine fld_go (var_go hi ?_)
  exact fo_go hC hl h
theorem fldD_go {i j : Nat} {p : Addr} {d : D} (hj : look v j = some d) (hi : look v i = some (.raw (.ref p))) (hp : m p = some (.obj C ns xs)) (hC : T.cs.contains C = true) (hf : ns.contains f = false) (hl : Nat.ble ns.length 999 = true) (h : P.nx v (setM m p (.obj C (ns ++ [f]) (xs ++ [d])))) : sFldD T f (wVar i) (wVar j) v m P := by
  refine var_go hj (var_go hi ?_)
  exact ⟨C, ns, xs, hp, List.contains_iff_mem.mp hC, by have := Nat.le_of_ble_eq_true hl; omega, .inl ⟨(fun z => (by rw [List.contains_iff_mem.mpr z] at hf; cases hf)), h⟩⟩
theorem fldR_go {i : Nat} {p : Addr} {d : D} {e : WE} (he : ∀ {k : KE} {kx : KX}, k d m → e v m k kx) (hi : look v i = some (.raw (.ref p))) (hp : m p = some (.obj C ns xs)) (hC : T.cs.contains C = true) (hf : ns.contains f = true) (hl : Nat.ble ns.length 999 = true) (h : P.nx v (setM m p (.obj C ns (setF f d ns xs)))) : sFldD T f (wVar i) e v m P := by
  refine he (var_go hi ?_)
  exact ⟨C, ns, xs, hp, List.contains_iff_mem.mp hC, by have := Nat.le_of_ble_eq_true hl; omega, .inr ⟨List.contains_iff_mem.mp hf, h⟩⟩
theorem make_go {n : Nat} {sp : ASp} (h : w v m (fun ds m1 => ds.length + 1 = n ∧ ∀ a, m1 a = none → sp (.raw (.ref a) :: ds) (setM m1 a (.obj C [] [])) fun r m2 => match r with
  | .ret d => d = .non ∧ ∃ u, m2 a = some u ∧ k u (delM m2 a)
  | .exc x => kx x (delM m2 a)) kx) : wMake C n sp w v m k kx := h
theorem mth_go {mt : Str} (h : a v m (fun d m1 => match res m1 d with
  | .obj C ns xs => C ∈ T.cs ∧ mt ∉ ns ∧ ∃ n sp, mLook C mt T.ms = some (n, sp) ∧ w v m1 (fun ds m2 => ds.length + 1 = n ∧ sp (d :: ds) m2 fun r m3 => match r with
    | .ret d => k d m3
    | .exc x => kx x m3) kx
  | _ => False) kx) : wMth T mt a w v m k kx := h
theorem mthv_go {mt : Str} {i n : Nat} {sp : ASp} (hi : look v i = some (.obj C ns xs)) (hC : T.cs.contains C = true) (hn : ns.contains mt = false) (hs : mLook C mt T.ms = some (n, sp)) (h : w v m (fun ds m2 => ds.length + 1 = n ∧ sp (.obj C ns xs :: ds) m2 fun r m3 => match r with
    | .ret d => k d m3
    | .exc x => kx x m3) kx) : wMth T mt (wVar i) w v m k kx := mth_go (var_go hi ⟨List.contains_iff_mem.mp hC, (fun z => (by rw [List.contains_iff_mem.mpr z] at hn; cases hn)), n, sp, hs, h⟩)
theorem isOv_go {C' : Str} {i : Nat} {q : Bool} (hi : look v i = some (.obj C ns xs)) (hC : T.cs.contains C = true) (hq : T.sub.contains (C, C') = q) (h : k (.bl q) m) : wIsO T C' (wVar i) v m k kx := by
  refine var_go hi ?_
  subst hq
  refine ⟨List.contains_iff_mem.mp hC, ?_⟩
  rw [show decide ((C, C') ∈ T.sub) = T.sub.contains (C, C') from by rw [Bool.eq_iff_iff, decide_eq_true_eq, List.contains_iff_mem]]
  exact h
end
end Ab
end
section
namespace Ab
open PySem PySem.Spec PyProof.Rows L2
/-! ### _law_long: 0 box, 1 width, 2 most, 3 found, 4 ends, 5 k -/
/-! ### _law_divisor: 0 box, 1 width, 2 most, 3 some -/
/-! ### _law_words: 0 number, 1 width, 2 found, 3 turn -/
/-! ### _law_number: 0 words, 1 width, 2 found, 3 word -/
/-! ### _law_low: 0 width, 1 words, 2 d, 3 many, 4 rows, 5 carry, 6 by, 7 k, 8 word, 9 digit -/
/-! ### is_whole: 0 thing -/
def w_is_whole (K : PySem.W.Frag) : WS :=
  (sRet (wAndV (wCB (cIsi K) (wCons (wVar 0) (wCons (wCon (.raw (.ty "int"))) wNil))) (wNotV (wCB (cIsi K) (wCons (wVar 0) (wCons (wCon (.raw (.ty "bool"))) wNil))))))
def sp_is_whole (K : PySem.W.Frag) : ASp := spOf 1 (w_is_whole K)
/-! ### need_width: 0 width -/
def w_need_width (K : PySem.W.Frag) : WS :=
  (sIf (wOr (wNot (wTru (wCall 1 (sp_is_whole K) (wCons (wVar 0) wNil)))) (wNot (wIsB (wChain oLe oLe (wCon (.int 4)) (wVar 0) (wCon (.int 32)))))) (sRaise "NoWidth" ["found"] (wCons (wVar 0) wNil)) sNil)
def sp_need_width (K : PySem.W.Frag) : ASp := spOf 1 (w_need_width K)
/-! ### is_long: 0 width, 1 thing, 2 word -/
/-! ### need_long: 0 width, 1 thing -/
/-! ### is_between: 0 number, 1 least, 2 greatest -/
/-! ### need_divisor: 0 width, 1 d -/
/-! ### need_odd: 0 width, 1 d -/
/-! ### cut: 0 width, 1 number -/
def w_cut (K : PySem.W.Frag) : WS :=
  (sRet (wOp oAnd (wVar 1) (wOp oSub (wOp oShl (wCon (.int 1)) (wVar 0)) (wCon (.int 1)))))
def sp_cut (K : PySem.W.Frag) : ASp := spOf 2 (w_cut K)
/-! ### low_product: 0 width, 1 a, 2 b -/
def w_low_product (K : PySem.W.Frag) : WS :=
  (sSeq (sDrop (wCall 1 (sp_need_width K) (wCons (wVar 0) wNil)))
  (sRet (wCall 2 (sp_cut K) (wCons (wVar 0) (wCons (wOp (oMul true) (wVar 1) (wVar 2)) wNil)))))
def sp_low_product (K : PySem.W.Frag) : ASp := spOf 3 (w_low_product K)
/-! ### gap_of: 0 width, 1 a, 2 b -/
def w_gap_of (K : PySem.W.Frag) : WS :=
  (sSeq (sDrop (wCall 1 (sp_need_width K) (wCons (wVar 0) wNil)))
  (sRet (wTup (wCons (wCall 2 (sp_cut K) (wCons (wVar 0) (wCons (wOp oSub (wVar 1) (wVar 2)) wNil))) (wCons (wCB cInt (wCons (wOp oLt (wVar 1) (wVar 2)) wNil)) wNil)))))
def sp_gap_of (K : PySem.W.Frag) : ASp := spOf 3 (w_gap_of K)
/-! ### inverse_steps: 0 width, 1 d, 2 steps, 3 product -/
/-! ### inverse: 0 width, 1 d -/
/-! ### high_product: 0 width, 1 a, 2 b -/
def w_high_product (K : PySem.W.Frag) : WS :=
  (sSeq (sDrop (wCall 1 (sp_need_width K) (wCons (wVar 0) wNil)))
  (sRet (wOp oShr (wOp (oMul true) (wVar 1) (wVar 2)) (wVar 0))))
def sp_high_product (K : PySem.W.Frag) : ASp := spOf 3 (w_high_product K)
/-! ### low_rows: 0 width, 1 words, 2 d, 3 by, 4 carry, 5 rows, 6 word, 7 left, 8 borrow, 9 digit -/
/-! ### low_divided: 0 width, 1 top, 2 d, 3 words -/
/-! ### twos_in: 0 d, 1 twos -/
/-! ### exact: 0 width, 1 d, 2 twos -/
/-! ### trimmed: 0 words, 1 last -/
def w_trimmed_1 (K : PySem.W.Frag) : WS :=
  (sRet (wSl false (wVar 0) wNoPart (wPart (wVar 1))))
def w_trimmed_2 (K : PySem.W.Frag) : WS :=
  (sAug 1 oSub (wCon (.int 1)))
def w_trimmed (K : PySem.W.Frag) : WS :=
  (sSeq (sSet 1 (wCB cLen (wCons (wVar 0) wNil)))
  (sSeq (sWhile (wAnd (wIsB (wOp oGt (wVar 1) (wCon (.int 0)))) (wIsB (wOp oEq (wOp oIdx (wVar 0) (wOp oSub (wVar 1) (wCon (.int 1)))) (wCon (.int 0))))) (w_trimmed_2 K))
  (w_trimmed_1 K)))
def sp_trimmed (K : PySem.W.Frag) : ASp := spOf 2 (w_trimmed K)
/-! ### word_at: 0 words, 1 place -/
/-! ### long_right: 0 width, 1 one, 2 many, 3 words, 4 places, 5 bits, 6 most, 7 found, 8 place, 9 both -/
/-! ### divides_long: 0 width, 1 top, 2 d, 3 words, 4 twos, 5 rows -/
/-! ### exact_long: 0 width, 1 top, 2 d, 3 words, 4 twos, 5 rows, 6 digit, 7 carry -/
/-! ### compared: 0 one, 1 other, 2 place -/
/-! ### same_rest: 0 width, 1 one, 2 other, 3 d, 4 first, 5 second, 6 gap, 7 borrow, 8 place, 9 word, 10 left, 11 once, 12 twice, 13 rows -/
end Ab
end
section
namespace Ab
open PySem PySem.Spec PyProof.Rows L2
/-! ### need_high_divisor: 0 width, 1 d -/
/-! ### need_word: 0 width, 1 thing -/
/-! ### guess_rows: 0 width, 1 high, 2 low, 3 word, 4 rows, 5 rest, 6 k, 7 bit -/
/-! ### guess_of: 0 width, 1 high, 2 low, 3 word, 4 guess, 5 bit, 6 rest -/
/-! ### reciprocal: 0 width, 1 d, 2 most -/
/-! ### sum_of: 0 width, 1 a, 2 b -/
def w_sum_of (K : PySem.W.Frag) : WS :=
  (sSeq (sDrop (wCall 1 (sp_need_width K) (wCons (wVar 0) wNil)))
  (sRet (wTup (wCons (wCall 2 (sp_cut K) (wCons (wVar 0) (wCons (wOp (oAdd true) (wVar 1) (wVar 2)) wNil))) (wCons (wOp oShr (wOp (oAdd true) (wVar 1) (wVar 2)) (wVar 0)) wNil)))))
def sp_sum_of (K : PySem.W.Frag) : ASp := spOf 3 (w_sum_of K)
/-! ### digit_by: 0 width, 1 d, 2 v, 3 high, 4 low, 5 under, 6 carry, 7 guess, 8 rest, 9 back, 10 up, 11 digit -/
/-! ### short_rows: 0 width, 1 words, 2 d, 3 v, 4 rest, 5 rows, 6 place, 7 row -/
/-! ### long_left: 0 width, 1 one, 2 many, 3 words, 4 places, 5 bits, 6 most, 7 found, 8 carry, 9 word, 10 both -/
/-! ### moved_words: 0 width, 1 words, 2 turn, 3 moved -/
/-! ### short_divided: 0 width, 1 top, 2 d, 3 words, 4 turn, 5 rows, 6 digits, 7 row -/
/-! ### two_longs: 0 width, 1 one, 2 other, 3 first -/
/-! ### steps_ahead: 0 width, 1 top, 2 bottom, 3 upper, 4 lower -/
/-! ### turn_of: 0 width, 1 bottom, 2 words -/
/-! ### guess_at: 0 width, 1 ahead, 2 lower, 3 size -/
/-! ### by_word: 0 width, 1 words, 2 word, 3 found, 4 carry, 5 part, 6 low, 7 more -/
/-! ### times_word: 0 width, 1 one, 2 word, 3 words -/
/-! ### taken: 0 width, 1 one, 2 other, 3 words, 4 borrows_on, 5 borrow, 6 place, 7 word, 8 first, 9 second -/
/-! ### long_gap: 0 width, 1 one, 2 other, 3 first, 4 second -/
/-! ### digit_row: 0 width, 1 place, 2 ahead, 3 lower, 4 guess, 5 back, 6 due -/
/-! ### moved_up: 0 rest, 1 word -/
/-! ### long_divided: 0 width, 1 top, 2 bottom, 3 steps, 4 turn, 5 upper, 6 lower, 7 rest, 8 rows, 9 digits, 10 place, 11 row -/
/-! ### _law_digit: 0 width, 1 d, 2 high, 3 low, 4 many, 5 whole, 6 guess, 7 rest, 8 back, 9 up -/
/-! ### _law_short: 0 width, 1 words, 2 d, 3 turn, 4 rows, 5 rest, 6 k, 7 moved, 8 by, 9 place, 10 row -/
/-! ### summed: 0 width, 1 one, 2 other, 3 words, 4 carries_on, 5 carry, 6 place, 7 word, 8 first, 9 second -/
/-! ### long_sum: 0 width, 1 one, 2 other, 3 first, 4 second -/
/-! ### back_again: 0 width, 1 quotient, 2 d, 3 rest, 4 words -/
end Ab
end
section
namespace Ab
open PySem PySem.Spec PyProof.Rows L2
/-! ### _law_mixed: 0 box, 1 items, 2 pool, 3 found, 4 k -/
/-! ### are_numbers: 0 thing, 1 many, 2 number -/
/-! ### is_short_division: 0 width, 1 top, 2 d, 3 quotient, 4 rest, 5 rows, 6 words, 7 turn, 8 moved, 9 by, 10 v, 11 ahead, 12 digits, 13 at, 14 row, 15 place -/
/-! ### _law_spoilt: 0 box, 1 rows, 2 width, 3 found, 4 at, 5 size, 6 row, 7 place, 8 changed, 9 by, 10 other -/
def w_law_spoilt_1 (K : PySem.W.Frag) : WS :=
  (sRet (wOp (oAdd false) (wVar 3) (wLst true (wCons (wOp (oAdd true) (wSl true (wVar 1) wNoPart (wPart (wVar 4))) (wSl true (wVar 1) (wPart (wOp (oAdd true) (wVar 4) (wCon (.int 1)))) wNoPart)) (wCons (wRev true (wVar 1)) (wCons (wOp (oAdd true) (wSl true (wVar 1) (wPart (wCon (.int 1))) wNoPart) (wSl true (wVar 1) wNoPart (wPart (wCon (.int 1))))) (wCons (wLst true wNil) wNil)))))))
def w_law_spoilt_2 (K : PySem.W.Frag) : WS :=
  (sDrop (wMt "list" mAppend (wVar 3) (wCons (wOp (oAdd true) (wOp (oAdd true) (wSl true (wVar 1) wNoPart (wPart (wVar 4))) (wLst true (wCons (wVar 10) wNil))) (wSl true (wVar 1) (wPart (wOp (oAdd true) (wVar 4) (wCon (.int 1)))) wNoPart)) wNil)))
def w_law_spoilt_3 (K : PySem.W.Frag) : WS :=
  (sSeq (sFor (iSeq (wVar 8)) (gN 10) (w_law_spoilt_2 K))
  (w_law_spoilt_1 K))
def w_law_spoilt_4 (K : PySem.W.Frag) : WS :=
  (sSeq (sDrop (wMt "list" mAppend (wVar 8) (wCons (wOp (oAdd true) (wOp (oAdd true) (wSl true (wVar 6) wNoPart (wPart (wVar 7))) (wTup (wCons (wOp oIdx (wLst true (wCons (wCon (.bl true)) (wCons (wCon (.bl false)) (wCons (wCon .non) (wCons (wCB cStr (wCons (wOp oIdx (wVar 6) (wVar 7)) wNil)) wNil))))) (wCall 2 (sp_law_take K) (wCons (wVar 0) (wCons (wCon (.int 4)) wNil)))) wNil))) (wSl true (wVar 6) (wPart (wOp (oAdd true) (wVar 7) (wCon (.int 1)))) wNoPart)) wNil)))
  (sSeq (sIf (wIsB (wOp oEq (wVar 5) (wCon (.int 6)))) (sSet 8 (wOp (oAdd false) (wVar 8) (wLst true (wCons (wOp (oAdd true) (wTup (wCons (wOp oIdx (wVar 6) (wCon (.int 0))) (wCons (wOp (oAdd true) (wOp oIdx (wVar 6) (wCon (.int 1))) (wCon (.int 1))) (wCons (wOp (oAdd true) (wOp oIdx (wVar 6) (wCon (.int 2))) (wCon (.int 1))) wNil)))) (wSl true (wVar 6) (wPart (wCon (.int 3))) wNoPart)) (wCons (wOp (oAdd true) (wSl true (wVar 6) wNoPart (wPart (wCon (.int 4)))) (wTup (wCons (wOp oSub (wOp oIdx (wVar 6) (wCon (.int 4))) (wCon (.int 1))) (wCons (wOp (oAdd true) (wOp oIdx (wVar 6) (wCon (.int 5))) (wCon (.int 1))) wNil)))) (wCons (wOp (oAdd true) (wOp (oAdd true) (wSl true (wVar 6) wNoPart (wPart (wCon (.int 2)))) (wTup (wCons (wOp oSub (wCon (.int 1)) (wOp oIdx (wVar 6) (wCon (.int 2)))) (wCons (wOp oSub (wCon (.int 1)) (wOp oIdx (wVar 6) (wCon (.int 3)))) wNil)))) (wSl true (wVar 6) (wPart (wCon (.int 4))) wNoPart)) wNil)))))) (sSet 8 (wOp (oAdd false) (wVar 8) (wLst true (wCons (wTup (wCons (wOp (oAdd true) (wOp oIdx (wVar 6) (wCon (.int 0))) (wCon (.int 1))) (wCons (wOp (oAdd true) (wOp oIdx (wVar 6) (wCon (.int 1))) (wCon (.int 1))) wNil))) (wCons (wTup (wCons (wOp oIdx (wVar 6) (wCon (.int 1))) (wCons (wOp oIdx (wVar 6) (wCon (.int 0))) wNil))) wNil))))))
  (w_law_spoilt_3 K)))
def w_law_spoilt_5 (K : PySem.W.Frag) : WS :=
  (sDrop (wMt "list" mAppend (wVar 8) (wCons (wOp (oAdd true) (wOp (oAdd true) (wSl true (wVar 6) wNoPart (wPart (wVar 7))) (wTup (wCons (wOp (oAdd true) (wOp oIdx (wVar 6) (wVar 7)) (wVar 9)) wNil))) (wSl true (wVar 6) (wPart (wOp (oAdd true) (wVar 7) (wCon (.int 1)))) wNoPart)) wNil)))
def w_law_spoilt_6 (K : PySem.W.Frag) : WS :=
  (sSeq (sPar [4, 5] (wCons (wCall 2 (sp_law_take K) (wCons (wVar 0) (wCons (wCB cLen (wCons (wVar 1) wNil)) wNil))) (wCons (wCB cLen (wCons (wOp oIdx (wVar 1) (wCon (.int 0))) wNil)) wNil)))
  (sSeq (sPar [6, 7] (wCons (wOp oIdx (wVar 1) (wVar 4)) (wCons (wCall 2 (sp_law_take K) (wCons (wVar 0) (wCons (wCB cLen (wCons (wOp oIdx (wVar 1) (wCon (.int 0))) wNil)) wNil))) wNil)))
  (sSeq (sSet 8 (wLst false (wCons (wCB (cList true) (wCons (wVar 6) wNil)) (wCons (wSl true (wVar 6) wNoPart (wPart (wNeg (wCon (.int 1))))) (wCons (wOp (oAdd true) (wVar 6) (wTup (wCons (wCon (.int 0)) wNil))) (wCons (wCon .non) wNil))))))
  (sSeq (sFor (iSeq (wLst true (wCons (wCon (.int 1)) (wCons (wNeg (wCon (.int 1))) (wCons (wOp oShl (wCon (.int 1)) (wVar 2)) wNil))))) (gN 9) (w_law_spoilt_5 K))
  (w_law_spoilt_4 K)))))
def w_law_spoilt (K : PySem.W.Frag) : WS :=
  (sSeq (sSet 3 (wLst false (wCons (wCon .non) (wCons (wCB cTuple (wCons (wVar 1) wNil)) (wCons (wOp (oAdd true) (wVar 1) (wSl true (wVar 1) wNoPart (wPart (wCon (.int 1))))) (wCons (wDct0 true) (wCons (wCon (.str "rows")) wNil)))))))
  (sSeq (sIf (wIsB (wOp oEq (wVar 1) (wLst true wNil))) (sRet (wOp (oAdd false) (wVar 3) (wLst true (wCons (wLst true (wCons (wTup (wCons (wCon (.int 0)) (wCons (wCon (.int 0)) wNil))) wNil)) (wCons (wLst true (wCons (wCon .non) wNil)) wNil))))) sNil)
  (w_law_spoilt_6 K)))
/-! ### is_low_division: 0 width, 1 top, 2 d, 3 rows, 4 words, 5 carry, 6 word, 7 row, 8 digit, 9 after, 10 left, 11 borrow -/
end Ab
end
section
namespace Ab
open PySem PySem.Spec PyProof.Rows L2
/-! ### _law_twos: 0 d, 1 found, 2 k -/
/-! ### _law_reckoning: 0 box, 1 width, 2 d, 3 early, 4 total, 5 factor, 6 addend -/
/-! ### _law_corners: 0 low, 1 high, 2 d, 3 found, 4 x -/
/-! ### _law_brought: 0 reckoning, 1 x, 2 early, 3 factor, 4 addend, 5 total -/
/-! ### _law_holds: 0 low, 1 high, 2 d, 3 reckoning, 4 x -/
/-! ### _law_wrong: 0 low, 1 high, 2 d, 3 reckoning, 4 some, 5 good, 6 bad, 7 turn, 8 half, 9 x -/
/-! ### span_corners: 0 low, 1 high, 2 d, 3 first, 4 last, 5 under, 6 over, 7 some, 8 x -/
/-! ### is_span: 0 width, 1 thing, 2 most -/
/-! ### need_span: 0 width, 1 span -/
/-! ### span_words: 0 width, 1 d, 2 span -/
/-! ### is_reckoning: 0 thing, 1 early, 2 factor, 3 addend, 4 total -/
/-! ### need_reckoning: 0 width, 1 d, 2 reckoning -/
/-! ### brought: 0 reckoning, 1 x, 2 early, 3 factor, 4 addend, 5 total -/
/-! ### holds_between: 0 low, 1 high, 2 d, 3 reckoning, 4 x -/
/-! ### holds_in: 0 width, 1 d, 2 reckoning, 3 span -/
/-! ### over_in: 0 low, 1 block, 2 factor, 3 lack, 4 found -/
/-! ### next_over: 0 low, 1 d, 2 factor, 3 addend, 4 total, 5 q, 6 found, 7 gap, 8 later -/
/-! ### next_under: 0 low, 1 d, 2 factor, 3 addend, 4 total, 5 q, 6 gap -/
/-! ### next_wrong: 0 low, 1 high, 2 d, 3 reckoning, 4 early, 5 factor, 6 addend, 7 total, 8 start, 9 some, 10 found, 11 x -/
/-! ### wrong_in: 0 width, 1 d, 2 reckoning, 3 span -/
/-! ### is_wrong_between: 0 low, 1 high, 2 d, 3 reckoning, 4 thing -/
/-! ### is_wrong_in: 0 width, 1 d, 2 reckoning, 3 span, 4 thing -/
/-! ### least_start: 0 word, 1 d, 2 reckoning, 3 wrong, 4 good, 5 half -/
/-! ### widest_span: 0 width, 1 d, 2 reckoning, 3 word, 4 most, 5 behind -/
end Ab
end
section
namespace K29
open PySem PySem.Spec PyProof.Rows L2 Ab
abbrev OL : PySem.W.OpenLaw := PySem.Challenge.rw_undivided_k29_trimming_refused
def top (i : Nat) : Stmt := PySem.Challenge.pw_undivided_k29_trimming_refused.main.body.getD i (.Pass ⟨0, 0, 0, 0⟩)
def CONS : List (Str × D) := [("LEAST_WIDTH", (.int 4)), ("GREATEST_WIDTH", (.int 32)), ("LETTERS", (.str "abcdefghijklmnopqrstuvwxyz")), ("FIGURES", (.str "0123456789")), ("LONGEST_NAME", (.int 8)), ("MOST_LINE", (.int 9999)), ("MOST_TIMES", (.int 64)), ("DEEPEST", (.int 5)), ("MOST_RUN", (.int 1000000))]
def EXCS : List (Str × List Str) := [("NoWidth", ["found"]), ("TooMuch", ["line"]), ("NoRegister", ["name"]), ("NoRow", ["place"])]
def XS : List Str := ["NoWidth", "TooMuch", "NoRegister", "NoRow"]
def FS : List Str := ["found", "line", "name", "place"]
def CS : List Str := ["And", "Carrying", "Copy", "Gap", "High", "Left", "Low", "Mark", "Or", "Pair", "Pick", "Right", "Set", "Shift", "Slide", "Step", "Sum", "Turns", "Under", "Unlike"]
def FL : List Str := ["bits", "by", "carry", "goal", "k", "line", "mark", "one", "other", "steps", "times"]
def SUBS0 : List (Str × Str) := [("And", "And"), ("And", "Pair"), ("And", "Step"), ("Carrying", "Carrying"), ("Carrying", "Step"), ("Copy", "Copy"), ("Copy", "Step"), ("Gap", "Gap"), ("Gap", "Carrying"), ("Gap", "Step"), ("High", "High"), ("High", "Pair"), ("High", "Step"), ("Left", "Left"), ("Left", "Shift"), ("Left", "Step"), ("Low", "Low"), ("Low", "Pair"), ("Low", "Step"), ("Mark", "Mark"), ("Mark", "Step"), ("Or", "Or"), ("Or", "Pair"), ("Or", "Step"), ("Pair", "Pair"), ("Pair", "Step"), ("Pick", "Pick"), ("Pick", "Step"), ("Right", "Right"), ("Right", "Shift")]
def SUBS1 : List (Str × Str) := [("Right", "Step"), ("Set", "Set"), ("Set", "Step"), ("Shift", "Shift"), ("Shift", "Step"), ("Slide", "Slide"), ("Slide", "Shift"), ("Slide", "Step"), ("Step", "Step"), ("Sum", "Sum"), ("Sum", "Carrying"), ("Sum", "Step"), ("Turns", "Turns"), ("Turns", "Step"), ("Under", "Under"), ("Under", "Pair"), ("Under", "Step"), ("Unlike", "Unlike"), ("Unlike", "Pair"), ("Unlike", "Step")]
def SUBS : List (Str × Str) := SUBS0 ++ SUBS1
def MSL0 : MsL := [("Set", "__init__", "Set"), ("Copy", "__init__", "Copy"), ("Left", "__init__", "Shift"), ("Right", "__init__", "Shift"), ("Sum", "__init__", "Carrying"), ("Gap", "__init__", "Carrying"), ("Pick", "__init__", "Pick"), ("Mark", "__init__", "Mark"), ("Turns", "__init__", "Turns"), ("Low", "__init__", "Pair"), ("High", "__init__", "Pair"), ("And", "__init__", "Pair"), ("Or", "__init__", "Pair"), ("Unlike", "__init__", "Pair"), ("Under", "__init__", "Pair"), ("Slide", "__init__", "Shift"), ("Turns", "fits", "Turns"), ("Copy", "fits", "Copy"), ("Set", "fits", "Set"), ("Sum", "fits", "Carrying"), ("Gap", "fits", "Carrying"), ("Mark", "fits", "Mark"), ("Pick", "fits", "Pick"), ("Low", "fits", "Pair"), ("High", "fits", "Pair"), ("And", "fits", "Pair"), ("Or", "fits", "Pair"), ("Unlike", "fits", "Pair"), ("Under", "fits", "Pair"), ("Left", "fits", "Shift")]
def MSL1 : MsL := [("Right", "fits", "Shift"), ("Slide", "fits", "Shift")]
def MSL : MsL := MSL0 ++ MSL1
abbrev mkC (K : PySem.W.Frag) (N : List Str) (st : Stmt) (muts : List Nat) (rmut : Bool) (fns : List (Str × Nat × ASp)) (T : ClsT) (ds : List Nat) : TC := ⟨K, N, scopeOf st, muts, rmut, fns, CONS, EXCS, XS, FS, T, ds⟩
/-! ### _law_box: 0 great -/
def N_law_box : List Str := ["great"]
def T_law_box (K : PySem.W.Frag) : ClsT := ⟨CS, FL, [], SUBS⟩
def c_law_box (K : PySem.W.Frag) : TC := mkC K N_law_box (top 69) [] true [] (T_law_box K) []
theorem t_law_box (K : PySem.W.Frag) : trB (c_law_box K) (bodyOf (top 69)) = some (w_law_box K) := by kernel_rfl
/-! ### _law_take: 0 box, 1 many, 2 digit, 3 mixed, 4 number -/
def N_law_take : List Str := ["box", "many", "digit", "mixed", "number"]
def T_law_take (K : PySem.W.Frag) : ClsT := ⟨CS, FL, [], SUBS⟩
def c_law_take (K : PySem.W.Frag) : TC := mkC K N_law_take (top 70) [0] false [] (T_law_take K) []
theorem t_law_take (K : PySem.W.Frag) : trB (c_law_take K) (bodyOf (top 70)) = some (w_law_take K) := by kernel_rfl
/-! ### _law_register: 0 box -/
def N_law_register : List Str := ["box"]
def T_law_register (K : PySem.W.Frag) : ClsT := ⟨CS, FL, [], SUBS⟩
def w_law_register (K : PySem.W.Frag) : WS :=
  (sRet (wOp oIdx (wLst true (wCons (wCon (.str "a")) (wCons (wCon (.str "b")) (wCons (wCon (.str "c")) (wCons (wCon (.str "d")) (wCons (wCon (.str "e9")) (wCons (wCon (.str "a")) wNil))))))) (wCall 2 (sp_law_take K) (wCons (wVar 0) (wCons (wCon (.int 6)) wNil)))))
def c_law_register (K : PySem.W.Frag) : TC := mkC K N_law_register (top 72) [] true [("_law_take", 2, sp_law_take K)] (T_law_register K) []
theorem t_law_register (K : PySem.W.Frag) : trB (c_law_register K) (bodyOf (top 72)) = some (w_law_register K) := by kernel_rfl
def sp_law_register (K : PySem.W.Frag) : ASp := spOf 1 (w_law_register K)
/-! ### _law_row: 0 box, 1 width, 2 way, 3 goal, 4 one, 5 other, 6 carry -/
def N_law_row : List Str := ["box", "width", "way", "goal", "one", "other", "carry"]
def T_law_row (K : PySem.W.Frag) : ClsT := ⟨CS, FL, [], SUBS⟩
def w_law_row_1 (K : PySem.W.Frag) : WS :=
  (sRet (wTup (wCons (wCon (.str "mark")) (wCons (wCall 2 (sp_law_take K) (wCons (wVar 0) (wCons (wCon (.int 30)) wNil))) (wCons (wOp oIdx (wLst true (wCons (wCon (.str "round")) (wCons (wCon (.str "stop")) (wCons (wCon (.str "nothing")) wNil)))) (wCall 2 (sp_law_take K) (wCons (wVar 0) (wCons (wCon (.int 3)) wNil)))) (wCons (wVar 4) wNil))))))
def w_law_row_2 (K : PySem.W.Frag) : WS :=
  (sSeq (sIf (wIsB (wOp oEq (wVar 2) (wCon (.int 16)))) (sRet (wTup (wCons (wCon (.str "pick")) (wCons (wVar 3) (wCons (wCall 1 (sp_law_register K) (wCons (wVar 0) wNil)) (wCons (wVar 4) (wCons (wVar 5) wNil))))))) sNil)
  (w_law_row_1 K))
def w_law_row_3 (K : PySem.W.Frag) : WS :=
  (sSeq (sIf (wIsB (wOp oLt (wVar 2) (wCon (.int 16)))) (sRet (wTup (wCons (wOp oIdx (wLst true (wCons (wCon (.str "left")) (wCons (wCon (.str "right")) (wCons (wCon (.str "slide")) wNil)))) (wOp oSub (wVar 2) (wCon (.int 13)))) (wCons (wVar 3) (wCons (wVar 4) (wCons (wCall 2 (sp_law_take K) (wCons (wVar 0) (wCons (wVar 1) wNil))) wNil)))))) sNil)
  (w_law_row_2 K))
def w_law_row_4 (K : PySem.W.Frag) : WS :=
  (sSeq (sIf (wIsB (wOp oLt (wVar 2) (wCon (.int 13)))) (sRet (wTup (wCons (wOp oIdx (wLst true (wCons (wCon (.str "low")) (wCons (wCon (.str "high")) (wCons (wCon (.str "and")) (wCons (wCon (.str "or")) (wCons (wCon (.str "unlike")) (wCons (wCon (.str "under")) wNil))))))) (wOp oSub (wVar 2) (wCon (.int 7)))) (wCons (wVar 3) (wCons (wVar 4) (wCons (wVar 5) wNil)))))) sNil)
  (w_law_row_3 K))
def w_law_row_5 (K : PySem.W.Frag) : WS :=
  (sSeq (sIf (wIsB (wOp oLt (wVar 2) (wCon (.int 7)))) (sSeq (sSet 6 (wIf (wIsB (wOp oEq (wCall 2 (sp_law_take K) (wCons (wVar 0) (wCons (wCon (.int 2)) wNil))) (wCon (.int 0)))) (wCon .non) (wCall 1 (sp_law_register K) (wCons (wVar 0) wNil))))
  (sRet (wTup (wCons (wOp oIdx (wLst true (wCons (wCon (.str "sum")) (wCons (wCon (.str "gap")) wNil))) (wOp oMod (wCB cInt (wCons (wVar 2) wNil)) (wCon (.int 2)))) (wCons (wVar 3) (wCons (wVar 6) (wCons (wVar 4) (wCons (wVar 5) wNil)))))))) sNil)
  (w_law_row_4 K))
def w_law_row_6 (K : PySem.W.Frag) : WS :=
  (sSeq (sIf (wIsB (wOp oLt (wVar 2) (wCon (.int 3)))) (sRet (wTup (wCons (wCon (.str "copy")) (wCons (wVar 3) (wCons (wVar 4) wNil))))) sNil)
  (w_law_row_5 K))
def w_law_row (K : PySem.W.Frag) : WS :=
  (sSeq (sAsg (gT 4 (gs1 (gN 2) (gs1 (gN 3) (gs1 (gN 4) (gs1 (gN 5) gs0))))) (wTup (wCons (wCall 2 (sp_law_take K) (wCons (wVar 0) (wCons (wCon (.int 18)) wNil))) (wCons (wCall 1 (sp_law_register K) (wCons (wVar 0) wNil)) (wCons (wCall 1 (sp_law_register K) (wCons (wVar 0) wNil)) (wCons (wCall 1 (sp_law_register K) (wCons (wVar 0) wNil)) wNil))))))
  (sSeq (sIf (wIsB (wOp oEq (wVar 2) (wCon (.int 0)))) (sRet (wTup (wCons (wCon (.str "set")) (wCons (wVar 3) (wCons (wCall 2 (sp_law_take K) (wCons (wVar 0) (wCons (wOp oShl (wCon (.int 1)) (wVar 1)) wNil))) wNil))))) sNil)
  (w_law_row_6 K)))
def c_law_row (K : PySem.W.Frag) : TC := mkC K N_law_row (top 73) [] true [("_law_take", 2, sp_law_take K), ("_law_register", 1, sp_law_register K)] (T_law_row K) []
theorem t_law_row (K : PySem.W.Frag) : trB (c_law_row K) (bodyOf (top 73)) = some (w_law_row K) := by kernel_rfl
def sp_law_row (K : PySem.W.Frag) : ASp := spOf 7 (w_law_row K)
/-! ### _law_rows: 0 box, 1 width, 2 many, 3 depth, 4 found, 5 k, 6 times -/
def N_law_rows : List Str := ["box", "width", "many", "depth", "found", "k", "times"]
def T_law_rows (K : PySem.W.Frag) : ClsT := ⟨CS, FL, [], SUBS⟩
def w_law_rows_1 (K : PySem.W.Frag) (sp : ASp) : WS :=
  (sRet (wVar 4))
def w_law_rows_2 (K : PySem.W.Frag) (sp : ASp) : WS :=
  (sIf (wAnd (wIsB (wOp oLt (wVar 3) (wCon (.int 3)))) (wIsB (wOp oEq (wCall 2 (sp_law_take K) (wCons (wVar 0) (wCons (wCon (.int 5)) wNil))) (wCon (.int 0))))) (sSeq (sSet 6 (wOp oIdx (wLst true (wCons (wCon (.int 1)) (wCons (wCon (.int 2)) (wCons (wCon (.int 3)) (wCons (wCon (.int 4)) (wCons (wOp (oAdd true) (wCon (.int 1)) (wCall 2 (sp_law_take K) (wCons (wVar 0) (wCons (wCon (.int 9)) wNil)))) wNil)))))) (wCall 2 (sp_law_take K) (wCons (wVar 0) (wCons (wCon (.int 5)) wNil)))))
  (sDrop (wMt "list" mAppend (wVar 4) (wCons (wTup (wCons (wCon (.str "turns")) (wCons (wVar 6) (wCons (wCall 4 sp (wCons (wVar 0) (wCons (wVar 1) (wCons (wOp (oAdd true) (wCon (.int 1)) (wCall 2 (sp_law_take K) (wCons (wVar 0) (wCons (wCon (.int 4)) wNil)))) (wCons (wOp (oAdd true) (wVar 3) (wCon (.int 1))) wNil))))) wNil)))) wNil)))) (sDrop (wMt "list" mAppend (wVar 4) (wCons (wCall 2 (sp_law_row K) (wCons (wVar 0) (wCons (wVar 1) wNil))) wNil))))
def w_law_rows (K : PySem.W.Frag) (sp : ASp) : WS :=
  (sSeq (sSet 4 (wLst false wNil))
  (sSeq (sFor (iR1 (wVar 2)) (gN 5) (w_law_rows_2 K sp))
  (w_law_rows_1 K sp)))
def c_law_rows (K : PySem.W.Frag) (sp : ASp) : TC := mkC K N_law_rows (top 74) [4] true [("_law_take", 2, sp_law_take K), ("_law_row", 2, sp_law_row K), ("_law_rows", 4, sp)] (T_law_rows K) []
theorem t_law_rows (K : PySem.W.Frag) (sp : ASp) : trB (c_law_rows K sp) (bodyOf (top 74)) = some (w_law_rows K sp) := by kernel_rfl
def sr_law_rows (K : PySem.W.Frag) : Nat → ASp
  | 0 => fun _ _ _ => False
  | n + 1 => spOf 7 (w_law_rows K (sr_law_rows K n))
/-! ### _law_placed: 0 rows, 1 place, 2 found, 3 told, 4 inner, 5 after -/
def N_law_placed : List Str := ["rows", "place", "found", "told", "inner", "after"]
def T_law_placed (K : PySem.W.Frag) : ClsT := ⟨CS, FL, [], SUBS⟩
def w_law_placed_1 (K : PySem.W.Frag) (sp : ASp) : WS :=
  (sRet (wTup (wCons (wVar 2) (wCons (wVar 1) wNil))))
def w_law_placed_2 (K : PySem.W.Frag) (sp : ASp) : WS :=
  (sIf (wIsB (wOp oEq (wOp oIdx (wVar 3) (wCon (.int 0))) (wCon (.str "turns")))) (sSeq (sAsg (gT 2 (gs1 (gN 4) (gs1 (gN 5) gs0))) (wCall 2 sp (wCons (wOp oIdx (wVar 3) (wCon (.int 2))) (wCons (wOp (oAdd true) (wVar 1) (wCon (.int 1))) wNil))))
  (sSeq (sDrop (wMt "list" mAppend (wVar 2) (wCons (wTup (wCons (wVar 1) (wCons (wSl true (wVar 3) wNoPart (wPart (wCon (.int 2)))) (wCons (wVar 4) wNil)))) wNil)))
  (sSet 1 (wVar 5)))) (sSeq (sDrop (wMt "list" mAppend (wVar 2) (wCons (wTup (wCons (wVar 1) (wCons (wVar 3) (wCons (wCon .non) wNil)))) wNil)))
  (sSet 1 (wOp (oAdd true) (wVar 1) (wCon (.int 1))))))
def w_law_placed (K : PySem.W.Frag) (sp : ASp) : WS :=
  (sSeq (sSet 2 (wLst false wNil))
  (sSeq (sFor (iSeq (wVar 0)) (gN 3) (w_law_placed_2 K sp))
  (w_law_placed_1 K sp)))
def c_law_placed (K : PySem.W.Frag) (sp : ASp) : TC := mkC K N_law_placed (top 76) [2] true [("_law_placed", 2, sp)] (T_law_placed K) []
theorem t_law_placed (K : PySem.W.Frag) (sp : ASp) : trB (c_law_placed K sp) (bodyOf (top 76)) = some (w_law_placed K sp) := by kernel_rfl
def sr_law_placed (K : PySem.W.Frag) : Nat → ASp
  | 0 => fun _ _ _ => False
  | n + 1 => spOf 6 (w_law_placed K (sr_law_placed K n))
/-! ### _law_cell: 0 script, 1 k -/
def N_law_cell : List Str := ["script", "k"]
def T_law_cell (K : PySem.W.Frag) : ClsT := ⟨CS, FL, [], SUBS⟩
def c_law_cell (K : PySem.W.Frag) : TC := mkC K N_law_cell (top 68) [] false [] (T_law_cell K) []
theorem t_law_cell (K : PySem.W.Frag) : trB (c_law_cell K) (bodyOf (top 68)) = some (w_law_cell K) := by kernel_rfl
/-! ### Set.__init__: 0 self, 1 goal, 2 bits -/
def N_Set___init__ : List Str := ["self", "goal", "bits"]
def T_Set___init__ (K : PySem.W.Frag) : ClsT := ⟨CS, FL, [], SUBS⟩
def w_Set___init__ (K : PySem.W.Frag) : WS :=
  (sSeq (sFldD (T_Set___init__ K) "goal" (wVar 0) (wVar 1))
  (sFldD (T_Set___init__ K) "bits" (wVar 0) (wVar 2)))
def c_Set___init__ (K : PySem.W.Frag) : TC := mkC K N_Set___init__ (inCls (top 27) 0) [] true [] (T_Set___init__ K) []
theorem t_Set___init__ (K : PySem.W.Frag) : trB (c_Set___init__ K) (bodyOf (inCls (top 27) 0)) = some (w_Set___init__ K) := by kernel_rfl
def sp_Set___init__ (K : PySem.W.Frag) : ASp := spOf 3 (w_Set___init__ K)
/-! ### Copy.__init__: 0 self, 1 goal, 2 one -/
def N_Copy___init__ : List Str := ["self", "goal", "one"]
def T_Copy___init__ (K : PySem.W.Frag) : ClsT := ⟨CS, FL, [], SUBS⟩
def w_Copy___init__ (K : PySem.W.Frag) : WS :=
  (sSeq (sFldD (T_Copy___init__ K) "goal" (wVar 0) (wVar 1))
  (sFldD (T_Copy___init__ K) "one" (wVar 0) (wVar 2)))
def c_Copy___init__ (K : PySem.W.Frag) : TC := mkC K N_Copy___init__ (inCls (top 28) 0) [] true [] (T_Copy___init__ K) []
theorem t_Copy___init__ (K : PySem.W.Frag) : trB (c_Copy___init__ K) (bodyOf (inCls (top 28) 0)) = some (w_Copy___init__ K) := by kernel_rfl
def sp_Copy___init__ (K : PySem.W.Frag) : ASp := spOf 3 (w_Copy___init__ K)
/-! ### Shift.__init__: 0 self, 1 goal, 2 one, 3 k -/
def N_Shift___init__ : List Str := ["self", "goal", "one", "k"]
def T_Shift___init__ (K : PySem.W.Frag) : ClsT := ⟨CS, FL, [], SUBS⟩
def w_Shift___init__ (K : PySem.W.Frag) : WS :=
  (sSeq (sFldD (T_Shift___init__ K) "goal" (wVar 0) (wVar 1))
  (sSeq (sFldD (T_Shift___init__ K) "one" (wVar 0) (wVar 2))
  (sFldD (T_Shift___init__ K) "k" (wVar 0) (wVar 3))))
def c_Shift___init__ (K : PySem.W.Frag) : TC := mkC K N_Shift___init__ (inCls (top 39) 0) [] true [] (T_Shift___init__ K) []
theorem t_Shift___init__ (K : PySem.W.Frag) : trB (c_Shift___init__ K) (bodyOf (inCls (top 39) 0)) = some (w_Shift___init__ K) := by kernel_rfl
def sp_Shift___init__ (K : PySem.W.Frag) : ASp := spOf 4 (w_Shift___init__ K)
/-! ### Carrying.__init__: 0 self, 1 goal, 2 carry, 3 one, 4 other -/
def N_Carrying___init__ : List Str := ["self", "goal", "carry", "one", "other"]
def T_Carrying___init__ (K : PySem.W.Frag) : ClsT := ⟨CS, FL, [], SUBS⟩
def w_Carrying___init__ (K : PySem.W.Frag) : WS :=
  (sSeq (sFldD (T_Carrying___init__ K) "goal" (wVar 0) (wVar 1))
  (sSeq (sFldD (T_Carrying___init__ K) "carry" (wVar 0) (wVar 2))
  (sSeq (sFldD (T_Carrying___init__ K) "one" (wVar 0) (wVar 3))
  (sFldD (T_Carrying___init__ K) "other" (wVar 0) (wVar 4)))))
def c_Carrying___init__ (K : PySem.W.Frag) : TC := mkC K N_Carrying___init__ (inCls (top 36) 0) [] true [] (T_Carrying___init__ K) []
theorem t_Carrying___init__ (K : PySem.W.Frag) : trB (c_Carrying___init__ K) (bodyOf (inCls (top 36) 0)) = some (w_Carrying___init__ K) := by kernel_rfl
def sp_Carrying___init__ (K : PySem.W.Frag) : ASp := spOf 5 (w_Carrying___init__ K)
/-! ### Pick.__init__: 0 self, 1 goal, 2 by, 3 one, 4 other -/
def N_Pick___init__ : List Str := ["self", "goal", "by", "one", "other"]
def T_Pick___init__ (K : PySem.W.Frag) : ClsT := ⟨CS, FL, [], SUBS⟩
def w_Pick___init__ (K : PySem.W.Frag) : WS :=
  (sSeq (sFldD (T_Pick___init__ K) "goal" (wVar 0) (wVar 1))
  (sSeq (sFldD (T_Pick___init__ K) "by" (wVar 0) (wVar 2))
  (sSeq (sFldD (T_Pick___init__ K) "one" (wVar 0) (wVar 3))
  (sFldD (T_Pick___init__ K) "other" (wVar 0) (wVar 4)))))
def c_Pick___init__ (K : PySem.W.Frag) : TC := mkC K N_Pick___init__ (inCls (top 43) 0) [] true [] (T_Pick___init__ K) []
theorem t_Pick___init__ (K : PySem.W.Frag) : trB (c_Pick___init__ K) (bodyOf (inCls (top 43) 0)) = some (w_Pick___init__ K) := by kernel_rfl
def sp_Pick___init__ (K : PySem.W.Frag) : ASp := spOf 5 (w_Pick___init__ K)
/-! ### Mark.__init__: 0 self, 1 line, 2 mark, 3 by -/
def N_Mark___init__ : List Str := ["self", "line", "mark", "by"]
def T_Mark___init__ (K : PySem.W.Frag) : ClsT := ⟨CS, FL, [], SUBS⟩
def w_Mark___init__ (K : PySem.W.Frag) : WS :=
  (sSeq (sFldD (T_Mark___init__ K) "line" (wVar 0) (wVar 1))
  (sSeq (sFldD (T_Mark___init__ K) "mark" (wVar 0) (wVar 2))
  (sFldD (T_Mark___init__ K) "by" (wVar 0) (wVar 3))))
def c_Mark___init__ (K : PySem.W.Frag) : TC := mkC K N_Mark___init__ (inCls (top 44) 0) [] true [] (T_Mark___init__ K) []
theorem t_Mark___init__ (K : PySem.W.Frag) : trB (c_Mark___init__ K) (bodyOf (inCls (top 44) 0)) = some (w_Mark___init__ K) := by kernel_rfl
def sp_Mark___init__ (K : PySem.W.Frag) : ASp := spOf 4 (w_Mark___init__ K)
/-! ### Turns.__init__: 0 self, 1 times, 2 steps -/
def N_Turns___init__ : List Str := ["self", "times", "steps"]
def T_Turns___init__ (K : PySem.W.Frag) : ClsT := ⟨CS, FL, [], SUBS⟩
def w_Turns___init__ (K : PySem.W.Frag) : WS :=
  (sSeq (sFldD (T_Turns___init__ K) "times" (wVar 0) (wVar 1))
  (sSeq (sFldD (T_Turns___init__ K) "steps" (wVar 0) (wVar 2))
  (sIf (wTru (wCB (cIsi K) (wCons (wVar 2) (wCons (wCon (.raw (.ty "list"))) wNil)))) (sFldD (T_Turns___init__ K) "steps" (wVar 0) (wCB (cList true) (wCons (wVar 2) wNil))) sNil)))
def c_Turns___init__ (K : PySem.W.Frag) : TC := mkC K N_Turns___init__ (inCls (top 45) 0) [] true [] (T_Turns___init__ K) []
theorem t_Turns___init__ (K : PySem.W.Frag) : trB (c_Turns___init__ K) (bodyOf (inCls (top 45) 0)) = some (w_Turns___init__ K) := by kernel_rfl
def sp_Turns___init__ (K : PySem.W.Frag) : ASp := spOf 3 (w_Turns___init__ K)
/-! ### Pair.__init__: 0 self, 1 goal, 2 one, 3 other -/
def N_Pair___init__ : List Str := ["self", "goal", "one", "other"]
def T_Pair___init__ (K : PySem.W.Frag) : ClsT := ⟨CS, FL, [], SUBS⟩
def w_Pair___init__ (K : PySem.W.Frag) : WS :=
  (sSeq (sFldD (T_Pair___init__ K) "goal" (wVar 0) (wVar 1))
  (sSeq (sFldD (T_Pair___init__ K) "one" (wVar 0) (wVar 2))
  (sFldD (T_Pair___init__ K) "other" (wVar 0) (wVar 3))))
def c_Pair___init__ (K : PySem.W.Frag) : TC := mkC K N_Pair___init__ (inCls (top 29) 0) [] true [] (T_Pair___init__ K) []
theorem t_Pair___init__ (K : PySem.W.Frag) : trB (c_Pair___init__ K) (bodyOf (inCls (top 29) 0)) = some (w_Pair___init__ K) := by kernel_rfl
def sp_Pair___init__ (K : PySem.W.Frag) : ASp := spOf 4 (w_Pair___init__ K)
/-! ### _law_bad: 0 box, 1 width, 2 some -/
def N_law_bad : List Str := ["box", "width", "some"]
def T_law_bad (K : PySem.W.Frag) : ClsT := ⟨CS, FL, [(("Set", "__init__"), (3, sp_Set___init__ K)), (("Copy", "__init__"), (3, sp_Copy___init__ K)), (("Left", "__init__"), (4, sp_Shift___init__ K)), (("Right", "__init__"), (4, sp_Shift___init__ K)), (("Sum", "__init__"), (5, sp_Carrying___init__ K)), (("Gap", "__init__"), (5, sp_Carrying___init__ K)), (("Pick", "__init__"), (5, sp_Pick___init__ K)), (("Mark", "__init__"), (4, sp_Mark___init__ K)), (("Turns", "__init__"), (3, sp_Turns___init__ K)), (("Low", "__init__"), (4, sp_Pair___init__ K))], SUBS⟩
def w_law_bad (K : PySem.W.Frag) : WS :=
  (sSeq (sSet 2 (wLst true (wCons (wCon .non) (wCons (wCon (.str "copy a b")) (wCons (wTup (wCons (wCon (.str "copy")) (wCons (wCon (.str "a")) (wCons (wCon (.str "b")) wNil)))) (wCons (wCon (.int 7)) (wCons (wMake "Set" 3 (sp_Set___init__ K) (wCons (wCon (.str "a")) (wCons (wOp oShl (wCon (.int 1)) (wVar 1)) wNil))) (wCons (wMake "Set" 3 (sp_Set___init__ K) (wCons (wCon (.str "a")) (wCons (wNeg (wCon (.int 1))) wNil))) (wCons (wMake "Copy" 3 (sp_Copy___init__ K) (wCons (wCon (.str "A")) (wCons (wCon (.str "b")) wNil))) (wCons (wMake "Copy" 3 (sp_Copy___init__ K) (wCons (wCon (.str "a")) (wCons (wCon (.str "")) wNil))) (wCons (wMake "Left" 4 (sp_Shift___init__ K) (wCons (wCon (.str "a")) (wCons (wCon (.str "b")) (wCons (wVar 1) wNil)))) wNil)))))))))))
  (sSeq (sSet 2 (wOp (oAdd true) (wVar 2) (wLst true (wCons (wMake "Right" 4 (sp_Shift___init__ K) (wCons (wCon (.str "a")) (wCons (wCon (.str "b")) (wCons (wNeg (wCon (.int 1))) wNil)))) (wCons (wMake "Sum" 5 (sp_Carrying___init__ K) (wCons (wCon (.str "a")) (wCons (wCon (.str "1c")) (wCons (wCon (.str "b")) (wCons (wCon (.str "b")) wNil))))) (wCons (wMake "Gap" 5 (sp_Carrying___init__ K) (wCons (wCon (.str "a")) (wCons (wCon (.bl true)) (wCons (wCon (.str "b")) (wCons (wCon (.str "b")) wNil))))) (wCons (wMake "Pick" 5 (sp_Pick___init__ K) (wCons (wCon (.str "a")) (wCons (wCon (.str "b")) (wCons (wCon .non) (wCons (wCon (.str "c")) wNil))))) (wCons (wMake "Mark" 4 (sp_Mark___init__ K) (wCons (wCon (.int 3)) (wCons (wCon (.str "rounds")) (wCons (wCon (.str "a")) wNil)))) wNil))))))))
  (sSeq (sSet 2 (wOp (oAdd true) (wVar 2) (wLst true (wCons (wMake "Mark" 4 (sp_Mark___init__ K) (wCons (wCon (.int 10000)) (wCons (wCon (.str "round")) (wCons (wCon (.str "a")) wNil)))) (wCons (wMake "Turns" 3 (sp_Turns___init__ K) (wCons (wCon (.int 65)) (wCons (wLst true (wCons (wMake "Copy" 3 (sp_Copy___init__ K) (wCons (wCon (.str "a")) (wCons (wCon (.str "b")) wNil))) wNil)) wNil))) (wCons (wMake "Turns" 3 (sp_Turns___init__ K) (wCons (wCon (.int 0)) (wCons (wLst true (wCons (wMake "Copy" 3 (sp_Copy___init__ K) (wCons (wCon (.str "a")) (wCons (wCon (.str "b")) wNil))) wNil)) wNil))) (wCons (wMake "Turns" 3 (sp_Turns___init__ K) (wCons (wCon (.int 2)) (wCons (wLst true wNil) wNil))) (wCons (wMake "Turns" 3 (sp_Turns___init__ K) (wCons (wCon (.int 2)) (wCons (wCon .non) wNil))) (wCons (wMake "Low" 4 (sp_Pair___init__ K) (wCons (wCon (.str "a")) (wCons (wCon (.str "b")) (wCons (wCon (.str "toolonger")) wNil)))) wNil)))))))))
  (sRet (wOp oIdx (wVar 2) (wCall 2 (sp_law_take K) (wCons (wVar 0) (wCons (wCB cLen (wCons (wVar 2) wNil)) wNil))))))))
def c_law_bad (K : PySem.W.Frag) : TC := mkC K N_law_bad (top 78) [] true [("_law_take", 2, sp_law_take K)] (T_law_bad K) []
theorem t_law_bad (K : PySem.W.Frag) : trB (c_law_bad K) (bodyOf (top 78)) = some (w_law_bad K) := by kernel_rfl
def sp_law_bad (K : PySem.W.Frag) : ASp := spOf 3 (w_law_bad K)
/-! ### _law_step: 0 told, 1 word, 2 one -/
def N_law_step : List Str := ["told", "word", "one"]
def T_law_step (K : PySem.W.Frag) : ClsT := ⟨CS, FL, [(("Turns", "__init__"), (3, sp_Turns___init__ K)), (("Set", "__init__"), (3, sp_Set___init__ K)), (("Copy", "__init__"), (3, sp_Copy___init__ K)), (("Sum", "__init__"), (5, sp_Carrying___init__ K)), (("Gap", "__init__"), (5, sp_Carrying___init__ K)), (("Mark", "__init__"), (4, sp_Mark___init__ K)), (("Pick", "__init__"), (5, sp_Pick___init__ K)), (("Low", "__init__"), (4, sp_Pair___init__ K)), (("High", "__init__"), (4, sp_Pair___init__ K)), (("And", "__init__"), (4, sp_Pair___init__ K)), (("Or", "__init__"), (4, sp_Pair___init__ K)), (("Unlike", "__init__"), (4, sp_Pair___init__ K)), (("Under", "__init__"), (4, sp_Pair___init__ K)), (("Left", "__init__"), (4, sp_Shift___init__ K)), (("Right", "__init__"), (4, sp_Shift___init__ K)), (("Slide", "__init__"), (4, sp_Shift___init__ K))], SUBS⟩
def w_law_step_1 (K : PySem.W.Frag) (sp : ASp) : WS :=
  (sRet (wIf (wIsB (wOp oEq (wVar 1) (wCon (.str "right")))) (wMake "Right" 4 (sp_Shift___init__ K) (wCons (wOp oIdx (wVar 0) (wCon (.int 1))) (wCons (wOp oIdx (wVar 0) (wCon (.int 2))) (wCons (wOp oIdx (wVar 0) (wCon (.int 3))) wNil)))) (wMake "Slide" 4 (sp_Shift___init__ K) (wCons (wOp oIdx (wVar 0) (wCon (.int 1))) (wCons (wOp oIdx (wVar 0) (wCon (.int 2))) (wCons (wOp oIdx (wVar 0) (wCon (.int 3))) wNil))))))
def w_law_step_2 (K : PySem.W.Frag) (sp : ASp) : WS :=
  (sSeq (sIf (wIsB (wOp oEq (wVar 1) (wCon (.str "left")))) (sRet (wMake "Left" 4 (sp_Shift___init__ K) (wCons (wOp oIdx (wVar 0) (wCon (.int 1))) (wCons (wOp oIdx (wVar 0) (wCon (.int 2))) (wCons (wOp oIdx (wVar 0) (wCon (.int 3))) wNil))))) sNil)
  (w_law_step_1 K sp))
def w_law_step_3 (K : PySem.W.Frag) (sp : ASp) : WS :=
  (sSeq (sIf (wIsB (wOp oEq (wVar 1) (wCon (.str "under")))) (sRet (wMake "Under" 4 (sp_Pair___init__ K) (wCons (wOp oIdx (wVar 0) (wCon (.int 1))) (wCons (wOp oIdx (wVar 0) (wCon (.int 2))) (wCons (wOp oIdx (wVar 0) (wCon (.int 3))) wNil))))) sNil)
  (w_law_step_2 K sp))
def w_law_step_4 (K : PySem.W.Frag) (sp : ASp) : WS :=
  (sSeq (sIf (wIsB (wOp oEq (wVar 1) (wCon (.str "unlike")))) (sRet (wMake "Unlike" 4 (sp_Pair___init__ K) (wCons (wOp oIdx (wVar 0) (wCon (.int 1))) (wCons (wOp oIdx (wVar 0) (wCon (.int 2))) (wCons (wOp oIdx (wVar 0) (wCon (.int 3))) wNil))))) sNil)
  (w_law_step_3 K sp))
def w_law_step_5 (K : PySem.W.Frag) (sp : ASp) : WS :=
  (sSeq (sIf (wIsB (wOp oEq (wVar 1) (wCon (.str "or")))) (sRet (wMake "Or" 4 (sp_Pair___init__ K) (wCons (wOp oIdx (wVar 0) (wCon (.int 1))) (wCons (wOp oIdx (wVar 0) (wCon (.int 2))) (wCons (wOp oIdx (wVar 0) (wCon (.int 3))) wNil))))) sNil)
  (w_law_step_4 K sp))
def w_law_step_6 (K : PySem.W.Frag) (sp : ASp) : WS :=
  (sSeq (sIf (wIsB (wOp oEq (wVar 1) (wCon (.str "and")))) (sRet (wMake "And" 4 (sp_Pair___init__ K) (wCons (wOp oIdx (wVar 0) (wCon (.int 1))) (wCons (wOp oIdx (wVar 0) (wCon (.int 2))) (wCons (wOp oIdx (wVar 0) (wCon (.int 3))) wNil))))) sNil)
  (w_law_step_5 K sp))
def w_law_step_7 (K : PySem.W.Frag) (sp : ASp) : WS :=
  (sSeq (sIf (wIsB (wOp oEq (wVar 1) (wCon (.str "high")))) (sRet (wMake "High" 4 (sp_Pair___init__ K) (wCons (wOp oIdx (wVar 0) (wCon (.int 1))) (wCons (wOp oIdx (wVar 0) (wCon (.int 2))) (wCons (wOp oIdx (wVar 0) (wCon (.int 3))) wNil))))) sNil)
  (w_law_step_6 K sp))
def w_law_step_8 (K : PySem.W.Frag) (sp : ASp) : WS :=
  (sSeq (sIf (wIsB (wOp oEq (wVar 1) (wCon (.str "low")))) (sRet (wMake "Low" 4 (sp_Pair___init__ K) (wCons (wOp oIdx (wVar 0) (wCon (.int 1))) (wCons (wOp oIdx (wVar 0) (wCon (.int 2))) (wCons (wOp oIdx (wVar 0) (wCon (.int 3))) wNil))))) sNil)
  (w_law_step_7 K sp))
def w_law_step_9 (K : PySem.W.Frag) (sp : ASp) : WS :=
  (sSeq (sIf (wIsB (wOp oEq (wVar 1) (wCon (.str "pick")))) (sRet (wMake "Pick" 5 (sp_Pick___init__ K) (wCons (wOp oIdx (wVar 0) (wCon (.int 1))) (wCons (wOp oIdx (wVar 0) (wCon (.int 2))) (wCons (wOp oIdx (wVar 0) (wCon (.int 3))) (wCons (wOp oIdx (wVar 0) (wCon (.int 4))) wNil)))))) sNil)
  (w_law_step_8 K sp))
def w_law_step_10 (K : PySem.W.Frag) (sp : ASp) : WS :=
  (sSeq (sIf (wIsB (wOp oEq (wVar 1) (wCon (.str "mark")))) (sRet (wMake "Mark" 4 (sp_Mark___init__ K) (wCons (wOp oIdx (wVar 0) (wCon (.int 1))) (wCons (wOp oIdx (wVar 0) (wCon (.int 2))) (wCons (wOp oIdx (wVar 0) (wCon (.int 3))) wNil))))) sNil)
  (w_law_step_9 K sp))
def w_law_step_11 (K : PySem.W.Frag) (sp : ASp) : WS :=
  (sSeq (sIf (wIsB (wOp oEq (wVar 1) (wCon (.str "gap")))) (sRet (wMake "Gap" 5 (sp_Carrying___init__ K) (wCons (wOp oIdx (wVar 0) (wCon (.int 1))) (wCons (wOp oIdx (wVar 0) (wCon (.int 2))) (wCons (wOp oIdx (wVar 0) (wCon (.int 3))) (wCons (wOp oIdx (wVar 0) (wCon (.int 4))) wNil)))))) sNil)
  (w_law_step_10 K sp))
def w_law_step_12 (K : PySem.W.Frag) (sp : ASp) : WS :=
  (sSeq (sIf (wIsB (wOp oEq (wVar 1) (wCon (.str "sum")))) (sRet (wMake "Sum" 5 (sp_Carrying___init__ K) (wCons (wOp oIdx (wVar 0) (wCon (.int 1))) (wCons (wOp oIdx (wVar 0) (wCon (.int 2))) (wCons (wOp oIdx (wVar 0) (wCon (.int 3))) (wCons (wOp oIdx (wVar 0) (wCon (.int 4))) wNil)))))) sNil)
  (w_law_step_11 K sp))
def w_law_step_13 (K : PySem.W.Frag) (sp : ASp) : WS :=
  (sSeq (sIf (wIsB (wOp oEq (wVar 1) (wCon (.str "copy")))) (sRet (wMake "Copy" 3 (sp_Copy___init__ K) (wCons (wOp oIdx (wVar 0) (wCon (.int 1))) (wCons (wOp oIdx (wVar 0) (wCon (.int 2))) wNil)))) sNil)
  (w_law_step_12 K sp))
def w_law_step_14 (K : PySem.W.Frag) (sp : ASp) : WS :=
  (sSeq (sIf (wIsB (wOp oEq (wVar 1) (wCon (.str "set")))) (sRet (wMake "Set" 3 (sp_Set___init__ K) (wCons (wOp oIdx (wVar 0) (wCon (.int 1))) (wCons (wOp oIdx (wVar 0) (wCon (.int 2))) wNil)))) sNil)
  (w_law_step_13 K sp))
def w_law_step (K : PySem.W.Frag) (sp : ASp) : WS :=
  (sSeq (sSet 1 (wOp oIdx (wVar 0) (wCon (.int 0))))
  (sSeq (sIf (wIsB (wOp oEq (wVar 1) (wCon (.str "turns")))) (sRet (wMake "Turns" 3 (sp_Turns___init__ K) (wCons (wOp oIdx (wVar 0) (wCon (.int 1))) (wCons (wLc true (iSeq (wOp oIdx (wVar 0) (wCon (.int 2)))) [2] (gN 2) wYes (wCall 1 sp (wCons (wVar 2) wNil))) wNil)))) sNil)
  (w_law_step_14 K sp)))
def c_law_step (K : PySem.W.Frag) (sp : ASp) : TC := mkC K N_law_step (top 75) [] true [("_law_step", 1, sp)] (T_law_step K) []
theorem t_law_step (K : PySem.W.Frag) (sp : ASp) : trB (c_law_step K sp) (bodyOf (top 75)) = some (w_law_step K sp) := by kernel_rfl
def sr_law_step (K : PySem.W.Frag) : Nat → ASp
  | 0 => fun _ _ _ => False
  | n + 1 => spOf 3 (w_law_step K (sr_law_step K n))
/-! ### _law_spoilt: 0 box, 1 rows, 2 at, 3 width, 4 found, 5 place, 6 told, 7 many -/
def N_law_spoilt : List Str := ["box", "rows", "at", "width", "found", "place", "told", "many"]
def T_law_spoilt (K : PySem.W.Frag) : ClsT := ⟨CS, FL, [(("Turns", "__init__"), (3, sp_Turns___init__ K))], SUBS⟩
def w_law_spoilt_1 (K : PySem.W.Frag) (sp : ASp) : WS :=
  (sRet (wVar 4))
def w_law_spoilt_2 (K : PySem.W.Frag) (sp : ASp) : WS :=
  (sSet 5 (wOp (oAdd true) (wOp (oAdd true) (wVar 5) (wCon (.int 1))) (wVar 7)))
def w_law_spoilt_3 (K : PySem.W.Frag) (sp : ASp) : WS :=
  (sIf (wIsB (wOp oEq (wOp oIdx (wVar 6) (wCon (.int 0))) (wCon (.str "turns")))) (sSeq (sSet 7 (wOp oIdx (wCall 2 (sr_law_placed K 8) (wCons (wOp oIdx (wVar 6) (wCon (.int 2))) (wCons (wCon (.int 0)) wNil))) (wCon (.int 1))))
  (sSeq (sIf (wIsB (wChain oLt oLe (wVar 5) (wVar 2) (wOp (oAdd true) (wVar 5) (wVar 7)))) (sDrop (wMt "list" mAppend (wVar 4) (wCons (wMake "Turns" 3 (sp_Turns___init__ K) (wCons (wOp oIdx (wVar 6) (wCon (.int 1))) (wCons (wCall 4 sp (wCons (wVar 0) (wCons (wOp oIdx (wVar 6) (wCon (.int 2))) (wCons (wOp oSub (wOp oSub (wVar 2) (wVar 5)) (wCon (.int 1))) (wCons (wVar 3) wNil))))) wNil))) wNil))) (sDrop (wMt "list" mAppend (wVar 4) (wCons (wIf (wIsB (wOp oEq (wVar 5) (wVar 2))) (wCall 2 (sp_law_bad K) (wCons (wVar 0) (wCons (wVar 3) wNil))) (wCall 1 (sr_law_step K 8) (wCons (wVar 6) wNil))) wNil))))
  (w_law_spoilt_2 K sp))) (sSeq (sDrop (wMt "list" mAppend (wVar 4) (wCons (wIf (wIsB (wOp oEq (wVar 5) (wVar 2))) (wCall 2 (sp_law_bad K) (wCons (wVar 0) (wCons (wVar 3) wNil))) (wCall 1 (sr_law_step K 8) (wCons (wVar 6) wNil))) wNil)))
  (sSet 5 (wOp (oAdd true) (wVar 5) (wCon (.int 1))))))
def w_law_spoilt (K : PySem.W.Frag) (sp : ASp) : WS :=
  (sSeq (sPar [4, 5] (wCons (wLst false wNil) (wCons (wCon (.int 0)) wNil)))
  (sSeq (sFor (iSeq (wVar 1)) (gN 6) (w_law_spoilt_3 K sp))
  (w_law_spoilt_1 K sp)))
def c_law_spoilt (K : PySem.W.Frag) (sp : ASp) : TC := mkC K N_law_spoilt (top 79) [4] true [("_law_placed", 2, sr_law_placed K 8), ("_law_bad", 2, sp_law_bad K), ("_law_step", 1, sr_law_step K 8), ("_law_spoilt", 4, sp)] (T_law_spoilt K) []
theorem t_law_spoilt (K : PySem.W.Frag) (sp : ASp) : trB (c_law_spoilt K sp) (bodyOf (top 79)) = some (w_law_spoilt K sp) := by kernel_rfl
def sr_law_spoilt (K : PySem.W.Frag) : Nat → ASp
  | 0 => fun _ _ _ => False
  | n + 1 => spOf 8 (w_law_spoilt K (sr_law_spoilt K n))
/-! ### any_needed: 0 flags, 1 flag -/
def N_any_needed : List Str := ["flags", "flag"]
def T_any_needed (K : PySem.W.Frag) : ClsT := ⟨CS, FL, [], SUBS⟩
def w_any_needed (K : PySem.W.Frag) (sp : ASp) : WS :=
  (sRet (wCB cAny (wCons (wLc true (iSeq (wVar 0)) [1] (gN 1) wYes (wIf (wTru (wCB (cIsi K) (wCons (wVar 1) (wCons (wCon (.raw (.ty "list"))) wNil)))) (wCall 1 sp (wCons (wVar 1) wNil)) (wVar 1))) wNil)))
def c_any_needed (K : PySem.W.Frag) (sp : ASp) : TC := mkC K N_any_needed (top 61) [] true [("any_needed", 1, sp)] (T_any_needed K) []
theorem t_any_needed (K : PySem.W.Frag) (sp : ASp) : trB (c_any_needed K sp) (bodyOf (top 61)) = some (w_any_needed K sp) := by kernel_rfl
def sr_any_needed (K : PySem.W.Frag) : Nat → ASp
  | 0 => fun _ _ _ => False
  | n + 1 => spOf 2 (w_any_needed K (sr_any_needed K n))
/-! ### idle_among: 0 flags, 1 place, 2 found, 3 flag, 4 inner -/
def N_idle_among : List Str := ["flags", "place", "found", "flag", "inner"]
def T_idle_among (K : PySem.W.Frag) : ClsT := ⟨CS, FL, [], SUBS⟩
def w_idle_among_1 (K : PySem.W.Frag) (sp : ASp) : WS :=
  (sRet (wTup (wCons (wVar 2) (wCons (wVar 1) wNil))))
def w_idle_among_2 (K : PySem.W.Frag) (sp : ASp) : WS :=
  (sSeq (sAsg (gT 2 (gs1 (gN 4) (gs1 (gN 1) gs0))) (wCall 2 sp (wCons (wVar 3) (wCons (wOp (oAdd true) (wVar 1) (wCon (.int 1))) wNil))))
  (sDrop (wMt "list" mExtend (wVar 2) (wCons (wVar 4) wNil))))
def w_idle_among_3 (K : PySem.W.Frag) (sp : ASp) : WS :=
  (sAug 1 oIAdd (wCon (.int 1)))
def w_idle_among_4 (K : PySem.W.Frag) (sp : ASp) : WS :=
  (sIf (wTru (wCB (cIsi K) (wCons (wVar 3) (wCons (wCon (.raw (.ty "list"))) wNil)))) (sSeq (sIf (wNot (wTru (wCall 1 (sr_any_needed K 8) (wCons (wVar 3) wNil)))) (sDrop (wMt "list" mAppend (wVar 2) (wCons (wVar 1) wNil))) sNil)
  (w_idle_among_2 K sp)) (sSeq (sIf (wNot (wTru (wVar 3))) (sDrop (wMt "list" mAppend (wVar 2) (wCons (wVar 1) wNil))) sNil)
  (w_idle_among_3 K sp)))
def w_idle_among (K : PySem.W.Frag) (sp : ASp) : WS :=
  (sSeq (sSet 2 (wLst false wNil))
  (sSeq (sFor (iSeq (wVar 0)) (gN 3) (w_idle_among_4 K sp))
  (w_idle_among_1 K sp)))
def c_idle_among (K : PySem.W.Frag) (sp : ASp) : TC := mkC K N_idle_among (top 62) [2] true [("idle_among", 2, sp), ("any_needed", 1, sr_any_needed K 8)] (T_idle_among K) []
theorem t_idle_among (K : PySem.W.Frag) (sp : ASp) : trB (c_idle_among K sp) (bodyOf (top 62)) = some (w_idle_among K sp) := by kernel_rfl
def sr_idle_among (K : PySem.W.Frag) : Nat → ASp
  | 0 => fun _ _ _ => False
  | n + 1 => spOf 5 (w_idle_among K (sr_idle_among K n))
/-! ### is_whole: 0 thing -/
def N_is_whole : List Str := ["thing"]
def T_is_whole (K : PySem.W.Frag) : ClsT := ⟨CS, FL, [], SUBS⟩
def c_is_whole (K : PySem.W.Frag) : TC := mkC K N_is_whole (top 10) [] true [] (T_is_whole K) []
theorem t_is_whole (K : PySem.W.Frag) : trB (c_is_whole K) (bodyOf (top 10)) = some (w_is_whole K) := by kernel_rfl
/-! ### need_width: 0 width -/
def N_need_width : List Str := ["width"]
def T_need_width (K : PySem.W.Frag) : ClsT := ⟨CS, FL, [], SUBS⟩
def c_need_width (K : PySem.W.Frag) : TC := mkC K N_need_width (top 11) [] true [("is_whole", 1, sp_is_whole K)] (T_need_width K) []
theorem t_need_width (K : PySem.W.Frag) : trB (c_need_width K) (bodyOf (top 11)) = some (w_need_width K) := by kernel_rfl
/-! ### within: 0 thing, 1 least, 2 greatest -/
def N_within : List Str := ["thing", "least", "greatest"]
def T_within (K : PySem.W.Frag) : ClsT := ⟨CS, FL, [], SUBS⟩
def w_within (K : PySem.W.Frag) : WS :=
  (sRet (wAndV (wCall 1 (sp_is_whole K) (wCons (wVar 0) wNil)) (wChain oLe oLe (wVar 1) (wVar 0) (wVar 2))))
def c_within (K : PySem.W.Frag) : TC := mkC K N_within (top 25) [] true [("is_whole", 1, sp_is_whole K)] (T_within K) []
theorem t_within (K : PySem.W.Frag) : trB (c_within K) (bodyOf (top 25)) = some (w_within K) := by kernel_rfl
def sp_within (K : PySem.W.Frag) : ASp := spOf 3 (w_within K)
/-! ### Turns.fits: 0 self, 1 width -/
def N_Turns_fits : List Str := ["self", "width"]
def T_Turns_fits (K : PySem.W.Frag) : ClsT := ⟨CS, FL, [], SUBS⟩
def w_Turns_fits (K : PySem.W.Frag) : WS :=
  (sRet (wAndV (wCall 3 (sp_within K) (wCons (wFld (T_Turns_fits K) "times" (wVar 0)) (wCons (wCon (.int 1)) (wCons (wCon (.int 64)) wNil)))) (wAndV (wCB (cIsi K) (wCons (wFld (T_Turns_fits K) "steps" (wVar 0)) (wCons (wCon (.raw (.ty "list"))) wNil))) (wOp oNe (wFld (T_Turns_fits K) "steps" (wVar 0)) (wLst true wNil)))))
def c_Turns_fits (K : PySem.W.Frag) : TC := mkC K N_Turns_fits (inCls (top 45) 3) [] true [("within", 3, sp_within K)] (T_Turns_fits K) []
theorem t_Turns_fits (K : PySem.W.Frag) : trB (c_Turns_fits K) (bodyOf (inCls (top 45) 3)) = some (w_Turns_fits K) := by kernel_rfl
def sp_Turns_fits (K : PySem.W.Frag) : ASp := spOf 2 (w_Turns_fits K)
/-! ### is_register: 0 thing, 1 sign -/
def N_is_register : List Str := ["thing", "sign"]
def T_is_register (K : PySem.W.Frag) : ClsT := ⟨CS, FL, [], SUBS⟩
def w_is_register_1 (K : PySem.W.Frag) : WS :=
  (sRet (wCB cAll (wCons (wLc true (iSeq (wVar 0)) [1] (gN 1) wYes (wOp oIn (wVar 1) (wOp (oAdd true) (wCon (.str "abcdefghijklmnopqrstuvwxyz")) (wCon (.str "0123456789"))))) wNil)))
def w_is_register (K : PySem.W.Frag) : WS :=
  (sSeq (sIf (wOr (wNot (wTru (wCB (cIsi K) (wCons (wVar 0) (wCons (wCon (.raw (.ty "str"))) wNil))))) (wOr (wNot (wIsB (wChain oLe oLe (wCon (.int 1)) (wCB cLen (wCons (wVar 0) wNil)) (wCon (.int 8))))) (wIsB (wOp oNin (wOp oIdx (wVar 0) (wCon (.int 0))) (wCon (.str "abcdefghijklmnopqrstuvwxyz")))))) (sRet (wCon (.bl false))) sNil)
  (w_is_register_1 K))
def c_is_register (K : PySem.W.Frag) : TC := mkC K N_is_register (top 24) [] true [] (T_is_register K) []
theorem t_is_register (K : PySem.W.Frag) : trB (c_is_register K) (bodyOf (top 24)) = some (w_is_register K) := by kernel_rfl
def sp_is_register (K : PySem.W.Frag) : ASp := spOf 2 (w_is_register K)
/-! ### Copy.fits: 0 self, 1 width -/
def N_Copy_fits : List Str := ["self", "width"]
def T_Copy_fits (K : PySem.W.Frag) : ClsT := ⟨CS, FL, [], SUBS⟩
def w_Copy_fits (K : PySem.W.Frag) : WS :=
  (sRet (wAndV (wCall 1 (sp_is_register K) (wCons (wFld (T_Copy_fits K) "goal" (wVar 0)) wNil)) (wCall 1 (sp_is_register K) (wCons (wFld (T_Copy_fits K) "one" (wVar 0)) wNil))))
def c_Copy_fits (K : PySem.W.Frag) : TC := mkC K N_Copy_fits (inCls (top 28) 3) [] true [("is_register", 1, sp_is_register K)] (T_Copy_fits K) []
theorem t_Copy_fits (K : PySem.W.Frag) : trB (c_Copy_fits K) (bodyOf (inCls (top 28) 3)) = some (w_Copy_fits K) := by kernel_rfl
def sp_Copy_fits (K : PySem.W.Frag) : ASp := spOf 2 (w_Copy_fits K)
/-! ### Set.fits: 0 self, 1 width -/
def N_Set_fits : List Str := ["self", "width"]
def T_Set_fits (K : PySem.W.Frag) : ClsT := ⟨CS, FL, [], SUBS⟩
def w_Set_fits (K : PySem.W.Frag) : WS :=
  (sRet (wAndV (wCall 1 (sp_is_register K) (wCons (wFld (T_Set_fits K) "goal" (wVar 0)) wNil)) (wCall 3 (sp_within K) (wCons (wFld (T_Set_fits K) "bits" (wVar 0)) (wCons (wCon (.int 0)) (wCons (wOp oSub (wOp oShl (wCon (.int 1)) (wVar 1)) (wCon (.int 1))) wNil))))))
def c_Set_fits (K : PySem.W.Frag) : TC := mkC K N_Set_fits (inCls (top 27) 3) [] true [("is_register", 1, sp_is_register K), ("within", 3, sp_within K)] (T_Set_fits K) []
theorem t_Set_fits (K : PySem.W.Frag) : trB (c_Set_fits K) (bodyOf (inCls (top 27) 3)) = some (w_Set_fits K) := by kernel_rfl
def sp_Set_fits (K : PySem.W.Frag) : ASp := spOf 2 (w_Set_fits K)
/-! ### Carrying.fits: 0 self, 1 width -/
def N_Carrying_fits : List Str := ["self", "width"]
def T_Carrying_fits (K : PySem.W.Frag) : ClsT := ⟨CS, FL, [], SUBS⟩
def w_Carrying_fits_1 (K : PySem.W.Frag) : WS :=
  (sRet (wAndV (wCall 1 (sp_is_register K) (wCons (wFld (T_Carrying_fits K) "goal" (wVar 0)) wNil)) (wAndV (wCall 1 (sp_is_register K) (wCons (wFld (T_Carrying_fits K) "one" (wVar 0)) wNil)) (wCall 1 (sp_is_register K) (wCons (wFld (T_Carrying_fits K) "other" (wVar 0)) wNil)))))
def w_Carrying_fits (K : PySem.W.Frag) : WS :=
  (sSeq (sIf (wAnd (wIsB (wOp oIsNot (wFld (T_Carrying_fits K) "carry" (wVar 0)) (wCon .non))) (wNot (wTru (wCall 1 (sp_is_register K) (wCons (wFld (T_Carrying_fits K) "carry" (wVar 0)) wNil))))) (sRet (wCon (.bl false))) sNil)
  (w_Carrying_fits_1 K))
def c_Carrying_fits (K : PySem.W.Frag) : TC := mkC K N_Carrying_fits (inCls (top 36) 2) [] true [("is_register", 1, sp_is_register K)] (T_Carrying_fits K) []
theorem t_Carrying_fits (K : PySem.W.Frag) : trB (c_Carrying_fits K) (bodyOf (inCls (top 36) 2)) = some (w_Carrying_fits K) := by kernel_rfl
def sp_Carrying_fits (K : PySem.W.Frag) : ASp := spOf 2 (w_Carrying_fits K)
/-! ### Mark.fits: 0 self, 1 width -/
def N_Mark_fits : List Str := ["self", "width"]
def T_Mark_fits (K : PySem.W.Frag) : ClsT := ⟨CS, FL, [], SUBS⟩
def w_Mark_fits_1 (K : PySem.W.Frag) : WS :=
  (sRet (wAndV (wCall 3 (sp_within K) (wCons (wFld (T_Mark_fits K) "line" (wVar 0)) (wCons (wCon (.int 0)) (wCons (wCon (.int 9999)) wNil)))) (wCall 1 (sp_is_register K) (wCons (wFld (T_Mark_fits K) "by" (wVar 0)) wNil))))
def w_Mark_fits (K : PySem.W.Frag) : WS :=
  (sSeq (sIf (wOr (wNot (wTru (wCB (cIsi K) (wCons (wFld (T_Mark_fits K) "mark" (wVar 0)) (wCons (wCon (.raw (.ty "str"))) wNil))))) (wIsB (wOp oNin (wFld (T_Mark_fits K) "mark" (wVar 0)) (wTup (wCons (wCon (.str "round")) (wCons (wCon (.str "stop")) (wCons (wCon (.str "nothing")) wNil))))))) (sRet (wCon (.bl false))) sNil)
  (w_Mark_fits_1 K))
def c_Mark_fits (K : PySem.W.Frag) : TC := mkC K N_Mark_fits (inCls (top 44) 3) [] true [("within", 3, sp_within K), ("is_register", 1, sp_is_register K)] (T_Mark_fits K) []
theorem t_Mark_fits (K : PySem.W.Frag) : trB (c_Mark_fits K) (bodyOf (inCls (top 44) 3)) = some (w_Mark_fits K) := by kernel_rfl
def sp_Mark_fits (K : PySem.W.Frag) : ASp := spOf 2 (w_Mark_fits K)
/-! ### Pick.fits: 0 self, 1 width, 2 name -/
def N_Pick_fits : List Str := ["self", "width", "name"]
def T_Pick_fits (K : PySem.W.Frag) : ClsT := ⟨CS, FL, [], SUBS⟩
def w_Pick_fits (K : PySem.W.Frag) : WS :=
  (sRet (wCB cAll (wCons (wLc true (iSeq (wLst true (wCons (wFld (T_Pick_fits K) "goal" (wVar 0)) (wCons (wFld (T_Pick_fits K) "by" (wVar 0)) (wCons (wFld (T_Pick_fits K) "one" (wVar 0)) (wCons (wFld (T_Pick_fits K) "other" (wVar 0)) wNil)))))) [2] (gN 2) wYes (wCall 1 (sp_is_register K) (wCons (wVar 2) wNil))) wNil)))
def c_Pick_fits (K : PySem.W.Frag) : TC := mkC K N_Pick_fits (inCls (top 43) 3) [] true [("is_register", 1, sp_is_register K)] (T_Pick_fits K) []
theorem t_Pick_fits (K : PySem.W.Frag) : trB (c_Pick_fits K) (bodyOf (inCls (top 43) 3)) = some (w_Pick_fits K) := by kernel_rfl
def sp_Pick_fits (K : PySem.W.Frag) : ASp := spOf 3 (w_Pick_fits K)
/-! ### Pair.fits: 0 self, 1 width -/
def N_Pair_fits : List Str := ["self", "width"]
def T_Pair_fits (K : PySem.W.Frag) : ClsT := ⟨CS, FL, [], SUBS⟩
def w_Pair_fits (K : PySem.W.Frag) : WS :=
  (sRet (wAndV (wCall 1 (sp_is_register K) (wCons (wFld (T_Pair_fits K) "goal" (wVar 0)) wNil)) (wAndV (wCall 1 (sp_is_register K) (wCons (wFld (T_Pair_fits K) "one" (wVar 0)) wNil)) (wCall 1 (sp_is_register K) (wCons (wFld (T_Pair_fits K) "other" (wVar 0)) wNil)))))
def c_Pair_fits (K : PySem.W.Frag) : TC := mkC K N_Pair_fits (inCls (top 29) 2) [] true [("is_register", 1, sp_is_register K)] (T_Pair_fits K) []
theorem t_Pair_fits (K : PySem.W.Frag) : trB (c_Pair_fits K) (bodyOf (inCls (top 29) 2)) = some (w_Pair_fits K) := by kernel_rfl
def sp_Pair_fits (K : PySem.W.Frag) : ASp := spOf 2 (w_Pair_fits K)
/-! ### Shift.fits: 0 self, 1 width -/
def N_Shift_fits : List Str := ["self", "width"]
def T_Shift_fits (K : PySem.W.Frag) : ClsT := ⟨CS, FL, [], SUBS⟩
def w_Shift_fits (K : PySem.W.Frag) : WS :=
  (sRet (wAndV (wCall 1 (sp_is_register K) (wCons (wFld (T_Shift_fits K) "goal" (wVar 0)) wNil)) (wAndV (wCall 1 (sp_is_register K) (wCons (wFld (T_Shift_fits K) "one" (wVar 0)) wNil)) (wCall 3 (sp_within K) (wCons (wFld (T_Shift_fits K) "k" (wVar 0)) (wCons (wCon (.int 0)) (wCons (wOp oSub (wVar 1) (wCon (.int 1))) wNil)))))))
def c_Shift_fits (K : PySem.W.Frag) : TC := mkC K N_Shift_fits (inCls (top 39) 2) [] true [("is_register", 1, sp_is_register K), ("within", 3, sp_within K)] (T_Shift_fits K) []
theorem t_Shift_fits (K : PySem.W.Frag) : trB (c_Shift_fits K) (bodyOf (inCls (top 39) 2)) = some (w_Shift_fits K) := by kernel_rfl
def sp_Shift_fits (K : PySem.W.Frag) : ASp := spOf 2 (w_Shift_fits K)
/-! ### walked: 0 width, 1 steps, 2 place, 3 about, 4 many, 5 step, 6 inner -/
def N_walked : List Str := ["width", "steps", "place", "about", "many", "step", "inner"]
def T_walked (K : PySem.W.Frag) : ClsT := ⟨CS, FL, [(("Turns", "fits"), (2, sp_Turns_fits K)), (("Copy", "fits"), (2, sp_Copy_fits K)), (("Set", "fits"), (2, sp_Set_fits K)), (("Sum", "fits"), (2, sp_Carrying_fits K)), (("Gap", "fits"), (2, sp_Carrying_fits K)), (("Mark", "fits"), (2, sp_Mark_fits K)), (("Pick", "fits"), (2, sp_Pick_fits K)), (("Low", "fits"), (2, sp_Pair_fits K)), (("High", "fits"), (2, sp_Pair_fits K)), (("And", "fits"), (2, sp_Pair_fits K)), (("Or", "fits"), (2, sp_Pair_fits K)), (("Unlike", "fits"), (2, sp_Pair_fits K)), (("Under", "fits"), (2, sp_Pair_fits K)), (("Left", "fits"), (2, sp_Shift_fits K)), (("Right", "fits"), (2, sp_Shift_fits K)), (("Slide", "fits"), (2, sp_Shift_fits K))], SUBS⟩
def w_walked_1 (K : PySem.W.Frag) (sp : ASp) : WS :=
  (sRet (wTup (wCons (wVar 2) (wCons (wVar 4) wNil))))
def w_walked_2 (K : PySem.W.Frag) (sp : ASp) : WS :=
  (sSeq (sAsg (gT 2 (gs1 (gN 2) (gs1 (gN 6) gs0))) (wCall 4 sp (wCons (wVar 0) (wCons (wFld (T_walked K) "steps" (wVar 5)) (wCons (wOp (oAdd true) (wVar 2) (wCon (.int 1))) (wCons (wOp (oAdd true) (wVar 3) (wCon (.int 1))) wNil))))))
  (sSet 4 (wOp (oAdd true) (wVar 4) (wOp (oMul true) (wFld (T_walked K) "times" (wVar 5)) (wOp (oAdd true) (wCon (.int 1)) (wVar 6))))))
def w_walked_3 (K : PySem.W.Frag) (sp : ASp) : WS :=
  (sIf (wTru (wIsO (T_walked K) "Turns" (wVar 5))) (sSeq (sIf (wIsB (wOp oEq (wVar 3) (wCon (.int 5)))) (sRaise "NoRow" ["place"] (wCons (wVar 2) wNil)) sNil)
  (w_walked_2 K sp)) (sSeq (sSet 2 (wOp (oAdd true) (wVar 2) (wCon (.int 1))))
  (sSet 4 (wOp (oAdd true) (wVar 4) (wCon (.int 1))))))
def w_walked_4 (K : PySem.W.Frag) (sp : ASp) : WS :=
  (sSeq (sIf (wOr (wNot (wTru (wIsO (T_walked K) "Step" (wVar 5)))) (wNot (wTru (wMth (T_walked K) "fits" (wVar 5) (wCons (wVar 0) wNil))))) (sRaise "NoRow" ["place"] (wCons (wVar 2) wNil)) sNil)
  (w_walked_3 K sp))
def w_walked (K : PySem.W.Frag) (sp : ASp) : WS :=
  (sSeq (sSet 4 (wCon (.int 0)))
  (sSeq (sFor (iSeq (wVar 1)) (gN 5) (w_walked_4 K sp))
  (w_walked_1 K sp)))
def c_walked (K : PySem.W.Frag) (sp : ASp) : TC := mkC K N_walked (top 49) [] true [("walked", 4, sp)] (T_walked K) []
theorem t_walked (K : PySem.W.Frag) (sp : ASp) : trB (c_walked K sp) (bodyOf (top 49)) = some (w_walked K sp) := by kernel_rfl
def sr_walked (K : PySem.W.Frag) : Nat → ASp
  | 0 => fun _ _ _ => False
  | n + 1 => spOf 7 (w_walked K (sr_walked K n))
/-! ### check_steps: 0 width, 1 steps, 2 many -/
def N_check_steps : List Str := ["width", "steps", "many"]
def T_check_steps (K : PySem.W.Frag) : ClsT := ⟨CS, FL, [], SUBS⟩
def w_check_steps_1 (K : PySem.W.Frag) : WS :=
  (sRet (wVar 2))
def w_check_steps_2 (K : PySem.W.Frag) : WS :=
  (sSeq (sSet 2 (wOp oIdx (wCall 4 (sr_walked K 8) (wCons (wVar 0) (wCons (wVar 1) (wCons (wCon (.int 0)) (wCons (wCon (.int 0)) wNil))))) (wCon (.int 1))))
  (sSeq (sIf (wIsB (wOp oGt (wVar 2) (wCon (.int 1000000)))) (sRaise "TooMuch" ["line"] (wCons (wOp oSub (wCon (.int 0)) (wCon (.int 1))) wNil)) sNil)
  (w_check_steps_1 K)))
def w_check_steps (K : PySem.W.Frag) : WS :=
  (sSeq (sDrop (wCall 1 (sp_need_width K) (wCons (wVar 0) wNil)))
  (sSeq (sIf (wNot (wTru (wCB (cIsi K) (wCons (wVar 1) (wCons (wCon (.raw (.ty "list"))) wNil))))) (sRaise "NoRow" ["place"] (wCons (wCon (.int 0)) wNil)) sNil)
  (w_check_steps_2 K)))
def c_check_steps (K : PySem.W.Frag) : TC := mkC K N_check_steps (top 50) [] true [("need_width", 1, sp_need_width K), ("walked", 4, sr_walked K 8)] (T_check_steps K) []
theorem t_check_steps (K : PySem.W.Frag) : trB (c_check_steps K) (bodyOf (top 50)) = some (w_check_steps K) := by kernel_rfl
def sp_check_steps (K : PySem.W.Frag) : ASp := spOf 3 (w_check_steps K)
/-! ### need_kept: 0 keep, 1 name -/
def N_need_kept : List Str := ["keep", "name"]
def T_need_kept (K : PySem.W.Frag) : ClsT := ⟨CS, FL, [], SUBS⟩
def w_need_kept_1 (K : PySem.W.Frag) : WS :=
  (sIf (wNot (wTru (wCall 1 (sp_is_register K) (wCons (wVar 1) wNil)))) (sRaise "NoRegister" ["name"] (wCons (wVar 1) wNil)) sNil)
def w_need_kept_2 (K : PySem.W.Frag) : WS :=
  (sFor (iSeq (wVar 0)) (gN 1) (w_need_kept_1 K))
def w_need_kept (K : PySem.W.Frag) : WS :=
  (sSeq (sIf (wNot (wTru (wCB (cIsi K) (wCons (wVar 0) (wCons (wCon (.raw (.ty "list"))) wNil))))) (sRaise "NoRegister" ["name"] (wCons (wVar 0) wNil)) sNil)
  (w_need_kept_2 K))
def c_need_kept (K : PySem.W.Frag) : TC := mkC K N_need_kept (top 54) [] true [("is_register", 1, sp_is_register K)] (T_need_kept K) []
theorem t_need_kept (K : PySem.W.Frag) : trB (c_need_kept K) (bodyOf (top 54)) = some (w_need_kept K) := by kernel_rfl
def sp_need_kept (K : PySem.W.Frag) : ASp := spOf 2 (w_need_kept K)
/-! ### unneeded: 0 steps, 1 step -/
def N_unneeded : List Str := ["steps", "step"]
def T_unneeded (K : PySem.W.Frag) : ClsT := ⟨CS, FL, [], SUBS⟩
def w_unneeded (K : PySem.W.Frag) (sp : ASp) : WS :=
  (sRet (wLc false (iSeq (wVar 0)) [1] (gN 1) wYes (wIf (wTru (wIsO (T_unneeded K) "Turns" (wVar 1))) (wCall 1 sp (wCons (wFld (T_unneeded K) "steps" (wVar 1)) wNil)) (wCon (.bl false)))))
def c_unneeded (K : PySem.W.Frag) (sp : ASp) : TC := mkC K N_unneeded (top 56) [] true [("unneeded", 1, sp)] (T_unneeded K) []
theorem t_unneeded (K : PySem.W.Frag) (sp : ASp) : trB (c_unneeded K sp) (bodyOf (top 56)) = some (w_unneeded K sp) := by kernel_rfl
def sr_unneeded (K : PySem.W.Frag) : Nat → ASp
  | 0 => fun _ _ _ => False
  | n + 1 => spOf 2 (w_unneeded K (sr_unneeded K n))
/-! ### puts_of: 0 step -/
def N_puts_of : List Str := ["step"]
def T_puts_of (K : PySem.W.Frag) : ClsT := ⟨CS, FL, [], SUBS⟩
def w_puts_of_1 (K : PySem.W.Frag) : WS :=
  (sRet (wLst false (wCons (wFld (T_puts_of K) "goal" (wVar 0)) wNil)))
def w_puts_of_2 (K : PySem.W.Frag) : WS :=
  (sSeq (sIf (wAnd (wTru (wIsO (T_puts_of K) "Carrying" (wVar 0))) (wIsB (wOp oIsNot (wFld (T_puts_of K) "carry" (wVar 0)) (wCon .non)))) (sRet (wLst false (wCons (wFld (T_puts_of K) "goal" (wVar 0)) (wCons (wFld (T_puts_of K) "carry" (wVar 0)) wNil)))) sNil)
  (w_puts_of_1 K))
def w_puts_of (K : PySem.W.Frag) : WS :=
  (sSeq (sIf (wTru (wIsO (T_puts_of K) "Mark" (wVar 0))) (sRet (wLst false wNil)) sNil)
  (w_puts_of_2 K))
def c_puts_of (K : PySem.W.Frag) : TC := mkC K N_puts_of (top 53) [] true [] (T_puts_of K) []
theorem t_puts_of (K : PySem.W.Frag) : trB (c_puts_of K) (bodyOf (top 53)) = some (w_puts_of K) := by kernel_rfl
def sp_puts_of (K : PySem.W.Frag) : ASp := spOf 1 (w_puts_of K)
/-! ### marked: 0 names, 1 found, 2 name -/
def N_marked : List Str := ["names", "found", "name"]
def T_marked (K : PySem.W.Frag) : ClsT := ⟨CS, FL, [], SUBS⟩
def w_marked_1 (K : PySem.W.Frag) : WS :=
  (sRet (wVar 1))
def w_marked_2 (K : PySem.W.Frag) : WS :=
  (sAsg (gSubD (wVar 1) (wVar 2)) (wCon (.bl true)))
def w_marked (K : PySem.W.Frag) : WS :=
  (sSeq (sSet 1 (wDct0 false))
  (sSeq (sFor (iSeq (wVar 0)) (gN 2) (w_marked_2 K))
  (w_marked_1 K)))
def c_marked (K : PySem.W.Frag) : TC := mkC K N_marked (top 55) [1] true [] (T_marked K) [1]
theorem t_marked (K : PySem.W.Frag) : trB (c_marked K) (bodyOf (top 55)) = some (w_marked K) := by kernel_rfl
def sp_marked (K : PySem.W.Frag) : ASp := spOf 3 (w_marked K)
/-! ### reads_of: 0 step -/
def N_reads_of : List Str := ["step"]
def T_reads_of (K : PySem.W.Frag) : ClsT := ⟨CS, FL, [], SUBS⟩
def w_reads_of_1 (K : PySem.W.Frag) : WS :=
  (sRet (wLst false wNil))
def w_reads_of_2 (K : PySem.W.Frag) : WS :=
  (sSeq (sIf (wTru (wIsO (T_reads_of K) "Mark" (wVar 0))) (sRet (wLst false (wCons (wFld (T_reads_of K) "by" (wVar 0)) wNil))) sNil)
  (w_reads_of_1 K))
def w_reads_of_3 (K : PySem.W.Frag) : WS :=
  (sSeq (sIf (wTru (wIsO (T_reads_of K) "Pick" (wVar 0))) (sRet (wLst false (wCons (wFld (T_reads_of K) "by" (wVar 0)) (wCons (wFld (T_reads_of K) "one" (wVar 0)) (wCons (wFld (T_reads_of K) "other" (wVar 0)) wNil))))) sNil)
  (w_reads_of_2 K))
def w_reads_of_4 (K : PySem.W.Frag) : WS :=
  (sSeq (sIf (wTru (wIsOT (T_reads_of K) ["Pair", "Carrying"] (wVar 0))) (sRet (wLst false (wCons (wFld (T_reads_of K) "one" (wVar 0)) (wCons (wFld (T_reads_of K) "other" (wVar 0)) wNil)))) sNil)
  (w_reads_of_3 K))
def w_reads_of (K : PySem.W.Frag) : WS :=
  (sSeq (sIf (wTru (wIsOT (T_reads_of K) ["Copy", "Shift"] (wVar 0))) (sRet (wLst false (wCons (wFld (T_reads_of K) "one" (wVar 0)) wNil))) sNil)
  (w_reads_of_4 K))
def c_reads_of (K : PySem.W.Frag) : TC := mkC K N_reads_of (top 52) [] true [] (T_reads_of K) []
theorem t_reads_of (K : PySem.W.Frag) : trB (c_reads_of K) (bodyOf (top 52)) = some (w_reads_of K) := by kernel_rfl
def sp_reads_of (K : PySem.W.Frag) : ASp := spOf 1 (w_reads_of K)
/-! ### gone_back: 0 step, 1 live, 2 puts, 3 name -/
def N_gone_back : List Str := ["step", "live", "puts", "name"]
def T_gone_back (K : PySem.W.Frag) : ClsT := ⟨CS, FL, [], SUBS⟩
def w_gone_back_1 (K : PySem.W.Frag) : WS :=
  (sRet (wCall 1 (sp_marked K) (wCons (wOp (oAdd true) (wLc true (iSeq (wVar 1)) [3] (gN 3) (wIsB (wOp oNin (wVar 3) (wVar 2))) (wVar 3)) (wCall 1 (sp_reads_of K) (wCons (wVar 0) wNil))) wNil)))
def w_gone_back (K : PySem.W.Frag) : WS :=
  (sSeq (sSet 2 (wCall 1 (sp_puts_of K) (wCons (wVar 0) wNil)))
  (sSeq (sIf (wAnd (wNot (wTru (wIsO (T_gone_back K) "Mark" (wVar 0)))) (wNot (wTru (wCB cAny (wCons (wLc true (iSeq (wVar 2)) [3] (gN 3) wYes (wOp oIn (wVar 3) (wVar 1))) wNil))))) (sRet (wCon .non)) sNil)
  (w_gone_back_1 K)))
def c_gone_back (K : PySem.W.Frag) : TC := mkC K N_gone_back (top 57) [] true [("puts_of", 1, sp_puts_of K), ("marked", 1, sp_marked K), ("reads_of", 1, sp_reads_of K)] (T_gone_back K) []
theorem t_gone_back (K : PySem.W.Frag) : trB (c_gone_back K) (bodyOf (top 57)) = some (w_gone_back K) := by kernel_rfl
def sp_gone_back (K : PySem.W.Frag) : ASp := spOf 4 (w_gone_back K)
/-! ### back: 0 steps, 1 flags, 2 live, 3 at, 4 step, 5 ahead -/
def N_back : List Str := ["steps", "flags", "live", "at", "step", "ahead"]
def T_back (K : PySem.W.Frag) : ClsT := ⟨CS, FL, [], SUBS⟩
def w_back_1 (K : PySem.W.Frag) (q_back q_back_round : ASp) : WS :=
  (sRet (wVar 2))
def w_back_2 (K : PySem.W.Frag) (q_back q_back_round : ASp) : WS :=
  (sSeq (sSet 4 (wOp oIdx (wVar 0) (wVar 3)))
  (sIf (wTru (wIsO (T_back K) "Turns" (wVar 4))) (sSet 2 (wCall 3 q_back_round (wCons (wVar 4) (wCons (wOp oIdx (wVar 1) (wVar 3)) (wCons (wVar 2) wNil))))) (sSeq (sSet 5 (wCall 2 (sp_gone_back K) (wCons (wVar 4) (wCons (wVar 2) wNil))))
  (sIf (wIsB (wOp oIsNot (wVar 5) (wCon .non))) (sSeq (sAsg (gSubL (wVar 1) (wVar 3)) (wCon (.bl true)))
  (sSet 2 (wVar 5))) sNil))))
def w_back (K : PySem.W.Frag) (q_back q_back_round : ASp) : WS :=
  (sSeq (sFor (iR3 (wOp oSub (wCB cLen (wCons (wVar 0) wNil)) (wCon (.int 1))) (wNeg (wCon (.int 1))) (wNeg (wCon (.int 1)))) (gN 3) (w_back_2 K q_back q_back_round))
  (w_back_1 K q_back q_back_round))
def c_back (K : PySem.W.Frag) (q_back q_back_round : ASp) : TC := mkC K N_back (top 58) [1] true [("back_round", 3, q_back_round), ("gone_back", 2, sp_gone_back K)] (T_back K) []
theorem t_back (K : PySem.W.Frag) (q_back q_back_round : ASp) : trB (c_back K q_back q_back_round) (bodyOf (top 58)) = some (w_back K q_back q_back_round) := by kernel_rfl
/-! ### back_round: 0 step, 1 flags, 2 live, 3 seen, 4 turn, 5 names, 6 first, 7 left -/
def N_back_round : List Str := ["step", "flags", "live", "seen", "turn", "names", "first", "left"]
def T_back_round (K : PySem.W.Frag) : ClsT := ⟨CS, FL, [], SUBS⟩
def w_back_round_1 (K : PySem.W.Frag) (q_back q_back_round : ASp) : WS :=
  (sRet (wVar 2))
def w_back_round_2 (K : PySem.W.Frag) (q_back q_back_round : ASp) : WS :=
  (sDrop (wMt "list" mAppend (wVar 3) (wCons (wVar 5) wNil)))
def w_back_round_3 (K : PySem.W.Frag) (q_back q_back_round : ASp) : WS :=
  (sSeq (sSet 2 (wCall 3 q_back (wCons (wFld (T_back_round K) "steps" (wVar 0)) (wCons (wVar 1) (wCons (wVar 2) wNil)))))
  (sSeq (sSet 5 (wCB (cSort true) (wCons (wVar 2) wNil)))
  (sSeq (sIf (wIsB (wOp oIn (wVar 5) (wVar 3))) (sSeq (sSet 6 (wMt "list" mIndex (wVar 3) (wCons (wVar 5) wNil)))
  (sSeq (sSet 7 (wOp oMod (wOp oSub (wFld (T_back_round K) "times" (wVar 0)) (wVar 4)) (wOp oSub (wVar 4) (wVar 6))))
  (sRet (wCall 1 (sp_marked K) (wCons (wOp oIdx (wVar 3) (wOp (oAdd true) (wVar 6) (wVar 7))) wNil))))) sNil)
  (w_back_round_2 K q_back q_back_round))))
def w_back_round (K : PySem.W.Frag) (q_back q_back_round : ASp) : WS :=
  (sSeq (sSet 3 (wLst false (wCons (wCB (cSort true) (wCons (wVar 2) wNil)) wNil)))
  (sSeq (sFor (iR2 (wCon (.int 1)) (wOp (oAdd true) (wFld (T_back_round K) "times" (wVar 0)) (wCon (.int 1)))) (gN 4) (w_back_round_3 K q_back q_back_round))
  (w_back_round_1 K q_back q_back_round)))
def c_back_round (K : PySem.W.Frag) (q_back q_back_round : ASp) : TC := mkC K N_back_round (top 59) [3] true [("back", 3, q_back), ("marked", 1, sp_marked K)] (T_back_round K) []
theorem t_back_round (K : PySem.W.Frag) (q_back q_back_round : ASp) : trB (c_back_round K q_back q_back_round) (bodyOf (top 59)) = some (w_back_round K q_back q_back_round) := by kernel_rfl
def sg_back (K : PySem.W.Frag) : Nat → ASp × ASp
  | 0 => (fun _ _ _ => False, fun _ _ _ => False)
  | n + 1 => (spOf 6 (w_back K (sg_back K n).1 (sg_back K n).2), spOf 8 (w_back_round K (sg_back K n).1 (sg_back K n).2))
def sr_back (K : PySem.W.Frag) (n : Nat) : ASp := (sg_back K n).1
def sr_back_round (K : PySem.W.Frag) (n : Nat) : ASp := (sg_back K n).2
/-! ### flagged: 0 width, 1 steps, 2 keep, 3 flags -/
def N_flagged : List Str := ["width", "steps", "keep", "flags"]
def T_flagged (K : PySem.W.Frag) : ClsT := ⟨CS, FL, [], SUBS⟩
def w_flagged (K : PySem.W.Frag) : WS :=
  (sSeq (sDrop (wCall 2 (sp_check_steps K) (wCons (wVar 0) (wCons (wVar 1) wNil))))
  (sSeq (sDrop (wCall 1 (sp_need_kept K) (wCons (wVar 2) wNil)))
  (sSeq (sSet 3 (wCall 1 (sr_unneeded K 8) (wCons (wVar 1) wNil)))
  (sSeq (sDrop (wCall 3 (sr_back K 8) (wCons (wVar 1) (wCons (wVar 3) (wCons (wCall 1 (sp_marked K) (wCons (wVar 2) wNil)) wNil)))))
  (sRet (wVar 3))))))
def c_flagged (K : PySem.W.Frag) : TC := mkC K N_flagged (top 60) [] true [("check_steps", 2, sp_check_steps K), ("need_kept", 1, sp_need_kept K), ("unneeded", 1, sr_unneeded K 8), ("back", 3, sr_back K 8), ("marked", 1, sp_marked K)] (T_flagged K) []
theorem t_flagged (K : PySem.W.Frag) : trB (c_flagged K) (bodyOf (top 60)) = some (w_flagged K) := by kernel_rfl
def sp_flagged (K : PySem.W.Frag) : ASp := spOf 4 (w_flagged K)
/-! ### idle_rows: 0 width, 1 steps, 2 keep -/
def N_idle_rows : List Str := ["width", "steps", "keep"]
def T_idle_rows (K : PySem.W.Frag) : ClsT := ⟨CS, FL, [], SUBS⟩
def w_idle_rows (K : PySem.W.Frag) : WS :=
  (sRet (wOp oIdx (wCall 2 (sr_idle_among K 8) (wCons (wCall 3 (sp_flagged K) (wCons (wVar 0) (wCons (wVar 1) (wCons (wVar 2) wNil)))) (wCons (wCon (.int 0)) wNil))) (wCon (.int 0))))
def c_idle_rows (K : PySem.W.Frag) : TC := mkC K N_idle_rows (top 63) [] true [("idle_among", 2, sr_idle_among K 8), ("flagged", 3, sp_flagged K)] (T_idle_rows K) []
theorem t_idle_rows (K : PySem.W.Frag) : trB (c_idle_rows K) (bodyOf (top 63)) = some (w_idle_rows K) := by kernel_rfl
def sp_idle_rows (K : PySem.W.Frag) : ASp := spOf 3 (w_idle_rows K)
/-! ### left_rows: 0 steps, 1 flags, 2 found, 3 step, 4 flag, 5 inner -/
def N_left_rows : List Str := ["steps", "flags", "found", "step", "flag", "inner"]
def T_left_rows (K : PySem.W.Frag) : ClsT := ⟨CS, FL, [(("Turns", "__init__"), (3, sp_Turns___init__ K))], SUBS⟩
def w_left_rows_1 (K : PySem.W.Frag) (sp : ASp) : WS :=
  (sRet (wVar 2))
def w_left_rows_2 (K : PySem.W.Frag) (sp : ASp) : WS :=
  (sIf (wTru (wIsO (T_left_rows K) "Turns" (wVar 3))) (sSeq (sSet 5 (wCall 2 sp (wCons (wFld (T_left_rows K) "steps" (wVar 3)) (wCons (wVar 4) wNil))))
  (sIf (wIsB (wOp oNe (wVar 5) (wLst true wNil))) (sDrop (wMt "list" mAppend (wVar 2) (wCons (wMake "Turns" 3 (sp_Turns___init__ K) (wCons (wFld (T_left_rows K) "times" (wVar 3)) (wCons (wVar 5) wNil))) wNil))) sNil)) (sIf (wTru (wVar 4)) (sDrop (wMt "list" mAppend (wVar 2) (wCons (wVar 3) wNil))) sNil))
def w_left_rows (K : PySem.W.Frag) (sp : ASp) : WS :=
  (sSeq (sSet 2 (wLst false wNil))
  (sSeq (sFor (iZipD (wVar 0) (wVar 1)) (gT 2 (gs1 (gN 3) (gs1 (gN 4) gs0))) (w_left_rows_2 K sp))
  (w_left_rows_1 K sp)))
def c_left_rows (K : PySem.W.Frag) (sp : ASp) : TC := mkC K N_left_rows (top 64) [2] true [("left_rows", 2, sp)] (T_left_rows K) []
theorem t_left_rows (K : PySem.W.Frag) (sp : ASp) : trB (c_left_rows K sp) (bodyOf (top 64)) = some (w_left_rows K sp) := by kernel_rfl
def sr_left_rows (K : PySem.W.Frag) : Nat → ASp
  | 0 => fun _ _ _ => False
  | n + 1 => spOf 6 (w_left_rows K (sr_left_rows K n))
/-! ### trimmed: 0 width, 1 steps, 2 keep -/
def N_trimmed : List Str := ["width", "steps", "keep"]
def T_trimmed (K : PySem.W.Frag) : ClsT := ⟨CS, FL, [], SUBS⟩
def w_trimmed (K : PySem.W.Frag) : WS :=
  (sRet (wCall 2 (sr_left_rows K 8) (wCons (wVar 1) (wCons (wCall 3 (sp_flagged K) (wCons (wVar 0) (wCons (wVar 1) (wCons (wVar 2) wNil)))) wNil))))
def c_trimmed (K : PySem.W.Frag) : TC := mkC K N_trimmed (top 65) [] true [("left_rows", 2, sr_left_rows K 8), ("flagged", 3, sp_flagged K)] (T_trimmed K) []
theorem t_trimmed (K : PySem.W.Frag) : trB (c_trimmed K) (bodyOf (top 65)) = some (w_trimmed K) := by kernel_rfl
def sp_trimmed (K : PySem.W.Frag) : ASp := spOf 3 (w_trimmed K)
/-! ### needed_registers: 0 width, 1 steps, 2 keep -/
def N_needed_registers : List Str := ["width", "steps", "keep"]
def T_needed_registers (K : PySem.W.Frag) : ClsT := ⟨CS, FL, [], SUBS⟩
def w_needed_registers (K : PySem.W.Frag) : WS :=
  (sSeq (sDrop (wCall 2 (sp_check_steps K) (wCons (wVar 0) (wCons (wVar 1) wNil))))
  (sSeq (sDrop (wCall 1 (sp_need_kept K) (wCons (wVar 2) wNil)))
  (sRet (wCB (cSort false) (wCons (wCall 3 (sr_back K 8) (wCons (wVar 1) (wCons (wCall 1 (sr_unneeded K 8) (wCons (wVar 1) wNil)) (wCons (wCall 1 (sp_marked K) (wCons (wVar 2) wNil)) wNil)))) wNil)))))
def c_needed_registers (K : PySem.W.Frag) : TC := mkC K N_needed_registers (top 66) [] true [("check_steps", 2, sp_check_steps K), ("need_kept", 1, sp_need_kept K), ("back", 3, sr_back K 8), ("unneeded", 1, sr_unneeded K 8), ("marked", 1, sp_marked K)] (T_needed_registers K) []
theorem t_needed_registers (K : PySem.W.Frag) : trB (c_needed_registers K) (bodyOf (top 66)) = some (w_needed_registers K) := by kernel_rfl
def sp_needed_registers (K : PySem.W.Frag) : ASp := spOf 3 (w_needed_registers K)
/-! ### _law_asked: 0 which, 1 width, 2 steps, 3 keep, 4 e -/
def N_law_asked : List Str := ["which", "width", "steps", "keep", "e"]
def T_law_asked (K : PySem.W.Frag) : ClsT := ⟨CS, FL, [], SUBS⟩
def w_law_asked_1 (K : PySem.W.Frag) : WS :=
  (sRet (wLst false (wCons (wCon (.str "told")) (wCons (wCon .non) wNil))))
def w_law_asked_2 (K : PySem.W.Frag) : WS :=
  (sDrop (wTab 3 [(sp_idle_rows K), (sp_trimmed K), (sp_needed_registers K)] (wVar 0) (wCons (wVar 1) (wCons (wVar 2) (wCons (wVar 3) wNil)))))
def w_law_asked (K : PySem.W.Frag) : WS :=
  (sSeq (sTry XS FS (w_law_asked_2 K) [("NoWidth", some 4, .ret "width" "found"), ("NoRow", some 4, .ret "row" "place"), ("TooMuch", some 4, .ret "much" "line"), ("NoRegister", some 4, .ret "register" "name")])
  (w_law_asked_1 K))
def c_law_asked (K : PySem.W.Frag) : TC := mkC K N_law_asked (top 77) [] true [("idle_rows", 3, sp_idle_rows K), ("trimmed", 3, sp_trimmed K), ("needed_registers", 3, sp_needed_registers K)] (T_law_asked K) []
theorem t_law_asked (K : PySem.W.Frag) : trB (c_law_asked K) (bodyOf (top 77)) = some (w_law_asked K) := by kernel_rfl
def sp_law_asked (K : PySem.W.Frag) : ASp := spOf 5 (w_law_asked K)
/-! ### _law_same: 0 told, 1 due, 2 k -/
def N_law_same : List Str := ["told", "due", "k"]
def T_law_same (K : PySem.W.Frag) : ClsT := ⟨CS, FL, [], SUBS⟩
def c_law_same (K : PySem.W.Frag) (sp : ASp) : TC := mkC K N_law_same (top 71) [] false [("_law_same", 2, sp)] (T_law_same K) []
theorem t_law_same (K : PySem.W.Frag) (sp : ASp) : trB (c_law_same K sp) (bodyOf (top 71)) = some (w_law_same K sp) := by kernel_rfl
/-! ### law: 0 script, 1 k, 2 box, 3 width, 4 rows, 5 placed, 6 many, 7 steps, 8 keep, 9 which, 10 at, 11 bad, 12 wrong, 13 names, 14 odd, 15 told, 16 none, 17 much, 18 loose -/
def N_law : List Str := ["script", "k", "box", "width", "rows", "placed", "many", "steps", "keep", "which", "at", "bad", "wrong", "names", "odd", "told", "none", "much", "loose"]
def T_law (K : PySem.W.Frag) : ClsT := ⟨CS, FL, [(("Turns", "__init__"), (3, sp_Turns___init__ K)), (("Copy", "__init__"), (3, sp_Copy___init__ K))], SUBS⟩
def w_law_1 (K : PySem.W.Frag) : WS :=
  (sRet (wCon (.bl true)))
def w_law_2 (K : PySem.W.Frag) : WS :=
  (sIf (wIsB (wOp oNe (wOp oIdx (wCall 4 (sp_law_asked K) (wCons (wVar 9) (wCons (wVar 3) (wCons (wVar 7) (wCons (wVar 8) wNil))))) (wCon (.int 0))) (wCon (.str "told")))) (sRet (wCon (.bl false))) sNil)
def w_law_3 (K : PySem.W.Frag) : WS :=
  (sSeq (sSet 18 (wOp oIdx (wLst true (wCons (wCon .non) (wCons (wCB cTuple (wCons (wVar 8) wNil)) (wCons (wCon (.str "a")) (wCons (wDct0 true) (wCons (wCon (.int 7)) wNil)))))) (wCall 2 (sp_law_take K) (wCons (wVar 2) (wCons (wCon (.int 5)) wNil)))))
  (sSeq (sSet 15 (wCall 4 (sp_law_asked K) (wCons (wVar 9) (wCons (wVar 3) (wCons (wVar 7) (wCons (wVar 18) wNil))))))
  (sSeq (sIf (wOr (wIsB (wOp oNe (wOp oIdx (wVar 15) (wCon (.int 0))) (wCon (.str "register")))) (wIsB (wOp oNe (wCB (cReprK K) (wCons (wOp oIdx (wVar 15) (wCon (.int 1))) wNil)) (wCB (cReprK K) (wCons (wVar 18) wNil))))) (sRet (wCon (.bl false))) sNil)
  (w_law_2 K))))
def w_law_4 (K : PySem.W.Frag) : WS :=
  (sSeq (sSet 15 (wCall 4 (sp_law_asked K) (wCons (wVar 9) (wCons (wVar 3) (wCons (wVar 7) (wCons (wVar 13) wNil))))))
  (sSeq (sIf (wOr (wIsB (wOp oNe (wOp oIdx (wVar 15) (wCon (.int 0))) (wCon (.str "register")))) (wIsB (wOp oNe (wCB (cReprK K) (wCons (wOp oIdx (wVar 15) (wCon (.int 1))) wNil)) (wCB (cReprK K) (wCons (wVar 12) wNil))))) (sRet (wCon (.bl false))) sNil)
  (w_law_3 K)))
def w_law_5 (K : PySem.W.Frag) : WS :=
  (sSeq (sSet 17 (wOp (oAdd true) (wVar 7) (wLst true (wCons (wMake "Turns" 3 (sp_Turns___init__ K) (wCons (wCon (.int 64)) (wCons (wLst true (wCons (wMake "Turns" 3 (sp_Turns___init__ K) (wCons (wCon (.int 64)) (wCons (wLst true (wCons (wMake "Turns" 3 (sp_Turns___init__ K) (wCons (wCon (.int 64)) (wCons (wLst true (wCons (wMake "Turns" 3 (sp_Turns___init__ K) (wCons (wOp (oAdd true) (wCon (.int 4)) (wCall 2 (sp_law_take K) (wCons (wVar 2) (wCons (wCon (.int 61)) wNil)))) (wCons (wLst true (wCons (wMake "Copy" 3 (sp_Copy___init__ K) (wCons (wCon (.str "a")) (wCons (wCon (.str "b")) wNil))) wNil)) wNil))) wNil)) wNil))) wNil)) wNil))) wNil)) wNil))) wNil))))
  (sSeq (sIf (wNot (wTru (wCall 2 (sr_law_same K 8) (wCons (wCall 4 (sp_law_asked K) (wCons (wVar 9) (wCons (wVar 3) (wCons (wVar 17) (wCons (wVar 13) wNil))))) (wCons (wLst true (wCons (wCon (.str "much")) (wCons (wNeg (wCon (.int 1))) wNil))) wNil))))) (sRet (wCon (.bl false))) sNil)
  (w_law_4 K)))
def w_law_6 (K : PySem.W.Frag) : WS :=
  (sSeq (sSet 16 (wOp oIdx (wLst true (wCons (wCon .non) (wCons (wCB cTuple (wCons (wVar 7) wNil)) (wCons (wCon (.str "rows")) (wCons (wDct0 true) (wCons (wCon (.int 7)) wNil)))))) (wCall 2 (sp_law_take K) (wCons (wVar 2) (wCons (wCon (.int 5)) wNil)))))
  (sSeq (sIf (wNot (wTru (wCall 2 (sr_law_same K 8) (wCons (wCall 4 (sp_law_asked K) (wCons (wVar 9) (wCons (wVar 3) (wCons (wVar 16) (wCons (wVar 13) wNil))))) (wCons (wLst true (wCons (wCon (.str "row")) (wCons (wCon (.int 0)) wNil))) wNil))))) (sRet (wCon (.bl false))) sNil)
  (w_law_5 K)))
def w_law_7 (K : PySem.W.Frag) : WS :=
  (sSeq (sIf (wNot (wTru (wCall 2 (sr_law_same K 8) (wCons (wCall 4 (sp_law_asked K) (wCons (wVar 9) (wCons (wVar 3) (wCons (wVar 11) (wCons (wOp oIdx (wLst true (wCons (wVar 13) (wCons (wVar 8) (wCons (wCon .non) wNil)))) (wCall 2 (sp_law_take K) (wCons (wVar 2) (wCons (wCon (.int 3)) wNil)))) wNil))))) (wCons (wLst true (wCons (wCon (.str "row")) (wCons (wVar 10) wNil))) wNil))))) (sRet (wCon (.bl false))) sNil)
  (w_law_6 K))
def w_law_8 (K : PySem.W.Frag) : WS :=
  (sSeq (sSet 10 (wCall 2 (sp_law_take K) (wCons (wVar 2) (wCons (wVar 6) wNil))))
  (sSeq (sSet 11 (wCall 4 (sr_law_spoilt K 8) (wCons (wVar 2) (wCons (wVar 4) (wCons (wVar 10) (wCons (wVar 3) wNil))))))
  (sSeq (sSet 12 (wOp oIdx (wSl true (wLst true (wCons (wCon (.str "a")) (wCons (wCon (.str "B")) (wCons (wCon (.str "")) (wCons (wCon (.str "9a")) (wCons (wCon .non) (wCons (wCon (.int 7)) (wCons (wCon (.str "b c")) (wCons (wCon (.str "abcdefghi")) (wCons (wCon (.bl true)) wNil)))))))))) (wPart (wCon (.int 1))) wNoPart) (wCall 2 (sp_law_take K) (wCons (wVar 2) (wCons (wCon (.int 8)) wNil)))))
  (sSeq (sSet 13 (wOp (oAdd true) (wOp (oAdd true) (wVar 8) (wLst true (wCons (wVar 12) wNil))) (wSl true (wLst true (wCons (wCon .non) (wCons (wCon (.str "b")) wNil))) wNoPart (wPart (wCall 2 (sp_law_take K) (wCons (wVar 2) (wCons (wCon (.int 3)) wNil)))))))
  (sSeq (sSet 14 (wOp oIdx (wLst true (wCons (wCon (.int 3)) (wCons (wCon (.int 33)) (wCons (wCon .non) (wCons (wCon (.str "8")) (wCons (wCon (.bl true)) wNil)))))) (wCall 2 (sp_law_take K) (wCons (wVar 2) (wCons (wCon (.int 5)) wNil)))))
  (sSeq (sSet 15 (wCall 4 (sp_law_asked K) (wCons (wVar 9) (wCons (wVar 14) (wCons (wOp oIdx (wLst true (wCons (wVar 11) (wCons (wCon .non) (wCons (wVar 7) wNil)))) (wCall 2 (sp_law_take K) (wCons (wVar 2) (wCons (wCon (.int 3)) wNil)))) (wCons (wOp oIdx (wLst true (wCons (wVar 13) (wCons (wVar 8) wNil))) (wCall 2 (sp_law_take K) (wCons (wVar 2) (wCons (wCon (.int 2)) wNil)))) wNil))))))
  (sSeq (sIf (wOr (wIsB (wOp oNe (wOp oIdx (wVar 15) (wCon (.int 0))) (wCon (.str "width")))) (wIsB (wOp oNe (wCB (cReprK K) (wCons (wOp oIdx (wVar 15) (wCon (.int 1))) wNil)) (wCB (cReprK K) (wCons (wVar 14) wNil))))) (sRet (wCon (.bl false))) sNil)
  (w_law_7 K))))))))
def w_law_9 (K : PySem.W.Frag) : WS :=
  (sSeq (sSet 2 (wCall 1 (sp_law_box K) (wCons (wCall 2 (sp_law_cell K) (wCons (wVar 0) (wCons (wVar 1) wNil))) wNil)))
  (sSeq (sSet 3 (wOp (oAdd true) (wCon (.int 4)) (wCall 2 (sp_law_take K) (wCons (wVar 2) (wCons (wCon (.int 29)) wNil)))))
  (sSeq (sSet 4 (wCall 4 (sr_law_rows K 8) (wCons (wVar 2) (wCons (wVar 3) (wCons (wOp (oAdd true) (wCon (.int 1)) (wCall 2 (sp_law_take K) (wCons (wVar 2) (wCons (wCon (.int 9)) wNil)))) (wCons (wCon (.int 0)) wNil))))))
  (sSeq (sAsg (gT 2 (gs1 (gN 5) (gs1 (gN 6) gs0))) (wCall 2 (sr_law_placed K 8) (wCons (wVar 4) (wCons (wCon (.int 0)) wNil))))
  (sSeq (sPar [7, 8] (wCons (wLc true (iSeq (wVar 4)) [15] (gN 15) wYes (wCall 1 (sr_law_step K 8) (wCons (wVar 15) wNil))) (wCons (wSl true (wLst true (wCons (wCon (.str "a")) (wCons (wCon (.str "e9")) wNil))) wNoPart (wPart (wCall 2 (sp_law_take K) (wCons (wVar 2) (wCons (wCon (.int 3)) wNil))))) wNil)))
  (sFor (iR1 (wCon (.int 3))) (gN 9) (w_law_8 K)))))))
def w_law (K : PySem.W.Frag) : WS :=
  (sSeq (sFor (iR1 (wCB cMax (wCons (wCon (.int 1)) (wCons (wCB cMin (wCons (wCon (.int 3)) (wCons (wCB cLen (wCons (wVar 0) wNil)) wNil))) wNil)))) (gN 1) (w_law_9 K))
  (w_law_1 K))
def c_law (K : PySem.W.Frag) : TC := mkC K N_law (top 80) [] true [("_law_box", 1, sp_law_box K), ("_law_rows", 4, sr_law_rows K 8), ("_law_placed", 2, sr_law_placed K 8), ("_law_cell", 2, sp_law_cell K), ("_law_take", 2, sp_law_take K), ("_law_spoilt", 4, sr_law_spoilt K 8), ("_law_asked", 4, sp_law_asked K), ("_law_step", 1, sr_law_step K 8), ("_law_same", 2, sr_law_same K 8)] (T_law K) []
theorem t_law (K : PySem.W.Frag) : trB (c_law K) (bodyOf (top 80)) = some (w_law K) := by kernel_rfl
def sp_law (K : PySem.W.Frag) : ASp := spOf 19 (w_law K)
end K29
end
section
namespace K29
open PySem PySem.Spec PyProof.Rows L2 Ab
theorem S_law_box : FnScope N_law_box ["great"] (scopeOf (top 69)) := ⟨rfl, rfl, rfl, by decide +kernel, rfl, by decide +kernel, by decide +kernel⟩
theorem b_law_box : BindsN "_law_box" (top 69) ["great"] := fun _ _ _ _ _ _ us hl => match us, hl with | [_], _ => rfl
theorem S_law_take : FnScope N_law_take ["box", "many"] (scopeOf (top 70)) := ⟨rfl, rfl, rfl, by decide +kernel, rfl, by decide +kernel, by decide +kernel⟩
theorem b_law_take : BindsN "_law_take" (top 70) ["box", "many"] := fun _ _ _ _ _ _ us hl => match us, hl with | [_, _], _ => rfl
theorem S_law_register : FnScope N_law_register ["box"] (scopeOf (top 72)) := ⟨rfl, rfl, rfl, by decide +kernel, rfl, by decide +kernel, by decide +kernel⟩
theorem b_law_register : BindsN "_law_register" (top 72) ["box"] := fun _ _ _ _ _ _ us hl => match us, hl with | [_], _ => rfl
theorem S_law_row : FnScope N_law_row ["box", "width"] (scopeOf (top 73)) := ⟨rfl, rfl, rfl, by decide +kernel, rfl, by decide +kernel, by decide +kernel⟩
theorem b_law_row : BindsN "_law_row" (top 73) ["box", "width"] := fun _ _ _ _ _ _ us hl => match us, hl with | [_, _], _ => rfl
theorem S_law_rows : FnScope N_law_rows ["box", "width", "many", "depth"] (scopeOf (top 74)) := ⟨rfl, rfl, rfl, by decide +kernel, rfl, by decide +kernel, by decide +kernel⟩
theorem b_law_rows : BindsN "_law_rows" (top 74) ["box", "width", "many", "depth"] := fun _ _ _ _ _ _ us hl => match us, hl with | [_, _, _, _], _ => rfl
theorem S_law_placed : FnScope N_law_placed ["rows", "place"] (scopeOf (top 76)) := ⟨rfl, rfl, rfl, by decide +kernel, rfl, by decide +kernel, by decide +kernel⟩
theorem b_law_placed : BindsN "_law_placed" (top 76) ["rows", "place"] := fun _ _ _ _ _ _ us hl => match us, hl with | [_, _], _ => rfl
theorem S_law_cell : FnScope N_law_cell ["script", "k"] (scopeOf (top 68)) := ⟨rfl, rfl, rfl, by decide +kernel, rfl, by decide +kernel, by decide +kernel⟩
theorem b_law_cell : BindsN "_law_cell" (top 68) ["script", "k"] := fun _ _ _ _ _ _ us hl => match us, hl with | [_, _], _ => rfl
theorem S_Set___init__ : FnScope N_Set___init__ ["self", "goal", "bits"] (scopeOf (inCls (top 27) 0)) := ⟨rfl, rfl, rfl, by decide +kernel, rfl, by decide +kernel, by decide +kernel⟩
theorem b_Set___init__ : BindsM "__init__" "Set.__init__" (inCls (top 27) 0) ["self", "goal", "bits"] := fun _ _ _ _ _ _ us hl => match us, hl with | [_, _, _], _ => rfl
theorem S_Copy___init__ : FnScope N_Copy___init__ ["self", "goal", "one"] (scopeOf (inCls (top 28) 0)) := ⟨rfl, rfl, rfl, by decide +kernel, rfl, by decide +kernel, by decide +kernel⟩
theorem b_Copy___init__ : BindsM "__init__" "Copy.__init__" (inCls (top 28) 0) ["self", "goal", "one"] := fun _ _ _ _ _ _ us hl => match us, hl with | [_, _, _], _ => rfl
theorem S_Shift___init__ : FnScope N_Shift___init__ ["self", "goal", "one", "k"] (scopeOf (inCls (top 39) 0)) := ⟨rfl, rfl, rfl, by decide +kernel, rfl, by decide +kernel, by decide +kernel⟩
theorem b_Shift___init__ : BindsM "__init__" "Shift.__init__" (inCls (top 39) 0) ["self", "goal", "one", "k"] := fun _ _ _ _ _ _ us hl => match us, hl with | [_, _, _, _], _ => rfl
theorem S_Carrying___init__ : FnScope N_Carrying___init__ ["self", "goal", "carry", "one", "other"] (scopeOf (inCls (top 36) 0)) := ⟨rfl, rfl, rfl, by decide +kernel, rfl, by decide +kernel, by decide +kernel⟩
theorem b_Carrying___init__ : BindsM "__init__" "Carrying.__init__" (inCls (top 36) 0) ["self", "goal", "carry", "one", "other"] := fun _ _ _ _ _ _ us hl => match us, hl with | [_, _, _, _, _], _ => rfl
theorem S_Pick___init__ : FnScope N_Pick___init__ ["self", "goal", "by", "one", "other"] (scopeOf (inCls (top 43) 0)) := ⟨rfl, rfl, rfl, by decide +kernel, rfl, by decide +kernel, by decide +kernel⟩
theorem b_Pick___init__ : BindsM "__init__" "Pick.__init__" (inCls (top 43) 0) ["self", "goal", "by", "one", "other"] := fun _ _ _ _ _ _ us hl => match us, hl with | [_, _, _, _, _], _ => rfl
theorem S_Mark___init__ : FnScope N_Mark___init__ ["self", "line", "mark", "by"] (scopeOf (inCls (top 44) 0)) := ⟨rfl, rfl, rfl, by decide +kernel, rfl, by decide +kernel, by decide +kernel⟩
theorem b_Mark___init__ : BindsM "__init__" "Mark.__init__" (inCls (top 44) 0) ["self", "line", "mark", "by"] := fun _ _ _ _ _ _ us hl => match us, hl with | [_, _, _, _], _ => rfl
theorem S_Turns___init__ : FnScope N_Turns___init__ ["self", "times", "steps"] (scopeOf (inCls (top 45) 0)) := ⟨rfl, rfl, rfl, by decide +kernel, rfl, by decide +kernel, by decide +kernel⟩
theorem b_Turns___init__ : BindsM "__init__" "Turns.__init__" (inCls (top 45) 0) ["self", "times", "steps"] := fun _ _ _ _ _ _ us hl => match us, hl with | [_, _, _], _ => rfl
theorem S_Pair___init__ : FnScope N_Pair___init__ ["self", "goal", "one", "other"] (scopeOf (inCls (top 29) 0)) := ⟨rfl, rfl, rfl, by decide +kernel, rfl, by decide +kernel, by decide +kernel⟩
theorem b_Pair___init__ : BindsM "__init__" "Pair.__init__" (inCls (top 29) 0) ["self", "goal", "one", "other"] := fun _ _ _ _ _ _ us hl => match us, hl with | [_, _, _, _], _ => rfl
theorem S_law_bad : FnScope N_law_bad ["box", "width"] (scopeOf (top 78)) := ⟨rfl, rfl, rfl, by decide +kernel, rfl, by decide +kernel, by decide +kernel⟩
theorem b_law_bad : BindsN "_law_bad" (top 78) ["box", "width"] := fun _ _ _ _ _ _ us hl => match us, hl with | [_, _], _ => rfl
theorem S_law_step : FnScope N_law_step ["told"] (scopeOf (top 75)) := ⟨rfl, rfl, rfl, by decide +kernel, rfl, by decide +kernel, by decide +kernel⟩
theorem b_law_step : BindsN "_law_step" (top 75) ["told"] := fun _ _ _ _ _ _ us hl => match us, hl with | [_], _ => rfl
theorem S_law_spoilt : FnScope N_law_spoilt ["box", "rows", "at", "width"] (scopeOf (top 79)) := ⟨rfl, rfl, rfl, by decide +kernel, rfl, by decide +kernel, by decide +kernel⟩
theorem b_law_spoilt : BindsN "_law_spoilt" (top 79) ["box", "rows", "at", "width"] := fun _ _ _ _ _ _ us hl => match us, hl with | [_, _, _, _], _ => rfl
theorem S_any_needed : FnScope N_any_needed ["flags"] (scopeOf (top 61)) := ⟨rfl, rfl, rfl, by decide +kernel, rfl, by decide +kernel, by decide +kernel⟩
theorem b_any_needed : BindsN "any_needed" (top 61) ["flags"] := fun _ _ _ _ _ _ us hl => match us, hl with | [_], _ => rfl
theorem S_idle_among : FnScope N_idle_among ["flags", "place"] (scopeOf (top 62)) := ⟨rfl, rfl, rfl, by decide +kernel, rfl, by decide +kernel, by decide +kernel⟩
theorem b_idle_among : BindsN "idle_among" (top 62) ["flags", "place"] := fun _ _ _ _ _ _ us hl => match us, hl with | [_, _], _ => rfl
theorem S_is_whole : FnScope N_is_whole ["thing"] (scopeOf (top 10)) := ⟨rfl, rfl, rfl, by decide +kernel, rfl, by decide +kernel, by decide +kernel⟩
theorem b_is_whole : BindsN "is_whole" (top 10) ["thing"] := fun _ _ _ _ _ _ us hl => match us, hl with | [_], _ => rfl
theorem S_need_width : FnScope N_need_width ["width"] (scopeOf (top 11)) := ⟨rfl, rfl, rfl, by decide +kernel, rfl, by decide +kernel, by decide +kernel⟩
theorem b_need_width : BindsN "need_width" (top 11) ["width"] := fun _ _ _ _ _ _ us hl => match us, hl with | [_], _ => rfl
theorem S_within : FnScope N_within ["thing", "least", "greatest"] (scopeOf (top 25)) := ⟨rfl, rfl, rfl, by decide +kernel, rfl, by decide +kernel, by decide +kernel⟩
theorem b_within : BindsN "within" (top 25) ["thing", "least", "greatest"] := fun _ _ _ _ _ _ us hl => match us, hl with | [_, _, _], _ => rfl
theorem S_Turns_fits : FnScope N_Turns_fits ["self", "width"] (scopeOf (inCls (top 45) 3)) := ⟨rfl, rfl, rfl, by decide +kernel, rfl, by decide +kernel, by decide +kernel⟩
theorem b_Turns_fits : BindsM "fits" "Turns.fits" (inCls (top 45) 3) ["self", "width"] := fun _ _ _ _ _ _ us hl => match us, hl with | [_, _], _ => rfl
theorem S_is_register : FnScope N_is_register ["thing"] (scopeOf (top 24)) := ⟨rfl, rfl, rfl, by decide +kernel, rfl, by decide +kernel, by decide +kernel⟩
theorem b_is_register : BindsN "is_register" (top 24) ["thing"] := fun _ _ _ _ _ _ us hl => match us, hl with | [_], _ => rfl
theorem S_Copy_fits : FnScope N_Copy_fits ["self", "width"] (scopeOf (inCls (top 28) 3)) := ⟨rfl, rfl, rfl, by decide +kernel, rfl, by decide +kernel, by decide +kernel⟩
theorem b_Copy_fits : BindsM "fits" "Copy.fits" (inCls (top 28) 3) ["self", "width"] := fun _ _ _ _ _ _ us hl => match us, hl with | [_, _], _ => rfl
theorem S_Set_fits : FnScope N_Set_fits ["self", "width"] (scopeOf (inCls (top 27) 3)) := ⟨rfl, rfl, rfl, by decide +kernel, rfl, by decide +kernel, by decide +kernel⟩
theorem b_Set_fits : BindsM "fits" "Set.fits" (inCls (top 27) 3) ["self", "width"] := fun _ _ _ _ _ _ us hl => match us, hl with | [_, _], _ => rfl
theorem S_Carrying_fits : FnScope N_Carrying_fits ["self", "width"] (scopeOf (inCls (top 36) 2)) := ⟨rfl, rfl, rfl, by decide +kernel, rfl, by decide +kernel, by decide +kernel⟩
theorem b_Carrying_fits : BindsM "fits" "Carrying.fits" (inCls (top 36) 2) ["self", "width"] := fun _ _ _ _ _ _ us hl => match us, hl with | [_, _], _ => rfl
theorem S_Mark_fits : FnScope N_Mark_fits ["self", "width"] (scopeOf (inCls (top 44) 3)) := ⟨rfl, rfl, rfl, by decide +kernel, rfl, by decide +kernel, by decide +kernel⟩
theorem b_Mark_fits : BindsM "fits" "Mark.fits" (inCls (top 44) 3) ["self", "width"] := fun _ _ _ _ _ _ us hl => match us, hl with | [_, _], _ => rfl
theorem S_Pick_fits : FnScope N_Pick_fits ["self", "width"] (scopeOf (inCls (top 43) 3)) := ⟨rfl, rfl, rfl, by decide +kernel, rfl, by decide +kernel, by decide +kernel⟩
theorem b_Pick_fits : BindsM "fits" "Pick.fits" (inCls (top 43) 3) ["self", "width"] := fun _ _ _ _ _ _ us hl => match us, hl with | [_, _], _ => rfl
theorem S_Pair_fits : FnScope N_Pair_fits ["self", "width"] (scopeOf (inCls (top 29) 2)) := ⟨rfl, rfl, rfl, by decide +kernel, rfl, by decide +kernel, by decide +kernel⟩
theorem b_Pair_fits : BindsM "fits" "Pair.fits" (inCls (top 29) 2) ["self", "width"] := fun _ _ _ _ _ _ us hl => match us, hl with | [_, _], _ => rfl
theorem S_Shift_fits : FnScope N_Shift_fits ["self", "width"] (scopeOf (inCls (top 39) 2)) := ⟨rfl, rfl, rfl, by decide +kernel, rfl, by decide +kernel, by decide +kernel⟩
theorem b_Shift_fits : BindsM "fits" "Shift.fits" (inCls (top 39) 2) ["self", "width"] := fun _ _ _ _ _ _ us hl => match us, hl with | [_, _], _ => rfl
theorem S_walked : FnScope N_walked ["width", "steps", "place", "about"] (scopeOf (top 49)) := ⟨rfl, rfl, rfl, by decide +kernel, rfl, by decide +kernel, by decide +kernel⟩
theorem b_walked : BindsN "walked" (top 49) ["width", "steps", "place", "about"] := fun _ _ _ _ _ _ us hl => match us, hl with | [_, _, _, _], _ => rfl
theorem S_check_steps : FnScope N_check_steps ["width", "steps"] (scopeOf (top 50)) := ⟨rfl, rfl, rfl, by decide +kernel, rfl, by decide +kernel, by decide +kernel⟩
theorem b_check_steps : BindsN "check_steps" (top 50) ["width", "steps"] := fun _ _ _ _ _ _ us hl => match us, hl with | [_, _], _ => rfl
theorem S_need_kept : FnScope N_need_kept ["keep"] (scopeOf (top 54)) := ⟨rfl, rfl, rfl, by decide +kernel, rfl, by decide +kernel, by decide +kernel⟩
theorem b_need_kept : BindsN "need_kept" (top 54) ["keep"] := fun _ _ _ _ _ _ us hl => match us, hl with | [_], _ => rfl
theorem S_unneeded : FnScope N_unneeded ["steps"] (scopeOf (top 56)) := ⟨rfl, rfl, rfl, by decide +kernel, rfl, by decide +kernel, by decide +kernel⟩
theorem b_unneeded : BindsN "unneeded" (top 56) ["steps"] := fun _ _ _ _ _ _ us hl => match us, hl with | [_], _ => rfl
theorem S_puts_of : FnScope N_puts_of ["step"] (scopeOf (top 53)) := ⟨rfl, rfl, rfl, by decide +kernel, rfl, by decide +kernel, by decide +kernel⟩
theorem b_puts_of : BindsN "puts_of" (top 53) ["step"] := fun _ _ _ _ _ _ us hl => match us, hl with | [_], _ => rfl
theorem S_marked : FnScope N_marked ["names"] (scopeOf (top 55)) := ⟨rfl, rfl, rfl, by decide +kernel, rfl, by decide +kernel, by decide +kernel⟩
theorem b_marked : BindsN "marked" (top 55) ["names"] := fun _ _ _ _ _ _ us hl => match us, hl with | [_], _ => rfl
theorem S_reads_of : FnScope N_reads_of ["step"] (scopeOf (top 52)) := ⟨rfl, rfl, rfl, by decide +kernel, rfl, by decide +kernel, by decide +kernel⟩
theorem b_reads_of : BindsN "reads_of" (top 52) ["step"] := fun _ _ _ _ _ _ us hl => match us, hl with | [_], _ => rfl
theorem S_gone_back : FnScope N_gone_back ["step", "live"] (scopeOf (top 57)) := ⟨rfl, rfl, rfl, by decide +kernel, rfl, by decide +kernel, by decide +kernel⟩
theorem b_gone_back : BindsN "gone_back" (top 57) ["step", "live"] := fun _ _ _ _ _ _ us hl => match us, hl with | [_, _], _ => rfl
theorem S_back : FnScope N_back ["steps", "flags", "live"] (scopeOf (top 58)) := ⟨rfl, rfl, rfl, by decide +kernel, rfl, by decide +kernel, by decide +kernel⟩
theorem b_back : BindsN "back" (top 58) ["steps", "flags", "live"] := fun _ _ _ _ _ _ us hl => match us, hl with | [_, _, _], _ => rfl
theorem S_back_round : FnScope N_back_round ["step", "flags", "live"] (scopeOf (top 59)) := ⟨rfl, rfl, rfl, by decide +kernel, rfl, by decide +kernel, by decide +kernel⟩
theorem b_back_round : BindsN "back_round" (top 59) ["step", "flags", "live"] := fun _ _ _ _ _ _ us hl => match us, hl with | [_, _, _], _ => rfl
theorem S_flagged : FnScope N_flagged ["width", "steps", "keep"] (scopeOf (top 60)) := ⟨rfl, rfl, rfl, by decide +kernel, rfl, by decide +kernel, by decide +kernel⟩
theorem b_flagged : BindsN "flagged" (top 60) ["width", "steps", "keep"] := fun _ _ _ _ _ _ us hl => match us, hl with | [_, _, _], _ => rfl
theorem S_idle_rows : FnScope N_idle_rows ["width", "steps", "keep"] (scopeOf (top 63)) := ⟨rfl, rfl, rfl, by decide +kernel, rfl, by decide +kernel, by decide +kernel⟩
theorem b_idle_rows : BindsN "idle_rows" (top 63) ["width", "steps", "keep"] := fun _ _ _ _ _ _ us hl => match us, hl with | [_, _, _], _ => rfl
theorem S_left_rows : FnScope N_left_rows ["steps", "flags"] (scopeOf (top 64)) := ⟨rfl, rfl, rfl, by decide +kernel, rfl, by decide +kernel, by decide +kernel⟩
theorem b_left_rows : BindsN "left_rows" (top 64) ["steps", "flags"] := fun _ _ _ _ _ _ us hl => match us, hl with | [_, _], _ => rfl
theorem S_trimmed : FnScope N_trimmed ["width", "steps", "keep"] (scopeOf (top 65)) := ⟨rfl, rfl, rfl, by decide +kernel, rfl, by decide +kernel, by decide +kernel⟩
theorem b_trimmed : BindsN "trimmed" (top 65) ["width", "steps", "keep"] := fun _ _ _ _ _ _ us hl => match us, hl with | [_, _, _], _ => rfl
theorem S_needed_registers : FnScope N_needed_registers ["width", "steps", "keep"] (scopeOf (top 66)) := ⟨rfl, rfl, rfl, by decide +kernel, rfl, by decide +kernel, by decide +kernel⟩
theorem b_needed_registers : BindsN "needed_registers" (top 66) ["width", "steps", "keep"] := fun _ _ _ _ _ _ us hl => match us, hl with | [_, _, _], _ => rfl
theorem S_law_asked : FnScope N_law_asked ["which", "width", "steps", "keep"] (scopeOf (top 77)) := ⟨rfl, rfl, rfl, by decide +kernel, rfl, by decide +kernel, by decide +kernel⟩
theorem b_law_asked : BindsN "_law_asked" (top 77) ["which", "width", "steps", "keep"] := fun _ _ _ _ _ _ us hl => match us, hl with | [_, _, _, _], _ => rfl
theorem S_law_same : FnScope N_law_same ["told", "due"] (scopeOf (top 71)) := ⟨rfl, rfl, rfl, by decide +kernel, rfl, by decide +kernel, by decide +kernel⟩
theorem b_law_same : BindsN "_law_same" (top 71) ["told", "due"] := fun _ _ _ _ _ _ us hl => match us, hl with | [_, _], _ => rfl
theorem S_law : FnScope N_law ["script"] (scopeOf (top 80)) := ⟨rfl, rfl, rfl, by decide +kernel, rfl, by decide +kernel, by decide +kernel⟩
theorem b_law : BindsN "law" (top 80) ["script"] := fun _ _ _ _ _ _ us hl => match us, hl with | [_], _ => rfl
structure Al (K : PySem.W.Frag) (mg : Str → Option Value) : Prop where
  d_law_box : DF K mg "_law_box" (top 69)
  d_law_take : DF K mg "_law_take" (top 70)
  d_law_register : DF K mg "_law_register" (top 72)
  d_law_row : DF K mg "_law_row" (top 73)
  d_law_rows : DF K mg "_law_rows" (top 74)
  d_law_placed : DF K mg "_law_placed" (top 76)
  d_law_cell : DF K mg "_law_cell" (top 68)
  d_Set___init__ : MF K "Set" "__init__" "Set.__init__" (inCls (top 27) 0)
  d_Copy___init__ : MF K "Copy" "__init__" "Copy.__init__" (inCls (top 28) 0)
  d_Shift___init__ : MF K "Shift" "__init__" "Shift.__init__" (inCls (top 39) 0)
  d_Carrying___init__ : MF K "Carrying" "__init__" "Carrying.__init__" (inCls (top 36) 0)
  d_Pick___init__ : MF K "Pick" "__init__" "Pick.__init__" (inCls (top 43) 0)
  d_Mark___init__ : MF K "Mark" "__init__" "Mark.__init__" (inCls (top 44) 0)
  d_Turns___init__ : MF K "Turns" "__init__" "Turns.__init__" (inCls (top 45) 0)
  d_Pair___init__ : MF K "Pair" "__init__" "Pair.__init__" (inCls (top 29) 0)
  d_law_bad : DF K mg "_law_bad" (top 78)
  d_law_step : DF K mg "_law_step" (top 75)
  d_law_spoilt : DF K mg "_law_spoilt" (top 79)
  d_any_needed : DF K mg "any_needed" (top 61)
  d_idle_among : DF K mg "idle_among" (top 62)
  d_is_whole : DF K mg "is_whole" (top 10)
  d_need_width : DF K mg "need_width" (top 11)
  d_within : DF K mg "within" (top 25)
  d_Turns_fits : MF K "Turns" "fits" "Turns.fits" (inCls (top 45) 3)
  d_is_register : DF K mg "is_register" (top 24)
  d_Copy_fits : MF K "Copy" "fits" "Copy.fits" (inCls (top 28) 3)
  d_Set_fits : MF K "Set" "fits" "Set.fits" (inCls (top 27) 3)
  d_Carrying_fits : MF K "Carrying" "fits" "Carrying.fits" (inCls (top 36) 2)
  d_Mark_fits : MF K "Mark" "fits" "Mark.fits" (inCls (top 44) 3)
  d_Pick_fits : MF K "Pick" "fits" "Pick.fits" (inCls (top 43) 3)
  d_Pair_fits : MF K "Pair" "fits" "Pair.fits" (inCls (top 29) 2)
  d_Shift_fits : MF K "Shift" "fits" "Shift.fits" (inCls (top 39) 2)
  d_walked : DF K mg "walked" (top 49)
  d_check_steps : DF K mg "check_steps" (top 50)
  d_need_kept : DF K mg "need_kept" (top 54)
  d_unneeded : DF K mg "unneeded" (top 56)
  d_puts_of : DF K mg "puts_of" (top 53)
  d_marked : DF K mg "marked" (top 55)
  d_reads_of : DF K mg "reads_of" (top 52)
  d_gone_back : DF K mg "gone_back" (top 57)
  d_back : DF K mg "back" (top 58)
  d_back_round : DF K mg "back_round" (top 59)
  d_flagged : DF K mg "flagged" (top 60)
  d_idle_rows : DF K mg "idle_rows" (top 63)
  d_left_rows : DF K mg "left_rows" (top 64)
  d_trimmed : DF K mg "trimmed" (top 65)
  d_needed_registers : DF K mg "needed_registers" (top 66)
  d_law_asked : DF K mg "_law_asked" (top 77)
  d_law_same : DF K mg "_law_same" (top 71)
  d_law : DF K mg "law" (top 80)
  ms : ∀ p ∈ MSL, PySem.W.findIn K (.ref (He.ga K p.1)) p.2.1 = some (some (.ref (He.ma K (He.ga K p.2.2) p.2.1))) ∧ PySem.W.isFn K (.ref (He.ma K (He.ga K p.2.2) p.2.1)) = true
section
variable {P : Program} {w : World} {K : PySem.W.Frag} {mg : Str → Option Value} {base : Heap}
theorem a_law_box (A : Al K mg) (G : Gen P w K mg base CONS EXCS XS FS CS FL SUBS) : CalA P w K mg base 3 "_law_box" 1 (sp_law_box K) := cal_of (k := 2) A.d_law_box (G.tab rfl rfl rfl rfl rfl (by omega) .nil .nil) rfl rfl S_law_box b_law_box (t_law_box K)
theorem a_law_take (A : Al K mg) (G : Gen P w K mg base CONS EXCS XS FS CS FL SUBS) : CalA P w K mg base 3 "_law_take" 2 (sp_law_take K) := cal_of (k := 2) A.d_law_take (G.tab rfl rfl rfl rfl rfl (by omega) .nil .nil) rfl rfl S_law_take b_law_take (t_law_take K)
theorem a_law_register (A : Al K mg) (G : Gen P w K mg base CONS EXCS XS FS CS FL SUBS) : CalA P w K mg base 4 "_law_register" 1 (sp_law_register K) := cal_of (k := 3) A.d_law_register (G.tab rfl rfl rfl rfl rfl (by omega) (.cons (a_law_take A G) (by omega) .nil) .nil) rfl rfl S_law_register b_law_register (t_law_register K)
theorem a_law_row (A : Al K mg) (G : Gen P w K mg base CONS EXCS XS FS CS FL SUBS) : CalA P w K mg base 5 "_law_row" 2 (sp_law_row K) := cal_of (k := 4) A.d_law_row (G.tab rfl rfl rfl rfl rfl (by omega) (.cons (a_law_take A G) (by omega) (.cons (a_law_register A G) (by omega) .nil)) .nil) rfl rfl S_law_row b_law_row (t_law_row K)
theorem a_law_rows (A : Al K mg) (G : Gen P w K mg base CONS EXCS XS FS CS FL SUBS) : ∀ n, CalA P w K mg base (6 + n) "_law_rows" 4 (sr_law_rows K n)
  | 0 => cal_none A.d_law_rows b_law_rows
  | n + 1 => cal_of (k := 6 + n) A.d_law_rows (G.tab rfl rfl rfl rfl rfl (by omega) (.cons (a_law_take A G) (by omega) (.cons (a_law_row A G) (by omega) (.cons (a_law_rows A G n) (Nat.le_refl _) .nil))) .nil) rfl rfl S_law_rows b_law_rows (t_law_rows K (sr_law_rows K n))
theorem a_law_placed (A : Al K mg) (G : Gen P w K mg base CONS EXCS XS FS CS FL SUBS) : ∀ n, CalA P w K mg base (3 + n) "_law_placed" 2 (sr_law_placed K n)
  | 0 => cal_none A.d_law_placed b_law_placed
  | n + 1 => cal_of (k := 3 + n) A.d_law_placed (G.tab rfl rfl rfl rfl rfl (by omega) (.cons (a_law_placed A G n) (Nat.le_refl _) .nil) .nil) rfl rfl S_law_placed b_law_placed (t_law_placed K (sr_law_placed K n))
theorem a_law_cell (A : Al K mg) (G : Gen P w K mg base CONS EXCS XS FS CS FL SUBS) : CalA P w K mg base 3 "_law_cell" 2 (sp_law_cell K) := cal_of (k := 2) A.d_law_cell (G.tab rfl rfl rfl rfl rfl (by omega) .nil .nil) rfl rfl S_law_cell b_law_cell (t_law_cell K)
theorem a_Set___init__ (A : Al K mg) (G : Gen P w K mg base CONS EXCS XS FS CS FL SUBS) : FnM P w K mg base 3 (He.ma K (He.ga K "Set") "__init__") 3 (sp_Set___init__ K) := met_of (k := 2) A.d_Set___init__ (G.tab rfl rfl rfl rfl rfl (by omega) .nil .nil) rfl rfl S_Set___init__ b_Set___init__ (t_Set___init__ K)
theorem a_Copy___init__ (A : Al K mg) (G : Gen P w K mg base CONS EXCS XS FS CS FL SUBS) : FnM P w K mg base 3 (He.ma K (He.ga K "Copy") "__init__") 3 (sp_Copy___init__ K) := met_of (k := 2) A.d_Copy___init__ (G.tab rfl rfl rfl rfl rfl (by omega) .nil .nil) rfl rfl S_Copy___init__ b_Copy___init__ (t_Copy___init__ K)
theorem a_Shift___init__ (A : Al K mg) (G : Gen P w K mg base CONS EXCS XS FS CS FL SUBS) : FnM P w K mg base 3 (He.ma K (He.ga K "Shift") "__init__") 4 (sp_Shift___init__ K) := met_of (k := 2) A.d_Shift___init__ (G.tab rfl rfl rfl rfl rfl (by omega) .nil .nil) rfl rfl S_Shift___init__ b_Shift___init__ (t_Shift___init__ K)
theorem a_Carrying___init__ (A : Al K mg) (G : Gen P w K mg base CONS EXCS XS FS CS FL SUBS) : FnM P w K mg base 3 (He.ma K (He.ga K "Carrying") "__init__") 5 (sp_Carrying___init__ K) := met_of (k := 2) A.d_Carrying___init__ (G.tab rfl rfl rfl rfl rfl (by omega) .nil .nil) rfl rfl S_Carrying___init__ b_Carrying___init__ (t_Carrying___init__ K)
theorem a_Pick___init__ (A : Al K mg) (G : Gen P w K mg base CONS EXCS XS FS CS FL SUBS) : FnM P w K mg base 3 (He.ma K (He.ga K "Pick") "__init__") 5 (sp_Pick___init__ K) := met_of (k := 2) A.d_Pick___init__ (G.tab rfl rfl rfl rfl rfl (by omega) .nil .nil) rfl rfl S_Pick___init__ b_Pick___init__ (t_Pick___init__ K)
theorem a_Mark___init__ (A : Al K mg) (G : Gen P w K mg base CONS EXCS XS FS CS FL SUBS) : FnM P w K mg base 3 (He.ma K (He.ga K "Mark") "__init__") 4 (sp_Mark___init__ K) := met_of (k := 2) A.d_Mark___init__ (G.tab rfl rfl rfl rfl rfl (by omega) .nil .nil) rfl rfl S_Mark___init__ b_Mark___init__ (t_Mark___init__ K)
theorem a_Turns___init__ (A : Al K mg) (G : Gen P w K mg base CONS EXCS XS FS CS FL SUBS) : FnM P w K mg base 3 (He.ma K (He.ga K "Turns") "__init__") 3 (sp_Turns___init__ K) := met_of (k := 2) A.d_Turns___init__ (G.tab rfl rfl rfl rfl rfl (by omega) .nil .nil) rfl rfl S_Turns___init__ b_Turns___init__ (t_Turns___init__ K)
theorem a_Pair___init__ (A : Al K mg) (G : Gen P w K mg base CONS EXCS XS FS CS FL SUBS) : FnM P w K mg base 3 (He.ma K (He.ga K "Pair") "__init__") 4 (sp_Pair___init__ K) := met_of (k := 2) A.d_Pair___init__ (G.tab rfl rfl rfl rfl rfl (by omega) .nil .nil) rfl rfl S_Pair___init__ b_Pair___init__ (t_Pair___init__ K)
theorem a_law_bad (A : Al K mg) (G : Gen P w K mg base CONS EXCS XS FS CS FL SUBS) : CalA P w K mg base 5 "_law_bad" 2 (sp_law_bad K) := cal_of (k := 4) A.d_law_bad (G.tab rfl rfl rfl rfl rfl (by omega) (.cons (a_law_take A G) (by omega) .nil) (.cons ((a_Set___init__ A G).at (A.ms ("Set", "__init__", "Set") (by decide +kernel))) (by omega) (.cons ((a_Copy___init__ A G).at (A.ms ("Copy", "__init__", "Copy") (by decide +kernel))) (by omega) (.cons ((a_Shift___init__ A G).at (A.ms ("Left", "__init__", "Shift") (by decide +kernel))) (by omega) (.cons ((a_Shift___init__ A G).at (A.ms ("Right", "__init__", "Shift") (by decide +kernel))) (by omega) (.cons ((a_Carrying___init__ A G).at (A.ms ("Sum", "__init__", "Carrying") (by decide +kernel))) (by omega) (.cons ((a_Carrying___init__ A G).at (A.ms ("Gap", "__init__", "Carrying") (by decide +kernel))) (by omega) (.cons ((a_Pick___init__ A G).at (A.ms ("Pick", "__init__", "Pick") (by decide +kernel))) (by omega) (.cons ((a_Mark___init__ A G).at (A.ms ("Mark", "__init__", "Mark") (by decide +kernel))) (by omega) (.cons ((a_Turns___init__ A G).at (A.ms ("Turns", "__init__", "Turns") (by decide +kernel))) (by omega) (.cons ((a_Pair___init__ A G).at (A.ms ("Low", "__init__", "Pair") (by decide +kernel))) (by omega) .nil))))))))))) rfl rfl S_law_bad b_law_bad (t_law_bad K)
theorem a_law_step (A : Al K mg) (G : Gen P w K mg base CONS EXCS XS FS CS FL SUBS) : ∀ n, CalA P w K mg base (5 + n) "_law_step" 1 (sr_law_step K n)
  | 0 => cal_none A.d_law_step b_law_step
  | n + 1 => cal_of (k := 5 + n) A.d_law_step (G.tab rfl rfl rfl rfl rfl (by omega) (.cons (a_law_step A G n) (Nat.le_refl _) .nil) (.cons ((a_Turns___init__ A G).at (A.ms ("Turns", "__init__", "Turns") (by decide +kernel))) (by omega) (.cons ((a_Set___init__ A G).at (A.ms ("Set", "__init__", "Set") (by decide +kernel))) (by omega) (.cons ((a_Copy___init__ A G).at (A.ms ("Copy", "__init__", "Copy") (by decide +kernel))) (by omega) (.cons ((a_Carrying___init__ A G).at (A.ms ("Sum", "__init__", "Carrying") (by decide +kernel))) (by omega) (.cons ((a_Carrying___init__ A G).at (A.ms ("Gap", "__init__", "Carrying") (by decide +kernel))) (by omega) (.cons ((a_Mark___init__ A G).at (A.ms ("Mark", "__init__", "Mark") (by decide +kernel))) (by omega) (.cons ((a_Pick___init__ A G).at (A.ms ("Pick", "__init__", "Pick") (by decide +kernel))) (by omega) (.cons ((a_Pair___init__ A G).at (A.ms ("Low", "__init__", "Pair") (by decide +kernel))) (by omega) (.cons ((a_Pair___init__ A G).at (A.ms ("High", "__init__", "Pair") (by decide +kernel))) (by omega) (.cons ((a_Pair___init__ A G).at (A.ms ("And", "__init__", "Pair") (by decide +kernel))) (by omega) (.cons ((a_Pair___init__ A G).at (A.ms ("Or", "__init__", "Pair") (by decide +kernel))) (by omega) (.cons ((a_Pair___init__ A G).at (A.ms ("Unlike", "__init__", "Pair") (by decide +kernel))) (by omega) (.cons ((a_Pair___init__ A G).at (A.ms ("Under", "__init__", "Pair") (by decide +kernel))) (by omega) (.cons ((a_Shift___init__ A G).at (A.ms ("Left", "__init__", "Shift") (by decide +kernel))) (by omega) (.cons ((a_Shift___init__ A G).at (A.ms ("Right", "__init__", "Shift") (by decide +kernel))) (by omega) (.cons ((a_Shift___init__ A G).at (A.ms ("Slide", "__init__", "Shift") (by decide +kernel))) (by omega) .nil))))))))))))))))) rfl rfl S_law_step b_law_step (t_law_step K (sr_law_step K n))
theorem a_law_spoilt (A : Al K mg) (G : Gen P w K mg base CONS EXCS XS FS CS FL SUBS) : ∀ n, CalA P w K mg base (14 + n) "_law_spoilt" 4 (sr_law_spoilt K n)
  | 0 => cal_none A.d_law_spoilt b_law_spoilt
  | n + 1 => cal_of (k := 14 + n) A.d_law_spoilt (G.tab rfl rfl rfl rfl rfl (by omega) (.cons (a_law_placed A G 8) (by omega) (.cons (a_law_bad A G) (by omega) (.cons (a_law_step A G 8) (by omega) (.cons (a_law_spoilt A G n) (Nat.le_refl _) .nil)))) (.cons ((a_Turns___init__ A G).at (A.ms ("Turns", "__init__", "Turns") (by decide +kernel))) (by omega) .nil)) rfl rfl S_law_spoilt b_law_spoilt (t_law_spoilt K (sr_law_spoilt K n))
theorem a_any_needed (A : Al K mg) (G : Gen P w K mg base CONS EXCS XS FS CS FL SUBS) : ∀ n, CalA P w K mg base (3 + n) "any_needed" 1 (sr_any_needed K n)
  | 0 => cal_none A.d_any_needed b_any_needed
  | n + 1 => cal_of (k := 3 + n) A.d_any_needed (G.tab rfl rfl rfl rfl rfl (by omega) (.cons (a_any_needed A G n) (Nat.le_refl _) .nil) .nil) rfl rfl S_any_needed b_any_needed (t_any_needed K (sr_any_needed K n))
theorem a_idle_among (A : Al K mg) (G : Gen P w K mg base CONS EXCS XS FS CS FL SUBS) : ∀ n, CalA P w K mg base (12 + n) "idle_among" 2 (sr_idle_among K n)
  | 0 => cal_none A.d_idle_among b_idle_among
  | n + 1 => cal_of (k := 12 + n) A.d_idle_among (G.tab rfl rfl rfl rfl rfl (by omega) (.cons (a_idle_among A G n) (Nat.le_refl _) (.cons (a_any_needed A G 8) (by omega) .nil)) .nil) rfl rfl S_idle_among b_idle_among (t_idle_among K (sr_idle_among K n))
theorem a_is_whole (A : Al K mg) (G : Gen P w K mg base CONS EXCS XS FS CS FL SUBS) : CalA P w K mg base 3 "is_whole" 1 (sp_is_whole K) := cal_of (k := 2) A.d_is_whole (G.tab rfl rfl rfl rfl rfl (by omega) .nil .nil) rfl rfl S_is_whole b_is_whole (t_is_whole K)
theorem a_need_width (A : Al K mg) (G : Gen P w K mg base CONS EXCS XS FS CS FL SUBS) : CalA P w K mg base 4 "need_width" 1 (sp_need_width K) := cal_of (k := 3) A.d_need_width (G.tab rfl rfl rfl rfl rfl (by omega) (.cons (a_is_whole A G) (by omega) .nil) .nil) rfl rfl S_need_width b_need_width (t_need_width K)
theorem a_within (A : Al K mg) (G : Gen P w K mg base CONS EXCS XS FS CS FL SUBS) : CalA P w K mg base 4 "within" 3 (sp_within K) := cal_of (k := 3) A.d_within (G.tab rfl rfl rfl rfl rfl (by omega) (.cons (a_is_whole A G) (by omega) .nil) .nil) rfl rfl S_within b_within (t_within K)
theorem a_Turns_fits (A : Al K mg) (G : Gen P w K mg base CONS EXCS XS FS CS FL SUBS) : FnM P w K mg base 5 (He.ma K (He.ga K "Turns") "fits") 2 (sp_Turns_fits K) := met_of (k := 4) A.d_Turns_fits (G.tab rfl rfl rfl rfl rfl (by omega) (.cons (a_within A G) (by omega) .nil) .nil) rfl rfl S_Turns_fits b_Turns_fits (t_Turns_fits K)
theorem a_is_register (A : Al K mg) (G : Gen P w K mg base CONS EXCS XS FS CS FL SUBS) : CalA P w K mg base 3 "is_register" 1 (sp_is_register K) := cal_of (k := 2) A.d_is_register (G.tab rfl rfl rfl rfl rfl (by omega) .nil .nil) rfl rfl S_is_register b_is_register (t_is_register K)
theorem a_Copy_fits (A : Al K mg) (G : Gen P w K mg base CONS EXCS XS FS CS FL SUBS) : FnM P w K mg base 4 (He.ma K (He.ga K "Copy") "fits") 2 (sp_Copy_fits K) := met_of (k := 3) A.d_Copy_fits (G.tab rfl rfl rfl rfl rfl (by omega) (.cons (a_is_register A G) (by omega) .nil) .nil) rfl rfl S_Copy_fits b_Copy_fits (t_Copy_fits K)
theorem a_Set_fits (A : Al K mg) (G : Gen P w K mg base CONS EXCS XS FS CS FL SUBS) : FnM P w K mg base 5 (He.ma K (He.ga K "Set") "fits") 2 (sp_Set_fits K) := met_of (k := 4) A.d_Set_fits (G.tab rfl rfl rfl rfl rfl (by omega) (.cons (a_is_register A G) (by omega) (.cons (a_within A G) (by omega) .nil)) .nil) rfl rfl S_Set_fits b_Set_fits (t_Set_fits K)
theorem a_Carrying_fits (A : Al K mg) (G : Gen P w K mg base CONS EXCS XS FS CS FL SUBS) : FnM P w K mg base 4 (He.ma K (He.ga K "Carrying") "fits") 2 (sp_Carrying_fits K) := met_of (k := 3) A.d_Carrying_fits (G.tab rfl rfl rfl rfl rfl (by omega) (.cons (a_is_register A G) (by omega) .nil) .nil) rfl rfl S_Carrying_fits b_Carrying_fits (t_Carrying_fits K)
theorem a_Mark_fits (A : Al K mg) (G : Gen P w K mg base CONS EXCS XS FS CS FL SUBS) : FnM P w K mg base 5 (He.ma K (He.ga K "Mark") "fits") 2 (sp_Mark_fits K) := met_of (k := 4) A.d_Mark_fits (G.tab rfl rfl rfl rfl rfl (by omega) (.cons (a_within A G) (by omega) (.cons (a_is_register A G) (by omega) .nil)) .nil) rfl rfl S_Mark_fits b_Mark_fits (t_Mark_fits K)
theorem a_Pick_fits (A : Al K mg) (G : Gen P w K mg base CONS EXCS XS FS CS FL SUBS) : FnM P w K mg base 4 (He.ma K (He.ga K "Pick") "fits") 2 (sp_Pick_fits K) := met_of (k := 3) A.d_Pick_fits (G.tab rfl rfl rfl rfl rfl (by omega) (.cons (a_is_register A G) (by omega) .nil) .nil) rfl rfl S_Pick_fits b_Pick_fits (t_Pick_fits K)
theorem a_Pair_fits (A : Al K mg) (G : Gen P w K mg base CONS EXCS XS FS CS FL SUBS) : FnM P w K mg base 4 (He.ma K (He.ga K "Pair") "fits") 2 (sp_Pair_fits K) := met_of (k := 3) A.d_Pair_fits (G.tab rfl rfl rfl rfl rfl (by omega) (.cons (a_is_register A G) (by omega) .nil) .nil) rfl rfl S_Pair_fits b_Pair_fits (t_Pair_fits K)
theorem a_Shift_fits (A : Al K mg) (G : Gen P w K mg base CONS EXCS XS FS CS FL SUBS) : FnM P w K mg base 5 (He.ma K (He.ga K "Shift") "fits") 2 (sp_Shift_fits K) := met_of (k := 4) A.d_Shift_fits (G.tab rfl rfl rfl rfl rfl (by omega) (.cons (a_is_register A G) (by omega) (.cons (a_within A G) (by omega) .nil)) .nil) rfl rfl S_Shift_fits b_Shift_fits (t_Shift_fits K)
theorem a_walked (A : Al K mg) (G : Gen P w K mg base CONS EXCS XS FS CS FL SUBS) : ∀ n, CalA P w K mg base (7 + n) "walked" 4 (sr_walked K n)
  | 0 => cal_none A.d_walked b_walked
  | n + 1 => cal_of (k := 7 + n) A.d_walked (G.tab rfl rfl rfl rfl rfl (by omega) (.cons (a_walked A G n) (Nat.le_refl _) .nil) (.cons ((a_Turns_fits A G).at (A.ms ("Turns", "fits", "Turns") (by decide +kernel))) (by omega) (.cons ((a_Copy_fits A G).at (A.ms ("Copy", "fits", "Copy") (by decide +kernel))) (by omega) (.cons ((a_Set_fits A G).at (A.ms ("Set", "fits", "Set") (by decide +kernel))) (by omega) (.cons ((a_Carrying_fits A G).at (A.ms ("Sum", "fits", "Carrying") (by decide +kernel))) (by omega) (.cons ((a_Carrying_fits A G).at (A.ms ("Gap", "fits", "Carrying") (by decide +kernel))) (by omega) (.cons ((a_Mark_fits A G).at (A.ms ("Mark", "fits", "Mark") (by decide +kernel))) (by omega) (.cons ((a_Pick_fits A G).at (A.ms ("Pick", "fits", "Pick") (by decide +kernel))) (by omega) (.cons ((a_Pair_fits A G).at (A.ms ("Low", "fits", "Pair") (by decide +kernel))) (by omega) (.cons ((a_Pair_fits A G).at (A.ms ("High", "fits", "Pair") (by decide +kernel))) (by omega) (.cons ((a_Pair_fits A G).at (A.ms ("And", "fits", "Pair") (by decide +kernel))) (by omega) (.cons ((a_Pair_fits A G).at (A.ms ("Or", "fits", "Pair") (by decide +kernel))) (by omega) (.cons ((a_Pair_fits A G).at (A.ms ("Unlike", "fits", "Pair") (by decide +kernel))) (by omega) (.cons ((a_Pair_fits A G).at (A.ms ("Under", "fits", "Pair") (by decide +kernel))) (by omega) (.cons ((a_Shift_fits A G).at (A.ms ("Left", "fits", "Shift") (by decide +kernel))) (by omega) (.cons ((a_Shift_fits A G).at (A.ms ("Right", "fits", "Shift") (by decide +kernel))) (by omega) (.cons ((a_Shift_fits A G).at (A.ms ("Slide", "fits", "Shift") (by decide +kernel))) (by omega) .nil))))))))))))))))) rfl rfl S_walked b_walked (t_walked K (sr_walked K n))
theorem a_check_steps (A : Al K mg) (G : Gen P w K mg base CONS EXCS XS FS CS FL SUBS) : CalA P w K mg base 16 "check_steps" 2 (sp_check_steps K) := cal_of (k := 15) A.d_check_steps (G.tab rfl rfl rfl rfl rfl (by omega) (.cons (a_need_width A G) (by omega) (.cons (a_walked A G 8) (by omega) .nil)) .nil) rfl rfl S_check_steps b_check_steps (t_check_steps K)
theorem a_need_kept (A : Al K mg) (G : Gen P w K mg base CONS EXCS XS FS CS FL SUBS) : CalA P w K mg base 4 "need_kept" 1 (sp_need_kept K) := cal_of (k := 3) A.d_need_kept (G.tab rfl rfl rfl rfl rfl (by omega) (.cons (a_is_register A G) (by omega) .nil) .nil) rfl rfl S_need_kept b_need_kept (t_need_kept K)
theorem a_unneeded (A : Al K mg) (G : Gen P w K mg base CONS EXCS XS FS CS FL SUBS) : ∀ n, CalA P w K mg base (3 + n) "unneeded" 1 (sr_unneeded K n)
  | 0 => cal_none A.d_unneeded b_unneeded
  | n + 1 => cal_of (k := 3 + n) A.d_unneeded (G.tab rfl rfl rfl rfl rfl (by omega) (.cons (a_unneeded A G n) (Nat.le_refl _) .nil) .nil) rfl rfl S_unneeded b_unneeded (t_unneeded K (sr_unneeded K n))
theorem a_puts_of (A : Al K mg) (G : Gen P w K mg base CONS EXCS XS FS CS FL SUBS) : CalA P w K mg base 3 "puts_of" 1 (sp_puts_of K) := cal_of (k := 2) A.d_puts_of (G.tab rfl rfl rfl rfl rfl (by omega) .nil .nil) rfl rfl S_puts_of b_puts_of (t_puts_of K)
theorem a_marked (A : Al K mg) (G : Gen P w K mg base CONS EXCS XS FS CS FL SUBS) : CalA P w K mg base 3 "marked" 1 (sp_marked K) := cal_of (k := 2) A.d_marked (G.tab rfl rfl rfl rfl rfl (by omega) .nil .nil) rfl rfl S_marked b_marked (t_marked K)
theorem a_reads_of (A : Al K mg) (G : Gen P w K mg base CONS EXCS XS FS CS FL SUBS) : CalA P w K mg base 3 "reads_of" 1 (sp_reads_of K) := cal_of (k := 2) A.d_reads_of (G.tab rfl rfl rfl rfl rfl (by omega) .nil .nil) rfl rfl S_reads_of b_reads_of (t_reads_of K)
theorem a_gone_back (A : Al K mg) (G : Gen P w K mg base CONS EXCS XS FS CS FL SUBS) : CalA P w K mg base 4 "gone_back" 2 (sp_gone_back K) := cal_of (k := 3) A.d_gone_back (G.tab rfl rfl rfl rfl rfl (by omega) (.cons (a_puts_of A G) (by omega) (.cons (a_marked A G) (by omega) (.cons (a_reads_of A G) (by omega) .nil))) .nil) rfl rfl S_gone_back b_gone_back (t_gone_back K)
theorem a_back_g (A : Al K mg) (G : Gen P w K mg base CONS EXCS XS FS CS FL SUBS) : ∀ n, CalA P w K mg base (5 + n) "back" 3 (sr_back K n) ∧ CalA P w K mg base (5 + n) "back_round" 3 (sr_back_round K n)
  | 0 => ⟨cal_none A.d_back b_back, cal_none A.d_back_round b_back_round⟩
  | n + 1 => ⟨cal_of (k := 5 + n) A.d_back (G.tab rfl rfl rfl rfl rfl (by omega) (.cons (a_back_g A G n).2 (Nat.le_refl _) (.cons (a_gone_back A G) (by omega) .nil)) .nil) rfl rfl S_back b_back (t_back K (sr_back K n) (sr_back_round K n)), cal_of (k := 5 + n) A.d_back_round (G.tab rfl rfl rfl rfl rfl (by omega) (.cons (a_back_g A G n).1 (Nat.le_refl _) (.cons (a_marked A G) (by omega) .nil)) .nil) rfl rfl S_back_round b_back_round (t_back_round K (sr_back K n) (sr_back_round K n))⟩
theorem a_back (A : Al K mg) (G : Gen P w K mg base CONS EXCS XS FS CS FL SUBS) (n : Nat) : CalA P w K mg base (5 + n) "back" 3 (sr_back K n) := (a_back_g A G n).1
theorem a_flagged (A : Al K mg) (G : Gen P w K mg base CONS EXCS XS FS CS FL SUBS) : CalA P w K mg base 17 "flagged" 3 (sp_flagged K) := cal_of (k := 16) A.d_flagged (G.tab rfl rfl rfl rfl rfl (by omega) (.cons (a_check_steps A G) (by omega) (.cons (a_need_kept A G) (by omega) (.cons (a_unneeded A G 8) (by omega) (.cons (a_back A G 8) (by omega) (.cons (a_marked A G) (by omega) .nil))))) .nil) rfl rfl S_flagged b_flagged (t_flagged K)
theorem a_idle_rows (A : Al K mg) (G : Gen P w K mg base CONS EXCS XS FS CS FL SUBS) : CalA P w K mg base 21 "idle_rows" 3 (sp_idle_rows K) := cal_of (k := 20) A.d_idle_rows (G.tab rfl rfl rfl rfl rfl (by omega) (.cons (a_idle_among A G 8) (by omega) (.cons (a_flagged A G) (by omega) .nil)) .nil) rfl rfl S_idle_rows b_idle_rows (t_idle_rows K)
theorem a_left_rows (A : Al K mg) (G : Gen P w K mg base CONS EXCS XS FS CS FL SUBS) : ∀ n, CalA P w K mg base (5 + n) "left_rows" 2 (sr_left_rows K n)
  | 0 => cal_none A.d_left_rows b_left_rows
  | n + 1 => cal_of (k := 5 + n) A.d_left_rows (G.tab rfl rfl rfl rfl rfl (by omega) (.cons (a_left_rows A G n) (Nat.le_refl _) .nil) (.cons ((a_Turns___init__ A G).at (A.ms ("Turns", "__init__", "Turns") (by decide +kernel))) (by omega) .nil)) rfl rfl S_left_rows b_left_rows (t_left_rows K (sr_left_rows K n))
theorem a_trimmed (A : Al K mg) (G : Gen P w K mg base CONS EXCS XS FS CS FL SUBS) : CalA P w K mg base 18 "trimmed" 3 (sp_trimmed K) := cal_of (k := 17) A.d_trimmed (G.tab rfl rfl rfl rfl rfl (by omega) (.cons (a_left_rows A G 8) (by omega) (.cons (a_flagged A G) (by omega) .nil)) .nil) rfl rfl S_trimmed b_trimmed (t_trimmed K)
theorem a_needed_registers (A : Al K mg) (G : Gen P w K mg base CONS EXCS XS FS CS FL SUBS) : CalA P w K mg base 17 "needed_registers" 3 (sp_needed_registers K) := cal_of (k := 16) A.d_needed_registers (G.tab rfl rfl rfl rfl rfl (by omega) (.cons (a_check_steps A G) (by omega) (.cons (a_need_kept A G) (by omega) (.cons (a_back A G 8) (by omega) (.cons (a_unneeded A G 8) (by omega) (.cons (a_marked A G) (by omega) .nil))))) .nil) rfl rfl S_needed_registers b_needed_registers (t_needed_registers K)
theorem a_law_asked (A : Al K mg) (G : Gen P w K mg base CONS EXCS XS FS CS FL SUBS) : CalA P w K mg base 22 "_law_asked" 4 (sp_law_asked K) := cal_of (k := 21) A.d_law_asked (G.tab rfl rfl rfl rfl rfl (by omega) (.cons (a_idle_rows A G) (by omega) (.cons (a_trimmed A G) (by omega) (.cons (a_needed_registers A G) (by omega) .nil))) .nil) rfl rfl S_law_asked b_law_asked (t_law_asked K)
theorem a_law_same (A : Al K mg) (G : Gen P w K mg base CONS EXCS XS FS CS FL SUBS) : ∀ n, CalA P w K mg base (3 + n) "_law_same" 2 (sr_law_same K n)
  | 0 => cal_none A.d_law_same b_law_same
  | n + 1 => cal_of (k := 3 + n) A.d_law_same (G.tab rfl rfl rfl rfl rfl (by omega) (.cons (a_law_same A G n) (Nat.le_refl _) .nil) .nil) rfl rfl S_law_same b_law_same (t_law_same K (sr_law_same K n))
theorem a_law (A : Al K mg) (G : Gen P w K mg base CONS EXCS XS FS CS FL SUBS) {f : Addr} {fd : FuncData} (F : FunD K "law" "law" (argsOf (top 80)) (bodyOf (top 80)) (scopeOf (top 80)) [] [] f fd) : FnA P w K mg base 23 f fd ["script"] (toSp K 1 (sp_law K)) :=
  law_of (k := 22) A.d_law (G.tab rfl rfl rfl rfl rfl (by omega) (.cons (a_law_box A G) (by omega) (.cons (a_law_rows A G 8) (by omega) (.cons (a_law_placed A G 8) (by omega) (.cons (a_law_cell A G) (by omega) (.cons (a_law_take A G) (by omega) (.cons (a_law_spoilt A G 8) (by omega) (.cons (a_law_asked A G) (by omega) (.cons (a_law_step A G 8) (by omega) (.cons (a_law_same A G 8) (by omega) .nil))))))))) (.cons ((a_Turns___init__ A G).at (A.ms ("Turns", "__init__", "Turns") (by decide +kernel))) (by omega) (.cons ((a_Copy___init__ A G).at (A.ms ("Copy", "__init__", "Copy") (by decide +kernel))) (by omega) .nil))) rfl rfl S_law (t_law K) F
end
def fa0 : List He.Fa := [.free "abs", .free "len", .free "max", .free "min", .free "sum", .free "divmod", .free "isinstance", .free "repr", .free "any", .free "all", .free "int", .free "str", .free "list", .free "tuple", .free "bool", .free "dict", .free "range", .free "enumerate", .free "zip", .free "sorted", .free "set", .glo "_law_box", .glo "_law_take", .glo "_law_register", .glo "_law_row", .glo "_law_rows", .glo "_law_placed", .glo "_law_cell", .glo "_law_bad", .glo "_law_step"]
def fa1 : List He.Fa := [.glo "_law_spoilt", .glo "any_needed", .glo "idle_among", .glo "is_whole", .glo "need_width", .glo "within", .glo "is_register", .glo "walked", .glo "check_steps", .glo "need_kept", .glo "unneeded", .glo "puts_of", .glo "marked", .glo "reads_of", .glo "gone_back", .glo "back", .glo "back_round", .glo "flagged", .glo "idle_rows", .glo "left_rows", .glo "trimmed", .glo "needed_registers", .glo "_law_asked", .glo "_law_same", .glo "law", .glo "NoWidth", .glo "TooMuch", .glo "NoRegister", .glo "NoRow", .glo "WiseError"]
def fa2 : List He.Fa := [.int "LEAST_WIDTH" 4, .int "GREATEST_WIDTH" 32, .str "LETTERS" "abcdefghijklmnopqrstuvwxyz", .str "FIGURES" "0123456789", .int "LONGEST_NAME" 8, .int "MOST_LINE" 9999, .int "MOST_TIMES" 64, .int "DEEPEST" 5, .int "MOST_RUN" 1000000]
def fa : List He.Fa := fa0 ++ fa1 ++ fa2
def fn0 : List He.DefD := [⟨("_law_box", none), "_law_box", "_law_box", argsOf (top 69), bodyOf (top 69), scopeOf (top 69), [], []⟩, ⟨("_law_take", none), "_law_take", "_law_take", argsOf (top 70), bodyOf (top 70), scopeOf (top 70), [], []⟩, ⟨("_law_register", none), "_law_register", "_law_register", argsOf (top 72), bodyOf (top 72), scopeOf (top 72), [], []⟩, ⟨("_law_row", none), "_law_row", "_law_row", argsOf (top 73), bodyOf (top 73), scopeOf (top 73), [], []⟩, ⟨("_law_rows", none), "_law_rows", "_law_rows", argsOf (top 74), bodyOf (top 74), scopeOf (top 74), [], []⟩, ⟨("_law_placed", none), "_law_placed", "_law_placed", argsOf (top 76), bodyOf (top 76), scopeOf (top 76), [], []⟩, ⟨("_law_cell", none), "_law_cell", "_law_cell", argsOf (top 68), bodyOf (top 68), scopeOf (top 68), [], []⟩, ⟨("Set", some "__init__"), "__init__", "Set.__init__", argsOf (inCls (top 27) 0), bodyOf (inCls (top 27) 0), scopeOf (inCls (top 27) 0), [], []⟩, ⟨("Copy", some "__init__"), "__init__", "Copy.__init__", argsOf (inCls (top 28) 0), bodyOf (inCls (top 28) 0), scopeOf (inCls (top 28) 0), [], []⟩, ⟨("Shift", some "__init__"), "__init__", "Shift.__init__", argsOf (inCls (top 39) 0), bodyOf (inCls (top 39) 0), scopeOf (inCls (top 39) 0), [], []⟩, ⟨("Carrying", some "__init__"), "__init__", "Carrying.__init__", argsOf (inCls (top 36) 0), bodyOf (inCls (top 36) 0), scopeOf (inCls (top 36) 0), [], []⟩, ⟨("Pick", some "__init__"), "__init__", "Pick.__init__", argsOf (inCls (top 43) 0), bodyOf (inCls (top 43) 0), scopeOf (inCls (top 43) 0), [], []⟩, ⟨("Mark", some "__init__"), "__init__", "Mark.__init__", argsOf (inCls (top 44) 0), bodyOf (inCls (top 44) 0), scopeOf (inCls (top 44) 0), [], []⟩, ⟨("Turns", some "__init__"), "__init__", "Turns.__init__", argsOf (inCls (top 45) 0), bodyOf (inCls (top 45) 0), scopeOf (inCls (top 45) 0), [], []⟩, ⟨("Pair", some "__init__"), "__init__", "Pair.__init__", argsOf (inCls (top 29) 0), bodyOf (inCls (top 29) 0), scopeOf (inCls (top 29) 0), [], []⟩, ⟨("_law_bad", none), "_law_bad", "_law_bad", argsOf (top 78), bodyOf (top 78), scopeOf (top 78), [], []⟩, ⟨("_law_step", none), "_law_step", "_law_step", argsOf (top 75), bodyOf (top 75), scopeOf (top 75), [], []⟩, ⟨("_law_spoilt", none), "_law_spoilt", "_law_spoilt", argsOf (top 79), bodyOf (top 79), scopeOf (top 79), [], []⟩, ⟨("any_needed", none), "any_needed", "any_needed", argsOf (top 61), bodyOf (top 61), scopeOf (top 61), [], []⟩, ⟨("idle_among", none), "idle_among", "idle_among", argsOf (top 62), bodyOf (top 62), scopeOf (top 62), [], []⟩, ⟨("is_whole", none), "is_whole", "is_whole", argsOf (top 10), bodyOf (top 10), scopeOf (top 10), [], []⟩, ⟨("need_width", none), "need_width", "need_width", argsOf (top 11), bodyOf (top 11), scopeOf (top 11), [], []⟩, ⟨("within", none), "within", "within", argsOf (top 25), bodyOf (top 25), scopeOf (top 25), [], []⟩, ⟨("Turns", some "fits"), "fits", "Turns.fits", argsOf (inCls (top 45) 3), bodyOf (inCls (top 45) 3), scopeOf (inCls (top 45) 3), [], []⟩, ⟨("is_register", none), "is_register", "is_register", argsOf (top 24), bodyOf (top 24), scopeOf (top 24), [], []⟩, ⟨("Copy", some "fits"), "fits", "Copy.fits", argsOf (inCls (top 28) 3), bodyOf (inCls (top 28) 3), scopeOf (inCls (top 28) 3), [], []⟩, ⟨("Set", some "fits"), "fits", "Set.fits", argsOf (inCls (top 27) 3), bodyOf (inCls (top 27) 3), scopeOf (inCls (top 27) 3), [], []⟩, ⟨("Carrying", some "fits"), "fits", "Carrying.fits", argsOf (inCls (top 36) 2), bodyOf (inCls (top 36) 2), scopeOf (inCls (top 36) 2), [], []⟩, ⟨("Mark", some "fits"), "fits", "Mark.fits", argsOf (inCls (top 44) 3), bodyOf (inCls (top 44) 3), scopeOf (inCls (top 44) 3), [], []⟩, ⟨("Pick", some "fits"), "fits", "Pick.fits", argsOf (inCls (top 43) 3), bodyOf (inCls (top 43) 3), scopeOf (inCls (top 43) 3), [], []⟩]
def fn1 : List He.DefD := [⟨("Pair", some "fits"), "fits", "Pair.fits", argsOf (inCls (top 29) 2), bodyOf (inCls (top 29) 2), scopeOf (inCls (top 29) 2), [], []⟩, ⟨("Shift", some "fits"), "fits", "Shift.fits", argsOf (inCls (top 39) 2), bodyOf (inCls (top 39) 2), scopeOf (inCls (top 39) 2), [], []⟩, ⟨("walked", none), "walked", "walked", argsOf (top 49), bodyOf (top 49), scopeOf (top 49), [], []⟩, ⟨("check_steps", none), "check_steps", "check_steps", argsOf (top 50), bodyOf (top 50), scopeOf (top 50), [], []⟩, ⟨("need_kept", none), "need_kept", "need_kept", argsOf (top 54), bodyOf (top 54), scopeOf (top 54), [], []⟩, ⟨("unneeded", none), "unneeded", "unneeded", argsOf (top 56), bodyOf (top 56), scopeOf (top 56), [], []⟩, ⟨("puts_of", none), "puts_of", "puts_of", argsOf (top 53), bodyOf (top 53), scopeOf (top 53), [], []⟩, ⟨("marked", none), "marked", "marked", argsOf (top 55), bodyOf (top 55), scopeOf (top 55), [], []⟩, ⟨("reads_of", none), "reads_of", "reads_of", argsOf (top 52), bodyOf (top 52), scopeOf (top 52), [], []⟩, ⟨("gone_back", none), "gone_back", "gone_back", argsOf (top 57), bodyOf (top 57), scopeOf (top 57), [], []⟩, ⟨("back", none), "back", "back", argsOf (top 58), bodyOf (top 58), scopeOf (top 58), [], []⟩, ⟨("back_round", none), "back_round", "back_round", argsOf (top 59), bodyOf (top 59), scopeOf (top 59), [], []⟩, ⟨("flagged", none), "flagged", "flagged", argsOf (top 60), bodyOf (top 60), scopeOf (top 60), [], []⟩, ⟨("idle_rows", none), "idle_rows", "idle_rows", argsOf (top 63), bodyOf (top 63), scopeOf (top 63), [], []⟩, ⟨("left_rows", none), "left_rows", "left_rows", argsOf (top 64), bodyOf (top 64), scopeOf (top 64), [], []⟩, ⟨("trimmed", none), "trimmed", "trimmed", argsOf (top 65), bodyOf (top 65), scopeOf (top 65), [], []⟩, ⟨("needed_registers", none), "needed_registers", "needed_registers", argsOf (top 66), bodyOf (top 66), scopeOf (top 66), [], []⟩, ⟨("_law_asked", none), "_law_asked", "_law_asked", argsOf (top 77), bodyOf (top 77), scopeOf (top 77), [], []⟩, ⟨("_law_same", none), "_law_same", "_law_same", argsOf (top 71), bodyOf (top 71), scopeOf (top 71), [], []⟩, ⟨("law", none), "law", "law", argsOf (top 80), bodyOf (top 80), scopeOf (top 80), [], []⟩, ⟨("NoWidth", some "__init__"), "__init__", "NoWidth.__init__", argsOf (inCls (top 3) 0), bodyOf (inCls (top 3) 0), scopeOf (inCls (top 3) 0), [], []⟩, ⟨("TooMuch", some "__init__"), "__init__", "TooMuch.__init__", argsOf (inCls (top 4) 0), bodyOf (inCls (top 4) 0), scopeOf (inCls (top 4) 0), [], []⟩, ⟨("NoRegister", some "__init__"), "__init__", "NoRegister.__init__", argsOf (inCls (top 5) 0), bodyOf (inCls (top 5) 0), scopeOf (inCls (top 5) 0), [], []⟩, ⟨("NoRow", some "__init__"), "__init__", "NoRow.__init__", argsOf (inCls (top 6) 0), bodyOf (inCls (top 6) 0), scopeOf (inCls (top 6) 0), [], []⟩]
def fn : List He.DefD := fn0 ++ fn1
def bx (K : PySem.W.Frag) : Bool := xfAll K XS FS && (baseB K (He.ga K "WiseError") && (ownB K CS FL SUBS MSL && (smK K)))
def loose0 : List Str := ["_wall", "__name__", "WiseError", "NoWidth", "TooMuch", "NoRegister", "NoRow", "LEAST_WIDTH", "GREATEST_WIDTH", "is_whole", "need_width", "cut", "sum_of", "gap_of", "left", "right", "slide", "LETTERS", "FIGURES", "LONGEST_NAME", "MOST_LINE", "MOST_TIMES", "is_register", "within", "Step", "Set", "Copy", "Pair", "Low", "High"]
def loose1 : List Str := ["And", "Or", "Unlike", "Under", "Carrying", "Sum", "Gap", "Shift", "Left", "Right", "Slide", "Pick", "Mark", "Turns", "DEEPEST", "MOST_RUN", "walked", "check_steps", "reads_of", "puts_of", "need_kept", "marked", "unneeded", "gone_back", "back", "back_round", "flagged", "any_needed", "idle_among", "idle_rows"]
def loose2 : List Str := ["left_rows", "trimmed", "needed_registers", "_law_cell", "_law_box", "_law_take", "_law_same", "_law_register", "_law_row", "_law_rows", "_law_step", "_law_placed", "_law_asked", "_law_bad", "_law_spoilt"]
def loose : List Str := loose0 ++ loose1 ++ loose2
abbrev R : PySem.W.OpenRow := PySem.W.OpenLaw.row OL
def AS : List Addr := [cStatics, sysModules, 3, 6, 4, 21, 31, 51, 70, 89, 108, 117, 124, 131, 138, 145, 152, 159, 166, 171, 178, 216, 265, 312, 359, 385, 411, 437, 463, 489, 515, 562, 588, 614, 661, 687, 713, 739, 784, 831, 869, 878, 885, 892, 899, 906, 913, 918, 923, 930, 937, 944, 949, 956, 963, 970, 977, 984, 991, 998, 1005, 1010, 1017, 1024, 1031, 1036, 1043, 1050, 1057, 1064, 1069, 0, 20, 30, 50, 69, 88, 107, 116, 123, 130, 137, 144, 151, 158, 165, 170, 177, 215, 264, 311, 358, 384, 410, 436, 462, 488, 514, 561, 587, 613, 660, 686, 712, 738, 783, 830, 868, 877, 884, 891, 898, 905, 912, 917, 922, 929, 936, 943, 948, 955, 962, 969, 976, 983, 990, 997, 1004, 1009, 1016, 1023, 1030, 1035, 1042, 1049, 1056, 1063, 1068, 15, 16, 17, 18, 19, 29, 32, 48, 49, 67, 68, 86, 87, 105, 106, 111, 112, 113, 114, 115, 118, 119, 120, 121, 122, 125, 126, 127, 128, 129, 132, 133, 134, 135, 136, 139, 140, 141, 142, 143, 146, 147, 148, 149, 150, 153, 154, 155, 156, 157, 160, 161, 162, 163, 164, 167, 168, 169, 172, 173, 174, 175, 176, 192, 199, 206, 213, 214, 217, 218, 234, 241, 248, 255, 262, 263, 281, 288, 295, 302, 309, 310, 328, 335, 342, 349, 356, 357, 375, 382, 383, 401, 408, 409, 427, 434, 435, 453, 460, 461, 479, 486, 487, 505, 512, 513, 531, 538, 545, 552, 559, 560, 578, 585, 586, 604, 611, 612, 630, 637, 644, 651, 658, 659, 677, 684, 685, 703, 710, 711, 729, 736, 737, 755, 762, 769, 774, 781, 782, 800, 807, 814, 821, 828, 829, 847, 854, 859, 866, 867, 872, 873, 874, 875, 876, 879, 880, 881, 882, 883, 886, 887, 888, 889, 890, 893, 894, 895, 896, 897, 900, 901, 902, 903, 904, 907, 908, 909, 910, 911, 914, 915, 916, 919, 920, 921, 924, 925, 926, 927, 928, 931, 932, 933, 934, 935, 938, 939, 940, 941, 942, 945, 946, 947, 950, 951, 952, 953, 954, 957, 958, 959, 960, 961, 964, 965, 966, 967, 968, 971, 972, 973, 974, 975, 978, 979, 980, 981, 982, 985, 986, 987, 988, 989, 992, 993, 994, 995, 996, 999, 1000, 1001, 1002, 1003, 1006, 1007, 1008, 1011, 1012, 1013, 1014, 1015, 1018, 1019, 1020, 1021, 1022, 1025, 1026, 1027, 1028, 1029, 1032, 1033, 1034, 1037, 1038, 1039, 1040, 1041, 1044, 1045, 1046, 1047, 1048, 1051, 1052, 1053, 1054, 1055, 1058, 1059, 1060, 1061, 1062, 1065, 1066, 1067, 47, 66, 85, 104, 191, 198, 205, 212, 233, 240, 247, 254, 261, 280, 287, 294, 301, 308, 327, 334, 341, 348, 355, 374, 381, 400, 407, 426, 433, 452, 459, 478, 485, 504, 511, 530, 537, 544, 551, 558, 577, 584, 603, 610, 629, 636, 643, 650, 657, 676, 683, 702, 709, 728, 735, 754, 761, 768, 773, 780, 799, 806, 813, 820, 827, 846, 853, 858, 865, 42, 43, 44, 45, 46, 61, 62, 63, 64, 65, 80, 81, 82, 83, 84, 99, 100, 101, 102, 103, 186, 187, 188, 189, 190, 193, 194, 195, 196, 197, 200, 201, 202, 203, 204, 207, 208, 209, 210, 211, 228, 229, 230, 231, 232, 235, 236, 237, 238, 239, 242, 243, 244, 245, 246, 249, 250, 251, 252, 253, 256, 257, 258, 259, 260, 275, 276, 277, 278, 279, 282, 283, 284, 285, 286, 289, 290, 291, 292, 293, 296, 297, 298, 299, 300, 303, 304, 305, 306, 307, 322, 323, 324, 325, 326, 329, 330, 331, 332, 333, 336, 337, 338, 339, 340, 343, 344, 345, 346, 347, 350, 351, 352, 353, 354, 369, 370, 371, 372, 373, 376, 377, 378, 379, 380, 395, 396, 397, 398, 399, 402, 403, 404, 405, 406, 421, 422, 423, 424, 425, 428, 429, 430, 431, 432, 447, 448, 449, 450, 451, 454, 455, 456, 457, 458, 473, 474, 475, 476, 477, 480, 481, 482, 483, 484, 499, 500, 501, 502, 503, 506, 507, 508, 509, 510, 525, 526, 527, 528, 529, 532, 533, 534, 535, 536, 539, 540, 541, 542, 543, 546, 547, 548, 549, 550, 553, 554, 555, 556, 557, 572, 573, 574, 575, 576, 579, 580, 581, 582, 583, 598, 599, 600, 601, 602, 605, 606, 607, 608, 609, 624, 625, 626, 627, 628, 631, 632, 633, 634, 635, 638, 639, 640, 641, 642, 645, 646, 647, 648, 649, 652, 653, 654, 655, 656, 671, 672, 673, 674, 675, 678, 679, 680, 681, 682, 697, 698, 699, 700, 701, 704, 705, 706, 707, 708, 723, 724, 725, 726, 727, 730, 731, 732, 733, 734, 749, 750, 751, 752, 753, 756, 757, 758, 759, 760, 763, 764, 765, 766, 767, 770, 771, 772, 775, 776, 777, 778, 779, 794, 795, 796, 797, 798, 801, 802, 803, 804, 805, 808, 809, 810, 811, 812, 815, 816, 817, 818, 819, 822, 823, 824, 825, 826, 841, 842, 843, 844, 845, 848, 849, 850, 851, 852, 855, 856, 857, 860, 861, 862, 863, 864]
abbrev hk : PySem.W.Hook := hookL AS fa fn bx
def ob (s : PySem.W.SharedT) : AlX := obsXL AS fa fn bx (HandSHeadRun.getT s)
theorem ob_eq (s : PySem.W.SharedT) : ob s = hk.obs s.abs := obsXL_eq (HandSHeadRun.getT_eq s)
section
open HandSHeadRun PySem.W PySem.Calls PyProof.Rows
def RunA (r : OpenRow) (M : Nat) (w : World) : Prop := ∀ os : OsState, (endF (stepQ (denQ tabQ) r.prog w) M r.prog w os).map (fun s => looksF r.prog (boot_heap w.params) s.abs) = some true
def RunB (r : OpenRow) (q : Program) (M : Nat) (loose : List PySem.Str) (w : World) : Prop := ∀ os : OsState, (endF (stepQ (denQ tabQ) r.prog w) M r.prog w os).map (fun s => seenQ q loose (importedModules r.prog.main.body) (fun s => xlAt q [] s && recOk r.toRowW.records s) s.abs) = some (openGood q loose)
def RunC {A : Type} (r : OpenRow) (ob : SharedT → A) (v : A) (M : Nat) (w : World) : Prop := ∀ os : OsState, (endF (stepQ (denQ tabQ) r.prog w) M r.prog w os).map ob = some v
theorem opt3 {a b c d : Type _} {x : Option a} {f : a → b} {g : a → c} {h : a → d} {y z w} (e1 : x.map f = some y) (e2 : x.map g = some z) (e3 : x.map h = some w) : x.map (fun s => (f s, g s, h s)) = some (y, z, w) := by
  cases x with
  | none => cases e1
  | some s =>
    cases e1
    cases e2
    cases e3
    rfl
theorem opt2 {a b c : Type _} {x : Option a} {f : a → b} {g : a → c} {y z} (e1 : x.map f = some y) (e2 : x.map g = some z) : x.map (fun s => (f s, g s)) = some (y, z) := by
  cases x with
  | none => cases e1
  | some s =>
    cases e1
    cases e2
    rfl
theorem run_of {r : OpenRow} {q : Program} {H : Hook} {ob : SharedT → H.α} {M : Nat} {loose : List PySem.Str} {w : World} (a : RunA r M w) (b : RunB r q M loose w) (c : RunC r ob (H.val w) M w) : RunEq r q H ob M loose w := fun os => opt3 (a os) (b os) (c os)
def obd (s : SharedT) : He.AlD := He.obsD fa fn (He.frG (getT s) AS)
def obb (s : SharedT) : Bool := bx (He.frG (getT s) AS)
theorem run_c_of {r : OpenRow} {M : Nat} {w : World} (a : RunC r obd (He.valD fn) M w) (b : RunC r obb true M w) : RunC r ob (hk.val w) M w := fun os => opt2 (a os) (b os)
theorem run_a (w : World) : RunA R 12000 w := by
  intro os
  kernel_rfl
theorem run_b (w : World) : RunB R (PySem.W.view R.prog [80]) 12000 loose w := by
  intro os
  kernel_rfl
theorem run_d (w : World) : RunC R obd (He.valD fn) 12000 w := by
  intro os
  kernel_rfl
theorem run_e (w : World) : RunC R obb true 12000 w := by
  intro os
  kernel_rfl
theorem run (w : World) : RunEq R (PySem.W.view R.prog [80]) hk ob 12000 loose w := run_of (run_a w) (run_b w) (run_c_of (run_d w) (run_e w))
end
theorem ex_NoWidth {P : Program} {w : World} {K : PySem.W.Frag} {mg : Str → Option Value} {h base : Heap} (X : K.In h) (G : h.Ns mainGlobals mg) (c : SaysX fa fn bx K) (E : ∀ x ∈ XS, ExcF K x FS) (b : baseB K (He.ga K "WiseError") = true) : XCls P w K mg base 1 "NoWidth" ["found"] := by
  obtain ⟨fd, F⟩ := c.d.def_ 50
  exact xcls_one (st := (inCls (top 3) 0)) (fs := FS) (b := "WiseError") (E _ (by decide +kernel)) (by decide +kernel) (He.glo_ok X G (c.d.fact 55)) F (by kernel_rfl) ⟨rfl, rfl, rfl, by decide +kernel, rfl, by decide +kernel, by decide +kernel⟩ (by kernel_rfl) (by kernel_rfl) (by kernel_rfl) (by decide +kernel) (by decide +kernel) (baseB_ok b) (He.glo_ok X G (c.d.fact 59)) (fun _ _ _ _ _ _ us hl => match us, hl with | [_, _], _ => rfl)
theorem ex_TooMuch {P : Program} {w : World} {K : PySem.W.Frag} {mg : Str → Option Value} {h base : Heap} (X : K.In h) (G : h.Ns mainGlobals mg) (c : SaysX fa fn bx K) (E : ∀ x ∈ XS, ExcF K x FS) (b : baseB K (He.ga K "WiseError") = true) : XCls P w K mg base 1 "TooMuch" ["line"] := by
  obtain ⟨fd, F⟩ := c.d.def_ 51
  exact xcls_one (st := (inCls (top 4) 0)) (fs := FS) (b := "WiseError") (E _ (by decide +kernel)) (by decide +kernel) (He.glo_ok X G (c.d.fact 56)) F (by kernel_rfl) ⟨rfl, rfl, rfl, by decide +kernel, rfl, by decide +kernel, by decide +kernel⟩ (by kernel_rfl) (by kernel_rfl) (by kernel_rfl) (by decide +kernel) (by decide +kernel) (baseB_ok b) (He.glo_ok X G (c.d.fact 59)) (fun _ _ _ _ _ _ us hl => match us, hl with | [_, _], _ => rfl)
theorem ex_NoRegister {P : Program} {w : World} {K : PySem.W.Frag} {mg : Str → Option Value} {h base : Heap} (X : K.In h) (G : h.Ns mainGlobals mg) (c : SaysX fa fn bx K) (E : ∀ x ∈ XS, ExcF K x FS) (b : baseB K (He.ga K "WiseError") = true) : XCls P w K mg base 1 "NoRegister" ["name"] := by
  obtain ⟨fd, F⟩ := c.d.def_ 52
  exact xcls_one (st := (inCls (top 5) 0)) (fs := FS) (b := "WiseError") (E _ (by decide +kernel)) (by decide +kernel) (He.glo_ok X G (c.d.fact 57)) F (by kernel_rfl) ⟨rfl, rfl, rfl, by decide +kernel, rfl, by decide +kernel, by decide +kernel⟩ (by kernel_rfl) (by kernel_rfl) (by kernel_rfl) (by decide +kernel) (by decide +kernel) (baseB_ok b) (He.glo_ok X G (c.d.fact 59)) (fun _ _ _ _ _ _ us hl => match us, hl with | [_, _], _ => rfl)
theorem ex_NoRow {P : Program} {w : World} {K : PySem.W.Frag} {mg : Str → Option Value} {h base : Heap} (X : K.In h) (G : h.Ns mainGlobals mg) (c : SaysX fa fn bx K) (E : ∀ x ∈ XS, ExcF K x FS) (b : baseB K (He.ga K "WiseError") = true) : XCls P w K mg base 1 "NoRow" ["place"] := by
  obtain ⟨fd, F⟩ := c.d.def_ 53
  exact xcls_one (st := (inCls (top 6) 0)) (fs := FS) (b := "WiseError") (E _ (by decide +kernel)) (by decide +kernel) (He.glo_ok X G (c.d.fact 58)) F (by kernel_rfl) ⟨rfl, rfl, rfl, by decide +kernel, rfl, by decide +kernel, by decide +kernel⟩ (by kernel_rfl) (by kernel_rfl) (by kernel_rfl) (by decide +kernel) (by decide +kernel) (baseB_ok b) (He.glo_ok X G (c.d.fact 59)) (fun _ _ _ _ _ _ us hl => match us, hl with | [_, _], _ => rfl)
section
variable {P : Program} {w : World} {K : PySem.W.Frag} {mg : Str → Option Value} {h : Heap}
theorem al_of (X : K.In h) (G : h.Ns mainGlobals mg) (c : SaysX fa fn bx K) : Al K mg where
  d_law_box := ⟨_, (c.d.def_ 0).imp fun _ F => ⟨F, He.glo_ok X G (c.d.fact 21)⟩⟩
  d_law_take := ⟨_, (c.d.def_ 1).imp fun _ F => ⟨F, He.glo_ok X G (c.d.fact 22)⟩⟩
  d_law_register := ⟨_, (c.d.def_ 2).imp fun _ F => ⟨F, He.glo_ok X G (c.d.fact 23)⟩⟩
  d_law_row := ⟨_, (c.d.def_ 3).imp fun _ F => ⟨F, He.glo_ok X G (c.d.fact 24)⟩⟩
  d_law_rows := ⟨_, (c.d.def_ 4).imp fun _ F => ⟨F, He.glo_ok X G (c.d.fact 25)⟩⟩
  d_law_placed := ⟨_, (c.d.def_ 5).imp fun _ F => ⟨F, He.glo_ok X G (c.d.fact 26)⟩⟩
  d_law_cell := ⟨_, (c.d.def_ 6).imp fun _ F => ⟨F, He.glo_ok X G (c.d.fact 27)⟩⟩
  d_Set___init__ := ⟨c.d.def_ 7⟩
  d_Copy___init__ := ⟨c.d.def_ 8⟩
  d_Shift___init__ := ⟨c.d.def_ 9⟩
  d_Carrying___init__ := ⟨c.d.def_ 10⟩
  d_Pick___init__ := ⟨c.d.def_ 11⟩
  d_Mark___init__ := ⟨c.d.def_ 12⟩
  d_Turns___init__ := ⟨c.d.def_ 13⟩
  d_Pair___init__ := ⟨c.d.def_ 14⟩
  d_law_bad := ⟨_, (c.d.def_ 15).imp fun _ F => ⟨F, He.glo_ok X G (c.d.fact 28)⟩⟩
  d_law_step := ⟨_, (c.d.def_ 16).imp fun _ F => ⟨F, He.glo_ok X G (c.d.fact 29)⟩⟩
  d_law_spoilt := ⟨_, (c.d.def_ 17).imp fun _ F => ⟨F, He.glo_ok X G (c.d.fact 30)⟩⟩
  d_any_needed := ⟨_, (c.d.def_ 18).imp fun _ F => ⟨F, He.glo_ok X G (c.d.fact 31)⟩⟩
  d_idle_among := ⟨_, (c.d.def_ 19).imp fun _ F => ⟨F, He.glo_ok X G (c.d.fact 32)⟩⟩
  d_is_whole := ⟨_, (c.d.def_ 20).imp fun _ F => ⟨F, He.glo_ok X G (c.d.fact 33)⟩⟩
  d_need_width := ⟨_, (c.d.def_ 21).imp fun _ F => ⟨F, He.glo_ok X G (c.d.fact 34)⟩⟩
  d_within := ⟨_, (c.d.def_ 22).imp fun _ F => ⟨F, He.glo_ok X G (c.d.fact 35)⟩⟩
  d_Turns_fits := ⟨c.d.def_ 23⟩
  d_is_register := ⟨_, (c.d.def_ 24).imp fun _ F => ⟨F, He.glo_ok X G (c.d.fact 36)⟩⟩
  d_Copy_fits := ⟨c.d.def_ 25⟩
  d_Set_fits := ⟨c.d.def_ 26⟩
  d_Carrying_fits := ⟨c.d.def_ 27⟩
  d_Mark_fits := ⟨c.d.def_ 28⟩
  d_Pick_fits := ⟨c.d.def_ 29⟩
  d_Pair_fits := ⟨c.d.def_ 30⟩
  d_Shift_fits := ⟨c.d.def_ 31⟩
  d_walked := ⟨_, (c.d.def_ 32).imp fun _ F => ⟨F, He.glo_ok X G (c.d.fact 37)⟩⟩
  d_check_steps := ⟨_, (c.d.def_ 33).imp fun _ F => ⟨F, He.glo_ok X G (c.d.fact 38)⟩⟩
  d_need_kept := ⟨_, (c.d.def_ 34).imp fun _ F => ⟨F, He.glo_ok X G (c.d.fact 39)⟩⟩
  d_unneeded := ⟨_, (c.d.def_ 35).imp fun _ F => ⟨F, He.glo_ok X G (c.d.fact 40)⟩⟩
  d_puts_of := ⟨_, (c.d.def_ 36).imp fun _ F => ⟨F, He.glo_ok X G (c.d.fact 41)⟩⟩
  d_marked := ⟨_, (c.d.def_ 37).imp fun _ F => ⟨F, He.glo_ok X G (c.d.fact 42)⟩⟩
  d_reads_of := ⟨_, (c.d.def_ 38).imp fun _ F => ⟨F, He.glo_ok X G (c.d.fact 43)⟩⟩
  d_gone_back := ⟨_, (c.d.def_ 39).imp fun _ F => ⟨F, He.glo_ok X G (c.d.fact 44)⟩⟩
  d_back := ⟨_, (c.d.def_ 40).imp fun _ F => ⟨F, He.glo_ok X G (c.d.fact 45)⟩⟩
  d_back_round := ⟨_, (c.d.def_ 41).imp fun _ F => ⟨F, He.glo_ok X G (c.d.fact 46)⟩⟩
  d_flagged := ⟨_, (c.d.def_ 42).imp fun _ F => ⟨F, He.glo_ok X G (c.d.fact 47)⟩⟩
  d_idle_rows := ⟨_, (c.d.def_ 43).imp fun _ F => ⟨F, He.glo_ok X G (c.d.fact 48)⟩⟩
  d_left_rows := ⟨_, (c.d.def_ 44).imp fun _ F => ⟨F, He.glo_ok X G (c.d.fact 49)⟩⟩
  d_trimmed := ⟨_, (c.d.def_ 45).imp fun _ F => ⟨F, He.glo_ok X G (c.d.fact 50)⟩⟩
  d_needed_registers := ⟨_, (c.d.def_ 46).imp fun _ F => ⟨F, He.glo_ok X G (c.d.fact 51)⟩⟩
  d_law_asked := ⟨_, (c.d.def_ 47).imp fun _ F => ⟨F, He.glo_ok X G (c.d.fact 52)⟩⟩
  d_law_same := ⟨_, (c.d.def_ 48).imp fun _ F => ⟨F, He.glo_ok X G (c.d.fact 53)⟩⟩
  d_law := ⟨_, (c.d.def_ 49).imp fun _ F => ⟨F, He.glo_ok X G (c.d.fact 54)⟩⟩
  ms := (ownB_ok X G (Bool.and_eq_true_iff.mp (Bool.and_eq_true_iff.mp (Bool.and_eq_true_iff.mp c.b).2).2).1).2
theorem gen_of (X : K.In h) (G : h.Ns mainGlobals mg) (c : SaysX fa fn bx K) (base : Heap) : Gen P w K mg base CONS EXCS XS FS CS FL SUBS := by
  obtain ⟨b1, b2⟩ := Bool.and_eq_true_iff.mp c.b
  obtain ⟨b2, b3⟩ := Bool.and_eq_true_iff.mp b2
  obtain ⟨b3, b4⟩ := Bool.and_eq_true_iff.mp b3
  obtain ⟨T, E⟩ := xfAll_ok X G b1
  refine ⟨free_all X G c.d 0 (fun i y hi => ?_), ConOk.get (.cons (con_int (He.int_ok X G (c.d.fact 60))) (.cons (con_int (He.int_ok X G (c.d.fact 61))) (.cons (con_str (He.str_ok X G (c.d.fact 62))) (.cons (con_str (He.str_ok X G (c.d.fact 63))) (.cons (con_int (He.int_ok X G (c.d.fact 64))) (.cons (con_int (He.int_ok X G (c.d.fact 65))) (.cons (con_int (He.int_ok X G (c.d.fact 66))) (.cons (con_int (He.int_ok X G (c.d.fact 67))) (.cons (con_int (He.int_ok X G (c.d.fact 68))) .nil))))))))), ExOk.get (.cons (ex_NoWidth X G c E b2) (.cons (ex_TooMuch X G c E b2) (.cons (ex_NoRegister X G c E b2) (.cons (ex_NoRow X G c E b2) .nil)))), T, (ownB_ok X G b3).1⟩
  · match i, hi with
    | 0, hi => cases hi; rfl
    | 1, hi => cases hi; rfl
    | 2, hi => cases hi; rfl
    | 3, hi => cases hi; rfl
    | 4, hi => cases hi; rfl
    | 5, hi => cases hi; rfl
    | 6, hi => cases hi; rfl
    | 7, hi => cases hi; rfl
    | 8, hi => cases hi; rfl
    | 9, hi => cases hi; rfl
    | 10, hi => cases hi; rfl
    | 11, hi => cases hi; rfl
    | 12, hi => cases hi; rfl
    | 13, hi => cases hi; rfl
    | 14, hi => cases hi; rfl
    | 15, hi => cases hi; rfl
    | 16, hi => cases hi; rfl
    | 17, hi => cases hi; rfl
    | 18, hi => cases hi; rfl
    | 19, hi => cases hi; rfl
    | 20, hi => cases hi; rfl
    | n + 21, hi => simp [bltNames] at hi
end
open PySem PySem.W PySem.Calls PyProof.Rows in
theorem holds (plain : ∀ K, smK K = true → Ab.LawSp 63 (sp_law K)) : OL.Holds := by
  w_on; o_law
  refine HandSHeadRun.head_any (r := OpenLaw.row OL) (q := view (OpenLaw.row OL).prog [80]) (H := hk) (ob := ob) (M := 12000) (loose := loose) (d := HandSHeadRun.topDef (OpenLaw.row OL).prog 80) (kwd := []) ob_eq (by kernel_rfl) (fun s => by kernel_rfl) run (by kernel_rfl) (by kernel_rfl) (by kernel_rfl) (by rfl) (by first | assumption | decide +kernel) (by decide +kernel) ⟨rfl, rfl, rfl, rfl, rfl, by decide +kernel⟩ ?hw ?hc
  case hw => w_witness2
  case hc =>
    refine Ab.walkA (l := OL) (n := 63) (k := 23) (x := "script") rfl (by decide) (by kernel_rfl) ⟨rfl, by decide, by decide⟩ ?F
    intro w mg fa h Y G hmg0
    obtain ⟨K, KX, c⟩ := Y
    have hmg : mg ("law" : PySem.Str) = some (.ref fa) := (by kernel_rfl : (HandSHeadRun.topDef (OpenLaw.row OL).prog 80).name = ("law" : PySem.Str)) ▸ hmg0
    have A := al_of KX G c
    obtain ⟨f, fd, F, hm⟩ := A.d_law.ex
    cases hmg.symm.trans hm
    have c' := c
    exact ⟨K, fd, sp_law K, KX, fun s u => FunD.bindsA F b_law s [u] rfl, plain K (Bool.and_eq_true_iff.mp (Bool.and_eq_true_iff.mp (Bool.and_eq_true_iff.mp c'.b).2).2).2, fun base _ _ => a_law A (gen_of KX G c base) F⟩
end K29
end
section
/-! Ar: a word divided by its reciprocal, in whole numbers. -/
namespace Ar
theorem mg_key {b d v u1 u0 k q1 q0 : Int} (hk : (b + v) * d = b * b - k) (hw : v * u1 + u1 * b + u0 = q1 * b + q0) : b * (u1 * b + u0 - (q1 + 1) * d) = u0 * (b - d) + k * u1 + q0 * d - b * d := by grind
theorem lt_of_mul {b x y : Int} (hb : 0 < b) (h : b * x < b * y) : x < y := Int.lt_of_mul_lt_mul_left h (by omega)
theorem le_of_mul {b x y : Int} (hb : 0 < b) (h : b * x ≤ b * y) : x ≤ y := Int.le_of_mul_le_mul_left h hb
theorem mg_bounds {b d v u1 u0 k q1 q0 : Int} (hb : 0 < b) (hd : 0 < d) (hd2 : d < b) (hk : (b + v) * d = b * b - k) (k1 : 1 ≤ k) (k2 : k ≤ d) (h1 : 0 ≤ u1) (h2 : u1 < d) (h3 : 0 ≤ u0) (h4 : u0 < b) (q2 : 0 ≤ q0) (q3 : q0 < b) (hw : v * u1 + u1 * b + u0 = q1 * b + q0) :
    -d ≤ u1 * b + u0 - (q1 + 1) * d ∧ q0 + 1 - b ≤ u1 * b + u0 - (q1 + 1) * d ∧ (u1 * b + u0 - (q1 + 1) * d < b - d ∨ u1 * b + u0 - (q1 + 1) * d < q0) := by
  have e := mg_key hk hw
  generalize u1 * b + u0 - (q1 + 1) * d = r at e ⊢
  have p1 : 0 ≤ u0 * (b - d) := Int.mul_nonneg h3 (by omega)
  have p2 : 0 ≤ k * u1 := Int.mul_nonneg (by omega) h1
  have p3 : 0 ≤ q0 * d := Int.mul_nonneg q2 (by omega)
  refine ⟨le_of_mul hb ?_, ?_, ?_⟩
  · have : b * -d = -(b * d) := by grind
    omega
  · have : q0 - b < r := by
      refine lt_of_mul hb ?_
      have p4 : 0 < (b - d) * (b - q0) := Int.mul_pos (by omega) (by omega)
      have : b * (q0 - b) = q0 * d - b * d - (b - d) * (b - q0) := by grind
      omega
    omega
  · have p5 : 0 ≤ (b - 1 - u0) * (b - d) := Int.mul_nonneg (by omega) (by omega)
    have p6 : 0 ≤ (d - k) * u1 := Int.mul_nonneg (by omega) h1
    have p7 : 0 ≤ d * (d - 1 - u1) := Int.mul_nonneg (by omega) (by omega)
    have up : b * r ≤ (b - 1) * (b - d) + d * (d - 1) + q0 * d - b * d := by grind
    by_cases c : q0 ≤ b - d
    · left
      refine lt_of_mul hb ?_
      have p8 : 0 ≤ (b - d - q0) * d := Int.mul_nonneg (by omega) (by omega)
      have : b * (b - d) = (b - 1) * (b - d) + d * (d - 1) + q0 * d - b * d + (b - d - q0) * d + b := by grind
      omega
    · right
      refine lt_of_mul hb ?_
      have p8 : 0 ≤ (q0 - (b - d)) * (b - d) := Int.mul_nonneg (by omega) (by omega)
      have : b * q0 = (b - 1) * (b - d) + d * (d - 1) + q0 * d - b * d + (q0 - (b - d)) * (b - d) + b := by grind
      omega
theorem divmod_of {n d q r : Int} (h : n = q * d + r) (h0 : 0 ≤ r) (h1 : r < d) : n / d = q ∧ n % d = r := by
  have hd : 0 < d := by omega
  have e : n = r + d * q := by grind
  rw [e]
  rw [Int.add_mul_ediv_left _ _ (by omega), Int.add_mul_emod_self_left, Int.ediv_eq_zero_of_lt h0 h1, Int.emod_eq_of_lt h0 h1]
  exact ⟨by omega, rfl⟩
/-- the five figures of one step -/
def guess (b v u1 u0 : Int) : Int := ((v * u1 + u1 * b + u0) / b + 1) % b
def r1 (b d v u1 u0 : Int) : Int := (u0 - guess b v u1 u0 * d) % b
def back (b d v u1 u0 : Int) : Int := if (v * u1 + u1 * b + u0) % b < r1 b d v u1 u0 then 1 else 0
def r2 (b d v u1 u0 : Int) : Int := (r1 b d v u1 u0 + back b d v u1 u0 * d) % b
def up (b d v u1 u0 : Int) : Int := if d ≤ r2 b d v u1 u0 then 1 else 0
def digit (b d v u1 u0 : Int) : Int := (guess b v u1 u0 - back b d v u1 u0 + up b d v u1 u0) % b
def rest (b d v u1 u0 : Int) : Int := r2 b d v u1 u0 - up b d v u1 u0 * d
theorem mg {b d v u1 u0 : Int} (hb : 0 < b) (hd : b ≤ 2 * d) (hd2 : d < b) (hv : v = (b * b - 1) / d - b) (h1 : 0 ≤ u1) (h2 : u1 < d) (h3 : 0 ≤ u0) (h4 : u0 < b) : digit b d v u1 u0 = (u1 * b + u0) / d ∧ rest b d v u1 u0 = (u1 * b + u0) % d := by
  have hd0 : 0 < d := by omega
  have dm := Int.mul_ediv_add_emod (b * b - 1) d
  have m0 := Int.emod_nonneg (b * b - 1) (show d ≠ 0 by omega)
  have m1 := Int.emod_lt_of_pos (b * b - 1) hd0
  have hk : (b + v) * d = b * b - ((b * b - 1) % d + 1) := by
    rw [hv]
    have : (b + ((b * b - 1) / d - b)) * d = d * ((b * b - 1) / d) := by grind
    omega
  generalize hq1 : (v * u1 + u1 * b + u0) / b = q1
  generalize hq0 : (v * u1 + u1 * b + u0) % b = q0
  have hw : v * u1 + u1 * b + u0 = q1 * b + q0 := by
    have := Int.mul_ediv_add_emod (v * u1 + u1 * b + u0) b
    rw [hq1, hq0] at this
    grind
  have q2 : 0 ≤ q0 := by rw [← hq0]; exact Int.emod_nonneg _ (by omega)
  have q3 : q0 < b := by rw [← hq0]; exact Int.emod_lt_of_pos _ hb
  obtain ⟨l1, l2, l3⟩ := mg_bounds hb hd0 hd2 hk (by omega) (by omega) h1 h2 h3 h4 q2 q3 hw
  have er1 : r1 b d v u1 u0 = (u1 * b + u0 - (q1 + 1) * d) % b := by
    unfold r1 guess
    rw [hq1]
    have eg := Int.mul_ediv_add_emod (q1 + 1) b
    have : u0 - (q1 + 1) % b * d = u1 * b + u0 - (q1 + 1) * d + b * ((q1 + 1) / b * d - u1) := by grind
    rw [this, Int.add_mul_emod_self_left]
  have nd : 0 ≤ (u1 * b + u0) / d ∧ (u1 * b + u0) / d < b := by
    refine ⟨Int.ediv_nonneg (by have := Int.mul_nonneg h1 (show 0 ≤ b by omega); omega) (by omega), Int.ediv_lt_of_lt_mul hd0 ?_⟩
    have := Int.mul_nonneg (show 0 ≤ d - 1 - u1 by omega) (show 0 ≤ b by omega)
    grind
  have fin : ∀ t : Int, (u1 * b + u0) / d = q1 + 1 - t → (guess b v u1 u0 - t) % b = (u1 * b + u0) / d := fun t ht => by
    unfold guess
    rw [hq1, Int.emod_sub_emod, ← ht, Int.emod_eq_of_lt nd.1 nd.2]
  generalize hr : u1 * b + u0 - (q1 + 1) * d = r at l1 l2 l3 er1
  have hN : u1 * b + u0 = (q1 + 1) * d + r := by omega
  unfold digit rest up r2 back
  rw [er1, hq0]
  by_cases c : r < 0
  · have e1 : r % b = r + b := by rw [← Int.add_emod_right, Int.emod_eq_of_lt (by omega) (by omega)]
    rw [e1, if_pos (by omega)]
    have e2 : (r + b + 1 * d) % b = r + d := by
      have : r + b + 1 * d = r + d + b * 1 := by omega
      rw [this, Int.add_mul_emod_self_left, Int.emod_eq_of_lt (by omega) (by omega)]
    rw [e2, if_neg (by omega)]
    obtain ⟨a1, a2⟩ := divmod_of (n := u1 * b + u0) (d := d) (q := q1 + 1 - 1) (r := r + d) (by rw [hN]; grind) (by omega) (by omega)
    refine ⟨?_, by omega⟩
    rw [Int.add_zero]
    exact fin 1 a1
  · have e1 : r % b = r := Int.emod_eq_of_lt (by omega) (by omega)
    rw [e1]
    by_cases c2 : q0 < r
    · rw [if_pos c2]
      have e2 : (r + 1 * d) % b = r + d := by rw [Int.one_mul, Int.emod_eq_of_lt (by omega) (by omega)]
      rw [e2, if_pos (by omega)]
      obtain ⟨a1, a2⟩ := divmod_of (q := q1 + 1) (r := r) hN (by omega) (by omega)
      refine ⟨?_, by omega⟩
      have := fin 0 (by omega)
      rw [← this]
      congr 1
      omega
    · rw [if_neg c2]
      have e2 : (r + 0 * d) % b = r := by rw [Int.zero_mul, Int.add_zero]; exact e1
      rw [e2]
      by_cases c3 : d ≤ r
      · rw [if_pos c3]
        obtain ⟨a1, a2⟩ := divmod_of (n := u1 * b + u0) (d := d) (q := q1 + 1 + 1) (r := r - d) (by rw [hN]; grind) (by omega) (by omega)
        refine ⟨?_, by omega⟩
        have := fin (-1) (by omega)
        rw [← this]
        congr 1
        omega
      · rw [if_neg c3]
        obtain ⟨a1, a2⟩ := divmod_of (q := q1 + 1) (r := r) hN (by omega) (by omega)
        refine ⟨?_, by omega⟩
        have := fin 0 (by omega)
        rw [← this]
        congr 1
        omega
end Ar
end
section
/-! Lm: longs as lists of whole numbers. -/
namespace Lm
/-- words -/
def Wok (B : Int) (ws : List Int) : Prop := ∀ w ∈ ws, 0 ≤ w ∧ w < B
theorem Wok.nil {B : Int} : Wok B [] := fun _ h => by cases h
/-- without the noughts at the top -/
def trim : List Int → List Int
  | [] => []
  | w :: r => if trim r = [] ∧ w = 0 then [] else w :: trim r
theorem pow_mono {B : Int} (hB : 1 ≤ B) {a b : Nat} (h : a ≤ b) : B ^ a ≤ B ^ b := by
  obtain ⟨k, rfl⟩ := Nat.le.dest h
  rw [Int.pow_add]
  have : (0 : Int) < B ^ a := Int.pow_pos (by omega)
  have h0 : (0 : Int) < B ^ k := Int.pow_pos (by omega)
  have h1 : (1 : Int) ≤ B ^ k := by omega
  have := Int.mul_le_mul_of_nonneg_left h1 (Int.le_of_lt this)
  omega
/-- trimmed: nothing or a last word that is not 0 -/
theorem trim_snoc {ws : List Int} {w : Int} (h : w ≠ 0) : trim (ws ++ [w]) = ws ++ [w] := by
  induction ws with
  | nil => simp [trim, h]
  | cons a r ih =>
    show trim (a :: (r ++ [w])) = a :: (r ++ [w])
    rw [trim, ih, if_neg]
    rintro ⟨z, _⟩
    simp at z
theorem trim_snoc0 {ws : List Int} : trim (ws ++ [0]) = trim ws := by
  induction ws with
  | nil => simp [trim]
  | cons a r ih =>
    show trim (a :: (r ++ [0])) = trim (a :: r)
    rw [trim, ih, trim]
/-! ### from the low end -/
/-! ### inverses -/
end Lm
end
section
namespace Ab
open PySem PySem.Spec PyProof.Rows L2
local macro_rules | `(tactic| walk_at "ab") => `(tactic| simp only [sSeq_eq, sSet, sAsg, sAug, sDrop, sRet, sRetN, sIf, sNil, sRaise, gN, gT, gs0, gs1, gSubL, wVar, wCon, wNil, wCons, wOp, Ab.wTru, wIsB, isB_bl, wAnd, wOr, Ab.wNot, wIf, wOfT, wAndV, wOrV, wNotV, wTup, wLst, wNeg, wCB, wSl, wPart, wNoPart, newK_t, newK_f, look0, lookS, List.set_cons_zero, List.set_cons_succ, res_int, res_bl, res_str, res_non, res_lst, res_frl, res_tup, res_ty, res_set, mutL_set, tru_int, tru_bl, tru_non, List.map_cons, List.map_nil, oAdd, oSub, oMul, oDiv, oMod, oPow, oShl, oShr, oAnd, oOr, oXor, oIAdd, oIMul, oEq, oNe, oLt, oLe, oGt, oGe, oIs, oIsNot, oIdx, oSl, cInt, cAbs, cLen, cMax, cMin, cSum, cDivmod, cStr, cList, cTuple, cIsi, isi_ty, wMt, isT, mAppend, at0, at1, at2, at3, ex_some, ix40, ix43, setM_setM, wCall, Int.toNat_natCast, Int.one_mul, tn1, tn2, tn3, tn4, tn5, tn6, true_and, isNonD, tyD, true_implies, false_implies, Bool.true_eq_false, Bool.false_eq_true, and_true, decide_true, decide_false, Bool.not_true, Bool.not_false, wipeE, iR1, iR2, ity_NoneType_bool, ity_NoneType_int, ity_NoneType_str, ity_NoneType_list, ity_NoneType_tuple, ity_bool_bool, ity_bool_int, ity_bool_str, ity_bool_list, ity_bool_tuple, ity_int_bool, ity_int_int, ity_int_str, ity_int_list, ity_int_tuple, ity_str_bool, ity_str_int, ity_str_str, ity_str_list, ity_str_tuple, ity_list_bool, ity_list_int, ity_list_str, ity_list_list, ity_list_tuple, ity_tuple_bool, ity_tuple_int, ity_tuple_str, ity_tuple_list, ity_tuple_tuple])
/-! ### the plain part: words -/
section
variable {K : PySem.W.Frag} {m : Mem} {R : ARes → Mem → Prop} {W : Nat}
def whole : D → Bool
  | .int _ => true
  | _ => false
/-- a plain value -/
def pl : D → Bool
  | .non => true
  | .bl _ => true
  | .int _ => true
  | .str _ => true
  | .lst _ => true
  | .frl _ => true
  | .tup _ => true
  | .dct _ _ => true
  | _ => false
theorem len1 {d : D} : [d].length ≤ 1000 := Nat.le_of_ble_eq_true rfl
theorem p_is_whole {d : D} (hp : pl d = true) (h : R (.ret (.bl (whole d))) m) : sp_is_whole K [d] m R := by
  show w_is_whole K [some d] m _
  unfold w_is_whole
  cases d <;> first
    | (cases hp; done)
    | (walk_at "ab"
       exact ⟨_, _, GhD.refl, h⟩)
    | (refine ret_go (andv_go (cb_go (cons_go (var_go rfl (cons_go (con_go (nil_go (isi_F rfl rfl (if_f rfl ?_)))))))))
       exact ⟨_, _, GhD.refl, h⟩)
def NoWidth (d : D) : Exn := ⟨"NoWidth", ["found"], [d]⟩
def Wid (d : D) : Prop := ∃ i : Int, d = .int i ∧ 4 ≤ i ∧ i ≤ 32
theorem p_need_width {d : D} (hp : pl d = true) (h1 : Wid d → R (.ret .non) m) (h2 : ¬ Wid d → R (.exc (NoWidth d)) m) : sp_need_width K [d] m R := by
  show w_need_width K [some d] m _
  unfold w_need_width
  have bad : whole d = false → R (.exc (NoWidth d)) m := fun hw => h2 (by rintro ⟨i, rfl, _⟩; cases hw)
  walk_at "ab"
  refine ⟨rfl, p_is_whole hp ?_⟩
  cases hw : whole d with
  | false =>
    walk_at "ab"
    exact ⟨rfl, len1, bad hw⟩
  | true =>
    walk_at "ab"
    cases d with
    | int i =>
      simp only [wChain]
      walk_at "ab"
      by_cases a : 4 ≤ i
      · by_cases b : i ≤ 32
        · refine if_t (decide_eq_true a) ?_
          rw [decide_eq_true b]
          walk_at "ab"
          exact h1 ⟨i, rfl, a, b⟩
        · refine if_t (decide_eq_true a) ?_
          rw [decide_eq_false b]
          walk_at "ab"
          exact ⟨rfl, len1, h2 (by rintro ⟨j, e, _, z⟩; cases e; exact b z)⟩
      · refine if_f (decide_eq_false a) ?_
        exact ⟨rfl, len1, h2 (by rintro ⟨j, e, z, _⟩; cases e; exact a z)⟩
    | _ => cases hw
/-- between the bounds -/
structure Wd (W : Nat) : Prop where
  lo : 4 ≤ W
  hi : W ≤ 32
theorem Wd.wid (h : Wd W) : Wid (.int W) := ⟨W, rfl, by have := h.lo; omega, by have := h.hi; omega⟩
theorem p_width (h : Wd W) (k : R (.ret .non) m) : sp_need_width K [.int W] m R := p_need_width rfl (fun _ => k) fun n => absurd h.wid n
theorem Wd.pw (h : Wd W) : ∃ g : Int, (2 : Int) ^ (W - 1) = g ∧ (2 : Int) ^ W = 2 * g ∧ 8 ≤ g ∧ g ≤ 2147483648 := by
  have h1 := h.lo
  have h2 := h.hi
  refine ⟨_, rfl, ?_, ?_, ?_⟩
  · have : W = (W - 1) + 1 := by omega
    rw [this, Int.pow_succ]
    simp only [Nat.add_sub_cancel]
    omega
  · have := Nat.pow_le_pow_right (show 0 < 2 by omega) (show 3 ≤ W - 1 by omega)
    have e : ((2 ^ (W - 1) : Nat) : Int) = (2 : Int) ^ (W - 1) := by simp
    omega
  · have := Nat.pow_le_pow_right (show 0 < 2 by omega) (show W - 1 ≤ 31 by omega)
    have e : ((2 ^ (W - 1) : Nat) : Int) = (2 : Int) ^ (W - 1) := by simp
    omega
theorem shl1 (h : W ≤ 1000) : ShlOk 1 (W : Int) := .inl ⟨by omega, by omega, by decide⟩
theorem p_cut {x : Int} (hW : Wd W) (h : R (.ret (.int (x % 2 ^ W))) m) : sp_cut K [.int W, .int x] m R := by
  show w_cut K [some (.int W), some (.int x)] m _
  unfold w_cut
  walk_at "ab"
  refine ⟨shl1 (by have := hW.hi; omega), _, _, GhD.refl, ?_⟩
  rw [PySem.W.kbt_mask]
  exact h
theorem p_sum_of {a b : Int} (hW : Wd W) (h : R (.ret (.tup [.int ((a + b) % 2 ^ W), .int ((a + b) / 2 ^ W)])) m) : sp_sum_of K [.int W, .int a, .int b] m R := by
  show w_sum_of K [some (.int W), some (.int a), some (.int b)] m _
  unfold w_sum_of
  walk_at "ab"
  refine ⟨rfl, p_width hW (nx_go ?_)⟩
  walk_at "ab"
  refine ⟨rfl, p_cut hW ?_⟩
  walk_at "ab"
  exact ⟨by omega, size_line (Nat.le_of_ble_eq_true rfl), _, _, GhD.refl, h⟩
theorem p_gap_of {a b : Int} (hW : Wd W) (h : R (.ret (.tup [.int ((a - b) % 2 ^ W), .int (if decide (a < b) = true then 1 else 0)])) m) : sp_gap_of K [.int W, .int a, .int b] m R := by
  show w_gap_of K [some (.int W), some (.int a), some (.int b)] m _
  unfold w_gap_of
  walk_at "ab"
  refine ⟨rfl, p_width hW (nx_go ?_)⟩
  walk_at "ab"
  refine ⟨rfl, p_cut hW ?_⟩
  walk_at "ab"
  exact ⟨size_line (Nat.le_of_ble_eq_true rfl), _, _, GhD.refl, h⟩
theorem p_low_product {a b : Int} (hW : Wd W) (hm : MulOk a b) (h : R (.ret (.int (a * b % 2 ^ W))) m) : sp_low_product K [.int W, .int a, .int b] m R := by
  show w_low_product K [some (.int W), some (.int a), some (.int b)] m _
  unfold w_low_product
  walk_at "ab"
  refine ⟨rfl, p_width hW (nx_go ?_)⟩
  walk_at "ab"
  refine ⟨hm, rfl, p_cut hW ?_⟩
  exact ⟨_, _, GhD.refl, h⟩
theorem p_high_product {a b : Int} (hW : Wd W) (hm : MulOk a b) (h : R (.ret (.int (a * b / 2 ^ W))) m) : sp_high_product K [.int W, .int a, .int b] m R := by
  show w_high_product K [some (.int W), some (.int a), some (.int b)] m _
  unfold w_high_product
  walk_at "ab"
  refine ⟨rfl, p_width hW (nx_go ?_)⟩
  walk_at "ab"
  exact ⟨hm, by omega, _, _, GhD.refl, h⟩
end
end Ab
end
section
namespace Ab
open PySem PySem.Spec PyProof.Rows L2
local macro_rules | `(tactic| walk_at "vg") => `(tactic| repeat' (first | (with_reducible refine nx_go ?_) | (with_reducible refine seq_go ?_) | (with_reducible refine set_go ?_) | (with_reducible refine call_go ?_) | (with_reducible refine cons_go ?_) | (with_reducible refine nil_go ?_) | ((with_reducible apply var_go); next => exact rfl) | (with_reducible refine con_go ?_) | (with_reducible refine op_go ?_) | (with_reducible refine isbl_go ?_) | (with_reducible refine if_go ?_) | (with_reducible refine isB_go ?_) | (with_reducible refine tru_go ?_) | (with_reducible refine trub_go ?_) | (with_reducible refine tri_go ?_) | (with_reducible refine asg_go ?_) | (with_reducible refine drop_go ?_) | (with_reducible refine ret_go ?_) | (with_reducible refine tup_go ?_) | (with_reducible refine cb_go ?_) | (with_reducible refine rt_int ?_) | (with_reducible refine rt_bl ?_) | (with_reducible refine rt_non ?_) | (with_reducible refine rt_tup ?_) | (with_reducible refine rt_str ?_) | (with_reducible refine rt_lst ?_) | (with_reducible refine rt_new ?_) | (with_reducible refine l1_go ?_) | (with_reducible refine l2_go ?_) | (with_reducible refine l3_go ?_) | (with_reducible refine l4_go ?_) | (with_reducible refine l5_go ?_) | (with_reducible refine l6_go ?_) | (with_reducible refine if_T ?_) | (with_reducible refine if_F ?_) | (with_reducible refine if_n ?_) | (with_reducible refine not_go ?_) | (with_reducible refine or_go ?_) | (with_reducible refine and_go ?_) | (with_reducible refine notv_go ?_) | (with_reducible refine andv_go ?_) | (with_reducible refine orv_go ?_) | (with_reducible refine iff_go ?_) | (with_reducible refine chain_go ?_) | (with_reducible refine add_go ?_) | (with_reducible refine sub_go ?_) | (with_reducible refine lt_go ?_) | (with_reducible refine gt_go ?_) | (with_reducible refine ge_go ?_) | (with_reducible refine le_go ?_) | (with_reducible refine eq_go ?_) | (with_reducible refine ne_go ?_) | (with_reducible refine eqs_go ?_) | (with_reducible refine nes_go ?_) | (with_reducible refine eqb_go ?_) | (with_reducible refine neb_go ?_) | (with_reducible refine int_go ?_) | (with_reducible refine inti_go ?_) | (with_reducible refine band_go ?_) | (with_reducible refine bor_go ?_) | (with_reducible refine iadd_go ?_) | (with_reducible refine min_go ?_) | (with_reducible refine max_go ?_) | (with_reducible refine abs_go ?_) | (with_reducible refine neg_go ?_) | (with_reducible refine bits_go ?_) | ((with_reducible apply mulg); next => first | assumption | exact .inl (.inl ⟨by omega, by omega⟩) | exact .inl (.inr ⟨by omega, by omega⟩)) | ((with_reducible apply divg); next => first | assumption | exact divok (by omega) (by omega)) | ((with_reducible apply modg); next => first | assumption | omega) | ((with_reducible apply shl1g); next => omega) | ((with_reducible apply shlng); next => first | assumption | exact .inl ⟨by omega, by omega, by omega⟩) | ((with_reducible apply shlg); next => first | assumption | exact .inl ⟨by omega, by omega, by omega⟩) | (with_reducible refine shrng ?_) | ((with_reducible apply shrg); next => first | assumption | omega) | ((with_reducible apply pow_g); next => first | assumption | exact ⟨by omega, by omega, by omega⟩) | (with_reducible refine mem_go rfl ?_) | (with_reducible refine two_go ?_) | (with_reducible refine lenl_go ?_) | (with_reducible refine lenf_go ?_) | (with_reducible refine lent_go ?_) | (with_reducible refine lenr_go ?_) | (with_reducible refine idxl_go at0 ?_) | (with_reducible refine idxt_go at0 ?_) | (with_reducible refine idxf_go at0 ?_) | (with_reducible refine idxl_go at1 ?_) | (with_reducible refine idxt_go at1 ?_) | (with_reducible refine idxf_go at1 ?_) | (with_reducible refine idxl_go at2 ?_) | (with_reducible refine idxt_go at2 ?_) | (with_reducible refine idxf_go at2 ?_) | (with_reducible refine idxl_go at3 ?_) | (with_reducible refine idxt_go at3 ?_) | (with_reducible refine idxf_go at3 ?_) | (with_reducible refine idxl_go at4 ?_) | (with_reducible refine idxt_go at4 ?_) | (with_reducible refine idxf_go at4 ?_) | (with_reducible refine idxl_go at5 ?_) | (with_reducible refine idxt_go at5 ?_) | (with_reducible refine idxf_go at5 ?_) | (with_reducible refine idxl_go at_last ?_) | ((with_reducible apply sz_go); next => exact Nat.le_of_ble_eq_true rfl) | (with_reducible refine lstk_go ?_) | (with_reducible refine newt_go ?_) | (with_reducible refine listl_go ?_) | (with_reducible refine listf_go ?_) | (with_reducible refine sl_go ?_) | (with_reducible refine nopart_go ?_) | (with_reducible refine part_go ?_) | (with_reducible refine sll_go ?_) | (with_reducible refine rev_go ?_) | (with_reducible refine mt_go ?_) | (with_reducible refine ist_set ?_) | (with_reducible refine rz1_go ?_) | (with_reducible refine raise_go ?_) | (with_reducible refine nil_s ?_) | (with_reducible refine for_go ?_) | (with_reducible refine iseq_go ?_) | (with_reducible refine skl_go ?_) | (with_reducible refine skf_go ?_) | (with_reducible refine skt_go ?_) | (with_reducible refine ir1_go ?_) | (with_reducible refine ir2_go ?_) | (with_reducible refine ir3_go ?_) | (with_reducible refine ienum_go ?_) | (with_reducible refine par2_go ?_) | (with_reducible refine par3_go ?_) | ((with_reducible apply app_set); next => first | omega | (simp only [List.length_append, List.length_cons, List.length_nil, List.length_map]; omega)) | ((with_reducible apply aug_go); next => exact rfl) | ((with_reducible apply fldv_go); (next => exact rfl); (next => kernel_rfl); (next => exact rfl)) | ((with_reducible apply fldD_go); (next => exact rfl); (next => exact rfl); (next => first | exact setM_same | assumption); (next => kernel_rfl); (next => kernel_rfl); (next => kernel_rfl)) | ((with_reducible apply isOv_go); (next => exact rfl); (next => kernel_rfl); (next => exact rfl)) | ((with_reducible apply mthv_go); (next => exact rfl); (next => kernel_rfl); (next => kernel_rfl); (next => exact rfl)) | ((with_reducible apply isi_T); (next => exact rfl); (next => exact rfl)) | ((with_reducible apply isi_F); (next => exact rfl); (next => exact rfl)) | ((with_reducible apply if_D); next => first | assumption | omega) | ((with_reducible apply if_N); next => first | assumption | omega) | ((with_reducible apply if_t); next => assumption) | ((with_reducible apply if_f); next => assumption) | (dsimp only)))
local macro_rules | `(tactic| walk_at "vh") => `(tactic| repeat' (first | (with_reducible refine seq_go ?_) | (with_reducible refine set_go ?_) | (with_reducible refine call_go ?_) | (with_reducible refine cons_go ?_) | (with_reducible refine nil_go ?_) | ((with_reducible apply var_go); next => exact rfl) | (with_reducible refine con_go ?_) | (with_reducible refine op_go ?_) | (with_reducible refine isbl_go ?_) | (with_reducible refine if_go ?_) | (with_reducible refine isB_go ?_) | (with_reducible refine tru_go ?_) | (with_reducible refine trub_go ?_) | (with_reducible refine tri_go ?_) | (with_reducible refine asg_go ?_) | (with_reducible refine drop_go ?_) | (with_reducible refine ret_go ?_) | (with_reducible refine tup_go ?_) | (with_reducible refine cb_go ?_) | (with_reducible refine rt_int ?_) | (with_reducible refine rt_bl ?_) | (with_reducible refine rt_non ?_) | (with_reducible refine rt_tup ?_) | (with_reducible refine rt_str ?_) | (with_reducible refine rt_lst ?_) | (with_reducible refine rt_new ?_) | (with_reducible refine l1_go ?_) | (with_reducible refine l2_go ?_) | (with_reducible refine l3_go ?_) | (with_reducible refine l4_go ?_) | (with_reducible refine l5_go ?_) | (with_reducible refine l6_go ?_) | (with_reducible refine if_T ?_) | (with_reducible refine if_F ?_) | (with_reducible refine if_n ?_) | (with_reducible refine not_go ?_) | (with_reducible refine or_go ?_) | (with_reducible refine and_go ?_) | (with_reducible refine notv_go ?_) | (with_reducible refine andv_go ?_) | (with_reducible refine orv_go ?_) | (with_reducible refine iff_go ?_) | (with_reducible refine chain_go ?_) | (with_reducible refine add_go ?_) | (with_reducible refine sub_go ?_) | (with_reducible refine lt_go ?_) | (with_reducible refine gt_go ?_) | (with_reducible refine ge_go ?_) | (with_reducible refine le_go ?_) | (with_reducible refine eq_go ?_) | (with_reducible refine ne_go ?_) | (with_reducible refine eqs_go ?_) | (with_reducible refine nes_go ?_) | (with_reducible refine eqb_go ?_) | (with_reducible refine neb_go ?_) | (with_reducible refine int_go ?_) | (with_reducible refine inti_go ?_) | (with_reducible refine band_go ?_) | (with_reducible refine bor_go ?_) | (with_reducible refine iadd_go ?_) | (with_reducible refine min_go ?_) | (with_reducible refine max_go ?_) | (with_reducible refine abs_go ?_) | (with_reducible refine neg_go ?_) | (with_reducible refine bits_go ?_) | ((with_reducible apply mulg); next => first | assumption | exact .inl (.inl ⟨by omega, by omega⟩) | exact .inl (.inr ⟨by omega, by omega⟩)) | ((with_reducible apply divg); next => first | assumption | exact divok (by omega) (by omega)) | ((with_reducible apply modg); next => first | assumption | omega) | ((with_reducible apply shl1g); next => omega) | ((with_reducible apply shlng); next => first | assumption | exact .inl ⟨by omega, by omega, by omega⟩) | ((with_reducible apply shlg); next => first | assumption | exact .inl ⟨by omega, by omega, by omega⟩) | (with_reducible refine shrng ?_) | ((with_reducible apply shrg); next => first | assumption | omega) | ((with_reducible apply pow_g); next => first | assumption | exact ⟨by omega, by omega, by omega⟩) | (with_reducible refine mem_go rfl ?_) | (with_reducible refine two_go ?_) | (with_reducible refine lenl_go ?_) | (with_reducible refine lenf_go ?_) | (with_reducible refine lent_go ?_) | (with_reducible refine lenr_go ?_) | (with_reducible refine idxl_go at0 ?_) | (with_reducible refine idxt_go at0 ?_) | (with_reducible refine idxf_go at0 ?_) | (with_reducible refine idxl_go at1 ?_) | (with_reducible refine idxt_go at1 ?_) | (with_reducible refine idxf_go at1 ?_) | (with_reducible refine idxl_go at2 ?_) | (with_reducible refine idxt_go at2 ?_) | (with_reducible refine idxf_go at2 ?_) | (with_reducible refine idxl_go at3 ?_) | (with_reducible refine idxt_go at3 ?_) | (with_reducible refine idxf_go at3 ?_) | (with_reducible refine idxl_go at4 ?_) | (with_reducible refine idxt_go at4 ?_) | (with_reducible refine idxf_go at4 ?_) | (with_reducible refine idxl_go at5 ?_) | (with_reducible refine idxt_go at5 ?_) | (with_reducible refine idxf_go at5 ?_) | (with_reducible refine idxl_go at_last ?_) | ((with_reducible apply sz_go); next => exact Nat.le_of_ble_eq_true rfl) | (with_reducible refine lstk_go ?_) | (with_reducible refine newt_go ?_) | (with_reducible refine listl_go ?_) | (with_reducible refine listf_go ?_) | (with_reducible refine sl_go ?_) | (with_reducible refine nopart_go ?_) | (with_reducible refine part_go ?_) | (with_reducible refine sll_go ?_) | (with_reducible refine rev_go ?_) | (with_reducible refine mt_go ?_) | (with_reducible refine ist_set ?_) | (with_reducible refine rz1_go ?_) | (with_reducible refine raise_go ?_) | (with_reducible refine nil_s ?_) | (with_reducible refine for_go ?_) | (with_reducible refine iseq_go ?_) | (with_reducible refine skl_go ?_) | (with_reducible refine skf_go ?_) | (with_reducible refine skt_go ?_) | (with_reducible refine ir1_go ?_) | (with_reducible refine ir2_go ?_) | (with_reducible refine ir3_go ?_) | (with_reducible refine ienum_go ?_) | (with_reducible refine par2_go ?_) | (with_reducible refine par3_go ?_) | ((with_reducible apply app_set); next => first | omega | (simp only [List.length_append, List.length_cons, List.length_nil, List.length_map]; omega)) | ((with_reducible apply aug_go); next => exact rfl) | ((with_reducible apply fldv_go); (next => exact rfl); (next => kernel_rfl); (next => exact rfl)) | ((with_reducible apply fldD_go); (next => exact rfl); (next => exact rfl); (next => first | exact setM_same | assumption); (next => kernel_rfl); (next => kernel_rfl); (next => kernel_rfl)) | ((with_reducible apply isOv_go); (next => exact rfl); (next => kernel_rfl); (next => exact rfl)) | ((with_reducible apply mthv_go); (next => exact rfl); (next => kernel_rfl); (next => kernel_rfl); (next => exact rfl)) | ((with_reducible apply isi_T); (next => exact rfl); (next => exact rfl)) | ((with_reducible apply isi_F); (next => exact rfl); (next => exact rfl)) | ((with_reducible apply if_D); next => first | assumption | omega) | ((with_reducible apply if_N); next => first | assumption | omega) | ((with_reducible apply if_t); next => assumption) | ((with_reducible apply if_f); next => assumption) | (dsimp only)))
local macro_rules | `(tactic| walk_at "vs") => `(tactic| repeat' (first | (with_reducible refine nx_go ?_) | (with_reducible refine seq_go ?_) | (with_reducible refine set_go ?_) | (with_reducible refine call_go ?_) | (with_reducible refine cons_go ?_) | (with_reducible refine nil_go ?_) | ((with_reducible apply var_go); next => exact rfl) | (with_reducible refine con_go ?_) | (with_reducible refine op_go ?_) | (with_reducible refine isbl_go ?_) | (with_reducible refine if_go ?_) | (with_reducible refine isB_go ?_) | (with_reducible refine tru_go ?_) | (with_reducible refine trub_go ?_) | (with_reducible refine tri_go ?_) | (with_reducible refine asg_go ?_) | (with_reducible refine drop_go ?_) | (with_reducible refine ret_go ?_) | (with_reducible refine tup_go ?_) | (with_reducible refine cb_go ?_) | (with_reducible refine rt_int ?_) | (with_reducible refine rt_bl ?_) | (with_reducible refine rt_non ?_) | (with_reducible refine rt_tup ?_) | (with_reducible refine rt_str ?_) | (with_reducible refine rt_lst ?_) | (with_reducible refine rt_new ?_) | (with_reducible refine l1_go ?_) | (with_reducible refine l2_go ?_) | (with_reducible refine l3_go ?_) | (with_reducible refine l4_go ?_) | (with_reducible refine l5_go ?_) | (with_reducible refine l6_go ?_) | (with_reducible refine if_T ?_) | (with_reducible refine if_F ?_) | (with_reducible refine if_n ?_) | (with_reducible refine not_go ?_) | (with_reducible refine or_go ?_) | (with_reducible refine and_go ?_) | (with_reducible refine notv_go ?_) | (with_reducible refine andv_go ?_) | (with_reducible refine orv_go ?_) | (with_reducible refine iff_go ?_) | (with_reducible refine chain_go ?_) | (with_reducible refine add_go ?_) | (with_reducible refine sub_go ?_) | (with_reducible refine lt_go ?_) | (with_reducible refine gt_go ?_) | (with_reducible refine ge_go ?_) | (with_reducible refine le_go ?_) | (with_reducible refine eq_go ?_) | (with_reducible refine ne_go ?_) | (with_reducible refine eqs_go ?_) | (with_reducible refine nes_go ?_) | (with_reducible refine eqb_go ?_) | (with_reducible refine neb_go ?_) | (with_reducible refine int_go ?_) | (with_reducible refine inti_go ?_) | (with_reducible refine band_go ?_) | (with_reducible refine bor_go ?_) | (with_reducible refine iadd_go ?_) | (with_reducible refine min_go ?_) | (with_reducible refine max_go ?_) | (with_reducible refine abs_go ?_) | (with_reducible refine neg_go ?_) | (with_reducible refine bits_go ?_) | ((with_reducible apply mulg); next => first | assumption | exact .inl (.inl ⟨by omega, by omega⟩) | exact .inl (.inr ⟨by omega, by omega⟩)) | ((with_reducible apply divg); next => first | assumption | exact divok (by omega) (by omega)) | ((with_reducible apply modg); next => first | assumption | omega) | ((with_reducible apply shl1g); next => omega) | ((with_reducible apply shlng); next => first | assumption | exact .inl ⟨by omega, by omega, by omega⟩) | ((with_reducible apply shlg); next => first | assumption | exact .inl ⟨by omega, by omega, by omega⟩) | (with_reducible refine shrng ?_) | ((with_reducible apply shrg); next => first | assumption | omega) | ((with_reducible apply pow_g); next => first | assumption | exact ⟨by omega, by omega, by omega⟩) | (with_reducible refine mem_go rfl ?_) | (with_reducible refine two_go ?_) | (with_reducible refine lenl_go ?_) | (with_reducible refine lenf_go ?_) | (with_reducible refine lent_go ?_) | (with_reducible refine lenr_go ?_) | (with_reducible refine idxl_go at0 ?_) | (with_reducible refine idxt_go at0 ?_) | (with_reducible refine idxf_go at0 ?_) | (with_reducible refine idxl_go at1 ?_) | (with_reducible refine idxt_go at1 ?_) | (with_reducible refine idxf_go at1 ?_) | (with_reducible refine idxl_go at2 ?_) | (with_reducible refine idxt_go at2 ?_) | (with_reducible refine idxf_go at2 ?_) | (with_reducible refine idxl_go at3 ?_) | (with_reducible refine idxt_go at3 ?_) | (with_reducible refine idxf_go at3 ?_) | (with_reducible refine idxl_go at4 ?_) | (with_reducible refine idxt_go at4 ?_) | (with_reducible refine idxf_go at4 ?_) | (with_reducible refine idxl_go at5 ?_) | (with_reducible refine idxt_go at5 ?_) | (with_reducible refine idxf_go at5 ?_) | (with_reducible refine idxl_go at_last ?_) | ((with_reducible apply sz_go); next => exact Nat.le_of_ble_eq_true rfl) | (with_reducible refine lstk_go ?_) | (with_reducible refine newt_go ?_) | (with_reducible refine listl_go ?_) | (with_reducible refine listf_go ?_) | (with_reducible refine sl_go ?_) | (with_reducible refine nopart_go ?_) | (with_reducible refine part_go ?_) | (with_reducible refine sll_go ?_) | (with_reducible refine rev_go ?_) | (with_reducible refine mt_go ?_) | (with_reducible refine ist_set ?_) | (with_reducible refine rz1_go ?_) | (with_reducible refine raise_go ?_) | (with_reducible refine nil_s ?_) | (with_reducible refine for_go ?_) | (with_reducible refine iseq_go ?_) | (with_reducible refine skl_go ?_) | (with_reducible refine skf_go ?_) | (with_reducible refine skt_go ?_) | (with_reducible refine ir1_go ?_) | (with_reducible refine ir2_go ?_) | (with_reducible refine ir3_go ?_) | (with_reducible refine ienum_go ?_) | (with_reducible refine par2_go ?_) | (with_reducible refine par3_go ?_) | ((with_reducible apply app_set); next => first | omega | (simp only [List.length_append, List.length_cons, List.length_nil, List.length_map]; omega)) | ((with_reducible apply aug_go); next => exact rfl) | ((with_reducible apply fldv_go); (next => exact rfl); (next => kernel_rfl); (next => exact rfl)) | ((with_reducible apply fldD_go); (next => exact rfl); (next => exact rfl); (next => first | exact setM_same | assumption); (next => kernel_rfl); (next => kernel_rfl); (next => kernel_rfl)) | ((with_reducible apply isOv_go); (next => exact rfl); (next => kernel_rfl); (next => exact rfl)) | ((with_reducible apply mthv_go); (next => exact rfl); (next => kernel_rfl); (next => kernel_rfl); (next => exact rfl)) | ((with_reducible apply isi_T); (next => exact rfl); (next => exact rfl)) | ((with_reducible apply isi_F); (next => exact rfl); (next => exact rfl)) | ((with_reducible apply if_D); next => first | assumption | omega) | ((with_reducible apply if_N); next => first | assumption | omega) | ((with_reducible apply if_t); next => assumption) | ((with_reducible apply if_f); next => assumption) | (with_reducible refine if_dec (fun _ => ?_) (fun _ => ?_)) | (dsimp only)))
section
variable {K : PySem.W.Frag} {m : Mem} {R : ARes → Mem → Prop} {W : Nat}
theorem divok {y : Int} (h0 : 0 < y) (h : y < 1099511627776) : DivOk y := by
  refine ⟨h0, .inr ?_⟩
  have := Nat.log2_lt (n := y.natAbs) (k := 40) (by omega)
  omega
theorem Wd.le (h : Wd W) : W ≤ 1000000 := by have := h.hi; omega
end
end Ab
end
local macro_rules | `(tactic| walk_at "vg") => `(tactic| repeat' (first | (with_reducible refine Ab.nx_go ?_) | (with_reducible refine Ab.seq_go ?_) | (with_reducible refine Ab.set_go ?_) | (with_reducible refine Ab.call_go ?_) | (with_reducible refine Ab.cons_go ?_) | (with_reducible refine Ab.nil_go ?_) | ((with_reducible apply Ab.var_go); next => exact rfl) | (with_reducible refine Ab.con_go ?_) | (with_reducible refine Ab.op_go ?_) | (with_reducible refine Ab.isbl_go ?_) | (with_reducible refine Ab.if_go ?_) | (with_reducible refine Ab.isB_go ?_) | (with_reducible refine Ab.tru_go ?_) | (with_reducible refine Ab.trub_go ?_) | (with_reducible refine Ab.tri_go ?_) | (with_reducible refine Ab.asg_go ?_) | (with_reducible refine Ab.drop_go ?_) | (with_reducible refine Ab.ret_go ?_) | (with_reducible refine Ab.tup_go ?_) | (with_reducible refine Ab.cb_go ?_) | (with_reducible refine Ab.rt_int ?_) | (with_reducible refine Ab.rt_bl ?_) | (with_reducible refine Ab.rt_non ?_) | (with_reducible refine Ab.rt_tup ?_) | (with_reducible refine Ab.rt_str ?_) | (with_reducible refine Ab.rt_lst ?_) | (with_reducible refine Ab.rt_new ?_) | (with_reducible refine Ab.l1_go ?_) | (with_reducible refine Ab.l2_go ?_) | (with_reducible refine Ab.l3_go ?_) | (with_reducible refine Ab.l4_go ?_) | (with_reducible refine Ab.l5_go ?_) | (with_reducible refine Ab.l6_go ?_) | (with_reducible refine Ab.if_T ?_) | (with_reducible refine Ab.if_F ?_) | (with_reducible refine Ab.if_n ?_) | (with_reducible refine Ab.not_go ?_) | (with_reducible refine Ab.or_go ?_) | (with_reducible refine Ab.and_go ?_) | (with_reducible refine Ab.notv_go ?_) | (with_reducible refine Ab.andv_go ?_) | (with_reducible refine Ab.orv_go ?_) | (with_reducible refine Ab.iff_go ?_) | (with_reducible refine Ab.chain_go ?_) | (with_reducible refine Ab.add_go ?_) | (with_reducible refine Ab.sub_go ?_) | (with_reducible refine Ab.lt_go ?_) | (with_reducible refine Ab.gt_go ?_) | (with_reducible refine Ab.ge_go ?_) | (with_reducible refine Ab.le_go ?_) | (with_reducible refine Ab.eq_go ?_) | (with_reducible refine Ab.ne_go ?_) | (with_reducible refine Ab.eqs_go ?_) | (with_reducible refine Ab.nes_go ?_) | (with_reducible refine Ab.eqb_go ?_) | (with_reducible refine Ab.neb_go ?_) | (with_reducible refine Ab.int_go ?_) | (with_reducible refine Ab.inti_go ?_) | (with_reducible refine Ab.band_go ?_) | (with_reducible refine Ab.bor_go ?_) | (with_reducible refine Ab.iadd_go ?_) | (with_reducible refine Ab.min_go ?_) | (with_reducible refine Ab.max_go ?_) | (with_reducible refine Ab.abs_go ?_) | (with_reducible refine Ab.neg_go ?_) | (with_reducible refine Ab.bits_go ?_) | ((with_reducible apply Ab.mulg); next => first | assumption | exact .inl (.inl ⟨by omega, by omega⟩) | exact .inl (.inr ⟨by omega, by omega⟩)) | ((with_reducible apply Ab.divg); next => first | assumption | exact Ab.divok (by omega) (by omega)) | ((with_reducible apply Ab.modg); next => first | assumption | omega) | ((with_reducible apply Ab.shl1g); next => omega) | ((with_reducible apply Ab.shlng); next => first | assumption | exact .inl ⟨by omega, by omega, by omega⟩) | ((with_reducible apply Ab.shlg); next => first | assumption | exact .inl ⟨by omega, by omega, by omega⟩) | (with_reducible refine Ab.shrng ?_) | ((with_reducible apply Ab.shrg); next => first | assumption | omega) | ((with_reducible apply Ab.pow_g); next => first | assumption | exact ⟨by omega, by omega, by omega⟩) | (with_reducible refine Ab.mem_go rfl ?_) | (with_reducible refine Ab.two_go ?_) | (with_reducible refine Ab.lenl_go ?_) | (with_reducible refine Ab.lenf_go ?_) | (with_reducible refine Ab.lent_go ?_) | (with_reducible refine Ab.lenr_go ?_) | (with_reducible refine Ab.idxl_go Ab.at0 ?_) | (with_reducible refine Ab.idxt_go Ab.at0 ?_) | (with_reducible refine Ab.idxf_go Ab.at0 ?_) | (with_reducible refine Ab.idxl_go Ab.at1 ?_) | (with_reducible refine Ab.idxt_go Ab.at1 ?_) | (with_reducible refine Ab.idxf_go Ab.at1 ?_) | (with_reducible refine Ab.idxl_go Ab.at2 ?_) | (with_reducible refine Ab.idxt_go Ab.at2 ?_) | (with_reducible refine Ab.idxf_go Ab.at2 ?_) | (with_reducible refine Ab.idxl_go Ab.at3 ?_) | (with_reducible refine Ab.idxt_go Ab.at3 ?_) | (with_reducible refine Ab.idxf_go Ab.at3 ?_) | (with_reducible refine Ab.idxl_go Ab.at4 ?_) | (with_reducible refine Ab.idxt_go Ab.at4 ?_) | (with_reducible refine Ab.idxf_go Ab.at4 ?_) | (with_reducible refine Ab.idxl_go Ab.at5 ?_) | (with_reducible refine Ab.idxt_go Ab.at5 ?_) | (with_reducible refine Ab.idxf_go Ab.at5 ?_) | (with_reducible refine Ab.idxl_go Ab.at_last ?_) | ((with_reducible apply Ab.sz_go); next => exact Nat.le_of_ble_eq_true rfl) | (with_reducible refine Ab.lstk_go ?_) | (with_reducible refine Ab.newt_go ?_) | (with_reducible refine Ab.listl_go ?_) | (with_reducible refine Ab.listf_go ?_) | (with_reducible refine Ab.sl_go ?_) | (with_reducible refine Ab.nopart_go ?_) | (with_reducible refine Ab.part_go ?_) | (with_reducible refine Ab.sll_go ?_) | (with_reducible refine Ab.rev_go ?_) | (with_reducible refine Ab.mt_go ?_) | (with_reducible refine Ab.ist_set ?_) | (with_reducible refine Ab.rz1_go ?_) | (with_reducible refine Ab.raise_go ?_) | (with_reducible refine Ab.nil_s ?_) | (with_reducible refine Ab.for_go ?_) | (with_reducible refine Ab.iseq_go ?_) | (with_reducible refine Ab.skl_go ?_) | (with_reducible refine Ab.skf_go ?_) | (with_reducible refine Ab.skt_go ?_) | (with_reducible refine Ab.ir1_go ?_) | (with_reducible refine Ab.ir2_go ?_) | (with_reducible refine Ab.ir3_go ?_) | (with_reducible refine Ab.ienum_go ?_) | (with_reducible refine Ab.par2_go ?_) | (with_reducible refine Ab.par3_go ?_) | ((with_reducible apply Ab.app_set); next => first | omega | (simp only [List.length_append, List.length_cons, List.length_nil, List.length_map]; omega)) | ((with_reducible apply Ab.aug_go); next => exact rfl) | ((with_reducible apply Ab.fldv_go); (next => exact rfl); (next => kernel_rfl); (next => exact rfl)) | ((with_reducible apply Ab.fldD_go); (next => exact rfl); (next => exact rfl); (next => first | exact Ab.setM_same | assumption); (next => kernel_rfl); (next => kernel_rfl); (next => kernel_rfl)) | ((with_reducible apply Ab.isOv_go); (next => exact rfl); (next => kernel_rfl); (next => exact rfl)) | ((with_reducible apply Ab.mthv_go); (next => exact rfl); (next => kernel_rfl); (next => kernel_rfl); (next => exact rfl)) | ((with_reducible apply Ab.isi_T); (next => exact rfl); (next => exact rfl)) | ((with_reducible apply Ab.isi_F); (next => exact rfl); (next => exact rfl)) | (with_reducible refine Ab.p_width (by assumption) ?_) | (with_reducible refine Ab.p_cut (by assumption) ?_) | (with_reducible refine Ab.p_gap_of (by assumption) ?_) | (with_reducible refine Ab.p_sum_of (by assumption) ?_) | ((with_reducible apply Ab.p_low_product); (next => assumption); (next => first | assumption | exact .inl (.inl ⟨by omega, by omega⟩) | exact .inl (.inr ⟨by omega, by omega⟩))) | ((with_reducible apply Ab.p_high_product); (next => assumption); (next => first | assumption | exact .inl (.inl ⟨by omega, by omega⟩) | exact .inl (.inr ⟨by omega, by omega⟩))) | ((with_reducible apply Ab.if_D); next => first | assumption | omega) | ((with_reducible apply Ab.if_N); next => first | assumption | omega) | ((with_reducible apply Ab.if_t); next => assumption) | ((with_reducible apply Ab.if_f); next => assumption) | (dsimp only)))
local macro_rules | `(tactic| walk_at "vh") => `(tactic| repeat' (first | (with_reducible refine Ab.seq_go ?_) | (with_reducible refine Ab.set_go ?_) | (with_reducible refine Ab.call_go ?_) | (with_reducible refine Ab.cons_go ?_) | (with_reducible refine Ab.nil_go ?_) | ((with_reducible apply Ab.var_go); next => exact rfl) | (with_reducible refine Ab.con_go ?_) | (with_reducible refine Ab.op_go ?_) | (with_reducible refine Ab.isbl_go ?_) | (with_reducible refine Ab.if_go ?_) | (with_reducible refine Ab.isB_go ?_) | (with_reducible refine Ab.tru_go ?_) | (with_reducible refine Ab.trub_go ?_) | (with_reducible refine Ab.tri_go ?_) | (with_reducible refine Ab.asg_go ?_) | (with_reducible refine Ab.drop_go ?_) | (with_reducible refine Ab.ret_go ?_) | (with_reducible refine Ab.tup_go ?_) | (with_reducible refine Ab.cb_go ?_) | (with_reducible refine Ab.rt_int ?_) | (with_reducible refine Ab.rt_bl ?_) | (with_reducible refine Ab.rt_non ?_) | (with_reducible refine Ab.rt_tup ?_) | (with_reducible refine Ab.rt_str ?_) | (with_reducible refine Ab.rt_lst ?_) | (with_reducible refine Ab.rt_new ?_) | (with_reducible refine Ab.l1_go ?_) | (with_reducible refine Ab.l2_go ?_) | (with_reducible refine Ab.l3_go ?_) | (with_reducible refine Ab.l4_go ?_) | (with_reducible refine Ab.l5_go ?_) | (with_reducible refine Ab.l6_go ?_) | (with_reducible refine Ab.if_T ?_) | (with_reducible refine Ab.if_F ?_) | (with_reducible refine Ab.if_n ?_) | (with_reducible refine Ab.not_go ?_) | (with_reducible refine Ab.or_go ?_) | (with_reducible refine Ab.and_go ?_) | (with_reducible refine Ab.notv_go ?_) | (with_reducible refine Ab.andv_go ?_) | (with_reducible refine Ab.orv_go ?_) | (with_reducible refine Ab.iff_go ?_) | (with_reducible refine Ab.chain_go ?_) | (with_reducible refine Ab.add_go ?_) | (with_reducible refine Ab.sub_go ?_) | (with_reducible refine Ab.lt_go ?_) | (with_reducible refine Ab.gt_go ?_) | (with_reducible refine Ab.ge_go ?_) | (with_reducible refine Ab.le_go ?_) | (with_reducible refine Ab.eq_go ?_) | (with_reducible refine Ab.ne_go ?_) | (with_reducible refine Ab.eqs_go ?_) | (with_reducible refine Ab.nes_go ?_) | (with_reducible refine Ab.eqb_go ?_) | (with_reducible refine Ab.neb_go ?_) | (with_reducible refine Ab.int_go ?_) | (with_reducible refine Ab.inti_go ?_) | (with_reducible refine Ab.band_go ?_) | (with_reducible refine Ab.bor_go ?_) | (with_reducible refine Ab.iadd_go ?_) | (with_reducible refine Ab.min_go ?_) | (with_reducible refine Ab.max_go ?_) | (with_reducible refine Ab.abs_go ?_) | (with_reducible refine Ab.neg_go ?_) | (with_reducible refine Ab.bits_go ?_) | ((with_reducible apply Ab.mulg); next => first | assumption | exact .inl (.inl ⟨by omega, by omega⟩) | exact .inl (.inr ⟨by omega, by omega⟩)) | ((with_reducible apply Ab.divg); next => first | assumption | exact Ab.divok (by omega) (by omega)) | ((with_reducible apply Ab.modg); next => first | assumption | omega) | ((with_reducible apply Ab.shl1g); next => omega) | ((with_reducible apply Ab.shlng); next => first | assumption | exact .inl ⟨by omega, by omega, by omega⟩) | ((with_reducible apply Ab.shlg); next => first | assumption | exact .inl ⟨by omega, by omega, by omega⟩) | (with_reducible refine Ab.shrng ?_) | ((with_reducible apply Ab.shrg); next => first | assumption | omega) | ((with_reducible apply Ab.pow_g); next => first | assumption | exact ⟨by omega, by omega, by omega⟩) | (with_reducible refine Ab.mem_go rfl ?_) | (with_reducible refine Ab.two_go ?_) | (with_reducible refine Ab.lenl_go ?_) | (with_reducible refine Ab.lenf_go ?_) | (with_reducible refine Ab.lent_go ?_) | (with_reducible refine Ab.lenr_go ?_) | (with_reducible refine Ab.idxl_go Ab.at0 ?_) | (with_reducible refine Ab.idxt_go Ab.at0 ?_) | (with_reducible refine Ab.idxf_go Ab.at0 ?_) | (with_reducible refine Ab.idxl_go Ab.at1 ?_) | (with_reducible refine Ab.idxt_go Ab.at1 ?_) | (with_reducible refine Ab.idxf_go Ab.at1 ?_) | (with_reducible refine Ab.idxl_go Ab.at2 ?_) | (with_reducible refine Ab.idxt_go Ab.at2 ?_) | (with_reducible refine Ab.idxf_go Ab.at2 ?_) | (with_reducible refine Ab.idxl_go Ab.at3 ?_) | (with_reducible refine Ab.idxt_go Ab.at3 ?_) | (with_reducible refine Ab.idxf_go Ab.at3 ?_) | (with_reducible refine Ab.idxl_go Ab.at4 ?_) | (with_reducible refine Ab.idxt_go Ab.at4 ?_) | (with_reducible refine Ab.idxf_go Ab.at4 ?_) | (with_reducible refine Ab.idxl_go Ab.at5 ?_) | (with_reducible refine Ab.idxt_go Ab.at5 ?_) | (with_reducible refine Ab.idxf_go Ab.at5 ?_) | (with_reducible refine Ab.idxl_go Ab.at_last ?_) | ((with_reducible apply Ab.sz_go); next => exact Nat.le_of_ble_eq_true rfl) | (with_reducible refine Ab.lstk_go ?_) | (with_reducible refine Ab.newt_go ?_) | (with_reducible refine Ab.listl_go ?_) | (with_reducible refine Ab.listf_go ?_) | (with_reducible refine Ab.sl_go ?_) | (with_reducible refine Ab.nopart_go ?_) | (with_reducible refine Ab.part_go ?_) | (with_reducible refine Ab.sll_go ?_) | (with_reducible refine Ab.rev_go ?_) | (with_reducible refine Ab.mt_go ?_) | (with_reducible refine Ab.ist_set ?_) | (with_reducible refine Ab.rz1_go ?_) | (with_reducible refine Ab.raise_go ?_) | (with_reducible refine Ab.nil_s ?_) | (with_reducible refine Ab.for_go ?_) | (with_reducible refine Ab.iseq_go ?_) | (with_reducible refine Ab.skl_go ?_) | (with_reducible refine Ab.skf_go ?_) | (with_reducible refine Ab.skt_go ?_) | (with_reducible refine Ab.ir1_go ?_) | (with_reducible refine Ab.ir2_go ?_) | (with_reducible refine Ab.ir3_go ?_) | (with_reducible refine Ab.ienum_go ?_) | (with_reducible refine Ab.par2_go ?_) | (with_reducible refine Ab.par3_go ?_) | ((with_reducible apply Ab.app_set); next => first | omega | (simp only [List.length_append, List.length_cons, List.length_nil, List.length_map]; omega)) | ((with_reducible apply Ab.aug_go); next => exact rfl) | ((with_reducible apply Ab.fldv_go); (next => exact rfl); (next => kernel_rfl); (next => exact rfl)) | ((with_reducible apply Ab.fldD_go); (next => exact rfl); (next => exact rfl); (next => first | exact Ab.setM_same | assumption); (next => kernel_rfl); (next => kernel_rfl); (next => kernel_rfl)) | ((with_reducible apply Ab.isOv_go); (next => exact rfl); (next => kernel_rfl); (next => exact rfl)) | ((with_reducible apply Ab.mthv_go); (next => exact rfl); (next => kernel_rfl); (next => kernel_rfl); (next => exact rfl)) | ((with_reducible apply Ab.isi_T); (next => exact rfl); (next => exact rfl)) | ((with_reducible apply Ab.isi_F); (next => exact rfl); (next => exact rfl)) | (with_reducible refine Ab.p_width (by assumption) ?_) | (with_reducible refine Ab.p_cut (by assumption) ?_) | (with_reducible refine Ab.p_gap_of (by assumption) ?_) | (with_reducible refine Ab.p_sum_of (by assumption) ?_) | ((with_reducible apply Ab.p_low_product); (next => assumption); (next => first | assumption | exact .inl (.inl ⟨by omega, by omega⟩) | exact .inl (.inr ⟨by omega, by omega⟩))) | ((with_reducible apply Ab.p_high_product); (next => assumption); (next => first | assumption | exact .inl (.inl ⟨by omega, by omega⟩) | exact .inl (.inr ⟨by omega, by omega⟩))) | ((with_reducible apply Ab.if_D); next => first | assumption | omega) | ((with_reducible apply Ab.if_N); next => first | assumption | omega) | ((with_reducible apply Ab.if_t); next => assumption) | ((with_reducible apply Ab.if_f); next => assumption) | (dsimp only)))
local macro_rules | `(tactic| walk_at "vs") => `(tactic| repeat' (first | (with_reducible refine Ab.nx_go ?_) | (with_reducible refine Ab.seq_go ?_) | (with_reducible refine Ab.set_go ?_) | (with_reducible refine Ab.call_go ?_) | (with_reducible refine Ab.cons_go ?_) | (with_reducible refine Ab.nil_go ?_) | ((with_reducible apply Ab.var_go); next => exact rfl) | (with_reducible refine Ab.con_go ?_) | (with_reducible refine Ab.op_go ?_) | (with_reducible refine Ab.isbl_go ?_) | (with_reducible refine Ab.if_go ?_) | (with_reducible refine Ab.isB_go ?_) | (with_reducible refine Ab.tru_go ?_) | (with_reducible refine Ab.trub_go ?_) | (with_reducible refine Ab.tri_go ?_) | (with_reducible refine Ab.asg_go ?_) | (with_reducible refine Ab.drop_go ?_) | (with_reducible refine Ab.ret_go ?_) | (with_reducible refine Ab.tup_go ?_) | (with_reducible refine Ab.cb_go ?_) | (with_reducible refine Ab.rt_int ?_) | (with_reducible refine Ab.rt_bl ?_) | (with_reducible refine Ab.rt_non ?_) | (with_reducible refine Ab.rt_tup ?_) | (with_reducible refine Ab.rt_str ?_) | (with_reducible refine Ab.rt_lst ?_) | (with_reducible refine Ab.rt_new ?_) | (with_reducible refine Ab.l1_go ?_) | (with_reducible refine Ab.l2_go ?_) | (with_reducible refine Ab.l3_go ?_) | (with_reducible refine Ab.l4_go ?_) | (with_reducible refine Ab.l5_go ?_) | (with_reducible refine Ab.l6_go ?_) | (with_reducible refine Ab.if_T ?_) | (with_reducible refine Ab.if_F ?_) | (with_reducible refine Ab.if_n ?_) | (with_reducible refine Ab.not_go ?_) | (with_reducible refine Ab.or_go ?_) | (with_reducible refine Ab.and_go ?_) | (with_reducible refine Ab.notv_go ?_) | (with_reducible refine Ab.andv_go ?_) | (with_reducible refine Ab.orv_go ?_) | (with_reducible refine Ab.iff_go ?_) | (with_reducible refine Ab.chain_go ?_) | (with_reducible refine Ab.add_go ?_) | (with_reducible refine Ab.sub_go ?_) | (with_reducible refine Ab.lt_go ?_) | (with_reducible refine Ab.gt_go ?_) | (with_reducible refine Ab.ge_go ?_) | (with_reducible refine Ab.le_go ?_) | (with_reducible refine Ab.eq_go ?_) | (with_reducible refine Ab.ne_go ?_) | (with_reducible refine Ab.eqs_go ?_) | (with_reducible refine Ab.nes_go ?_) | (with_reducible refine Ab.eqb_go ?_) | (with_reducible refine Ab.neb_go ?_) | (with_reducible refine Ab.int_go ?_) | (with_reducible refine Ab.inti_go ?_) | (with_reducible refine Ab.band_go ?_) | (with_reducible refine Ab.bor_go ?_) | (with_reducible refine Ab.iadd_go ?_) | (with_reducible refine Ab.min_go ?_) | (with_reducible refine Ab.max_go ?_) | (with_reducible refine Ab.abs_go ?_) | (with_reducible refine Ab.neg_go ?_) | (with_reducible refine Ab.bits_go ?_) | ((with_reducible apply Ab.mulg); next => first | assumption | exact .inl (.inl ⟨by omega, by omega⟩) | exact .inl (.inr ⟨by omega, by omega⟩)) | ((with_reducible apply Ab.divg); next => first | assumption | exact Ab.divok (by omega) (by omega)) | ((with_reducible apply Ab.modg); next => first | assumption | omega) | ((with_reducible apply Ab.shl1g); next => omega) | ((with_reducible apply Ab.shlng); next => first | assumption | exact .inl ⟨by omega, by omega, by omega⟩) | ((with_reducible apply Ab.shlg); next => first | assumption | exact .inl ⟨by omega, by omega, by omega⟩) | (with_reducible refine Ab.shrng ?_) | ((with_reducible apply Ab.shrg); next => first | assumption | omega) | ((with_reducible apply Ab.pow_g); next => first | assumption | exact ⟨by omega, by omega, by omega⟩) | (with_reducible refine Ab.mem_go rfl ?_) | (with_reducible refine Ab.two_go ?_) | (with_reducible refine Ab.lenl_go ?_) | (with_reducible refine Ab.lenf_go ?_) | (with_reducible refine Ab.lent_go ?_) | (with_reducible refine Ab.lenr_go ?_) | (with_reducible refine Ab.idxl_go Ab.at0 ?_) | (with_reducible refine Ab.idxt_go Ab.at0 ?_) | (with_reducible refine Ab.idxf_go Ab.at0 ?_) | (with_reducible refine Ab.idxl_go Ab.at1 ?_) | (with_reducible refine Ab.idxt_go Ab.at1 ?_) | (with_reducible refine Ab.idxf_go Ab.at1 ?_) | (with_reducible refine Ab.idxl_go Ab.at2 ?_) | (with_reducible refine Ab.idxt_go Ab.at2 ?_) | (with_reducible refine Ab.idxf_go Ab.at2 ?_) | (with_reducible refine Ab.idxl_go Ab.at3 ?_) | (with_reducible refine Ab.idxt_go Ab.at3 ?_) | (with_reducible refine Ab.idxf_go Ab.at3 ?_) | (with_reducible refine Ab.idxl_go Ab.at4 ?_) | (with_reducible refine Ab.idxt_go Ab.at4 ?_) | (with_reducible refine Ab.idxf_go Ab.at4 ?_) | (with_reducible refine Ab.idxl_go Ab.at5 ?_) | (with_reducible refine Ab.idxt_go Ab.at5 ?_) | (with_reducible refine Ab.idxf_go Ab.at5 ?_) | (with_reducible refine Ab.idxl_go Ab.at_last ?_) | ((with_reducible apply Ab.sz_go); next => exact Nat.le_of_ble_eq_true rfl) | (with_reducible refine Ab.lstk_go ?_) | (with_reducible refine Ab.newt_go ?_) | (with_reducible refine Ab.listl_go ?_) | (with_reducible refine Ab.listf_go ?_) | (with_reducible refine Ab.sl_go ?_) | (with_reducible refine Ab.nopart_go ?_) | (with_reducible refine Ab.part_go ?_) | (with_reducible refine Ab.sll_go ?_) | (with_reducible refine Ab.rev_go ?_) | (with_reducible refine Ab.mt_go ?_) | (with_reducible refine Ab.ist_set ?_) | (with_reducible refine Ab.rz1_go ?_) | (with_reducible refine Ab.raise_go ?_) | (with_reducible refine Ab.nil_s ?_) | (with_reducible refine Ab.for_go ?_) | (with_reducible refine Ab.iseq_go ?_) | (with_reducible refine Ab.skl_go ?_) | (with_reducible refine Ab.skf_go ?_) | (with_reducible refine Ab.skt_go ?_) | (with_reducible refine Ab.ir1_go ?_) | (with_reducible refine Ab.ir2_go ?_) | (with_reducible refine Ab.ir3_go ?_) | (with_reducible refine Ab.ienum_go ?_) | (with_reducible refine Ab.par2_go ?_) | (with_reducible refine Ab.par3_go ?_) | ((with_reducible apply Ab.app_set); next => first | omega | (simp only [List.length_append, List.length_cons, List.length_nil, List.length_map]; omega)) | ((with_reducible apply Ab.aug_go); next => exact rfl) | ((with_reducible apply Ab.fldv_go); (next => exact rfl); (next => kernel_rfl); (next => exact rfl)) | ((with_reducible apply Ab.fldD_go); (next => exact rfl); (next => exact rfl); (next => first | exact Ab.setM_same | assumption); (next => kernel_rfl); (next => kernel_rfl); (next => kernel_rfl)) | ((with_reducible apply Ab.isOv_go); (next => exact rfl); (next => kernel_rfl); (next => exact rfl)) | ((with_reducible apply Ab.mthv_go); (next => exact rfl); (next => kernel_rfl); (next => kernel_rfl); (next => exact rfl)) | ((with_reducible apply Ab.isi_T); (next => exact rfl); (next => exact rfl)) | ((with_reducible apply Ab.isi_F); (next => exact rfl); (next => exact rfl)) | (with_reducible refine Ab.p_width (by assumption) ?_) | (with_reducible refine Ab.p_cut (by assumption) ?_) | (with_reducible refine Ab.p_gap_of (by assumption) ?_) | (with_reducible refine Ab.p_sum_of (by assumption) ?_) | ((with_reducible apply Ab.p_low_product); (next => assumption); (next => first | assumption | exact .inl (.inl ⟨by omega, by omega⟩) | exact .inl (.inr ⟨by omega, by omega⟩))) | ((with_reducible apply Ab.p_high_product); (next => assumption); (next => first | assumption | exact .inl (.inl ⟨by omega, by omega⟩) | exact .inl (.inr ⟨by omega, by omega⟩))) | ((with_reducible apply Ab.if_D); next => first | assumption | omega) | ((with_reducible apply Ab.if_N); next => first | assumption | omega) | ((with_reducible apply Ab.if_t); next => assumption) | ((with_reducible apply Ab.if_f); next => assumption) | (with_reducible refine Ab.if_dec (fun _ => ?_) (fun _ => ?_)) | (dsimp only)))
section
namespace Ab
open PySem PySem.Spec PyProof.Rows L2
section
variable {K : PySem.W.Frag} {m : Mem} {R : ARes → Mem → Prop} {W : Nat}
abbrev dl (ws : List Int) : D := .lst (ws.map D.int)
/-- a list, of either kind -/
def LsF (d : D) (xs : List D) : Prop := d = .lst xs ∨ d = .frl xs
theorem LsF.inj {d : D} {xs ys : List D} (h : LsF d xs) (h2 : LsF d ys) : xs = ys := by
  rcases h with rfl | rfl <;> rcases h2 with h2 | h2 <;> cases h2 <;> rfl
end
end Ab
end
section
namespace Ab
open PySem PySem.Spec PyProof.Rows L2
section
variable {K : PySem.W.Frag} {m : Mem} {R : ARes → Mem → Prop} {W : Nat}
theorem at_dl {ws : List Int} {i : Nat} (h : i < ws.length) : atI (ws.map D.int) (i : Int) = some (.int ws[i]) :=
  at_nat (by omega) (by rw [Int.toNat_natCast, List.getElem?_map, List.getElem?_eq_getElem h]; rfl)
theorem at_dl' {ws : List Int} {i : Nat} {j : Int} (e : j = i) (h : i < ws.length) : atI (ws.map D.int) j = some (.int ws[i]) := by rw [e]; exact at_dl h
theorem cut_to {α : Type} {xs : List D} {n : Nat} (h : n ≤ xs.length) : cutD xs none (some (n : Int)) = xs.take n := by
  unfold cutD
  rw [HT.sIx_nat, Nat.min_eq_left h]
  show (xs.drop 0).take (n - 0) = _
  simp
theorem trim_take {ws : List Int} {n : Nat} (hn : n < ws.length) (h : ws[n] = 0) : Lm.trim (ws.take (n + 1)) = Lm.trim (ws.take n) := by
  rw [← List.take_append_getElem hn, h, Lm.trim_snoc0]
/-- what a list that may be changed holds -/
structure LR (m : Mem) (d : D) (xs : List D) : Prop where
  rs : res m d = .lst xs
theorem LR.dl {ws : List Int} : LR m (dl ws) (ws.map D.int) := ⟨rfl⟩
theorem LR.at {a : Addr} {xs : List D} (h : m a = some (.lst xs)) : LR m (.raw (.ref a)) xs := ⟨res_some h⟩
theorem LR.set {a : Addr} {xs : List D} : LR (setM m a (.lst xs)) (.raw (.ref a)) xs := ⟨res_set⟩
theorem idx_lr {d : D} {xs : List D} {y : D} {i : Int} {k : KE} (L : LR m d xs) (h : atI xs i = some y) (hk : k y m) : oIdx m (res m d) (res m (.int i)) k := by
  rw [L.rs]
  exact ⟨y, h, hk⟩
theorem len_lr {d : D} {xs : List D} {k : KE} (L : LR m d xs) (hk : k (.int xs.length) m) : cLen m ([d].map (res m)) k := by
  show cLen m [res m d] k
  rw [L.rs]
  exact hk
theorem sl_lr {d : D} {xs : List D} {z : Bool} {lo hi : Option Int} {k : KE} (L : LR m d xs) (hk : newK z (.lst (cutD xs lo hi)) m k) : oSl z m (res m d) lo hi k := by
  rw [L.rs]
  exact hk
theorem p_trimmedR {d : D} {ws : List Int} (L : LR m d (ws.map D.int)) {Z : D → Mem → Prop} (h : newK false (dl (Lm.trim ws)) m Z) (hR : ∀ d m1, Z d m1 → ∃ d' m', GhD d m1 d' m' ∧ R (.ret d') m') : sp_trimmed K [d] m R := by
  show w_trimmed K [some d, none] m _
  unfold w_trimmed
  walk_at "vg"
  refine len_lr L ?_
  walk_at "vg"
  rw [List.length_map]
  refine while_go (fun n v m' => m' = m ∧ v = [some d, some (.int (n : Nat))] ∧ n ≤ ws.length ∧ Lm.trim (ws.take n) = Lm.trim ws) ⟨ws.length, rfl, rfl, Nat.le_refl _, by rw [List.take_length]⟩ ?_
  rintro n v m' ⟨rfl, rfl, hn, ht⟩
  have fin : (∀ k, n = k + 1 → ws[k]? ≠ some 0) → Nx (w_trimmed_1 K) ⟨fun x m => R (.ret .non) m, fun d m => R (.ret d) m, fun _ _ => False, fun _ _ => False, fun x _ m => R (.exc x) m⟩ [some d, some (.int (n : Nat))] m' := by
    intro hk
    refine nx_go ?_
    unfold w_trimmed_1
    walk_at "vg"
    refine sl_lr L ?_
    rw [cut_to (α := Unit) (by rw [List.length_map]; exact hn), ← List.map_take]
    have e : Lm.trim ws = ws.take n := by
      rw [← ht]
      cases n with
      | zero => rfl
      | succ k =>
        have hk1 : k < ws.length := by omega
        have h0 := hk k rfl
        rw [List.getElem?_eq_getElem hk1] at h0
        rw [← List.take_append_getElem hk1]
        exact Lm.trim_snoc (fun z => h0 (by rw [z]))
    rw [e] at h
    intro a ha
    exact hR _ _ (h a ha)
  walk_at "vg"
  refine if_dec (fun c => ?_) (fun c => ?_)
  · obtain ⟨k, rfl⟩ : ∃ k, n = k + 1 := ⟨n - 1, by omega⟩
    have hk : k < ws.length := by omega
    walk_at "vg"
    refine idx_lr L (at_dl' (i := k) (by omega) hk) ?_
    walk_at "vg"
    refine if_dec (fun c2 => ?_) (fun c2 => ?_)
    · walk_at "vg"
      unfold w_trimmed_2
      walk_at "vg"
      refine ⟨_, _, k, Gh.refl, by omega, rfl, ?_, by omega, by rw [← trim_take hk c2]; exact ht⟩
      have e : (((k + 1 : Nat) : Int) - 1) = (k : Int) := by omega
      show [some d, some (D.int (((k + 1 : Nat) : Int) - 1))] = _
      rw [e]
    · walk_at "vh"
      refine fin fun j hj => ?_
      obtain rfl : k = j := by omega
      rw [List.getElem?_eq_getElem hk]
      simpa using c2
  · walk_at "vh"
    refine fin fun j hj => ?_
    omega
theorem p_trimmed {ws : List Int} (h : R (.ret (dl (Lm.trim ws))) m) : sp_trimmed K [dl ws] m R :=
  p_trimmedR LR.dl (Z := fun d m1 => ∃ d' m', GhD d m1 d' m' ∧ R (.ret d') m') (rt_new h) (fun _ _ z => z)
end
end Ab
end
section
namespace Ab
open PySem PySem.Spec PyProof.Rows L2
section
variable {K : PySem.W.Frag} {m : Mem} {R : ARes → Mem → Prop} {W : Nat}
theorem Wd.one (h : Wd W) : (1 : Int) < 2 ^ W := by
  obtain ⟨g, g1, g2, g3, g4⟩ := h.pw
  omega
end
end Ab
end
section
namespace Ab
open PySem PySem.Spec PyProof.Rows L2
--pps
end Ab
end
section
namespace Ab
open PySem PySem.Spec PyProof.Rows L2
--pps
section
variable {K : PySem.W.Frag} {m : Mem} {R : ARes → Mem → Prop} {W : Nat}
/-- the inverse of an odd word -/
structure Inv (W : Nat) (d x : Int) : Prop where
  h0 : 0 ≤ x
  h1 : x < 2 ^ W
  h2 : x * d % 2 ^ W = 1 % 2 ^ W
end
end Ab
end
section
namespace Ab
open PySem PySem.Spec PyProof.Rows L2
--pps
end Ab
end
section
namespace Lm
/-- the words of a gap -/
def sub (B : Int) : Int → List Int → List Int → List Int
  | _, [], _ => []
  | b, w :: r, ss => ((w - ss.headD 0) % B - b) % B :: sub B ((if w < ss.headD 0 then 1 else 0) + (if (w - ss.headD 0) % B < b then 1 else 0)) r ss.tail
end Lm
end
section
namespace Ab
open PySem PySem.Spec PyProof.Rows L2
--pps
end Ab
end
section
namespace Ab
open PySem PySem.Spec PyProof.Rows L2
--pps
end Ab
end
section
namespace Ab
open PySem PySem.Spec PyProof.Rows L2
--pps
section
variable {K : PySem.W.Frag} {m : Mem} {R : ARes → Mem → Prop} {W : Nat}
theorem idx_take {xs : List D} {i : Int} {k : KE} (h0 : 0 ≤ i) (h1 : i < xs.length) (hk : ∀ y ∈ xs, k y m) : oIdx m (res m (.lst xs)) (res m (.int i)) k :=
  ⟨xs[i.toNat]'(by omega), at_nat h0 (List.getElem?_eq_getElem _), hk _ (List.getElem_mem _)⟩
theorem box_mono {a : Addr} {n k : Nat} (h : Box m a n) (hk : n ≤ k) : Box m a k := by
  obtain ⟨b0, b1, b2, b3, e, v0, v2, v3, v4, v5⟩ := h
  exact ⟨b0, b1, b2, b3, e, v0, v2, v3, v4, by omega⟩
theorem box_same {m' : Mem} {a : Addr} {n : Nat} (h : Box m a n) (e : m' a = m a) : Box m' a n := by
  obtain ⟨b0, b1, b2, b3, q, v⟩ := h
  exact ⟨b0, b1, b2, b3, e.trans q, v⟩
theorem box_ne {a b : Addr} {n : Nat} (h : Box m a n) (hb : m b = none) : a ≠ b := by
  rintro rfl
  obtain ⟨_, _, _, _, e, _⟩ := h
  rw [hb] at e
  cases e
/-- one number of a box -/
theorem tk {a : Addr} {n : Nat} {many : Int} (hb : Box m a n) (hn : n < 1000000000) (h0 : 0 < many) (h1 : many < 1099511627776)
    (h : ∀ d m', 0 ≤ d → d < many → (∀ b, b ≠ a → m' b = m b) → Box m' a (n + 1) → R (.ret (.int d)) m') : sp_law_take K [.raw (.ref a), .int many] m R := by
  refine p_law_take hb (by omega) h0 (divok h0 h1) h
end
end Ab
end
section
namespace Ab
open PySem PySem.Spec PyProof.Rows L2
--pps
end Ab
end
section
namespace Ab
open PySem PySem.Spec PyProof.Rows L2
--pps
end Ab
end
section
namespace Ab
open PySem PySem.Spec PyProof.Rows L2
--pps
end Ab
end
section
namespace Ab
open PySem PySem.Spec PyProof.Rows L2
local macro_rules | `(tactic| walk_at "ab") => `(tactic| simp only [sSeq_eq, sSet, sAsg, sAug, sDrop, sRet, sRetN, sIf, sNil, sRaise, gN, gT, gs0, gs1, gSubL, wVar, wCon, wNil, wCons, wOp, Ab.wTru, wIsB, isB_bl, wAnd, wOr, Ab.wNot, wIf, wOfT, wAndV, wOrV, wNotV, wTup, wLst, wNeg, wCB, wSl, wPart, wNoPart, newK_t, newK_f, look0, lookS, List.set_cons_zero, List.set_cons_succ, res_int, res_bl, res_str, res_non, res_lst, res_frl, res_tup, res_ty, res_set, mutL_set, tru_int, tru_bl, tru_non, List.map_cons, List.map_nil, oAdd, oSub, oMul, oDiv, oMod, oPow, oShl, oShr, oAnd, oOr, oXor, oIAdd, oIMul, oEq, oNe, oLt, oLe, oGt, oGe, oIs, oIsNot, oIdx, oSl, cInt, cAbs, cLen, cMax, cMin, cSum, cDivmod, cStr, cList, cTuple, cIsi, isi_ty, wMt, isT, mAppend, at0, at1, at2, at3, ex_some, ix40, ix43, setM_setM, wCall, Int.toNat_natCast, Int.one_mul, tn1, tn2, tn3, tn4, tn5, tn6, true_and, isNonD, tyD, true_implies, false_implies, Bool.true_eq_false, Bool.false_eq_true, and_true, decide_true, decide_false, Bool.not_true, Bool.not_false, wipeE, iR1, iR2, ity_NoneType_bool, ity_NoneType_int, ity_NoneType_str, ity_NoneType_list, ity_NoneType_tuple, ity_bool_bool, ity_bool_int, ity_bool_str, ity_bool_list, ity_bool_tuple, ity_int_bool, ity_int_int, ity_int_str, ity_int_list, ity_int_tuple, ity_str_bool, ity_str_int, ity_str_str, ity_str_list, ity_str_tuple, ity_list_bool, ity_list_int, ity_list_str, ity_list_list, ity_list_tuple, ity_tuple_bool, ity_tuple_int, ity_tuple_str, ity_tuple_list, ity_tuple_tuple])
/-! ### the plain part: long division by guesses, digits by reciprocals -/
def gr (low word : Int) : Nat → Int → List (Int × Int)
  | 0, _ => []
  | n + 1, r => if word ≤ r * 2 + low / 2 ^ n % 2 then (1, r * 2 + low / 2 ^ n % 2 - word) :: gr low word n (r * 2 + low / 2 ^ n % 2 - word) else (0, r * 2 + low / 2 ^ n % 2) :: gr low word n (r * 2 + low / 2 ^ n % 2)
def gs (g : Int) (l : List (Int × Int)) : Int := l.foldl (fun g p => g * 2 + p.1) g
end Ab
end
section
namespace Ab
open PySem PySem.Spec PyProof.Rows L2
local macro_rules | `(tactic| walk_at "ab") => `(tactic| simp only [sSeq_eq, sSet, sAsg, sAug, sDrop, sRet, sRetN, sIf, sNil, sRaise, gN, gT, gs0, gs1, gSubL, wVar, wCon, wNil, wCons, wOp, Ab.wTru, wIsB, isB_bl, wAnd, wOr, Ab.wNot, wIf, wOfT, wAndV, wOrV, wNotV, wTup, wLst, wNeg, wCB, wSl, wPart, wNoPart, newK_t, newK_f, look0, lookS, List.set_cons_zero, List.set_cons_succ, res_int, res_bl, res_str, res_non, res_lst, res_frl, res_tup, res_ty, res_set, mutL_set, tru_int, tru_bl, tru_non, List.map_cons, List.map_nil, oAdd, oSub, oMul, oDiv, oMod, oPow, oShl, oShr, oAnd, oOr, oXor, oIAdd, oIMul, oEq, oNe, oLt, oLe, oGt, oGe, oIs, oIsNot, oIdx, oSl, cInt, cAbs, cLen, cMax, cMin, cSum, cDivmod, cStr, cList, cTuple, cIsi, isi_ty, wMt, isT, mAppend, at0, at1, at2, at3, ex_some, ix40, ix43, setM_setM, for_eq, iSeq_eq, iR3, seqK_lst, seqK_frl, seqK_tup, wCall, Int.toNat_natCast, Int.one_mul, tn1, tn2, tn3, tn4, tn5, tn6, true_and, isNonD, tyD, true_implies, false_implies, Bool.true_eq_false, Bool.false_eq_true, and_true, decide_true, decide_false, Bool.not_true, Bool.not_false, wipeE, iR1, iR2, ity_NoneType_bool, ity_NoneType_int, ity_NoneType_str, ity_NoneType_list, ity_NoneType_tuple, ity_bool_bool, ity_bool_int, ity_bool_str, ity_bool_list, ity_bool_tuple, ity_int_bool, ity_int_int, ity_int_str, ity_int_list, ity_int_tuple, ity_str_bool, ity_str_int, ity_str_str, ity_str_list, ity_str_tuple, ity_list_bool, ity_list_int, ity_list_str, ity_list_list, ity_list_tuple, ity_tuple_bool, ity_tuple_int, ity_tuple_str, ity_tuple_list, ity_tuple_tuple])
end Ab
end
section
namespace Ab
open PySem PySem.Spec PyProof.Rows L2
local macro_rules | `(tactic| walk_at "ab") => `(tactic| simp only [sSeq_eq, sSet, sAsg, sAug, sDrop, sRet, sRetN, sIf, sNil, sRaise, gN, gT, gs0, gs1, gSubL, wVar, wCon, wNil, wCons, wOp, Ab.wTru, wIsB, isB_bl, wAnd, wOr, Ab.wNot, wIf, wOfT, wAndV, wOrV, wNotV, wTup, wLst, wNeg, wCB, wSl, wPart, wNoPart, newK_t, newK_f, look0, lookS, List.set_cons_zero, List.set_cons_succ, res_int, res_bl, res_str, res_non, res_lst, res_frl, res_tup, res_ty, res_set, mutL_set, tru_int, tru_bl, tru_non, List.map_cons, List.map_nil, oAdd, oSub, oMul, oDiv, oMod, oPow, oShl, oShr, oAnd, oOr, oXor, oIAdd, oIMul, oEq, oNe, oLt, oLe, oGt, oGe, oIs, oIsNot, oIdx, oSl, cInt, cAbs, cLen, cMax, cMin, cSum, cDivmod, cStr, cList, cTuple, cIsi, isi_ty, wMt, isT, mAppend, at0, at1, at2, at3, ex_some, ix40, ix43, setM_setM, wCall, Int.toNat_natCast, Int.one_mul, tn1, tn2, tn3, tn4, tn5, tn6, true_and, isNonD, tyD, true_implies, false_implies, Bool.true_eq_false, Bool.false_eq_true, and_true, decide_true, decide_false, Bool.not_true, Bool.not_false, wipeE, iR1, iR2, ity_NoneType_bool, ity_NoneType_int, ity_NoneType_str, ity_NoneType_list, ity_NoneType_tuple, ity_bool_bool, ity_bool_int, ity_bool_str, ity_bool_list, ity_bool_tuple, ity_int_bool, ity_int_int, ity_int_str, ity_int_list, ity_int_tuple, ity_str_bool, ity_str_int, ity_str_str, ity_str_list, ity_str_tuple, ity_list_bool, ity_list_int, ity_list_str, ity_list_list, ity_list_tuple, ity_tuple_bool, ity_tuple_int, ity_tuple_str, ity_tuple_list, ity_tuple_tuple])
section
variable {K : PySem.W.Frag} {m : Mem} {R : ARes → Mem → Prop} {W : Nat}
/-- the reciprocal of a word with its top bit -/
def rcp (W : Nat) (d : Int) : Int := (2 ^ W * 2 ^ W - 1) / d - 2 ^ W
end
end Ab
end
section
namespace Ab
open PySem PySem.Spec PyProof.Rows L2
local macro_rules | `(tactic| walk_at "ab") => `(tactic| simp -implicitDefEqProofs only [sSeq_eq, sSet, sAsg, sAug, sDrop, sRet, sRetN, sIf, sNil, sRaise, gN, gT, gs0, gs1, gSubL, wVar, wCon, wNil, wCons, wOp, Ab.wTru, wIsB, isB_bl, wAnd, wOr, Ab.wNot, wIf, wOfT, wAndV, wOrV, wNotV, wTup, wLst, wNeg, wCB, wSl, wPart, wNoPart, newK_t, newK_f, look0, lookS, List.set_cons_zero, List.set_cons_succ, res_int, res_bl, res_str, res_non, res_lst, res_frl, res_tup, res_ty, res_set, mutL_set, tru_int, tru_bl, tru_non, List.map_cons, List.map_nil, oAdd, oSub, oMul, oDiv, oMod, oPow, oShl, oShr, oAnd, oOr, oXor, oIAdd, oIMul, oEq, oNe, oLt, oLe, oGt, oGe, oIs, oIsNot, oIdx, oSl, cInt, cAbs, cLen, cMax, cMin, cSum, cDivmod, cStr, cList, cTuple, cIsi, isi_ty, wMt, isT, mAppend, at0, at1, at2, at3, ex_some, ix40, ix43, setM_setM, for_eq, iSeq_eq, iR3, seqK_lst, seqK_frl, seqK_tup, wCall, Int.toNat_natCast, Int.one_mul, tn1, tn2, tn3, tn4, tn5, tn6, true_and, isNonD, tyD, true_implies, false_implies, Bool.true_eq_false, Bool.false_eq_true, and_true, decide_true, decide_false, Bool.not_true, Bool.not_false, wipeE, iR1, iR2, ity_NoneType_bool, ity_NoneType_int, ity_NoneType_str, ity_NoneType_list, ity_NoneType_tuple, ity_bool_bool, ity_bool_int, ity_bool_str, ity_bool_list, ity_bool_tuple, ity_int_bool, ity_int_int, ity_int_str, ity_int_list, ity_int_tuple, ity_str_bool, ity_str_int, ity_str_str, ity_str_list, ity_str_tuple, ity_list_bool, ity_list_int, ity_list_str, ity_list_list, ity_list_tuple, ity_tuple_bool, ity_tuple_int, ity_tuple_str, ity_tuple_list, ity_tuple_tuple])
local macro_rules | `(tactic| walk_at "go") => `(tactic| repeat' (first | (with_reducible refine nx_go ?_) | (with_reducible refine seq_go ?_) | (with_reducible refine call_go ?_) | (with_reducible refine cons_go ?_) | (with_reducible refine nil_go ?_) | ((with_reducible apply var_go); next => exact rfl) | (with_reducible refine con_go ?_) | (with_reducible refine op_go ?_) | (with_reducible refine set_go ?_) | (with_reducible refine asg_go ?_) | (with_reducible refine if_go ?_) | (with_reducible refine isB_go ?_) | (with_reducible refine ret_go ?_) | (with_reducible refine tup_go ?_) | (with_reducible refine cb_go ?_) | (with_reducible refine add_go ?_) | (with_reducible refine sub_go ?_) | (with_reducible refine lt_go ?_) | (with_reducible refine gt_go ?_) | (with_reducible refine ge_go ?_) | (with_reducible refine eq_go ?_) | (with_reducible refine int_go ?_) | (with_reducible refine inti_go ?_) | (with_reducible refine idx0_go ?_) | (with_reducible refine two_go ?_)))
end Ab
end
section
namespace Ab
open PySem PySem.Spec PyProof.Rows L2
--pps
section
variable {K : PySem.W.Frag} {m : Mem} {R : ARes → Mem → Prop} {W : Nat}
/-- how far a divisor is moved -/
structure Turn (W : Nat) (d : Int) (t : Nat) : Prop where
  e : (W : Int) - (Builtin.Int.intBits d : Nat) = (t : Int)
  ht : t < W
  h0 : 2 ^ (W - 1) ≤ d * 2 ^ t
  h1 : d * 2 ^ t < 2 ^ W
theorem addl_go {xs ys : List D} {z : Bool} {k : KE} (h2 : xs.length + ys.length ≤ 16000000) (h : newK z (.lst (xs ++ ys)) m k) : oAdd z m (res m (.lst xs)) (res m (.lst ys)) k := ⟨size_line h2, h⟩
end
end Ab
end
section
namespace Ab
open PySem PySem.Spec PyProof.Rows L2
--pps
section
variable {K : PySem.W.Frag} {m : Mem} {R : ARes → Mem → Prop} {W : Nat}
structure Nrm (W : Nat) (d : Int) : Prop where
  h0 : 2 ^ (W - 1) ≤ d
  h1 : d < 2 ^ W
theorem Nrm.mg {d u1 u0 : Int} (N : Nrm W d) (hW : Wd W) (h1 : 0 ≤ u1) (h2 : u1 < d) (h3 : 0 ≤ u0) (h4 : u0 < 2 ^ W) : Ar.digit (2 ^ W) d (rcp W d) u1 u0 = (u1 * 2 ^ W + u0) / d ∧ Ar.rest (2 ^ W) d (rcp W d) u1 u0 = (u1 * 2 ^ W + u0) % d := by
  obtain ⟨g, g1, g2, g3, g4⟩ := hW.pw
  have a := N.h0
  have b := N.h1
  exact Ar.mg (by omega) (by omega) b rfl h1 h2 h3 h4
/-- the value at a place of a row, 0 where there is none -/
def gt (l : List Int) (i : Nat) : Int := l.getD i 0
end
end Ab
end
section
namespace Ab
open PySem PySem.Spec PyProof.Rows L2
--pps
end Ab
end
section
namespace Ab
open PySem PySem.Spec PyProof.Rows L2
--pps
section
variable {K : PySem.W.Frag} {m : Mem} {R : ARes → Mem → Prop} {W : Nat}
theorem Turn.at {d : Int} {t s : Nat} (T : Turn W d t) (hW : Wd W) (hs : s ≤ t) : (d * 2 ^ s < 2 ^ (W - 1) ↔ s < t) := by
  have h0 := T.h0
  have h1 := T.h1
  obtain ⟨g, g1, g2, g3, g4⟩ := hW.pw
  constructor
  · intro h
    by_cases c : s = t
    · subst c; omega
    · omega
  · intro h
    have hp : (0 : Int) < 2 ^ t := Int.pow_pos (by omega)
    have d0 : 0 < d := by
      by_cases c : 0 < d
      · exact c
      · exfalso
        have : d * 2 ^ t ≤ 0 * 2 ^ t := Int.mul_le_mul_of_nonneg_right (by omega) (by omega)
        omega
    obtain ⟨k, rfl⟩ : ∃ k, t = k + 1 := ⟨t - 1, by omega⟩
    have e : d * 2 ^ (k + 1) = d * 2 ^ k * 2 := by rw [Int.pow_succ]; grind
    have le : (2 : Int) ^ s ≤ 2 ^ k := Lm.pow_mono (by omega) (by omega)
    have le2 : d * 2 ^ s ≤ d * 2 ^ k := Int.mul_le_mul_of_nonneg_left le (by omega)
    omega
end
end Ab
end
section
namespace K29
open PySem PySem.Spec PyProof.Rows L2 Ab
section
variable {K : PySem.W.Frag} {m : Mem} {R : ARes → Mem → Prop} {W : Nat} {P : SK} {v : Ab.Env} {k : KE} {kx : KX} {i : Nat} {T : ClsT} {t x y z u : D}
/-! ### the rows -/
inductive Pk where
  | low
  | high
  | an
  | or
  | unlike
  | under
def Pk.cl : Pk → Str
  | .low => "Low"
  | .high => "High"
  | .an => "And"
  | .or => "Or"
  | .unlike => "Unlike"
  | .under => "Under"
def Pk.wd : Pk → Str
  | .low => "low"
  | .high => "high"
  | .an => "and"
  | .or => "or"
  | .unlike => "unlike"
  | .under => "under"
inductive Hk where
  | left
  | right
  | slide
def Hk.cl : Hk → Str
  | .left => "Left"
  | .right => "Right"
  | .slide => "Slide"
def Hk.wd : Hk → Str
  | .left => "left"
  | .right => "right"
  | .slide => "slide"
inductive Ck where
  | sum
  | gap
def Ck.cl : Ck → Str
  | .sum => "Sum"
  | .gap => "Gap"
def Ck.wd : Ck → Str
  | .sum => "sum"
  | .gap => "gap"
def oS : Option Str → D
  | none => .non
  | some s => .str s
inductive Lf where
  | set (g : Str) (b : Int)
  | copy (g o : Str)
  | pair (p : Pk) (g o t : Str)
  | carr (c : Ck) (g : Str) (y : Option Str) (o t : Str)
  | shift (s : Hk) (g o : Str) (n : Int)
  | pick (g b o t : Str)
  | mark (l : Int) (w b : Str)
def Lf.tl : Lf → D
  | .set g b => .tup [.str "set", .str g, .int b]
  | .copy g o => .tup [.str "copy", .str g, .str o]
  | .pair p g o t => .tup [.str p.wd, .str g, .str o, .str t]
  | .carr c g y o t => .tup [.str c.wd, .str g, oS y, .str o, .str t]
  | .shift s g o n => .tup [.str s.wd, .str g, .str o, .int n]
  | .pick g b o t => .tup [.str "pick", .str g, .str b, .str o, .str t]
  | .mark l w b => .tup [.str "mark", .int l, .str w, .str b]
abbrev obSet (g b : D) : D := .obj "Set" ["goal", "bits"] [g, b]
abbrev obCopy (g o : D) : D := .obj "Copy" ["goal", "one"] [g, o]
abbrev obPair (C : Str) (g o t : D) : D := .obj C ["goal", "one", "other"] [g, o, t]
abbrev obCarr (C : Str) (g c o t : D) : D := .obj C ["goal", "carry", "one", "other"] [g, c, o, t]
abbrev obShift (C : Str) (g o n : D) : D := .obj C ["goal", "one", "k"] [g, o, n]
abbrev obPick (g b o t : D) : D := .obj "Pick" ["goal", "by", "one", "other"] [g, b, o, t]
abbrev obMark (l w b : D) : D := .obj "Mark" ["line", "mark", "by"] [l, w, b]
abbrev obTurns (t s : D) : D := .obj "Turns" ["times", "steps"] [t, s]
def Lf.ob : Lf → D
  | .set g b => obSet (.str g) (.int b)
  | .copy g o => obCopy (.str g) (.str o)
  | .pair p g o t => obPair p.cl (.str g) (.str o) (.str t)
  | .carr c g y o t => obCarr c.cl (.str g) (oS y) (.str o) (.str t)
  | .shift s g o n => obShift s.cl (.str g) (.str o) (.int n)
  | .pick g b o t => obPick (.str g) (.str b) (.str o) (.str t)
  | .mark l w b => obMark (.int l) (.str w) (.str b)
def RG : List Str := ["a", "b", "c", "d", "e9"]
def Lf.ok (W : Nat) : Lf → Prop
  | .set g b => g ∈ RG ∧ 0 ≤ b ∧ b < 2 ^ W
  | .copy g o => g ∈ RG ∧ o ∈ RG
  | .pair p g o t => g ∈ RG ∧ o ∈ RG ∧ t ∈ RG
  | .carr c g y o t => g ∈ RG ∧ (∀ s, y = some s → s ∈ RG) ∧ o ∈ RG ∧ t ∈ RG
  | .shift s g o n => g ∈ RG ∧ o ∈ RG ∧ 0 ≤ n ∧ n < W
  | .pick g b o t => g ∈ RG ∧ b ∈ RG ∧ o ∈ RG ∧ t ∈ RG
  | .mark l w b => (0 ≤ l ∧ l ≤ 9999) ∧ w ∈ (["round", "stop", "nothing"] : List Str) ∧ b ∈ RG
inductive Rw where
  | lf (l : Lf)
  | tn (t : Int) (rs : List Rw)
  | bad (d : D)
mutual
def Rw.ob : Rw → D
  | .lf l => l.ob
  | .tn t rs => obTurns (.int t) (.lst (obs rs))
  | .bad d => d
def obs : List Rw → List D
  | [] => []
  | r :: rs => r.ob :: obs rs
end
theorem obs_map : ∀ {rs : List Rw}, obs rs = rs.map Rw.ob
  | [] => rfl
  | r :: rs => by rw [obs, List.map_cons, obs_map]
mutual
def Rw.tl : Rw → D
  | .lf l => l.tl
  | .tn t rs => .tup [.str "turns", .int t, .lst (tls rs)]
  | .bad d => d
def tls : List Rw → List D
  | [] => []
  | r :: rs => r.tl :: tls rs
end
theorem tls_map : ∀ {rs : List Rw}, tls rs = rs.map Rw.tl
  | [] => rfl
  | r :: rs => by rw [tls, List.map_cons, tls_map]
mutual
def Rw.sz : Rw → Nat
  | .lf _ => 1
  | .tn _ rs => 1 + szs rs
  | .bad _ => 1
def szs : List Rw → Nat
  | [] => 0
  | r :: rs => r.sz + szs rs
end
theorem szs_app {rs qs : List Rw} : szs (rs ++ qs) = szs rs + szs qs := by
  induction rs with
  | nil => rw [List.nil_append, szs, Nat.zero_add]
  | cons r rs ih => rw [List.cons_append, szs, szs, ih, Nat.add_assoc]
theorem szs_snoc {rs : List Rw} {r : Rw} : szs (rs ++ [r]) = szs rs + r.sz := by
  rw [szs_app, szs, szs, Nat.add_zero]
/-! how many rows a run does -/
mutual
def Rw.mn : Rw → Nat
  | .lf _ => 1
  | .tn t rs => t.toNat * (1 + mns rs)
  | .bad _ => 0
def mns : List Rw → Nat
  | [] => 0
  | r :: rs => r.mn + mns rs
end
theorem mns_app {rs qs : List Rw} : mns (rs ++ qs) = mns rs + mns qs := by
  induction rs with
  | nil => rw [List.nil_append, mns, Nat.zero_add]
  | cons r rs ih => rw [List.cons_append, mns, mns, ih, Nat.add_assoc]
/-! the place of the first bad row -/
mutual
def Rw.fb : Rw → Option Nat
  | .lf _ => none
  | .tn _ rs => (fbs rs).map (1 + ·)
  | .bad _ => some 0
def fbs : List Rw → Option Nat
  | [] => none
  | r :: rs => match r.fb with
    | some i => some i
    | none => (fbs rs).map (r.sz + ·)
end
theorem fbs_app {rs qs : List Rw} : fbs (rs ++ qs) = match fbs rs with
    | some i => some i
    | none => (fbs qs).map (szs rs + ·) := by
  induction rs with
  | nil =>
    rw [List.nil_append, fbs]
    cases fbs qs with
    | none => rfl
    | some i => exact congrArg some (show i = szs [] + i by rw [szs, Nat.zero_add])
  | cons r rs ih =>
    rw [List.cons_append, fbs, fbs, ih]
    cases r.fb with
    | some i => rfl
    | none =>
      cases fbs rs with
      | some i => rfl
      | none =>
        cases fbs qs with
        | none => rfl
        | some i => exact congrArg some (show r.sz + (szs rs + i) = szs (r :: rs) + i by rw [szs, Nat.add_assoc])
theorem fbs_snoc {rs : List Rw} {r : Rw} : fbs (rs ++ [r]) = match fbs rs with
    | some i => some i
    | none => r.fb.map (szs rs + ·) := by
  rw [fbs_app]
  cases fbs rs with
  | some i => rfl
  | none =>
    show (fbs [r]).map _ = _
    rw [fbs, fbs]
    cases r.fb with
    | none => rfl
    | some i => rfl
/-- the law's own rows -/
def Rw.law (W : Nat) : Nat → Rw → Prop
  | _, .lf l => l.ok W
  | n + 1, .tn t rs => 1 ≤ t ∧ t ≤ 9 ∧ rs ≠ [] ∧ rs.length ≤ 4 ∧ ∀ r ∈ rs, r.law W n
  | _, _ => False
theorem law_fb {n : Nat} : ∀ {r : Rw}, r.law W n → r.fb = none := by
  induction n with
  | zero =>
    intro r h
    cases r with
    | lf l => rfl
    | tn t rs => exact False.elim h
    | bad d => exact False.elim h
  | succ n ih =>
    intro r h
    cases r with
    | lf l => rfl
    | bad d => exact False.elim h
    | tn t rs =>
      have key : ∀ {qs : List Rw}, (∀ r ∈ qs, r.law W n) → fbs qs = none := by
        intro qs hq
        induction qs with
        | nil => rfl
        | cons q qs ih2 =>
          rw [fbs, ih (hq q (List.mem_cons_self ..)), ih2 fun r hr => hq r (List.mem_cons_of_mem _ hr)]
          rfl
      rw [Rw.fb, key h.2.2.2.2]
      rfl
theorem laws_fb {n : Nat} {qs : List Rw} (hq : ∀ r ∈ qs, r.law W n) : fbs qs = none := by
  induction qs with
  | nil => rfl
  | cons q qs ih2 =>
    rw [fbs, law_fb (hq q (List.mem_cons_self ..)), ih2 fun r hr => hq r (List.mem_cons_of_mem _ hr)]
    rfl
def mB : Nat → Nat
  | 0 => 1
  | n + 1 => 9 * (1 + 4 * mB n)
theorem laws_mn {n B : Nat} (hB : ∀ {r : Rw}, r.law W n → r.mn ≤ B) {qs : List Rw} (hq : ∀ r ∈ qs, r.law W n) : mns qs ≤ qs.length * B := by
  induction qs with
  | nil => rw [mns]; exact Nat.zero_le _
  | cons q qs ih2 =>
    rw [mns, List.length_cons, Nat.add_mul, Nat.one_mul, Nat.add_comm]
    exact Nat.add_le_add (ih2 fun r hr => hq r (List.mem_cons_of_mem _ hr)) (hB (hq q (List.mem_cons_self ..)))
theorem mB_pos {n : Nat} : 1 ≤ mB n := by
  cases n with
  | zero => exact Nat.le_refl _
  | succ n => rw [mB]; omega
theorem law_mn {n : Nat} : ∀ {r : Rw}, r.law W n → r.mn ≤ mB n := by
  induction n with
  | zero =>
    intro r h
    cases r with
    | lf l => exact Nat.le_refl _
    | tn t rs => exact False.elim h
    | bad d => exact False.elim h
  | succ n ih =>
    intro r h
    cases r with
    | lf l => rw [Rw.mn]; exact mB_pos
    | bad d => exact False.elim h
    | tn t rs =>
      have h1 := laws_mn ih h.2.2.2.2
      rw [Rw.mn, mB]
      have h2 : rs.length * mB n ≤ 4 * mB n := Nat.mul_le_mul_right _ h.2.2.2.1
      exact Nat.mul_le_mul (by have := h.2.1; omega) (by omega)
/-! ### the making -/
/-- what the making of an instance asks -/
abbrev MkP (sp : ASp) (C : Str) (n : Nat) (ds : List D) (m : Mem) (k : KE) (kx : KX) : Prop := ds.length + 1 = n ∧ ∀ a, m a = none → sp (.raw (.ref a) :: ds) (setM m a (.obj C [] [])) fun r m2 => match r with
  | .ret d => d = .non ∧ ∃ u, m2 a = some u ∧ k u (delM m2 a)
  | .exc x => kx x (delM m2 a)
theorem mkw {sp : ASp} {C : Str} {n : Nat} {ds : List D} {w : WL} {ob : D} (hmk : ∀ {k : KE} {kx : KX}, k ob m → MkP sp C n ds m k kx) (hw : ∀ kl : KL, kl ds m → w v m kl kx) (h : k ob m) : wMake C n sp w v m k kx := make_go (hw _ (hmk h))
/-- the making where the fields' making changes memory -/
theorem mkx {sp : ASp} {C : Str} {n : Nat} {w : WL} (h : w v m (fun ds m1 => MkP sp C n ds m1 k kx) kx) : wMake C n sp w v m k kx := make_go h
theorem mk_set {C : Str} {x y : D} (hC : CS.contains C = true) (h : k (.obj C ["goal", "bits"] [x, y]) m) : MkP (sp_Set___init__ K) C 3 [x, y] m k kx := by
  refine ⟨rfl, fun a ha => ?_⟩
  show w_Set___init__ K [some (.raw (.ref a)), some x, some y] _ _
  unfold w_Set___init__
  refine seq_go (fldD_go rfl rfl setM_same hC (by kernel_rfl) rfl ?_)
  refine nx_go (fldD_go rfl rfl setM_same hC (by kernel_rfl) rfl ?_)
  rw [setM_setM, setM_setM]
  refine ⟨rfl, _, setM_same, ?_⟩
  rw [delM_setM ha]
  exact h
theorem mk_copy {C : Str} {x y : D} (hC : CS.contains C = true) (h : k (.obj C ["goal", "one"] [x, y]) m) : MkP (sp_Copy___init__ K) C 3 [x, y] m k kx := by
  refine ⟨rfl, fun a ha => ?_⟩
  show w_Copy___init__ K [some (.raw (.ref a)), some x, some y] _ _
  unfold w_Copy___init__
  refine seq_go (fldD_go rfl rfl setM_same hC (by kernel_rfl) rfl ?_)
  refine nx_go (fldD_go rfl rfl setM_same hC (by kernel_rfl) rfl ?_)
  rw [setM_setM, setM_setM]
  refine ⟨rfl, _, setM_same, ?_⟩
  rw [delM_setM ha]
  exact h
theorem mk_shift {C : Str} {x y z : D} (hC : CS.contains C = true) (h : k (.obj C ["goal", "one", "k"] [x, y, z]) m) : MkP (sp_Shift___init__ K) C 4 [x, y, z] m k kx := by
  refine ⟨rfl, fun a ha => ?_⟩
  show w_Shift___init__ K [some (.raw (.ref a)), some x, some y, some z] _ _
  unfold w_Shift___init__
  refine seq_go (fldD_go rfl rfl setM_same hC (by kernel_rfl) rfl ?_)
  refine nx_go (seq_go (fldD_go rfl rfl setM_same hC (by kernel_rfl) rfl ?_))
  refine nx_go (fldD_go rfl rfl setM_same hC (by kernel_rfl) rfl ?_)
  rw [setM_setM, setM_setM, setM_setM]
  refine ⟨rfl, _, setM_same, ?_⟩
  rw [delM_setM ha]
  exact h
theorem mk_carr {C : Str} {x y z u : D} (hC : CS.contains C = true) (h : k (.obj C ["goal", "carry", "one", "other"] [x, y, z, u]) m) : MkP (sp_Carrying___init__ K) C 5 [x, y, z, u] m k kx := by
  refine ⟨rfl, fun a ha => ?_⟩
  show w_Carrying___init__ K [some (.raw (.ref a)), some x, some y, some z, some u] _ _
  unfold w_Carrying___init__
  refine seq_go (fldD_go rfl rfl setM_same hC (by kernel_rfl) rfl ?_)
  refine nx_go (seq_go (fldD_go rfl rfl setM_same hC (by kernel_rfl) rfl ?_))
  refine nx_go (seq_go (fldD_go rfl rfl setM_same hC (by kernel_rfl) rfl ?_))
  refine nx_go (fldD_go rfl rfl setM_same hC (by kernel_rfl) rfl ?_)
  rw [setM_setM, setM_setM, setM_setM, setM_setM]
  refine ⟨rfl, _, setM_same, ?_⟩
  rw [delM_setM ha]
  exact h
theorem mk_pick {C : Str} {x y z u : D} (hC : CS.contains C = true) (h : k (.obj C ["goal", "by", "one", "other"] [x, y, z, u]) m) : MkP (sp_Pick___init__ K) C 5 [x, y, z, u] m k kx := by
  refine ⟨rfl, fun a ha => ?_⟩
  show w_Pick___init__ K [some (.raw (.ref a)), some x, some y, some z, some u] _ _
  unfold w_Pick___init__
  refine seq_go (fldD_go rfl rfl setM_same hC (by kernel_rfl) rfl ?_)
  refine nx_go (seq_go (fldD_go rfl rfl setM_same hC (by kernel_rfl) rfl ?_))
  refine nx_go (seq_go (fldD_go rfl rfl setM_same hC (by kernel_rfl) rfl ?_))
  refine nx_go (fldD_go rfl rfl setM_same hC (by kernel_rfl) rfl ?_)
  rw [setM_setM, setM_setM, setM_setM, setM_setM]
  refine ⟨rfl, _, setM_same, ?_⟩
  rw [delM_setM ha]
  exact h
theorem mk_mark {C : Str} {x y z : D} (hC : CS.contains C = true) (h : k (.obj C ["line", "mark", "by"] [x, y, z]) m) : MkP (sp_Mark___init__ K) C 4 [x, y, z] m k kx := by
  refine ⟨rfl, fun a ha => ?_⟩
  show w_Mark___init__ K [some (.raw (.ref a)), some x, some y, some z] _ _
  unfold w_Mark___init__
  refine seq_go (fldD_go rfl rfl setM_same hC (by kernel_rfl) rfl ?_)
  refine nx_go (seq_go (fldD_go rfl rfl setM_same hC (by kernel_rfl) rfl ?_))
  refine nx_go (fldD_go rfl rfl setM_same hC (by kernel_rfl) rfl ?_)
  rw [setM_setM, setM_setM, setM_setM]
  refine ⟨rfl, _, setM_same, ?_⟩
  rw [delM_setM ha]
  exact h
theorem mk_pair {C : Str} {x y z : D} (hC : CS.contains C = true) (h : k (.obj C ["goal", "one", "other"] [x, y, z]) m) : MkP (sp_Pair___init__ K) C 4 [x, y, z] m k kx := by
  refine ⟨rfl, fun a ha => ?_⟩
  show w_Pair___init__ K [some (.raw (.ref a)), some x, some y, some z] _ _
  unfold w_Pair___init__
  refine seq_go (fldD_go rfl rfl setM_same hC (by kernel_rfl) rfl ?_)
  refine nx_go (seq_go (fldD_go rfl rfl setM_same hC (by kernel_rfl) rfl ?_))
  refine nx_go (fldD_go rfl rfl setM_same hC (by kernel_rfl) rfl ?_)
  rw [setM_setM, setM_setM, setM_setM]
  refine ⟨rfl, _, setM_same, ?_⟩
  rw [delM_setM ha]
  exact h
theorem mk_turns {x : D} {xs : List D} (h : k (obTurns x (.lst xs)) m) : MkP (sp_Turns___init__ K) "Turns" 3 [x, .lst xs] m k kx := by
  refine ⟨rfl, fun a ha => ?_⟩
  show w_Turns___init__ K [some (.raw (.ref a)), some x, some (.lst xs)] _ _
  unfold w_Turns___init__
  refine seq_go (fldD_go rfl rfl setM_same rfl (by kernel_rfl) rfl ?_)
  refine nx_go (seq_go (fldD_go rfl rfl setM_same rfl (by kernel_rfl) rfl ?_))
  walk_at "vg"
  refine fldR_go (fun h => cb_go (cons_go (var_go rfl (nil_go (listl_go (newt_go h)))))) rfl setM_same rfl (by kernel_rfl) rfl ?_
  rw [setM_setM, setM_setM, setM_setM]
  refine ⟨rfl, _, setM_same, ?_⟩
  rw [delM_setM ha]
  exact h
theorem mk_turnsN {x : D} (h : k (obTurns x .non) m) : MkP (sp_Turns___init__ K) "Turns" 3 [x, .non] m k kx := by
  refine ⟨rfl, fun a ha => ?_⟩
  show w_Turns___init__ K [some (.raw (.ref a)), some x, some .non] _ _
  unfold w_Turns___init__
  refine seq_go (fldD_go rfl rfl setM_same rfl (by kernel_rfl) rfl ?_)
  refine nx_go (seq_go (fldD_go rfl rfl setM_same rfl (by kernel_rfl) rfl ?_))
  walk_at "vg"
  rw [setM_setM, setM_setM]
  refine ⟨rfl, _, setM_same, ?_⟩
  rw [delM_setM ha]
  exact h
end
end K29
end
section
namespace K29
open PySem PySem.Spec PyProof.Rows L2 Ab
section
variable {K : PySem.W.Frag} {m : Mem} {R : ARes → Mem → Prop} {W : Nat} {P : SK} {v : Ab.Env} {k : KE} {kx : KX} {i : Nat} {T : ClsT} {a : Addr} {n : Nat} {x y z u g o t d : D}
/-! ### is_register -/
theorem lens_go {s : Str} (hl : s.length ≤ 1000000) (h : k (.int s.length) m) : cLen m ([D.str s].map (res m)) k := ⟨by rw [sizeLine_eq]; omega, h⟩
theorem adds_go {s t : Str} {z : Bool} (hl : s.length + t.length ≤ 1000000) (h : k (.str (s ++ t)) m) : oAdd z m (res m (.str s)) (res m (.str t)) k := ⟨by rw [sizeLine_eq]; omega, h⟩
theorem idxs_go {s : Str} {c : Nat} {j : Int} (hl : s.length ≤ 1000000) (h0 : atI s.cps.toList j = some c) (h : k (.str ⟨#[c]⟩) m) : oIdx m (res m (.str s)) (res m (.int j)) k := ⟨by rw [sizeLine_eq]; omega, c, h0, h⟩
theorem in_go {c : Nat} {s : Str} (h : k (.bl (decide (c ∈ s.cps.toList))) m) : oIn m (res m (.str ⟨#[c]⟩)) (res m (.str s)) k := ⟨c, rfl, h⟩
theorem nin_go {c : Nat} {s : Str} (h : k (.bl (!decide (c ∈ s.cps.toList))) m) : oNin m (res m (.str ⟨#[c]⟩)) (res m (.str s)) k := ⟨c, rfl, h⟩
theorem sks_go {s : Str} {k : KL} (h : k (s.cps.toList.map fun c => .str ⟨#[c]⟩) m) : seqK (.str s) m k := h
def LET : Str := "abcdefghijklmnopqrstuvwxyz"
def ALL : Str := LET ++ ("0123456789" : Str)
def regB (s : Str) : Bool := decide (s.length ≤ 8) && (match s.cps.toList with
  | [] => false
  | c :: r => decide (c ∈ LET.cps.toList) && (c :: r).all fun c => decide (c ∈ ALL.cps.toList))
/-- a thing whose being a register is asked -/
def regD : D → Bool
  | .str s => regB s
  | _ => false
def sc : D → Bool
  | .non => true
  | .bl _ => true
  | .int _ => true
  | .str s => decide (s.length ≤ 1000000)
  | _ => false
theorem reg_RG {s : Str} (h : s ∈ RG) : regB s = true := by
  have : ∀ s ∈ RG, regB s = true := by decide
  exact this s h
theorem str_len {s : Str} : s.length = s.cps.toList.length := by rw [Array.length_toList]; rfl
theorem p_is_register {d : D} (hd : sc d = true) (h : R (.ret (.bl (regD d))) m) : sp_is_register K [d] m R := by
  show w_is_register K [some d, none] m _
  unfold w_is_register
  cases d with
  | non => walk_at "vg"; exact h
  | bl b => walk_at "vg"; exact h
  | int i => walk_at "vg"; exact h
  | str s =>
    have hl : s.length ≤ 1000000 := of_decide_eq_true hd
    have hsl := str_len (s := s)
    walk_at "vg"
    refine lens_go hl ?_
    walk_at "vg"
    have h' : R (.ret (.bl (regB s))) m := h
    refine if_dec (fun c1 => ?_) (fun c1 => ?_)
    · walk_at "vg"
      refine if_dec (fun c2 => ?_) (fun c2 => ?_)
      · cases e : s.cps.toList with
        | nil => rw [e, List.length_nil] at hsl; omega
        | cons c r =>
          walk_at "vg"
          refine idxs_go (c := c) hl (by rw [e]; exact at0) ?_
          walk_at "vg"
          refine nin_go ?_
          walk_at "vg"
          refine if_dec (fun c3 => ?_) (fun c3 => ?_)
          · walk_at "vg"
            unfold w_is_register_1
            walk_at "vg"
            show iSeq _ _ _ _ _
            walk_at "vg"
            refine sks_go ?_
            refine lc_map (f := fun c => D.str ⟨#[c]⟩) (xs := s.cps.toList) (fun c => .bl (decide (c ∈ ALL.cps.toList))) (by rw [← hsl]; omega) (fun i hi kk2 Z2 hkk2 => ?_) ?_
            · dsimp only [gN, wYes, wipeE, List.set_cons_zero, List.set_cons_succ]
              refine if_T ?_
              walk_at "vg"
              refine adds_go (by decide) ?_
              refine in_go ?_
              exact hkk2
            · walk_at "vg"
              refine ⟨s.cps.toList.map fun c => decide (c ∈ ALL.cps.toList), by rw [List.map_map]; rfl, ?_⟩
              walk_at "vg"
              have er : regB s = (s.cps.toList.map fun c => decide (c ∈ ALL.cps.toList)).any id → True := fun _ => trivial
              have e2 : regB s = (s.cps.toList.map fun c => decide (c ∈ ALL.cps.toList)).all id := by
                unfold regB
                rw [e, decide_eq_true (by omega), List.all_map]
                show (true && (decide (c ∈ LET.cps.toList) && (c :: r).all fun c => decide (c ∈ ALL.cps.toList))) = _
                rw [decide_eq_true (show c ∈ LET.cps.toList from c3)]
                rfl
              rw [← e2]
              exact h'
          · walk_at "vg"
            have e2 : regB s = false := by
              unfold regB
              rw [e]
              show (decide (s.length ≤ 8) && (decide (c ∈ LET.cps.toList) && (c :: r).all fun c => decide (c ∈ ALL.cps.toList))) = false
              rw [decide_eq_false (show ¬ c ∈ LET.cps.toList from c3)]
              simp
            rw [e2] at h'
            exact h'
      · walk_at "vg"
        have e2 : regB s = false := by
          unfold regB
          rw [decide_eq_false (by omega)]
          rfl
        rw [e2] at h'
        exact h'
    · walk_at "vg"
      have e2 : regB s = false := by
        unfold regB
        have e : s.cps.toList = [] := List.length_eq_zero_iff.mp (by omega)
        rw [e]
        simp
      rw [e2] at h'
      exact h'
  | lst xs => cases hd
  | frl xs => cases hd
  | tup xs => cases hd
  | dct ks xs => cases hd
  | obj C ns xs => cases hd
  | raw u => cases hd
theorem p_within {i lo hi : Int} (h : R (.ret (.bl (decide (lo ≤ i) && decide (i ≤ hi)))) m) : sp_within K [.int i, .int lo, .int hi] m R := by
  show w_within K [some (.int i), some (.int lo), some (.int hi)] m _
  unfold w_within
  walk_at "vg"
  refine p_is_whole rfl ?_
  walk_at "vg"
  refine if_T ?_
  walk_at "vg"
  refine if_dec (fun c => ?_) (fun c => ?_)
  · walk_at "vg"
    rw [decide_eq_true c] at h
    exact h
  · walk_at "vg"
    rw [decide_eq_false c] at h
    exact h
/-! ### fits -/
theorem fit_copy (hg : sc g = true) (ho : sc o = true) (h : R (.ret (.bl (regD g && regD o))) m) : sp_Copy_fits K [obCopy g o, .int W] m R := by
  show w_Copy_fits K [some (obCopy g o), some (.int W)] m _
  unfold w_Copy_fits
  walk_at "vg"
  refine p_is_register hg ?_
  walk_at "vg"
  refine if_b (fun c => ?_) (fun c => ?_)
  · walk_at "vg"
    refine p_is_register ho ?_
    walk_at "vg"
    rw [c] at h
    exact h
  · walk_at "vg"
    rw [c] at h ⊢
    exact h
theorem fit_set {b : Int} (hW : Wd W) (hg : sc g = true) (h : R (.ret (.bl (regD g && (decide (0 ≤ b) && decide (b ≤ 2 ^ W - 1))))) m) : sp_Set_fits K [obSet g (.int b), .int W] m R := by
  have hhi := hW.hi
  show w_Set_fits K [some (obSet g (.int b)), some (.int W)] m _
  unfold w_Set_fits
  walk_at "vg"
  refine p_is_register hg ?_
  walk_at "vg"
  refine if_b (fun c => ?_) (fun c => ?_)
  · walk_at "vg"
    refine p_within ?_
    walk_at "vg"
    rw [c] at h
    exact h
  · walk_at "vg"
    rw [c] at h ⊢
    exact h
theorem fit_pair (pk : Pk) (hg : sc g = true) (ho : sc o = true) (ht : sc t = true) (h : R (.ret (.bl (regD g && (regD o && regD t)))) m) : sp_Pair_fits K [obPair pk.cl g o t, .int W] m R := by
  cases pk <;> (
      show w_Pair_fits K [some (obPair _ g o t), some (.int W)] m _
      unfold w_Pair_fits
      walk_at "vg"
      refine p_is_register hg ?_
      walk_at "vg"
      refine if_b (fun c => ?_) (fun c => ?_)
      · walk_at "vg"
        refine p_is_register ho ?_
        walk_at "vg"
        rw [c] at h
        refine if_b (fun c => ?_) (fun c => ?_)
        · walk_at "vg"
          refine p_is_register ht ?_
          walk_at "vg"
          rw [c] at h
          exact h
        · walk_at "vg"
          rw [c] at h ⊢
          exact h
      · walk_at "vg"
        rw [c] at h ⊢
        exact h)
theorem fit_shift (hk : Hk) {n : Int} (hg : sc g = true) (ho : sc o = true) (h : R (.ret (.bl (regD g && (regD o && (decide (0 ≤ n) && decide (n ≤ (W : Int) - 1)))))) m) : sp_Shift_fits K [obShift hk.cl g o (.int n), .int W] m R := by
  cases hk <;> (
      show w_Shift_fits K [some (obShift _ g o (.int n)), some (.int W)] m _
      unfold w_Shift_fits
      walk_at "vg"
      refine p_is_register hg ?_
      walk_at "vg"
      refine if_b (fun c => ?_) (fun c => ?_)
      · walk_at "vg"
        refine p_is_register ho ?_
        walk_at "vg"
        rw [c] at h
        refine if_b (fun c => ?_) (fun c => ?_)
        · walk_at "vg"
          refine p_within ?_
          walk_at "vg"
          rw [c] at h
          exact h
        · walk_at "vg"
          rw [c] at h ⊢
          exact h
      · walk_at "vg"
        rw [c] at h ⊢
        exact h)
def nonB : D → Bool
  | .non => true
  | _ => false
theorem isnot_go {d : D} (hd : sc d = true) (h : k (.bl (!nonB d)) m) : oIsNot m (res m d) (res m .non) k := by
  cases d <;> first
    | exact ⟨_, rfl, h⟩
    | (cases hd; done)
theorem carr_rest (ck : Ck) {c : D} (hg : sc g = true) (ho : sc o = true) (ht : sc t = true) (hP : ∀ d m, P.rt d m = R (.ret d) m) (h : R (.ret (.bl (regD g && (regD o && regD t)))) m) : w_Carrying_fits_1 K [some (obCarr ck.cl g c o t), some (.int W)] m P := by
  cases ck <;> (
    unfold w_Carrying_fits_1
    walk_at "vg"
    refine p_is_register hg ?_
    walk_at "vg"
    refine if_b (fun c => ?_) (fun c => ?_)
    · walk_at "vg"
      refine p_is_register ho ?_
      walk_at "vg"
      rw [c] at h
      refine if_b (fun c => ?_) (fun c => ?_)
      · walk_at "vg"
        refine p_is_register ht ?_
        walk_at "vg"
        rw [c] at h
        rw [hP]
        exact h
      · walk_at "vg"
        rw [c] at h ⊢
        rw [hP]
        exact h
    · walk_at "vg"
      rw [c] at h ⊢
      rw [hP]
      exact h)
theorem fit_carr (ck : Ck) {c : D} (hg : sc g = true) (hc : sc c = true) (ho : sc o = true) (ht : sc t = true) (h : R (.ret (.bl (if (!nonB c && !regD c) = true then false else regD g && (regD o && regD t)))) m) : sp_Carrying_fits K [obCarr ck.cl g c o t, .int W] m R := by
  cases ck <;> (
      show w_Carrying_fits K [some (obCarr _ g c o t), some (.int W)] m _
      unfold w_Carrying_fits
      walk_at "vg"
      refine isnot_go hc ?_
      walk_at "vg"
      refine if_b (fun c1 => ?_) (fun c1 => ?_)
      · have e : nonB c = true := by simpa using c1
        rw [e] at h
        walk_at "vg"
        first | exact carr_rest .sum hg ho ht (fun _ _ => rfl) h | exact carr_rest .gap hg ho ht (fun _ _ => rfl) h
      · have e : nonB c = false := by simpa using c1
        rw [e] at h
        walk_at "vg"
        refine p_is_register hc ?_
        walk_at "vg"
        refine if_b (fun c2 => ?_) (fun c2 => ?_)
        · rw [c2] at h
          walk_at "vg"
          first | exact carr_rest .sum hg ho ht (fun _ _ => rfl) h | exact carr_rest .gap hg ho ht (fun _ _ => rfl) h
        · rw [c2] at h
          walk_at "vg"
          exact h)
theorem nins_go {s : Str} {ss : List Str} (h : k (.bl (!decide (s ∈ ss))) m) : oNin m (res m (.str s)) (res m (.tup (ss.map D.str))) k := ⟨ss, rfl, h⟩
theorem fit_mark {l : Int} {w : Str} {b : D} (hb : sc b = true) (h : R (.ret (.bl (decide (w ∈ (["round", "stop", "nothing"] : List Str)) && ((decide (0 ≤ l) && decide (l ≤ 9999)) && regD b)))) m) : sp_Mark_fits K [obMark (.int l) (.str w) b, .int W] m R := by
  show w_Mark_fits K [some (obMark (.int l) (.str w) b), some (.int W)] m _
  unfold w_Mark_fits
  walk_at "vg"
  refine nins_go (ss := ["round", "stop", "nothing"]) ?_
  walk_at "vg"
  refine if_dec (fun c => ?_) (fun c => ?_)
  · rw [decide_eq_true c] at h
    walk_at "vg"
    unfold w_Mark_fits_1
    walk_at "vg"
    refine p_within ?_
    walk_at "vg"
    refine if_b (fun c => ?_) (fun c => ?_)
    · walk_at "vg"
      refine p_is_register hb ?_
      walk_at "vg"
      rw [c] at h
      exact h
    · walk_at "vg"
      rw [c] at h ⊢
      exact h
  · rw [decide_eq_false c] at h
    walk_at "vg"
    exact h
theorem fit_pick {b : D} (hg : sc g = true) (hb : sc b = true) (ho : sc o = true) (ht : sc t = true) (h : R (.ret (.bl (([g, b, o, t].map regD).all id))) m) : sp_Pick_fits K [obPick g b o t, .int W] m R := by
  show w_Pick_fits K [some (obPick g b o t), some (.int W), none] m _
  unfold w_Pick_fits
  walk_at "vg"
  show iSeq _ _ _ _ _
  walk_at "vg"
  refine lc_map (f := id) (xs := [g, b, o, t]) (fun d => .bl (regD d)) (Nat.le_of_ble_eq_true rfl) (fun i hi kk2 Z2 hkk2 => ?_) ?_
  · have hs : ∀ d ∈ [g, b, o, t], sc d = true := by
      intro d hd
      simp only [List.mem_cons, List.not_mem_nil, or_false] at hd
      rcases hd with rfl | rfl | rfl | rfl <;> assumption
    have := hs _ (List.getElem_mem hi)
    dsimp only [gN, wYes, wipeE, List.set_cons_zero, List.set_cons_succ, id]
    refine if_T ?_
    walk_at "vg"
    refine p_is_register this ?_
    exact hkk2
  · walk_at "vg"
    refine ⟨[g, b, o, t].map regD, by rw [List.map_map]; rfl, ?_⟩
    walk_at "vg"
    exact h
theorem nenl_go {xs : List D} (h : k (.bl (!xs.isEmpty)) m) : oNe m (res m (.lst xs)) (res m (.lst [])) k := by
  cases xs with
  | nil => exact .inl ⟨.list [], .list [], rfl, rfl, rfl, rfl, h⟩
  | cons x xs => exact .inr ⟨x, xs, rfl, rfl, h⟩
theorem fit_turns {t : Int} {xs : List D} (h : R (.ret (.bl ((decide (1 ≤ t) && decide (t ≤ 64)) && !xs.isEmpty))) m) : sp_Turns_fits K [obTurns (.int t) (.lst xs), .int W] m R := by
  show w_Turns_fits K [some (obTurns (.int t) (.lst xs)), some (.int W)] m _
  unfold w_Turns_fits
  walk_at "vg"
  refine p_within ?_
  walk_at "vg"
  refine if_b (fun c => ?_) (fun c => ?_)
  · rw [c] at h
    walk_at "vg"
    refine nenl_go ?_
    walk_at "vg"
    exact h
  · walk_at "vg"
    rw [c] at h ⊢
    exact h
theorem fit_turnsN {t : Int} (h : R (.ret (.bl false)) m) : sp_Turns_fits K [obTurns (.int t) .non, .int W] m R := by
  show w_Turns_fits K [some (obTurns (.int t) .non), some (.int W)] m _
  unfold w_Turns_fits
  walk_at "vg"
  refine p_within ?_
  walk_at "vg"
  refine if_b (fun c => ?_) (fun c => ?_)
  · walk_at "vg"
    exact h
  · walk_at "vg"
    rw [c]
    exact h
end
end K29
end
section
namespace K29
open PySem PySem.Spec PyProof.Rows L2 Ab
section
variable {K : PySem.W.Frag} {m : Mem} {R : ARes → Mem → Prop} {W : Nat} {P : SK} {v : Ab.Env} {k : KE} {kx : KX} {i : Nat} {T : ClsT} {a : Addr} {n : Nat}
/-! ### the law's rows -/
theorem pw2 (hW : Wd W) : (0 : Int) < 2 ^ W ∧ (2 : Int) ^ W < 1099511627776 := by
  obtain ⟨g, _, h1, h2, h3⟩ := hW.pw
  omega
theorem four_go {d e f g : D} {x0 x1 x2 x3 x4 x5 x6 : Option D} {k : Ab.Env → Mem → Prop} (h : k [x0, x1, some d, some e, some f, some g, x6] m) : gT 4 (gs1 (gN 2) (gs1 (gN 3) (gs1 (gN 4) (gs1 (gN 5) gs0)))) (.tup [d, e, f, g]) [x0, x1, x2, x3, x4, x5, x6] m k := ⟨rfl, h⟩
theorem p_law_register (hb : Box m a n) (hn : n < 100000000) (h : ∀ s m', s ∈ RG → (∀ b, b ≠ a → m' b = m b) → Box m' a (n + 1) → R (.ret (.str s)) m') : sp_law_register K [.raw (.ref a)] m R := by
  show w_law_register K [some (.raw (.ref a))] m _
  unfold w_law_register
  walk_at "vg"
  refine tk hb (by omega) (by decide) (by decide) (fun d m' d0 d1 hm hb' => ?_)
  walk_at "vg"
  have key : ∀ y ∈ ([.str "a", .str "b", .str "c", .str "d", .str "e9", .str "a"] : List D), ∃ s, s ∈ RG ∧ y = .str s := by
    intro y hy
    simp only [List.mem_cons, List.not_mem_nil, or_false] at hy
    rcases hy with rfl | rfl | rfl | rfl | rfl | rfl <;> exact ⟨_, by decide, rfl⟩
  refine idx_take d0 d1 (fun y hy => ?_)
  obtain ⟨s, hs, rfl⟩ := key y hy
  walk_at "vg"
  exact h s m' hs hm hb'
theorem p_law_row (hW : Wd W) (hb : Box m a n) (hn : n < 10000000) (h : ∀ (l : Lf) m', l.ok W → (∀ b, b ≠ a → m' b = m b) → Box m' a (n + 10) → R (.ret l.tl) m') : sp_law_row K [.raw (.ref a), .int W] m R := by
  have hlo := hW.lo
  have hhi := hW.hi
  show w_law_row K [some (.raw (.ref a)), some (.int W), none, none, none, none, none] m _
  unfold w_law_row
  walk_at "vg"
  refine tk hb (by omega) (by decide) (by decide) (fun way m1 d0 d1 hm1 hb1 => ?_)
  walk_at "vg"
  refine p_law_register hb1 (by omega) (fun g m2 hg hm2 hb2 => ?_)
  walk_at "vg"
  refine p_law_register hb2 (by omega) (fun o m3 ho hm3 hb3 => ?_)
  walk_at "vg"
  refine p_law_register hb3 (by omega) (fun t m4 ht hm4 hb4 => ?_)
  walk_at "vg"
  refine four_go ?_
  walk_at "vg"
  have fr4 : ∀ b, b ≠ a → m4 b = m b := fun b hb => (hm4 b hb).trans ((hm3 b hb).trans ((hm2 b hb).trans (hm1 b hb)))
  refine if_dec (fun c => ?_) (fun c => ?_)
  · walk_at "vg"
    refine tk hb4 (by omega) (pw2 hW).1 (pw2 hW).2 (fun x m5 x0 x1 hm5 hb5 => ?_)
    walk_at "vg"
    exact h (.set g x) m5 ⟨hg, x0, x1⟩ (fun b hb => (hm5 b hb).trans (fr4 b hb)) (box_mono hb5 (by omega))
  walk_at "vg"
  unfold w_law_row_6
  walk_at "vg"
  refine if_dec (fun c3 => ?_) (fun c3 => ?_)
  · walk_at "vg"
    exact h (.copy g o) m4 ⟨hg, ho⟩ fr4 (box_mono hb4 (by omega))
  walk_at "vg"
  unfold w_law_row_5
  walk_at "vg"
  refine if_dec (fun c7 => ?_) (fun c7 => ?_)
  · walk_at "vg"
    refine tk hb4 (by omega) (by decide) (by decide) (fun z m5 z0 z1 hm5 hb5 => ?_)
    walk_at "vg"
    have cont : ∀ (P : SK), (∀ d m, P.rt d m = R (.ret d) m) → ∀ (y : Option Str) (m6 : Mem), (∀ s, y = some s → s ∈ RG) → (∀ b, b ≠ a → m6 b = m b) → Box m6 a (n + 10) → Nx (sRet (wTup (wCons (wOp oIdx (wLst true (wCons (wCon (.str "sum")) (wCons (wCon (.str "gap")) wNil))) (wOp oMod (wCB cInt (wCons (wVar 2) wNil)) (wCon (.int 2)))) (wCons (wVar 3) (wCons (wVar 6) (wCons (wVar 4) (wCons (wVar 5) wNil))))))) P [some (.raw (.ref a)), some (.int W), some (.int way), some (.str g), some (.str o), some (.str t), some (oS y)] m6 := by
      intro P hP y m6 hy hm6 hb6
      walk_at "vg"
      have key : ∀ y ∈ ([.str "sum", .str "gap"] : List D), ∃ c : Ck, y = .str c.wd := by
        intro y hy
        simp only [List.mem_cons, List.not_mem_nil, or_false] at hy
        rcases hy with rfl | rfl
        · exact ⟨.sum, rfl⟩
        · exact ⟨.gap, rfl⟩
      refine idx_take (Int.emod_nonneg _ (by omega)) (Int.emod_lt_of_pos _ (by omega)) (fun q hq => ?_)
      obtain ⟨c, rfl⟩ := key q hq
      walk_at "vg"
      rw [hP]
      exact h (.carr c g y o t) m6 ⟨hg, hy, ho, ht⟩ hm6 hb6
    refine if_dec (fun cz => ?_) (fun cz => ?_)
    · walk_at "vh"
      exact cont _ (fun _ _ => rfl) none m5 (fun s e => nomatch e) (fun b hb => (hm5 b hb).trans (fr4 b hb)) (box_mono hb5 (by omega))
    · walk_at "vg"
      refine p_law_register hb5 (by omega) (fun c m6 hc hm6 hb6 => ?_)
      walk_at "vh"
      exact cont _ (fun _ _ => rfl) (some c) m6 (fun s e => by cases e; exact hc) (fun b hb => (hm6 b hb).trans ((hm5 b hb).trans (fr4 b hb))) (box_mono hb6 (by omega))
  walk_at "vg"
  unfold w_law_row_4
  walk_at "vg"
  refine if_dec (fun c13 => ?_) (fun c13 => ?_)
  · walk_at "vg"
    have key : ∀ y ∈ ([.str "low", .str "high", .str "and", .str "or", .str "unlike", .str "under"] : List D), ∃ c : Pk, y = .str c.wd := by
      intro y hy
      simp only [List.mem_cons, List.not_mem_nil, or_false] at hy
      rcases hy with rfl | rfl | rfl | rfl | rfl | rfl
      · exact ⟨.low, rfl⟩
      · exact ⟨.high, rfl⟩
      · exact ⟨.an, rfl⟩
      · exact ⟨.or, rfl⟩
      · exact ⟨.unlike, rfl⟩
      · exact ⟨.under, rfl⟩
    refine idx_take (by omega) (by simp only [List.length_cons, List.length_nil]; omega) (fun q hq => ?_)
    obtain ⟨c, rfl⟩ := key q hq
    walk_at "vg"
    exact h (.pair c g o t) m4 ⟨hg, ho, ht⟩ fr4 (box_mono hb4 (by omega))
  walk_at "vg"
  unfold w_law_row_3
  walk_at "vg"
  refine if_dec (fun c16 => ?_) (fun c16 => ?_)
  · walk_at "vg"
    have key : ∀ y ∈ ([.str "left", .str "right", .str "slide"] : List D), ∃ c : Hk, y = .str c.wd := by
      intro y hy
      simp only [List.mem_cons, List.not_mem_nil, or_false] at hy
      rcases hy with rfl | rfl | rfl
      · exact ⟨.left, rfl⟩
      · exact ⟨.right, rfl⟩
      · exact ⟨.slide, rfl⟩
    refine idx_take (by omega) (by simp only [List.length_cons, List.length_nil]; omega) (fun q hq => ?_)
    obtain ⟨c, rfl⟩ := key q hq
    walk_at "vg"
    refine tk hb4 (by omega) (by omega) (by omega) (fun x m5 x0 x1 hm5 hb5 => ?_)
    walk_at "vg"
    exact h (.shift c g o x) m5 ⟨hg, ho, x0, x1⟩ (fun b hb => (hm5 b hb).trans (fr4 b hb)) (box_mono hb5 (by omega))
  walk_at "vg"
  unfold w_law_row_2
  walk_at "vg"
  refine if_dec (fun c17 => ?_) (fun c17 => ?_)
  · walk_at "vg"
    refine p_law_register hb4 (by omega) (fun c m5 hc hm5 hb5 => ?_)
    walk_at "vg"
    exact h (.pick g c o t) m5 ⟨hg, hc, ho, ht⟩ (fun b hb => (hm5 b hb).trans (fr4 b hb)) (box_mono hb5 (by omega))
  walk_at "vg"
  unfold w_law_row_1
  walk_at "vg"
  refine tk hb4 (by omega) (by decide) (by decide) (fun x m5 x0 x1 hm5 hb5 => ?_)
  walk_at "vg"
  refine tk hb5 (by omega) (by decide) (by decide) (fun y m6 y0 y1 hm6 hb6 => ?_)
  walk_at "vg"
  have key : ∀ y ∈ ([.str "round", .str "stop", .str "nothing"] : List D), ∃ c : Str, c ∈ (["round", "stop", "nothing"] : List Str) ∧ y = .str c := by
    intro y hy
    simp only [List.mem_cons, List.not_mem_nil, or_false] at hy
    rcases hy with rfl | rfl | rfl <;> exact ⟨_, by decide, rfl⟩
  refine idx_take y0 y1 (fun q hq => ?_)
  obtain ⟨c, hc, rfl⟩ := key q hq
  walk_at "vg"
  exact h (.mark x c o) m6 ⟨⟨x0, by omega⟩, hc, ho⟩ (fun b hb => (hm6 b hb).trans ((hm5 b hb).trans (fr4 b hb))) (box_mono hb6 (by omega))
/-- the draws that rows take -/
def cB : Nat → Nat
  | 0 => 20
  | j + 1 => 20 + 4 * cB j
theorem cB_ge {j : Nat} : 20 ≤ cB j := by
  cases j with
  | zero => exact Nat.le_refl _
  | succ j => rw [cB]; omega
theorem p_law_rows (hW : Wd W) : ∀ {j f many : Nat} {m : Mem} {a : Addr} {n : Nat} {R : ARes → Mem → Prop}, j ≤ f → j ≤ 3 → Box m a n → n + many * cB j < 1000000 → (∀ (rs : List Rw) m', rs.length = many → (∀ r ∈ rs, r.law W j) → (∀ b, b ≠ a → m' b = m b) → Box m' a (n + many * cB j) → R (.ret (.lst (tls rs))) m') → sr_law_rows K (f + 1) [.raw (.ref a), .int W, .int (many : Nat), .int (3 - (j : Nat))] m R := by
  intro j
  induction j with
  | zero =>
    intro f many m a n R _ _ hb hn h
    show w_law_rows K (sr_law_rows K f) [some (.raw (.ref a)), some (.int W), some (.int (many : Nat)), some (.int (3 - ((0 : Nat) : Int))), none, none, none] m _
    unfold w_law_rows
    walk_at "vg"
    refine newf_go fun q hq => ?_
    have hqa := box_ne hb hq
    walk_at "vg"
    have hc0 : cB 0 = 20 := rfl
    rw [hc0] at hn
    refine ⟨by omega, by omega, ?_⟩
    rw [Int.toNat_natCast]
    refine rng_turns (fun i v m' => ∃ rs, rs.length = i ∧ (∀ r ∈ rs, r.law W 0) ∧ m' q = some (.lst (tls rs)) ∧ Box m' a (n + i * 20) ∧ (∀ b, b ≠ a → b ≠ q → m' b = m b) ∧ ∃ y5 y6, v = [some (.raw (.ref a)), some (.int W), some (.int (many : Nat)), some (.int (3 - ((0 : Nat) : Int))), some (.raw (.ref q)), y5, y6]) ⟨[], rfl, (by intro r hr; cases hr), setM_same, box_same (box_mono hb (by omega)) (setM_ne hqa), fun b _ hbq => setM_ne hbq, none, none, rfl⟩ ?_ ?_
    · rintro i v1 m2 hi ⟨rs, rfl, hl, hr, hb2, fr, y5, y6, rfl⟩
      show w_law_rows_2 K _ [some (.raw (.ref a)), some (.int W), some (.int (many : Nat)), some (.int (3 - ((0 : Nat) : Int))), some (.raw (.ref q)), some (.int (0 + (rs.length : Int))), y6] _ _
      unfold w_law_rows_2
      walk_at "vg"
      refine ist_at hr ?_
      walk_at "vg"
      refine p_law_row hW hb2 (by omega) (fun l m3 hl3 fr3 hb3 => ?_)
      walk_at "vg"
      have hr3 : m3 q = some (.lst (tls rs)) := (fr3 q (Ne.symm hqa)).trans hr
      have hlen : (tls rs).length = rs.length := by rw [tls_map, List.length_map]
      refine app_at hr3 (by omega) ?_
      walk_at "vg"
      refine ⟨_, _, Gh.refl, rs ++ [.lf l], by rw [List.length_append]; rfl, ?_, ?_, ?_, ?_, _, _, rfl⟩
      · intro r hr
        rcases List.mem_append.mp hr with hr | hr
        · exact hl r hr
        · rw [List.mem_singleton] at hr; subst hr; exact hl3
      · rw [setM_same, tls_map, tls_map, List.map_append]; rfl
      · exact box_same (box_mono hb3 (by omega)) (setM_ne hqa)
      · intro b h1 h2
        rw [setM_ne h2, fr3 b h1, fr b h1 h2]
    · rintro v1 m2 ⟨rs, hlen, hl, hr, hb2, fr, y5, y6, rfl⟩
      refine nx_go ?_
      unfold w_law_rows_1
      walk_at "vg"
      refine rt_at hr ?_
      refine h rs _ hlen hl (fun b hb => ?_) (box_same (by rw [hc0]; exact hb2) (delM_ne hqa))
      by_cases e : b = q
      · subst e
        rw [hq]
        exact if_pos rfl
      · rw [delM_ne e, fr b hb e]
  | succ j ih =>
    intro f many m a n R hf hj hb hn h
    obtain ⟨f, rfl⟩ : ∃ k, f = k + 1 := ⟨f - 1, by omega⟩
    show w_law_rows K (sr_law_rows K (f + 1)) [some (.raw (.ref a)), some (.int W), some (.int (many : Nat)), some (.int (3 - ((j + 1 : Nat) : Int))), none, none, none] m _
    have hjc : (3 : Int) - ((j + 1 : Nat) : Int) + 1 = 3 - (j : Nat) := by omega
    have hc1 : cB (j + 1) = 20 + 4 * cB j := rfl
    have hcg := cB_ge (j := j)
    unfold w_law_rows
    walk_at "vg"
    refine newf_go fun q hq => ?_
    have hqa := box_ne hb hq
    walk_at "vg"
    have hmany : many ≤ 1000000 := by
      have : many * 1 ≤ many * cB (j + 1) := Nat.mul_le_mul_left _ (by omega)
      omega
    refine ⟨by omega, by omega, ?_⟩
    rw [Int.toNat_natCast]
    refine rng_turns (fun i v m' => ∃ rs, rs.length = i ∧ (∀ r ∈ rs, r.law W (j + 1)) ∧ m' q = some (.lst (tls rs)) ∧ Box m' a (n + i * cB (j + 1)) ∧ (∀ b, b ≠ a → b ≠ q → m' b = m b) ∧ ∃ y5 y6, v = [some (.raw (.ref a)), some (.int W), some (.int (many : Nat)), some (.int (3 - ((j + 1 : Nat) : Int))), some (.raw (.ref q)), y5, y6]) ⟨[], rfl, (by intro r hr; cases hr), setM_same, box_same (box_mono hb (by omega)) (setM_ne hqa), fun b _ hbq => setM_ne hbq, none, none, rfl⟩ ?_ ?_
    · rintro i v1 m2 hi ⟨rs, rfl, hl, hr, hb2, fr, y5, y6, rfl⟩
      have hii : (rs.length + 1) * cB (j + 1) ≤ many * cB (j + 1) := Nat.mul_le_mul_right _ hi
      have hi2 : (rs.length + 1) * cB (j + 1) = rs.length * cB (j + 1) + cB (j + 1) := by rw [Nat.add_mul, Nat.one_mul]
      have hlen : (tls rs).length = rs.length := by rw [tls_map, List.length_map]
      generalize hN : rs.length * cB (j + 1) = N at *
      show w_law_rows_2 K _ [some (.raw (.ref a)), some (.int W), some (.int (many : Nat)), some (.int (3 - ((j + 1 : Nat) : Int))), some (.raw (.ref q)), some (.int (0 + (rs.length : Int))), y6] _ _
      have leaf : ∀ m2' n', Box m2' a n' → n' ≤ n + N + 1 → m2' q = some (.lst (tls rs)) → (∀ b, b ≠ a → b ≠ q → m2' b = m b) → ∀ P : SK, (∀ m4 l, l.ok W → m4 q = some (.lst (tls (rs ++ [.lf l]))) → Box m4 a (n + N + 20) → (∀ b, b ≠ a → b ≠ q → m4 b = m b) → P.nx [some (.raw (.ref a)), some (.int W), some (.int (many : Nat)), some (.int (3 - ((j + 1 : Nat) : Int))), some (.raw (.ref q)), some (.int (0 + (rs.length : Int))), y6] m4) → sDrop (wMt "list" mAppend (wVar 4) (wCons (wCall 2 (sp_law_row K) (wCons (wVar 0) (wCons (wVar 1) wNil))) wNil)) [some (.raw (.ref a)), some (.int W), some (.int (many : Nat)), some (.int (3 - ((j + 1 : Nat) : Int))), some (.raw (.ref q)), some (.int (0 + (rs.length : Int))), y6] m2' P := by
        intro m2' n' hb' hn' hr' fr' P hP
        walk_at "vg"
        refine ist_at hr' ?_
        walk_at "vg"
        refine p_law_row hW hb' (by omega) (fun l m3 hl3 fr3 hb3 => ?_)
        walk_at "vg"
        have hr3 : m3 q = some (.lst (tls rs)) := (fr3 q (Ne.symm hqa)).trans hr'
        refine app_at hr3 (by omega) ?_
        walk_at "vg"
        refine hP _ l hl3 ?_ ?_ ?_
        · rw [setM_same, tls_map, tls_map, List.map_append]; rfl
        · exact box_same (box_mono hb3 (by omega)) (setM_ne hqa)
        · intro b h1 h2
          rw [setM_ne h2, fr3 b h1, fr' b h1 h2]
      have hlaw : ∀ r, r.law W (j + 1) → ∀ x ∈ rs ++ [r], x.law W (j + 1) := by
        intro r hr x hx
        rcases List.mem_append.mp hx with hx | hx
        · exact hl x hx
        · rw [List.mem_singleton] at hx; subst hx; exact hr
      unfold w_law_rows_2
      walk_at "vg"
      refine tk hb2 (by omega) (by decide) (by decide) (fun x m3 x0 x1 fr3 hb3 => ?_)
      walk_at "vg"
      have hr3 : m3 q = some (.lst (tls rs)) := (fr3 q (Ne.symm hqa)).trans hr
      have frm3 : ∀ b, b ≠ a → b ≠ q → m3 b = m b := fun b h1 h2 => (fr3 b h1).trans (fr b h1 h2)
      refine if_dec (fun c => ?_) (fun c => ?_)
      · walk_at "vg"
        refine tk hb3 (by omega) (by decide) (by decide) (fun y m4 y0 y1 fr4 hb4 => ?_)
        walk_at "vg"
        refine tk hb4 (by omega) (by decide) (by decide) (fun z m5 z0 z1 fr5 hb5 => ?_)
        walk_at "vg"
        have key : ∀ z ∈ ([.int 1, .int 2, .int 3, .int 4, .int (1 + y)] : List D), ∃ t : Int, (1 ≤ t ∧ t ≤ 9) ∧ z = D.int t := by
          intro z hz
          simp only [List.mem_cons, List.not_mem_nil, or_false] at hz
          rcases hz with rfl | rfl | rfl | rfl | rfl <;> exact ⟨_, by omega, rfl⟩
        refine idx_take z0 z1 (fun w hw => ?_)
        obtain ⟨t, ht, rfl⟩ := key w hw
        walk_at "vg"
        have hr5 : m5 q = some (.lst (tls rs)) := (fr5 q (Ne.symm hqa)).trans ((fr4 q (Ne.symm hqa)).trans hr3)
        refine ist_at hr5 ?_
        walk_at "vg"
        refine tk hb5 (by omega) (by decide) (by decide) (fun u m6 u0 u1 fr6 hb6 => ?_)
        walk_at "vg"
        obtain ⟨un, rfl⟩ : ∃ un : Nat, u = (un : Int) := ⟨u.toNat, by omega⟩
        rw [hjc, show (1 : Int) + (un : Int) = ((1 + un : Nat) : Int) by omega]
        have hun : (1 + un) * cB j ≤ 4 * cB j := Nat.mul_le_mul_right _ (by omega)
        generalize hU : (1 + un) * cB j = U at *
        refine ih (by omega) (by omega) hb6 (by rw [hU]; omega) (fun qs m7 hql hqs fr7 hb7 => ?_)
        rw [hU] at hb7
        walk_at "vg"
        have hr7 : m7 q = some (.lst (tls rs)) := (fr7 q (Ne.symm hqa)).trans ((fr6 q (Ne.symm hqa)).trans hr5)
        refine app_at hr7 (by omega) ?_
        walk_at "vg"
        refine ⟨_, _, Gh.refl, rs ++ [.tn t qs], by rw [List.length_append]; rfl, hlaw (.tn t qs) ⟨ht.1, ht.2, ?_, by omega, hqs⟩, ?_, ?_, ?_, _, _, rfl⟩
        · rintro rfl
          rw [List.length_nil] at hql
          omega
        · rw [setM_same, tls_map (rs := rs), tls_map (rs := rs ++ _), List.map_append]
          show _ = some (D.lst (_ ++ [Rw.tl (.tn t qs)]))
          rw [Rw.tl]
        · exact box_same (box_mono hb7 (by rw [hi2]; omega)) (setM_ne hqa)
        · intro b h1 h2
          rw [setM_ne h2, fr7 b h1, fr6 b h1, fr5 b h1, fr4 b h1, frm3 b h1 h2]
      · refine leaf _ _ hb3 (by omega) hr3 frm3 _ (fun m4 l hl4 hr4 hb4 fr4 => ?_)
        exact ⟨_, _, Gh.refl, rs ++ [.lf l], by rw [List.length_append]; rfl, hlaw (.lf l) hl4, hr4, box_mono hb4 (by rw [hi2]; omega), fr4, _, _, rfl⟩
    · rintro v1 m2 ⟨rs, hlen, hl, hr, hb2, fr, y5, y6, rfl⟩
      refine nx_go ?_
      unfold w_law_rows_1
      walk_at "vg"
      refine rt_at hr ?_
      refine h rs _ hlen hl (fun b hb => ?_) (box_same hb2 (delM_ne hqa))
      by_cases e : b = q
      · subst e
        rw [hq]
        exact if_pos rfl
      · rw [delM_ne e, fr b hb e]
theorem p_law_rows0 {many : Nat} (hW : Wd W) (hb : Box m a n) (hn : n < 900000) (hm : many ≤ 9) (h : ∀ (rs : List Rw) m', rs.length = many → (∀ r ∈ rs, r.law W 3) → (∀ b, b ≠ a → m' b = m b) → Box m' a (n + 20000) → R (.ret (.lst (tls rs))) m') : sr_law_rows K 8 [.raw (.ref a), .int W, .int (many : Nat), .int 0] m R := by
  have hc : cB 3 = 1700 := by decide
  have := p_law_rows (K := K) (j := 3) (f := 7) (many := many) hW (by omega) (Nat.le_refl _) hb (by rw [hc]; omega) (fun rs m' h1 h2 h3 h4 => h rs m' h1 h2 h3 (box_mono h4 (by rw [hc]; omega)))
  rw [show (3 : Int) - ((3 : Nat) : Int) = 0 by omega] at this
  exact this
end
end K29
end
section
namespace K29
open PySem PySem.Spec PyProof.Rows L2 Ab
section
variable {K : PySem.W.Frag} {m : Mem} {R : ARes → Mem → Prop} {W : Nat} {P : SK} {v : Ab.Env} {k : KE} {kx : KX} {i : Nat} {T : ClsT} {t x y z u : D}
/-! ### _law_step -/
theorem st_set {n : Nat} {x y : D} (h : R (.ret (obSet x y)) m) : sr_law_step K (n + 1) [.tup [.str "set", x, y]] m R := by
  show w_law_step K (sr_law_step K n) [some (.tup [.str "set", x, y]), none, none] m _
  unfold w_law_step
  walk_at "vg"
  refine if_N (by decide) ?_
  walk_at "vg"
  unfold w_law_step_14
  walk_at "vg"
  refine if_D rfl ?_
  walk_at "vg"
  refine mkw (fun h => mk_set rfl h) (fun kl hk => ?_) (rt_any h)
  walk_at "vg"
  exact hk
theorem st_copy {n : Nat} {x y : D} (h : R (.ret (obCopy x y)) m) : sr_law_step K (n + 1) [.tup [.str "copy", x, y]] m R := by
  show w_law_step K (sr_law_step K n) [some (.tup [.str "copy", x, y]), none, none] m _
  unfold w_law_step
  walk_at "vg"
  refine if_N (by decide) ?_
  walk_at "vg"
  unfold w_law_step_14
  walk_at "vg"
  refine if_N (by decide) ?_
  walk_at "vg"
  unfold w_law_step_13
  walk_at "vg"
  refine if_D rfl ?_
  walk_at "vg"
  refine mkw (fun h => mk_copy rfl h) (fun kl hk => ?_) (rt_any h)
  walk_at "vg"
  exact hk
theorem st_sum {n : Nat} {x y z u : D} (h : R (.ret (obCarr "Sum" x y z u)) m) : sr_law_step K (n + 1) [.tup [.str "sum", x, y, z, u]] m R := by
  show w_law_step K (sr_law_step K n) [some (.tup [.str "sum", x, y, z, u]), none, none] m _
  unfold w_law_step
  walk_at "vg"
  refine if_N (by decide) ?_
  walk_at "vg"
  unfold w_law_step_14
  walk_at "vg"
  refine if_N (by decide) ?_
  walk_at "vg"
  unfold w_law_step_13
  walk_at "vg"
  refine if_N (by decide) ?_
  walk_at "vg"
  unfold w_law_step_12
  walk_at "vg"
  refine if_D rfl ?_
  walk_at "vg"
  refine mkw (fun h => mk_carr rfl h) (fun kl hk => ?_) (rt_any h)
  walk_at "vg"
  exact hk
theorem st_gap {n : Nat} {x y z u : D} (h : R (.ret (obCarr "Gap" x y z u)) m) : sr_law_step K (n + 1) [.tup [.str "gap", x, y, z, u]] m R := by
  show w_law_step K (sr_law_step K n) [some (.tup [.str "gap", x, y, z, u]), none, none] m _
  unfold w_law_step
  walk_at "vg"
  refine if_N (by decide) ?_
  walk_at "vg"
  unfold w_law_step_14
  walk_at "vg"
  refine if_N (by decide) ?_
  walk_at "vg"
  unfold w_law_step_13
  walk_at "vg"
  refine if_N (by decide) ?_
  walk_at "vg"
  unfold w_law_step_12
  walk_at "vg"
  refine if_N (by decide) ?_
  walk_at "vg"
  unfold w_law_step_11
  walk_at "vg"
  refine if_D rfl ?_
  walk_at "vg"
  refine mkw (fun h => mk_carr rfl h) (fun kl hk => ?_) (rt_any h)
  walk_at "vg"
  exact hk
theorem st_mark {n : Nat} {x y z : D} (h : R (.ret (obMark x y z)) m) : sr_law_step K (n + 1) [.tup [.str "mark", x, y, z]] m R := by
  show w_law_step K (sr_law_step K n) [some (.tup [.str "mark", x, y, z]), none, none] m _
  unfold w_law_step
  walk_at "vg"
  refine if_N (by decide) ?_
  walk_at "vg"
  unfold w_law_step_14
  walk_at "vg"
  refine if_N (by decide) ?_
  walk_at "vg"
  unfold w_law_step_13
  walk_at "vg"
  refine if_N (by decide) ?_
  walk_at "vg"
  unfold w_law_step_12
  walk_at "vg"
  refine if_N (by decide) ?_
  walk_at "vg"
  unfold w_law_step_11
  walk_at "vg"
  refine if_N (by decide) ?_
  walk_at "vg"
  unfold w_law_step_10
  walk_at "vg"
  refine if_D rfl ?_
  walk_at "vg"
  refine mkw (fun h => mk_mark rfl h) (fun kl hk => ?_) (rt_any h)
  walk_at "vg"
  exact hk
theorem st_pick {n : Nat} {x y z u : D} (h : R (.ret (obPick x y z u)) m) : sr_law_step K (n + 1) [.tup [.str "pick", x, y, z, u]] m R := by
  show w_law_step K (sr_law_step K n) [some (.tup [.str "pick", x, y, z, u]), none, none] m _
  unfold w_law_step
  walk_at "vg"
  refine if_N (by decide) ?_
  walk_at "vg"
  unfold w_law_step_14
  walk_at "vg"
  refine if_N (by decide) ?_
  walk_at "vg"
  unfold w_law_step_13
  walk_at "vg"
  refine if_N (by decide) ?_
  walk_at "vg"
  unfold w_law_step_12
  walk_at "vg"
  refine if_N (by decide) ?_
  walk_at "vg"
  unfold w_law_step_11
  walk_at "vg"
  refine if_N (by decide) ?_
  walk_at "vg"
  unfold w_law_step_10
  walk_at "vg"
  refine if_N (by decide) ?_
  walk_at "vg"
  unfold w_law_step_9
  walk_at "vg"
  refine if_D rfl ?_
  walk_at "vg"
  refine mkw (fun h => mk_pick rfl h) (fun kl hk => ?_) (rt_any h)
  walk_at "vg"
  exact hk
theorem st_low {n : Nat} {x y z : D} (h : R (.ret (obPair "Low" x y z)) m) : sr_law_step K (n + 1) [.tup [.str "low", x, y, z]] m R := by
  show w_law_step K (sr_law_step K n) [some (.tup [.str "low", x, y, z]), none, none] m _
  unfold w_law_step
  walk_at "vg"
  refine if_N (by decide) ?_
  walk_at "vg"
  unfold w_law_step_14
  walk_at "vg"
  refine if_N (by decide) ?_
  walk_at "vg"
  unfold w_law_step_13
  walk_at "vg"
  refine if_N (by decide) ?_
  walk_at "vg"
  unfold w_law_step_12
  walk_at "vg"
  refine if_N (by decide) ?_
  walk_at "vg"
  unfold w_law_step_11
  walk_at "vg"
  refine if_N (by decide) ?_
  walk_at "vg"
  unfold w_law_step_10
  walk_at "vg"
  refine if_N (by decide) ?_
  walk_at "vg"
  unfold w_law_step_9
  walk_at "vg"
  refine if_N (by decide) ?_
  walk_at "vg"
  unfold w_law_step_8
  walk_at "vg"
  refine if_D rfl ?_
  walk_at "vg"
  refine mkw (fun h => mk_pair rfl h) (fun kl hk => ?_) (rt_any h)
  walk_at "vg"
  exact hk
theorem st_high {n : Nat} {x y z : D} (h : R (.ret (obPair "High" x y z)) m) : sr_law_step K (n + 1) [.tup [.str "high", x, y, z]] m R := by
  show w_law_step K (sr_law_step K n) [some (.tup [.str "high", x, y, z]), none, none] m _
  unfold w_law_step
  walk_at "vg"
  refine if_N (by decide) ?_
  walk_at "vg"
  unfold w_law_step_14
  walk_at "vg"
  refine if_N (by decide) ?_
  walk_at "vg"
  unfold w_law_step_13
  walk_at "vg"
  refine if_N (by decide) ?_
  walk_at "vg"
  unfold w_law_step_12
  walk_at "vg"
  refine if_N (by decide) ?_
  walk_at "vg"
  unfold w_law_step_11
  walk_at "vg"
  refine if_N (by decide) ?_
  walk_at "vg"
  unfold w_law_step_10
  walk_at "vg"
  refine if_N (by decide) ?_
  walk_at "vg"
  unfold w_law_step_9
  walk_at "vg"
  refine if_N (by decide) ?_
  walk_at "vg"
  unfold w_law_step_8
  walk_at "vg"
  refine if_N (by decide) ?_
  walk_at "vg"
  unfold w_law_step_7
  walk_at "vg"
  refine if_D rfl ?_
  walk_at "vg"
  refine mkw (fun h => mk_pair rfl h) (fun kl hk => ?_) (rt_any h)
  walk_at "vg"
  exact hk
theorem st_and {n : Nat} {x y z : D} (h : R (.ret (obPair "And" x y z)) m) : sr_law_step K (n + 1) [.tup [.str "and", x, y, z]] m R := by
  show w_law_step K (sr_law_step K n) [some (.tup [.str "and", x, y, z]), none, none] m _
  unfold w_law_step
  walk_at "vg"
  refine if_N (by decide) ?_
  walk_at "vg"
  unfold w_law_step_14
  walk_at "vg"
  refine if_N (by decide) ?_
  walk_at "vg"
  unfold w_law_step_13
  walk_at "vg"
  refine if_N (by decide) ?_
  walk_at "vg"
  unfold w_law_step_12
  walk_at "vg"
  refine if_N (by decide) ?_
  walk_at "vg"
  unfold w_law_step_11
  walk_at "vg"
  refine if_N (by decide) ?_
  walk_at "vg"
  unfold w_law_step_10
  walk_at "vg"
  refine if_N (by decide) ?_
  walk_at "vg"
  unfold w_law_step_9
  walk_at "vg"
  refine if_N (by decide) ?_
  walk_at "vg"
  unfold w_law_step_8
  walk_at "vg"
  refine if_N (by decide) ?_
  walk_at "vg"
  unfold w_law_step_7
  walk_at "vg"
  refine if_N (by decide) ?_
  walk_at "vg"
  unfold w_law_step_6
  walk_at "vg"
  refine if_D rfl ?_
  walk_at "vg"
  refine mkw (fun h => mk_pair rfl h) (fun kl hk => ?_) (rt_any h)
  walk_at "vg"
  exact hk
theorem st_or {n : Nat} {x y z : D} (h : R (.ret (obPair "Or" x y z)) m) : sr_law_step K (n + 1) [.tup [.str "or", x, y, z]] m R := by
  show w_law_step K (sr_law_step K n) [some (.tup [.str "or", x, y, z]), none, none] m _
  unfold w_law_step
  walk_at "vg"
  refine if_N (by decide) ?_
  walk_at "vg"
  unfold w_law_step_14
  walk_at "vg"
  refine if_N (by decide) ?_
  walk_at "vg"
  unfold w_law_step_13
  walk_at "vg"
  refine if_N (by decide) ?_
  walk_at "vg"
  unfold w_law_step_12
  walk_at "vg"
  refine if_N (by decide) ?_
  walk_at "vg"
  unfold w_law_step_11
  walk_at "vg"
  refine if_N (by decide) ?_
  walk_at "vg"
  unfold w_law_step_10
  walk_at "vg"
  refine if_N (by decide) ?_
  walk_at "vg"
  unfold w_law_step_9
  walk_at "vg"
  refine if_N (by decide) ?_
  walk_at "vg"
  unfold w_law_step_8
  walk_at "vg"
  refine if_N (by decide) ?_
  walk_at "vg"
  unfold w_law_step_7
  walk_at "vg"
  refine if_N (by decide) ?_
  walk_at "vg"
  unfold w_law_step_6
  walk_at "vg"
  refine if_N (by decide) ?_
  walk_at "vg"
  unfold w_law_step_5
  walk_at "vg"
  refine if_D rfl ?_
  walk_at "vg"
  refine mkw (fun h => mk_pair rfl h) (fun kl hk => ?_) (rt_any h)
  walk_at "vg"
  exact hk
theorem st_unlike {n : Nat} {x y z : D} (h : R (.ret (obPair "Unlike" x y z)) m) : sr_law_step K (n + 1) [.tup [.str "unlike", x, y, z]] m R := by
  show w_law_step K (sr_law_step K n) [some (.tup [.str "unlike", x, y, z]), none, none] m _
  unfold w_law_step
  walk_at "vg"
  refine if_N (by decide) ?_
  walk_at "vg"
  unfold w_law_step_14
  walk_at "vg"
  refine if_N (by decide) ?_
  walk_at "vg"
  unfold w_law_step_13
  walk_at "vg"
  refine if_N (by decide) ?_
  walk_at "vg"
  unfold w_law_step_12
  walk_at "vg"
  refine if_N (by decide) ?_
  walk_at "vg"
  unfold w_law_step_11
  walk_at "vg"
  refine if_N (by decide) ?_
  walk_at "vg"
  unfold w_law_step_10
  walk_at "vg"
  refine if_N (by decide) ?_
  walk_at "vg"
  unfold w_law_step_9
  walk_at "vg"
  refine if_N (by decide) ?_
  walk_at "vg"
  unfold w_law_step_8
  walk_at "vg"
  refine if_N (by decide) ?_
  walk_at "vg"
  unfold w_law_step_7
  walk_at "vg"
  refine if_N (by decide) ?_
  walk_at "vg"
  unfold w_law_step_6
  walk_at "vg"
  refine if_N (by decide) ?_
  walk_at "vg"
  unfold w_law_step_5
  walk_at "vg"
  refine if_N (by decide) ?_
  walk_at "vg"
  unfold w_law_step_4
  walk_at "vg"
  refine if_D rfl ?_
  walk_at "vg"
  refine mkw (fun h => mk_pair rfl h) (fun kl hk => ?_) (rt_any h)
  walk_at "vg"
  exact hk
theorem st_under {n : Nat} {x y z : D} (h : R (.ret (obPair "Under" x y z)) m) : sr_law_step K (n + 1) [.tup [.str "under", x, y, z]] m R := by
  show w_law_step K (sr_law_step K n) [some (.tup [.str "under", x, y, z]), none, none] m _
  unfold w_law_step
  walk_at "vg"
  refine if_N (by decide) ?_
  walk_at "vg"
  unfold w_law_step_14
  walk_at "vg"
  refine if_N (by decide) ?_
  walk_at "vg"
  unfold w_law_step_13
  walk_at "vg"
  refine if_N (by decide) ?_
  walk_at "vg"
  unfold w_law_step_12
  walk_at "vg"
  refine if_N (by decide) ?_
  walk_at "vg"
  unfold w_law_step_11
  walk_at "vg"
  refine if_N (by decide) ?_
  walk_at "vg"
  unfold w_law_step_10
  walk_at "vg"
  refine if_N (by decide) ?_
  walk_at "vg"
  unfold w_law_step_9
  walk_at "vg"
  refine if_N (by decide) ?_
  walk_at "vg"
  unfold w_law_step_8
  walk_at "vg"
  refine if_N (by decide) ?_
  walk_at "vg"
  unfold w_law_step_7
  walk_at "vg"
  refine if_N (by decide) ?_
  walk_at "vg"
  unfold w_law_step_6
  walk_at "vg"
  refine if_N (by decide) ?_
  walk_at "vg"
  unfold w_law_step_5
  walk_at "vg"
  refine if_N (by decide) ?_
  walk_at "vg"
  unfold w_law_step_4
  walk_at "vg"
  refine if_N (by decide) ?_
  walk_at "vg"
  unfold w_law_step_3
  walk_at "vg"
  refine if_D rfl ?_
  walk_at "vg"
  refine mkw (fun h => mk_pair rfl h) (fun kl hk => ?_) (rt_any h)
  walk_at "vg"
  exact hk
theorem st_left {n : Nat} {x y z : D} (h : R (.ret (obShift "Left" x y z)) m) : sr_law_step K (n + 1) [.tup [.str "left", x, y, z]] m R := by
  show w_law_step K (sr_law_step K n) [some (.tup [.str "left", x, y, z]), none, none] m _
  unfold w_law_step
  walk_at "vg"
  refine if_N (by decide) ?_
  walk_at "vg"
  unfold w_law_step_14
  walk_at "vg"
  refine if_N (by decide) ?_
  walk_at "vg"
  unfold w_law_step_13
  walk_at "vg"
  refine if_N (by decide) ?_
  walk_at "vg"
  unfold w_law_step_12
  walk_at "vg"
  refine if_N (by decide) ?_
  walk_at "vg"
  unfold w_law_step_11
  walk_at "vg"
  refine if_N (by decide) ?_
  walk_at "vg"
  unfold w_law_step_10
  walk_at "vg"
  refine if_N (by decide) ?_
  walk_at "vg"
  unfold w_law_step_9
  walk_at "vg"
  refine if_N (by decide) ?_
  walk_at "vg"
  unfold w_law_step_8
  walk_at "vg"
  refine if_N (by decide) ?_
  walk_at "vg"
  unfold w_law_step_7
  walk_at "vg"
  refine if_N (by decide) ?_
  walk_at "vg"
  unfold w_law_step_6
  walk_at "vg"
  refine if_N (by decide) ?_
  walk_at "vg"
  unfold w_law_step_5
  walk_at "vg"
  refine if_N (by decide) ?_
  walk_at "vg"
  unfold w_law_step_4
  walk_at "vg"
  refine if_N (by decide) ?_
  walk_at "vg"
  unfold w_law_step_3
  walk_at "vg"
  refine if_N (by decide) ?_
  walk_at "vg"
  unfold w_law_step_2
  walk_at "vg"
  refine if_D rfl ?_
  walk_at "vg"
  refine mkw (fun h => mk_shift rfl h) (fun kl hk => ?_) (rt_any h)
  walk_at "vg"
  exact hk
theorem st_right {n : Nat} {x y z : D} (h : R (.ret (obShift "Right" x y z)) m) : sr_law_step K (n + 1) [.tup [.str "right", x, y, z]] m R := by
  show w_law_step K (sr_law_step K n) [some (.tup [.str "right", x, y, z]), none, none] m _
  unfold w_law_step
  walk_at "vg"
  refine if_N (by decide) ?_
  walk_at "vg"
  unfold w_law_step_14
  walk_at "vg"
  refine if_N (by decide) ?_
  walk_at "vg"
  unfold w_law_step_13
  walk_at "vg"
  refine if_N (by decide) ?_
  walk_at "vg"
  unfold w_law_step_12
  walk_at "vg"
  refine if_N (by decide) ?_
  walk_at "vg"
  unfold w_law_step_11
  walk_at "vg"
  refine if_N (by decide) ?_
  walk_at "vg"
  unfold w_law_step_10
  walk_at "vg"
  refine if_N (by decide) ?_
  walk_at "vg"
  unfold w_law_step_9
  walk_at "vg"
  refine if_N (by decide) ?_
  walk_at "vg"
  unfold w_law_step_8
  walk_at "vg"
  refine if_N (by decide) ?_
  walk_at "vg"
  unfold w_law_step_7
  walk_at "vg"
  refine if_N (by decide) ?_
  walk_at "vg"
  unfold w_law_step_6
  walk_at "vg"
  refine if_N (by decide) ?_
  walk_at "vg"
  unfold w_law_step_5
  walk_at "vg"
  refine if_N (by decide) ?_
  walk_at "vg"
  unfold w_law_step_4
  walk_at "vg"
  refine if_N (by decide) ?_
  walk_at "vg"
  unfold w_law_step_3
  walk_at "vg"
  refine if_N (by decide) ?_
  walk_at "vg"
  unfold w_law_step_2
  walk_at "vg"
  refine if_N (by decide) ?_
  walk_at "vg"
  unfold w_law_step_1
  walk_at "vg"
  refine if_D rfl ?_
  refine mkw (fun h => mk_shift rfl h) (fun kl hk => ?_) (rt_any h)
  walk_at "vg"
  exact hk
theorem st_slide {n : Nat} {x y z : D} (h : R (.ret (obShift "Slide" x y z)) m) : sr_law_step K (n + 1) [.tup [.str "slide", x, y, z]] m R := by
  show w_law_step K (sr_law_step K n) [some (.tup [.str "slide", x, y, z]), none, none] m _
  unfold w_law_step
  walk_at "vg"
  refine if_N (by decide) ?_
  walk_at "vg"
  unfold w_law_step_14
  walk_at "vg"
  refine if_N (by decide) ?_
  walk_at "vg"
  unfold w_law_step_13
  walk_at "vg"
  refine if_N (by decide) ?_
  walk_at "vg"
  unfold w_law_step_12
  walk_at "vg"
  refine if_N (by decide) ?_
  walk_at "vg"
  unfold w_law_step_11
  walk_at "vg"
  refine if_N (by decide) ?_
  walk_at "vg"
  unfold w_law_step_10
  walk_at "vg"
  refine if_N (by decide) ?_
  walk_at "vg"
  unfold w_law_step_9
  walk_at "vg"
  refine if_N (by decide) ?_
  walk_at "vg"
  unfold w_law_step_8
  walk_at "vg"
  refine if_N (by decide) ?_
  walk_at "vg"
  unfold w_law_step_7
  walk_at "vg"
  refine if_N (by decide) ?_
  walk_at "vg"
  unfold w_law_step_6
  walk_at "vg"
  refine if_N (by decide) ?_
  walk_at "vg"
  unfold w_law_step_5
  walk_at "vg"
  refine if_N (by decide) ?_
  walk_at "vg"
  unfold w_law_step_4
  walk_at "vg"
  refine if_N (by decide) ?_
  walk_at "vg"
  unfold w_law_step_3
  walk_at "vg"
  refine if_N (by decide) ?_
  walk_at "vg"
  unfold w_law_step_2
  walk_at "vg"
  refine if_N (by decide) ?_
  walk_at "vg"
  unfold w_law_step_1
  walk_at "vg"
  refine if_N (by decide) ?_
  refine mkw (fun h => mk_shift rfl h) (fun kl hk => ?_) (rt_any h)
  walk_at "vg"
  exact hk
theorem st_leaf {n : Nat} {l : Lf} (h : R (.ret l.ob) m) : sr_law_step K (n + 1) [l.tl] m R := by
  cases l with
  | set g b => exact st_set h
  | copy g o => exact st_copy h
  | pair p g o t =>
    cases p with
    | low => exact st_low h
    | high => exact st_high h
    | an => exact st_and h
    | or => exact st_or h
    | unlike => exact st_unlike h
    | under => exact st_under h
  | carr c g y o t =>
    cases c with
    | sum => exact st_sum h
    | gap => exact st_gap h
  | shift s g o n =>
    cases s with
    | left => exact st_left h
    | right => exact st_right h
    | slide => exact st_slide h
  | pick g b o t => exact st_pick h
  | mark l w b => exact st_mark h
theorem p_law_step : ∀ {n : Nat} {r : Rw} {m : Mem} {R : ARes → Mem → Prop}, r.law W n → R (.ret r.ob) m → sr_law_step K (n + 1) [r.tl] m R := by
  intro n
  induction n with
  | zero =>
    intro r m R hr h
    cases r with
    | lf l => rw [Rw.tl]; rw [Rw.ob] at h; exact st_leaf h
    | tn t rs => exact False.elim hr
    | bad d => exact False.elim hr
  | succ n ih =>
    intro r m R hr h
    cases r with
    | lf l => rw [Rw.tl]; rw [Rw.ob] at h; exact st_leaf h
    | bad d => exact False.elim hr
    | tn t rs =>
      rw [Rw.tl, tls_map]
      rw [Rw.ob, obs_map] at h
      show w_law_step K (sr_law_step K (n + 1)) [some (.tup [.str "turns", .int t, .lst (rs.map Rw.tl)]), none, none] m _
      unfold w_law_step
      walk_at "vg"
      refine if_D rfl ?_
      walk_at "vg"
      refine mkx ?_
      walk_at "vg"
      show iSeq _ _ _ _ _
      walk_at "vg"
      refine lc_map (f := Rw.tl) (xs := rs) (fun r => Rw.ob r) (by have := hr.2.2.2.1; omega) (fun i hi kk2 Z2 hkk2 => ?_) ?_
      · have hm := hr.2.2.2.2 _ (List.getElem_mem hi)
        dsimp only [gN, wYes, wipeE, List.set_cons_zero, List.set_cons_succ]
        refine if_T ?_
        walk_at "vg"
        refine ih hm ?_
        exact hkk2
      · walk_at "vg"
        refine mk_turns ?_
        exact rt_any h
end
end K29
end
section
namespace K29
open PySem PySem.Spec PyProof.Rows L2 Ab
section
variable {K : PySem.W.Frag} {m : Mem} {R : ARes → Mem → Prop} {W : Nat} {P : SK} {v : Ab.Env} {k : KE} {kx : KX} {i : Nat} {T : ClsT} {a : Addr} {n : Nat}
theorem slt_go {z : Bool} {xs : List D} {lo hi : Option Int} (h0 : ¬ (HT.sIx xs.length 0 lo = 0 ∧ HT.sIx xs.length xs.length hi = xs.length)) (h : k (.tup (cutD xs lo hi)) m) : oSl z m (res m (.tup xs)) lo hi k := ⟨h0, h⟩
/-! ### _law_placed -/
theorem tl_ne {l : Lf} : ∃ w r, l.tl = .tup (.str w :: r) ∧ w ≠ "turns" := by
  cases l with
  | pair p g o t => cases p <;> exact ⟨_, _, rfl, by decide⟩
  | carr c g y o t => cases c <;> exact ⟨_, _, rfl, by decide⟩
  | shift s g o n => cases s <;> exact ⟨_, _, rfl, by decide⟩
  | _ => exact ⟨_, _, rfl, by decide⟩
theorem law_up {W : Nat} : ∀ {n n' : Nat} {r : Rw}, r.law W n → n ≤ n' → r.law W n' := by
  intro n
  induction n with
  | zero =>
    intro n' r h hn
    cases r with
    | lf l => cases n' <;> exact h
    | tn t rs => exact False.elim h
    | bad d => exact False.elim h
  | succ n ih =>
    intro n' r h hn
    obtain ⟨n', rfl⟩ : ∃ k, n' = k + 1 := ⟨n' - 1, by omega⟩
    cases r with
    | lf l => exact h
    | bad d => exact False.elim h
    | tn t rs => exact ⟨h.1, h.2.1, h.2.2.1, h.2.2.2.1, fun r hr => ih (h.2.2.2.2 r hr) (by omega)⟩
theorem placed_core {j : Nat} {sp : ASp} (hsp : ∀ t us, (Rw.tn t us).law W j → ∀ (p : Int) (m : Mem) (R : ARes → Mem → Prop), (∀ xs, R (.ret (.tup [.lst xs, .int (p + szs us)])) m) → sp [.lst (tls us), .int p] m R)
    {rs : List Rw} {p : Int} {m : Mem} {R : ARes → Mem → Prop} (hrs : ∀ r ∈ rs, r.law W j) (hln : rs.length ≤ 1000) (h : ∀ xs, R (.ret (.tup [.lst xs, .int (p + szs rs)])) m) : spOf 6 (w_law_placed K sp) [.lst (tls rs), .int p] m R := by
  show w_law_placed K sp [some (.lst (tls rs)), some (.int p), none, none, none, none] m _
  unfold w_law_placed
  walk_at "vg"
  refine newf_go fun q hq => ?_
  walk_at "vg"
  rw [tls_map]
  refine rest_turns (fun pre r v m' => ∃ xs, xs.length = pre.length ∧ m' = setM m q (.lst xs) ∧ ∃ y3 y4 y5, v = [some (.lst (rs.map Rw.tl)), some (.int (p + szs pre)), some (.raw (.ref q)), y3, y4, y5]) ⟨[], rfl, rfl, none, none, none, by rw [szs, show p + ((0 : Nat) : Int) = p by omega]; rfl⟩ ?_ ?_
  · rintro pre x r v1 m2 hpre ⟨xs, hxl, rfl, y3, y4, y5, rfl⟩
    have hx := hrs x (by rw [← hpre]; simp)
    have hpl : pre.length ≤ 1000 := by rw [← hpre, List.length_append] at hln; omega
    cases x with
    | bad d => cases j <;> exact False.elim hx
    | lf l =>
      obtain ⟨w, ts, e, hw⟩ := tl_ne (l := l)
      rw [Rw.tl, e]
      show w_law_placed_2 K _ [some (.lst (rs.map Rw.tl)), some (.int (p + szs pre)), some (.raw (.ref q)), some (.tup (.str w :: ts)), y4, y5] _ _
      unfold w_law_placed_2
      walk_at "vg"
      have e3 : p + ((szs (pre ++ [.lf l]) : Nat) : Int) = p + szs pre + 1 := by rw [szs_snoc, Rw.sz]; omega
      rw [e3]
      refine ⟨_, _, Gh.refl, _, ?_, rfl, _, _, _, rfl⟩
      rw [List.length_append, List.length_append, hxl]; rfl
    | tn t qs =>
      rw [Rw.tl]
      show w_law_placed_2 K _ [some (.lst (rs.map Rw.tl)), some (.int (p + szs pre)), some (.raw (.ref q)), some (.tup [.str "turns", .int t, .lst (tls qs)]), y4, y5] _ _
      unfold w_law_placed_2
      walk_at "vg"
      refine if_D rfl ?_
      walk_at "vg"
      refine hsp t qs hx _ _ _ (fun ys => ?_)
      walk_at "vg"
      refine slt_go (show ¬ (HT.sIx 3 0 none = 0 ∧ HT.sIx 3 3 (some 2) = 3) by decide) ?_
      walk_at "vg"
      have e3 : p + ((szs (pre ++ [.tn t qs]) : Nat) : Int) = p + szs pre + 1 + szs qs := by rw [szs_snoc, Rw.sz]; omega
      rw [e3]
      refine ⟨_, _, Gh.refl, _, ?_, rfl, _, _, _, rfl⟩
      rw [List.length_append, List.length_append, hxl]; rfl
  · rintro v1 m2 ⟨xs, hxl, rfl, y3, y4, y5, rfl⟩
    refine nx_frz 2 rfl hq ?_
    unfold w_law_placed_1
    show sRet _ [some (.lst (rs.map Rw.tl)), some (.int (p + szs rs)), some (.lst xs), y3, y4, y5] m _
    walk_at "vg"
    exact h xs
theorem p_law_placed : ∀ {j : Nat} {rs : List Rw} {p : Int} {m : Mem} {R : ARes → Mem → Prop}, (∀ r ∈ rs, r.law W j) → rs.length ≤ 1000 → (∀ xs, R (.ret (.tup [.lst xs, .int (p + szs rs)])) m) → sr_law_placed K (j + 1) [.lst (tls rs), .int p] m R := by
  intro j
  induction j with
  | zero => intro rs p m R hrs hln h; exact placed_core (j := 0) (W := W) (fun t us hx => False.elim hx) hrs hln h
  | succ j ih => intro rs p m R hrs hln h; exact placed_core (j := j + 1) (W := W) (fun t us hx p m R h => ih hx.2.2.2.2 (by have := hx.2.2.2.1; omega) h) hrs hln h
end
end K29
end
section
namespace K29
open PySem PySem.Spec PyProof.Rows L2 Ab
section
variable {K : PySem.W.Frag} {m : Mem} {R : ARes → Mem → Prop} {W : Nat} {P : SK} {v : Ab.Env} {k : KE} {kx : KX} {i : Nat} {T : ClsT} {a : Addr} {n : Nat}
/-! ### _law_bad -/
def badL (W : Nat) : List D := [.non, .str "copy a b", .tup [.str "copy", .str "a", .str "b"], .int 7, obSet (.str "a") (.int (2 ^ W)), obSet (.str "a") (.int (-1)), obCopy (.str "A") (.str "b"), obCopy (.str "a") (.str ""), obShift "Left" (.str "a") (.str "b") (.int (W : Nat)),
  obShift "Right" (.str "a") (.str "b") (.int (-1)), obCarr "Sum" (.str "a") (.str "1c") (.str "b") (.str "b"), obCarr "Gap" (.str "a") (.bl true) (.str "b") (.str "b"), obPick (.str "a") (.str "b") .non (.str "c"), obMark (.int 3) (.str "rounds") (.str "a"),
  obMark (.int 10000) (.str "round") (.str "a"), obTurns (.int 65) (.lst [obCopy (.str "a") (.str "b")]), obTurns (.int 0) (.lst [obCopy (.str "a") (.str "b")]), obTurns (.int 2) (.lst []), obTurns (.int 2) .non, obPair "Low" (.str "a") (.str "b") (.str "toolonger")]
theorem p_law_bad (hW : Wd W) (hb : Box m a n) (hn : n < 10000000) (h : ∀ d m', d ∈ badL W → (∀ b, b ≠ a → m' b = m b) → Box m' a (n + 1) → R (.ret d) m') : sp_law_bad K [.raw (.ref a), .int W] m R := by
  have hhi := hW.hi
  show w_law_bad K [some (.raw (.ref a)), some (.int W), none] m _
  unfold w_law_bad
  walk_at "vg"
  refine mkw (fun h => mk_set rfl h) (fun kl hk => by walk_at "vg"; exact hk) ?_
  walk_at "vg"
  refine mkw (fun h => mk_set rfl h) (fun kl hk => by walk_at "vg"; exact hk) ?_
  walk_at "vg"
  refine mkw (fun h => mk_copy rfl h) (fun kl hk => by walk_at "vg"; exact hk) ?_
  walk_at "vg"
  refine mkw (fun h => mk_copy rfl h) (fun kl hk => by walk_at "vg"; exact hk) ?_
  walk_at "vg"
  refine mkw (fun h => mk_shift rfl h) (fun kl hk => by walk_at "vg"; exact hk) ?_
  walk_at "vg"
  refine mkw (fun h => mk_shift rfl h) (fun kl hk => by walk_at "vg"; exact hk) ?_
  walk_at "vg"
  refine mkw (fun h => mk_carr rfl h) (fun kl hk => by walk_at "vg"; exact hk) ?_
  walk_at "vg"
  refine mkw (fun h => mk_carr rfl h) (fun kl hk => by walk_at "vg"; exact hk) ?_
  walk_at "vg"
  refine mkw (fun h => mk_pick rfl h) (fun kl hk => by walk_at "vg"; exact hk) ?_
  walk_at "vg"
  refine mkw (fun h => mk_mark rfl h) (fun kl hk => by walk_at "vg"; exact hk) ?_
  walk_at "vg"
  refine addl_go (Nat.le_of_ble_eq_true rfl) ?_
  walk_at "vg"
  refine mkw (fun h => mk_mark rfl h) (fun kl hk => by walk_at "vg"; exact hk) ?_
  walk_at "vg"
  refine mkx ?_
  walk_at "vg"
  refine mkw (fun h => mk_copy rfl h) (fun kl hk => by walk_at "vg"; exact hk) ?_
  walk_at "vg"
  refine mk_turns ?_
  walk_at "vg"
  refine mkx ?_
  walk_at "vg"
  refine mkw (fun h => mk_copy rfl h) (fun kl hk => by walk_at "vg"; exact hk) ?_
  walk_at "vg"
  refine mk_turns ?_
  walk_at "vg"
  refine mkw (fun h => mk_turns h) (fun kl hk => by walk_at "vg"; exact hk) ?_
  walk_at "vg"
  refine mkw (fun h => mk_turnsN h) (fun kl hk => by walk_at "vg"; exact hk) ?_
  walk_at "vg"
  refine mkw (fun h => mk_pair rfl h) (fun kl hk => by walk_at "vg"; exact hk) ?_
  walk_at "vg"
  refine addl_go (Nat.le_of_ble_eq_true rfl) ?_
  walk_at "vg"
  show sp_law_take K [.raw (.ref a), .int 20] m _
  refine tk hb (by omega) (by decide) (by decide) (fun d m' d0 d1 hm hb' => ?_)
  walk_at "vg"
  refine idx_take (xs := badL W) d0 d1 (fun y hy => ?_)
  exact rt_any (h y m' hy hm hb')
end
end K29
end
section
namespace K29
open PySem PySem.Spec PyProof.Rows L2 Ab
section
variable {K : PySem.W.Frag} {m : Mem} {R : ARes → Mem → Prop} {W : Nat} {P : SK} {v : Ab.Env} {k : KE} {kx : KX} {i : Nat} {T : ClsT} {a : Addr} {n : Nat}
/-! ### _law_spoilt -/
def Rw.good (W : Nat) : Nat → Rw → Prop
  | _, .lf l => l.ok W
  | n + 1, .tn t rs => 1 ≤ t ∧ t ≤ 64 ∧ rs ≠ [] ∧ ∀ r ∈ rs, r.good W n
  | 0, .tn _ _ => False
  | _, .bad d => d ∈ badL W
theorem law_good : ∀ {n : Nat} {r : Rw}, r.law W n → r.good W n := by
  intro n
  induction n with
  | zero =>
    intro r h
    cases r with
    | lf l => exact h
    | tn t rs => exact False.elim h
    | bad d => exact False.elim h
  | succ n ih =>
    intro r h
    cases r with
    | lf l => exact h
    | bad d => exact False.elim h
    | tn t rs => exact ⟨h.1, by have := h.2.1; omega, h.2.2.1, fun r hr => ih (h.2.2.2.2 r hr)⟩
/-- what stands after some turns of _law_spoilt -/
def Spt (W j at' : Nat) (pre qs : List Rw) : Prop := qs.length = pre.length ∧ (∀ q ∈ qs, q.good W j) ∧ (szs pre ≤ at' → fbs qs = none ∧ szs qs = szs pre) ∧ (at' < szs pre → fbs qs = some at') ∧ mns qs ≤ mns pre
theorem Spt.nil {W j at' : Nat} : Spt W j at' [] [] := ⟨rfl, fun q h => (nomatch h), fun _ => ⟨rfl, rfl⟩, fun h => by rw [szs] at h; omega, Nat.le_refl _⟩
theorem Spt.keep {W j at' : Nat} {pre qs : List Rw} {r : Rw} (S : Spt W j at' pre qs) (hr : r.law W j) (h : ¬ (szs pre ≤ at' ∧ at' < szs pre + r.sz)) : Spt W j at' (pre ++ [r]) (qs ++ [r]) := by
  obtain ⟨h1, h2, h3, h4, h5⟩ := S
  refine ⟨by rw [List.length_append, List.length_append, h1], fun q hq => ?_, fun hs => ?_, fun hs => ?_, by rw [mns_app, mns_app]; omega⟩
  · rcases List.mem_append.mp hq with hq | hq
    · exact h2 q hq
    · rw [List.mem_singleton] at hq; subst hq; exact law_good hr
  · rw [szs_snoc] at hs
    obtain ⟨i1, i2⟩ := h3 (by omega)
    rw [fbs_snoc, i1, law_fb hr, szs_snoc, szs_snoc, i2]
    exact ⟨rfl, rfl⟩
  · rw [szs_snoc] at hs
    rw [fbs_snoc, h4 (by omega)]
theorem Spt.put {W j at' : Nat} {pre qs : List Rw} {r q : Rw} (S : Spt W j at' pre qs) (hq : q.good W j) (hs : szs pre ≤ at') (h2' : at' < szs pre + r.sz) (hf : q.fb = some (at' - szs pre)) (hm : q.mn ≤ r.mn) : Spt W j at' (pre ++ [r]) (qs ++ [q]) := by
  obtain ⟨h1, h2, h3, h4, h5⟩ := S
  obtain ⟨i1, i2⟩ := h3 hs
  refine ⟨by rw [List.length_append, List.length_append, h1]; rfl, fun x hx => ?_, fun h => ?_, fun h => ?_, by rw [mns_app, mns_app, mns, mns, mns, mns]; omega⟩
  · rcases List.mem_append.mp hx with hx | hx
    · exact h2 x hx
    · rw [List.mem_singleton] at hx; subst hx; exact hq
  · rw [szs_snoc] at h; omega
  · rw [fbs_snoc, i1, hf, i2]
    show some (szs pre + (at' - szs pre)) = _
    rw [Nat.add_sub_cancel' hs]
theorem sz_pos {r : Rw} : 1 ≤ r.sz := by
  cases r with
  | lf l => exact Nat.le_refl _
  | tn t rs => rw [Rw.sz]; omega
  | bad d => exact Nat.le_refl _
theorem spt_else {j at' : Nat} {pre qs : List Rw} {x : Rw} {q : Addr} {y1 y7 : Option D} (hW : Wd W) (hj : j ≤ 3) (hx : x.law W j) (S : Spt W j at' pre qs) (hqa : a ≠ q) (hql : qs.length ≤ 1000) (hn : n + 1 < 1000000) (hni : szs pre = at' ∨ ¬ (szs pre ≤ at' ∧ at' < szs pre + x.sz)) (hr : m q = some (.lst (obs qs))) (hb2 : Box m a (if szs pre ≤ at' then n else n + 1))
    (hP : ∀ m' z, Spt W j at' (pre ++ [x]) (qs ++ [z]) → m' q = some (.lst (obs (qs ++ [z]))) → (∀ b, b ≠ a → b ≠ q → m' b = m b) → Box m' a (if szs pre + x.sz ≤ at' then n else n + 1) → P.nx [some (.raw (.ref a)), y1, some (.int (at' : Nat)), some (.int W), some (.raw (.ref q)), some (.int (szs pre : Nat)), some x.tl, y7] m') :
    sDrop (wMt "list" mAppend (wVar 4) (wCons (wIf (wIsB (wOp oEq (wVar 5) (wVar 2))) (wCall 2 (sp_law_bad K) (wCons (wVar 0) (wCons (wVar 3) wNil))) (wCall 1 (sr_law_step K 8) (wCons (wVar 6) wNil))) wNil)) [some (.raw (.ref a)), y1, some (.int (at' : Nat)), some (.int W), some (.raw (.ref q)), some (.int (szs pre : Nat)), some x.tl, y7] m P := by
  have hsz := sz_pos (r := x)
  have hql : (obs qs).length ≤ 1000 := by rw [obs_map, List.length_map]; exact hql
  walk_at "vg"
  refine ist_at hr ?_
  walk_at "vg"
  refine if_dec (fun c => ?_) (fun c => ?_)
  · have c2 : szs pre = at' := by omega
    walk_at "vg"
    rw [if_pos (by omega)] at hb2
    refine p_law_bad hW hb2 (by omega) (fun d m3 hd fr3 hb3 => ?_)
    walk_at "vg"
    refine app_at ((fr3 q (Ne.symm hqa)).trans hr) (by omega) ?_
    walk_at "vg"
    refine hP _ (.bad d) (S.put (by cases j <;> exact hd) (by omega) (by omega) (by rw [Rw.fb, c2, Nat.sub_self]) (Nat.zero_le _)) ?_ ?_ ?_
    · rw [setM_same, obs_map, obs_map, List.map_append]; rfl
    · intro b h1 h2
      rw [setM_ne h2, fr3 b h1]
    · rw [if_neg (by omega)]
      exact box_same hb3 (setM_ne hqa)
  · have c2 : szs pre ≠ at' := by omega
    walk_at "vg"
    refine p_law_step (n := 7) (W := W) (law_up hx (by omega)) ?_
    walk_at "vg"
    refine app_at hr (by omega) ?_
    walk_at "vg"
    refine hP _ x (S.keep hx (by rcases hni with hni | hni; exact absurd hni c2; exact hni)) ?_ ?_ ?_
    · rw [setM_same, obs_map, obs_map, List.map_append]; rfl
    · intro b h1 h2
      rw [setM_ne h2]
    · refine box_same (box_mono hb2 ?_) (setM_ne hqa)
      rcases hni with hni | hni
      · exact absurd hni c2
      · split <;> split <;> omega
theorem spoilt_core {j : Nat} {sp : ASp} (hW : Wd W) (hj : j ≤ 3) (hsp : ∀ t us, (Rw.tn t us).law W j → ∀ (at' : Nat) (m : Mem) (n : Nat) (R : ARes → Mem → Prop), at' < szs us → Box m a n → n + 1 < 1000000 → (∀ qs m', (Rw.tn t qs).good W j → fbs qs = some at' → mns qs ≤ mns us → (∀ b, b ≠ a → m' b = m b) → Box m' a (n + 1) → R (.ret (.lst (obs qs))) m') → sp [.raw (.ref a), .lst (tls us), .int (at' : Nat), .int W] m R)
    {at' : Nat} {rs : List Rw} {m : Mem} {n : Nat} {R : ARes → Mem → Prop} (hrs : ∀ r ∈ rs, r.law W j) (hln : rs.length ≤ 1000) (hat : at' < szs rs) (hb : Box m a n) (hn : n + 1 < 1000000)
    (h : ∀ qs m', qs.length = rs.length → (∀ q ∈ qs, q.good W j) → fbs qs = some at' → mns qs ≤ mns rs → (∀ b, b ≠ a → m' b = m b) → Box m' a (n + 1) → R (.ret (.lst (obs qs))) m') : spOf 8 (w_law_spoilt K sp) [.raw (.ref a), .lst (tls rs), .int (at' : Nat), .int W] m R := by
  show w_law_spoilt K sp [some (.raw (.ref a)), some (.lst (tls rs)), some (.int (at' : Nat)), some (.int W), none, none, none, none] m _
  unfold w_law_spoilt
  walk_at "vg"
  refine newf_go fun q hq => ?_
  have hqa := box_ne hb hq
  walk_at "vg"
  rw [tls_map]
  refine rest_turns (fun pre r v m' => ∃ qs, Spt W j at' pre qs ∧ m' q = some (.lst (obs qs)) ∧ (∀ b, b ≠ a → b ≠ q → m' b = m b) ∧ Box m' a (if szs pre ≤ at' then n else n + 1) ∧ ∃ y6 y7, v = [some (.raw (.ref a)), some (.lst (rs.map Rw.tl)), some (.int (at' : Nat)), some (.int W), some (.raw (.ref q)), some (.int (szs pre : Nat)), y6, y7]) ⟨[], Spt.nil, setM_same, fun b _ h => setM_ne h, box_same (by rw [szs, if_pos (Nat.zero_le _)]; exact hb) (setM_ne hqa), none, none, by rw [szs]; rfl⟩ ?_ ?_
  · rintro pre x r v1 m2 hpre ⟨qs, S, hr, fr, hb2, y6, y7, rfl⟩
    have hx := hrs x (by rw [← hpre]; simp)
    have hpl : pre.length ≤ 1000 := by rw [← hpre, List.length_append] at hln; omega
    have hql : qs.length ≤ 1000 := by rw [S.1]; exact hpl
    cases x with
    | bad d => cases j <;> exact False.elim hx
    | lf l =>
      obtain ⟨w, ts, e, hw⟩ := tl_ne (l := l)
      rw [Rw.tl, e]
      show w_law_spoilt_3 K _ [some (.raw (.ref a)), some (.lst (rs.map Rw.tl)), some (.int (at' : Nat)), some (.int W), some (.raw (.ref q)), some (.int (szs pre : Nat)), some (.tup (.str w :: ts)), y7] _ _
      unfold w_law_spoilt_3
      refine if_go (isB_go (op_go (op_go (var_go rfl (con_go (idxt_go at0 (con_go (eqs_go (isbl_go (if_N hw ?_))))))))))
      rw [← e]
      refine seq_go ?_
      refine spt_else (x := .lf l) hW hj hx S hqa hql hn (by rw [Rw.sz]; omega) hr hb2 (fun m3 z S3 hr3 fr3 hb3 => ?_)
      walk_at "vg"
      have e3 : ((szs (pre ++ [.lf l]) : Nat) : Int) = (szs pre : Nat) + 1 := by rw [szs_snoc, Rw.sz]; omega
      rw [e3]
      refine ⟨_, _, Gh.refl, qs ++ [z], S3, hr3, fun b h1 h2 => (fr3 b h1 h2).trans (fr b h1 h2), ?_, _, _, rfl⟩
      rw [szs_snoc]; exact hb3
    | tn t us =>
      have hul : us.length ≤ 4 := by
        cases j with
        | zero => exact False.elim hx
        | succ j => exact hx.2.2.2.1
      have hus : ∀ r ∈ us, r.law W 7 := by
        cases j with
        | zero => exact False.elim hx
        | succ j => exact fun r hr => law_up (hx.2.2.2.2 r hr) (by omega)
      rw [Rw.tl]
      show w_law_spoilt_3 K _ [some (.raw (.ref a)), some (.lst (rs.map Rw.tl)), some (.int (at' : Nat)), some (.int W), some (.raw (.ref q)), some (.int (szs pre : Nat)), some (.tup [.str "turns", .int t, .lst (tls us)]), y7] _ _
      unfold w_law_spoilt_3
      walk_at "vg"
      refine if_D rfl ?_
      walk_at "vg"
      refine p_law_placed (j := 7) (W := W) hus (by omega) (fun ys => ?_)
      walk_at "vg"
      have e0 : (0 : Int) + (szs us : Nat) = ((szs us : Nat) : Int) := Int.zero_add _
      rw [e0]
      have els : ∀ P : SK, (szs pre = at' ∨ ¬ (szs pre ≤ at' ∧ at' < szs pre + (Rw.tn t us).sz)) → (∀ m' z, Spt W j at' (pre ++ [.tn t us]) (qs ++ [z]) → m' q = some (.lst (obs (qs ++ [z]))) → (∀ b, b ≠ a → b ≠ q → m' b = m2 b) → Box m' a (if szs pre + (Rw.tn t us).sz ≤ at' then n else n + 1) → P.nx [some (.raw (.ref a)), some (.lst (rs.map Rw.tl)), some (.int (at' : Nat)), some (.int W), some (.raw (.ref q)), some (.int (szs pre : Nat)), some (.tup [.str "turns", .int t, .lst (tls us)]), some (.int (szs us : Nat))] m') → sDrop (wMt "list" mAppend (wVar 4) (wCons (wIf (wIsB (wOp oEq (wVar 5) (wVar 2))) (wCall 2 (sp_law_bad K) (wCons (wVar 0) (wCons (wVar 3) wNil))) (wCall 1 (sr_law_step K 8) (wCons (wVar 6) wNil))) wNil)) [some (.raw (.ref a)), some (.lst (rs.map Rw.tl)), some (.int (at' : Nat)), some (.int W), some (.raw (.ref q)), some (.int (szs pre : Nat)), some (.tup [.str "turns", .int t, .lst (tls us)]), some (.int (szs us : Nat))] m2 P := by
        intro P hni hP
        have := spt_else (K := K) (P := P) (y1 := some (.lst (rs.map Rw.tl))) (y7 := some (.int (szs us : Nat))) (x := .tn t us) hW hj hx S hqa hql hn hni hr hb2 (by rw [Rw.tl]; exact hP)
        rw [Rw.tl] at this
        exact this
      have hsz : (Rw.tn t us).sz = 1 + szs us := by rw [Rw.sz]
      have fin : ∀ (y6 y7 : Option D) (m3 : Mem) (z : Rw), Spt W j at' (pre ++ [.tn t us]) (qs ++ [z]) → m3 q = some (.lst (obs (qs ++ [z]))) → (∀ b, b ≠ a → b ≠ q → m3 b = m2 b) → Box m3 a (if szs pre + (Rw.tn t us).sz ≤ at' then n else n + 1) → ∃ v4 m5, Gh [some (.raw (.ref a)), some (.lst (rs.map Rw.tl)), some (.int (at' : Nat)), some (.int W), some (.raw (.ref q)), some (.int ((szs pre : Nat) + 1 + (szs us : Nat))), y6, y7] m3 v4 m5 ∧ ∃ qs, Spt W j at' (pre ++ [.tn t us]) qs ∧ m5 q = some (.lst (obs qs)) ∧ (∀ b, b ≠ a → b ≠ q → m5 b = m b) ∧ Box m5 a (if szs (pre ++ [.tn t us]) ≤ at' then n else n + 1) ∧ ∃ y6 y7, v4 = [some (.raw (.ref a)), some (.lst (rs.map Rw.tl)), some (.int (at' : Nat)), some (.int W), some (.raw (.ref q)), some (.int (szs (pre ++ [.tn t us]) : Nat)), y6, y7] := by
        intro y6 y7 m3 z S3 hr3 fr3 hb3
        refine ⟨_, _, Gh.refl, qs ++ [z], S3, hr3, fun b h1 h2 => (fr3 b h1 h2).trans (fr b h1 h2), ?_, y6, y7, ?_⟩
        · rw [szs_snoc]; exact hb3
        · rw [szs_snoc, hsz, show ((szs pre + (1 + szs us) : Nat) : Int) = (szs pre : Nat) + 1 + (szs us : Nat) by omega]
      refine if_dec (fun c => ?_) (fun c => ?_)
      · walk_at "vg"
        refine if_dec (fun c2 => ?_) (fun c2 => ?_)
        · walk_at "vg"
          refine ist_at hr ?_
          walk_at "vg"
          refine mkx ?_
          walk_at "vg"
          rw [show ((at' : Int) - (szs pre : Nat) - 1) = ((at' - szs pre - 1 : Nat) : Int) by omega]
          rw [if_pos (by omega)] at hb2
          refine hsp t us hx _ _ _ _ (by omega) hb2 hn (fun ws m3 hg hf hmn fr3 hb3 => ?_)
          walk_at "vg"
          refine mk_turns ?_
          walk_at "vg"
          refine app_at ((fr3 q (Ne.symm hqa)).trans hr) (by rw [obs_map, List.length_map]; omega) ?_
          walk_at "vg"
          unfold w_law_spoilt_2
          walk_at "vg"
          refine fin _ _ _ (.tn t ws) (S.put hg (by omega) (by rw [hsz]; omega) ?_ (Nat.mul_le_mul_left _ (Nat.add_le_add_left hmn _))) ?_ ?_ ?_
          · rw [Rw.fb, hf]
            show some (1 + (at' - szs pre - 1)) = some (at' - szs pre)
            rw [show 1 + (at' - szs pre - 1) = at' - szs pre by omega]
          · rw [setM_same, obs_map (rs := qs), obs_map (rs := qs ++ _), List.map_append]
            show _ = some (D.lst (_ ++ [Rw.ob (.tn t ws)]))
            rw [Rw.ob]
          · intro b h1 h2
            rw [setM_ne h2, fr3 b h1]
          · rw [if_neg (by omega)]
            exact box_same hb3 (setM_ne hqa)
        · refine els _ (by rw [hsz]; omega) (fun m3 z S3 hr3 fr3 hb3 => ?_)
          walk_at "vg"
          unfold w_law_spoilt_2
          walk_at "vg"
          exact fin _ _ _ z S3 hr3 fr3 hb3
      · refine isbl_go (if_F ?_)
        refine els _ (by rw [hsz]; omega) (fun m3 z S3 hr3 fr3 hb3 => ?_)
        walk_at "vg"
        unfold w_law_spoilt_2
        walk_at "vg"
        exact fin _ _ _ z S3 hr3 fr3 hb3
  · rintro v1 m2 ⟨qs, S, hr, fr, hb2, y6, y7, rfl⟩
    refine nx_go ?_
    unfold w_law_spoilt_1
    walk_at "vg"
    refine rt_at hr ?_
    rw [if_neg (by omega)] at hb2
    refine h qs _ S.1 S.2.1 (S.2.2.2.1 hat) S.2.2.2.2 (fun b hb => ?_) (box_same hb2 (delM_ne hqa))
    by_cases e : b = q
    · subst e
      rw [hq]
      exact if_pos rfl
    · rw [delM_ne e, fr b hb e]
theorem p_law_spoilt (hW : Wd W) : ∀ {j f at' : Nat} {rs : List Rw} {m : Mem} {n : Nat} {R : ARes → Mem → Prop}, j ≤ f → j ≤ 3 → (∀ r ∈ rs, r.law W j) → rs.length ≤ 1000 → at' < szs rs → Box m a n → n + 1 < 1000000 →
    (∀ qs m', qs.length = rs.length → (∀ q ∈ qs, q.good W j) → fbs qs = some at' → mns qs ≤ mns rs → (∀ b, b ≠ a → m' b = m b) → Box m' a (n + 1) → R (.ret (.lst (obs qs))) m') → sr_law_spoilt K (f + 1) [.raw (.ref a), .lst (tls rs), .int (at' : Nat), .int W] m R := by
  intro j
  induction j with
  | zero => intro f at' rs m n R _ hj hrs hln hat hb hn h; exact spoilt_core hW hj (fun t us hx => False.elim hx) hrs hln hat hb hn h
  | succ j ih =>
    intro f at' rs m n R hf hj hrs hln hat hb hn h
    obtain ⟨f, rfl⟩ : ∃ k, f = k + 1 := ⟨f - 1, by omega⟩
    refine spoilt_core hW hj (fun t us hx at2 m2 n2 R2 hat2 hb2 hn2 h2 => ?_) hrs hln hat hb hn h
    refine ih (by omega) (by omega) hx.2.2.2.2 (by have := hx.2.2.2.1; omega) hat2 hb2 hn2 (fun qs m' hql hq hf hmn fr hb' => h2 qs m' ⟨hx.1, by have := hx.2.1; omega, ?_, hq⟩ hf hmn fr hb')
    rintro rfl
    have := hx.2.2.1
    rw [List.length_nil] at hql
    exact this (List.length_eq_zero_iff.mp hql.symm)
end
end K29
end
section
namespace K29
open PySem PySem.Spec PyProof.Rows L2 Ab
section
variable {K : PySem.W.Frag} {m : Mem} {R : ARes → Mem → Prop} {W : Nat} {P : SK} {v : Ab.Env} {k : KE} {kx : KX} {i : Nat} {T : ClsT} {a : Addr} {n : Nat} {x y z u g o t d : D}
/-! ### is a row good? -/
/-- the test of a row -/
abbrev wTest (K : PySem.W.Frag) : WT := wOr (wNot (wTru (wIsO (T_walked K) "Step" (wVar 5)))) (wNot (wTru (wMth (T_walked K) "fits" (wVar 5) (wCons (wVar 0) wNil))))
theorem RG_sc {s : Str} (h : s ∈ RG) : sc (.str s) = true ∧ regD (.str s) = true := by
  refine ⟨?_, reg_RG h⟩
  have : ∀ s ∈ RG, sc (.str s) = true := by decide
  exact this s h
theorem t_obj {C : Str} {ns : List Str} {xs : List D} {y1 y2 y3 y4 y6 : Option D} {kb : KB} {sp : ASp} {q : Bool} (hC : CS.contains C = true) (hq : SUBS.contains (C, ("Step" : Str)) = true) (hn : ns.contains "fits" = false) (hl : mLook C "fits" (T_walked K).ms = some (2, sp))
    (hs : ∀ R' : ARes → Mem → Prop, R' (.ret (.bl q)) m → sp [.obj C ns xs, .int W] m R') (h : kb (!q) m) : wTest K [some (.int W), y1, y2, y3, y4, some (.obj C ns xs), y6] m kb kx := by
  refine or_go (not_go (tru_go (isOv_go rfl hC hq ?_)))
  walk_at "vg"
  refine mthv_go rfl hC hn hl ?_
  walk_at "vg"
  refine ⟨rfl, hs _ ?_⟩
  walk_at "vg"
  exact h
theorem t_leaf {l : Lf} {y1 y2 y3 y4 y6 : Option D} {kb : KB} (hW : Wd W) (hl : l.ok W) (h : kb false m) : wTest K [some (.int W), y1, y2, y3, y4, some l.ob, y6] m kb kx := by
  have hlo := hW.lo
  cases l with
  | set g b =>
    obtain ⟨h1, h2, h3⟩ := hl
    obtain ⟨g1, g2⟩ := RG_sc h1
    refine t_obj (q := true) rfl (by kernel_rfl) rfl rfl (fun R' hR => fit_set hW g1 ?_) h
    rw [g2, decide_eq_true h2, decide_eq_true (show b ≤ 2 ^ W - 1 by omega)]
    exact hR
  | copy g o =>
    obtain ⟨h1, h2⟩ := hl
    obtain ⟨g1, g2⟩ := RG_sc h1
    obtain ⟨o1, o2⟩ := RG_sc h2
    refine t_obj (q := true) rfl (by kernel_rfl) rfl rfl (fun R' hR => fit_copy g1 o1 ?_) h
    rw [g2, o2]
    exact hR
  | pair p g o t =>
    obtain ⟨h1, h2, h3⟩ := hl
    obtain ⟨g1, g2⟩ := RG_sc h1
    obtain ⟨o1, o2⟩ := RG_sc h2
    obtain ⟨t1, t2⟩ := RG_sc h3
    have key : ∀ (R' : ARes → Mem → Prop), R' (.ret (.bl true)) m → sp_Pair_fits K [obPair p.cl (.str g) (.str o) (.str t), .int W] m R' := fun R' hR => fit_pair p g1 o1 t1 (by rw [g2, o2, t2]; exact hR)
    cases p <;> exact t_obj (q := true) rfl (by kernel_rfl) rfl rfl key h
  | carr c g y o t =>
    obtain ⟨h1, h4, h2, h3⟩ := hl
    obtain ⟨g1, g2⟩ := RG_sc h1
    obtain ⟨o1, o2⟩ := RG_sc h2
    obtain ⟨t1, t2⟩ := RG_sc h3
    have hy : sc (oS y) = true ∧ (!nonB (oS y) && !regD (oS y)) = false := by
      cases y with
      | none => exact ⟨rfl, rfl⟩
      | some s =>
        obtain ⟨s1, s2⟩ := RG_sc (h4 s rfl)
        refine ⟨s1, ?_⟩
        show (!nonB (.str s) && !regD (.str s)) = false
        rw [s2]; rfl
    have key : ∀ (R' : ARes → Mem → Prop), R' (.ret (.bl true)) m → sp_Carrying_fits K [obCarr c.cl (.str g) (oS y) (.str o) (.str t), .int W] m R' := fun R' hR => fit_carr c g1 hy.1 o1 t1 (by rw [hy.2, g2, o2, t2]; exact hR)
    cases c <;> exact t_obj (q := true) rfl (by kernel_rfl) rfl rfl key h
  | shift s g o n =>
    obtain ⟨h1, h2, h3, h4⟩ := hl
    obtain ⟨g1, g2⟩ := RG_sc h1
    obtain ⟨o1, o2⟩ := RG_sc h2
    have key : ∀ (R' : ARes → Mem → Prop), R' (.ret (.bl true)) m → sp_Shift_fits K [obShift s.cl (.str g) (.str o) (.int n), .int W] m R' := fun R' hR => fit_shift s g1 o1 (by rw [g2, o2, decide_eq_true h3, decide_eq_true (show n ≤ (W : Int) - 1 by omega)]; exact hR)
    cases s <;> exact t_obj (q := true) rfl (by kernel_rfl) rfl rfl key h
  | pick g b o t =>
    obtain ⟨h1, h4, h2, h3⟩ := hl
    obtain ⟨g1, g2⟩ := RG_sc h1
    obtain ⟨b1, b2⟩ := RG_sc h4
    obtain ⟨o1, o2⟩ := RG_sc h2
    obtain ⟨t1, t2⟩ := RG_sc h3
    refine t_obj (q := true) rfl (by kernel_rfl) rfl rfl (fun R' hR => fit_pick g1 b1 o1 t1 ?_) h
    simp only [List.map_cons, List.map_nil, g2, b2, o2, t2]
    exact hR
  | mark l w b =>
    obtain ⟨⟨h1, h4⟩, h2, h3⟩ := hl
    obtain ⟨b1, b2⟩ := RG_sc h3
    refine t_obj (q := true) rfl (by kernel_rfl) rfl rfl (fun R' hR => fit_mark b1 ?_) h
    rw [b2, decide_eq_true h1, decide_eq_true h4, decide_eq_true h2]
    exact hR
theorem t_turns {j : Int} {xs : List D} {y1 y2 y3 y4 y6 : Option D} {kb : KB} (h1 : 1 ≤ j) (h2 : j ≤ 64) (hx : xs ≠ []) (h : kb false m) : wTest K [some (.int W), y1, y2, y3, y4, some (obTurns (.int j) (.lst xs)), y6] m kb kx := by
  refine t_obj (q := true) rfl (by kernel_rfl) rfl rfl (fun R' hR => fit_turns ?_) h
  rw [decide_eq_true h1, decide_eq_true h2]
  cases xs with
  | nil => exact absurd rfl hx
  | cons x xs => exact hR
theorem t_non {d : D} {y1 y2 y3 y4 y6 : Option D} {kb : KB} (hd : ∀ (kk : KE), kk (.bl false) m → wIsO (T_walked K) "Step" (wVar 5) [some (.int W), y1, y2, y3, y4, some d, y6] m kk kx) (h : kb true m) : wTest K [some (.int W), y1, y2, y3, y4, some d, y6] m kb kx := by
  refine or_go (not_go (tru_go (hd _ ?_)))
  walk_at "vg"
  exact h
theorem t_bad {d : D} {y1 y2 y3 y4 y6 : Option D} {kb : KB} (hW : Wd W) (hd : d ∈ badL W) (h : kb true m) : wTest K [some (.int W), y1, y2, y3, y4, some d, y6] m kb kx := by
  obtain ⟨w0, w1⟩ := pw2 hW
  unfold badL at hd
  simp only [List.mem_cons, List.not_mem_nil, or_false] at hd
  rcases hd with rfl | rfl | rfl | rfl | rfl | rfl | rfl | rfl | rfl | rfl | rfl | rfl | rfl | rfl | rfl | rfl | rfl | rfl | rfl | rfl
  · exact t_non (fun kk hk => var_go rfl ⟨Option.some_ne_none _, hk⟩) h
  · exact t_non (fun kk hk => var_go rfl ⟨Option.some_ne_none _, hk⟩) h
  · exact t_non (fun kk hk => var_go rfl ⟨Option.some_ne_none _, hk⟩) h
  · exact t_non (fun kk hk => var_go rfl ⟨Option.some_ne_none _, hk⟩) h
  · refine t_obj (q := false) rfl (by kernel_rfl) rfl rfl (fun R' hR => fit_set hW rfl ?_) h
    rw [decide_eq_false (show ¬ (2 : Int) ^ W ≤ 2 ^ W - 1 by omega), Bool.and_false, Bool.and_false]
    exact hR
  · refine t_obj (q := false) rfl (by kernel_rfl) rfl rfl (fun R' hR => fit_set hW rfl ?_) h
    rw [decide_eq_false (show ¬ (0 : Int) ≤ -1 by omega), Bool.false_and, Bool.and_false]
    exact hR
  · exact t_obj (q := false) rfl (by kernel_rfl) rfl rfl (fun R' hR => fit_copy rfl rfl hR) h
  · exact t_obj (q := false) rfl (by kernel_rfl) rfl rfl (fun R' hR => fit_copy rfl rfl hR) h
  · refine t_obj (q := false) rfl (by kernel_rfl) rfl rfl (fun R' hR => fit_shift .left rfl rfl ?_) h
    rw [decide_eq_false (show ¬ (W : Int) ≤ (W : Int) - 1 by omega), Bool.and_false, Bool.and_false, Bool.and_false]
    exact hR
  · refine t_obj (q := false) rfl (by kernel_rfl) rfl rfl (fun R' hR => fit_shift .right rfl rfl ?_) h
    rw [decide_eq_false (show ¬ (0 : Int) ≤ -1 by omega), Bool.false_and, Bool.and_false, Bool.and_false]
    exact hR
  · exact t_obj (q := false) rfl (by kernel_rfl) rfl rfl (fun R' hR => fit_carr .sum rfl rfl rfl rfl hR) h
  · exact t_obj (q := false) rfl (by kernel_rfl) rfl rfl (fun R' hR => fit_carr .gap rfl rfl rfl rfl hR) h
  · exact t_obj (q := false) rfl (by kernel_rfl) rfl rfl (fun R' hR => fit_pick rfl rfl rfl rfl hR) h
  · exact t_obj (q := false) rfl (by kernel_rfl) rfl rfl (fun R' hR => fit_mark rfl hR) h
  · exact t_obj (q := false) rfl (by kernel_rfl) rfl rfl (fun R' hR => fit_mark rfl hR) h
  · exact t_obj (q := false) rfl (by kernel_rfl) rfl rfl (fun R' hR => fit_turns hR) h
  · exact t_obj (q := false) rfl (by kernel_rfl) rfl rfl (fun R' hR => fit_turns hR) h
  · exact t_obj (q := false) rfl (by kernel_rfl) rfl rfl (fun R' hR => fit_turns hR) h
  · exact t_obj (q := false) rfl (by kernel_rfl) rfl rfl (fun R' hR => fit_turnsN hR) h
  · exact t_obj (q := false) rfl (by kernel_rfl) rfl rfl (fun R' hR => fit_pair .low rfl rfl rfl hR) h
/-! ### walked -/
def NoRow (p : Int) : Exn := ⟨"NoRow", ["place"], [.int p]⟩
def TooMuch : Exn := ⟨"TooMuch", ["line"], [.int (-1)]⟩
def NoReg (d : D) : Exn := ⟨"NoRegister", ["name"], [d]⟩
theorem walked_core {j : Nat} {sp : ASp} {A : Int} (hW : Wd W) (hsp : ∀ t us, (Rw.tn t us).good W j → A ≠ 5 ∧ ∀ (p : Int) (m : Mem) (R : ARes → Mem → Prop), mns us ≤ 100000000 → (fbs us = none → R (.ret (.tup [.int (p + szs us), .int (mns us : Nat)])) m) → (∀ i : Nat, fbs us = some i → R (.exc (NoRow (p + i))) m) → sp [.int W, .lst (obs us), .int p, .int (A + 1)] m R)
    {rs : List Rw} {p : Int} {m : Mem} {R : ARes → Mem → Prop} (hrs : ∀ r ∈ rs, r.good W j) (hmn : mns rs ≤ 100000000) (h1 : fbs rs = none → R (.ret (.tup [.int (p + szs rs), .int (mns rs : Nat)])) m) (h2 : ∀ i : Nat, fbs rs = some i → R (.exc (NoRow (p + i))) m) : spOf 7 (w_walked K sp) [.int W, .lst (obs rs), .int p, .int A] m R := by
  show w_walked K sp [some (.int W), some (.lst (obs rs)), some (.int p), some (.int A), none, none, none] m _
  unfold w_walked
  walk_at "vg"
  rw [obs_map]
  refine rest_turns (fun pre r v m' => m' = m ∧ fbs pre = none ∧ ∃ y5 y6, v = [some (.int W), some (.lst (rs.map Rw.ob)), some (.int (p + szs pre)), some (.int A), some (.int (mns pre : Nat)), y5, y6]) ⟨rfl, rfl, none, none, by rw [szs, mns, show p + ((0 : Nat) : Int) = p by omega]; rfl⟩ ?_ ?_
  · rintro pre x r v1 m2 hpre ⟨rfl, hf, y5, y6, rfl⟩
    have hx := hrs x (by rw [← hpre]; simp)
    have hfb : ∀ i, x.fb = some i → fbs rs = some (szs pre + i) := by
      intro i hi
      rw [← hpre, fbs_app, hf]
      show (fbs (x :: r)).map _ = _
      rw [fbs, hi]
      rfl
    have hmx : mns pre + x.mn ≤ mns rs := by
      rw [← hpre, mns_app, mns]
      omega
    show w_walked_4 K _ [some (.int W), some (.lst (rs.map Rw.ob)), some (.int (p + szs pre)), some (.int A), some (.int (mns pre : Nat)), some x.ob, y6] _ _
    unfold w_walked_4
    refine seq_go (if_go ?_)
    cases x with
    | bad d =>
      rw [Rw.ob]
      refine t_bad hW (by cases j <;> exact hx) ?_
      refine if_T ?_
      walk_at "vg"
      have := h2 _ (hfb 0 rfl)
      exact this
    | lf l =>
      rw [Rw.ob]
      refine t_leaf hW (by cases j <;> exact hx) ?_
      refine if_F ?_
      walk_at "vg"
      unfold w_walked_3
      refine if_go (tru_go ?_)
      have cont : ∀ v : Ab.Env, v = [some (.int W), some (.lst (rs.map Rw.ob)), some (.int (p + szs pre)), some (.int A), some (.int (mns pre : Nat)), some l.ob, y6] → ∃ C ns xs, l.ob = .obj C ns xs ∧ CS.contains C = true ∧ SUBS.contains (C, ("Turns" : Str)) = false := by
        intro v hv
        cases l with
        | pair p g o t => cases p <;> exact ⟨_, _, _, rfl, rfl, by kernel_rfl⟩
        | carr c g y o t => cases c <;> exact ⟨_, _, _, rfl, rfl, by kernel_rfl⟩
        | shift s g o n => cases s <;> exact ⟨_, _, _, rfl, rfl, by kernel_rfl⟩
        | _ => exact ⟨_, _, _, rfl, rfl, by kernel_rfl⟩
      obtain ⟨C, ns, xs, e, hC, hq⟩ := cont _ rfl
      rw [e]
      refine isOv_go rfl hC hq ?_
      rw [← e]
      walk_at "vg"
      have e3 : p + ((szs (pre ++ [.lf l]) : Nat) : Int) = p + szs pre + 1 := by rw [szs_snoc, Rw.sz]; omega
      have e4 : ((mns (pre ++ [.lf l]) : Nat) : Int) = (mns pre : Nat) + 1 := by rw [mns_app, mns, mns, Rw.mn]; omega
      rw [e3, e4]
      refine ⟨_, _, Gh.refl, rfl, ?_, _, _, rfl⟩
      rw [fbs_snoc, hf]; rfl
    | tn t us =>
      have hg : 1 ≤ t ∧ t ≤ 64 ∧ us ≠ [] := by
        cases j with
        | zero => exact False.elim hx
        | succ j => exact ⟨hx.1, hx.2.1, hx.2.2.1⟩
      obtain ⟨hA, hs⟩ := hsp t us hx
      obtain ⟨tn', htn⟩ : ∃ k : Nat, t = (k : Int) := ⟨t.toNat, by omega⟩
      subst htn
      rw [Rw.mn, Int.toNat_natCast] at hmx
      have hk : 1 * (1 + mns us) ≤ tn' * (1 + mns us) := Nat.mul_le_mul_right _ (by omega)
      rw [Rw.ob]
      refine t_turns hg.1 hg.2.1 (by rw [obs_map]; intro e; exact hg.2.2 (List.map_eq_nil_iff.mp e)) ?_
      refine if_F ?_
      walk_at "vg"
      unfold w_walked_3
      refine if_go (tru_go (isOv_go rfl rfl (show SUBS.contains (("Turns" : Str), ("Turns" : Str)) = true by kernel_rfl) ?_))
      walk_at "vg"
      unfold w_walked_2
      walk_at "vg"
      refine hs _ _ _ (by omega) (fun e => ?_) (fun i e => ?_)
      · walk_at "vg"
        have e3 : p + ((szs (pre ++ [.tn tn' us]) : Nat) : Int) = p + szs pre + 1 + szs us := by rw [szs_snoc, Rw.sz]; omega
        have e4 : ((mns (pre ++ [.tn tn' us]) : Nat) : Int) = (mns pre : Nat) + (tn' : Int) * (1 + (mns us : Nat)) := by
          rw [mns_app, mns, mns, Rw.mn, Int.toNat_natCast, Nat.add_zero, Int.natCast_add, Int.natCast_mul, Int.natCast_add]; rfl
        rw [e3, e4]
        refine ⟨_, _, Gh.refl, rfl, ?_, _, _, rfl⟩
        rw [fbs_snoc, hf, Rw.fb, e]; rfl
      · have := h2 _ (hfb (1 + i) (by rw [Rw.fb, e]; rfl))
        rw [show p + ((szs pre + (1 + i) : Nat) : Int) = p + szs pre + 1 + i by omega] at this
        exact this
  · rintro v1 m2 ⟨rfl, hf, y5, y6, rfl⟩
    refine nx_go ?_
    unfold w_walked_1
    walk_at "vg"
    exact h1 hf
theorem p_walked (hW : Wd W) : ∀ {j f : Nat} {rs : List Rw} {p A : Int} {m : Mem} {R : ARes → Mem → Prop}, j ≤ f → A + j ≤ 5 → (∀ r ∈ rs, r.good W j) → mns rs ≤ 100000000 → (fbs rs = none → R (.ret (.tup [.int (p + szs rs), .int (mns rs : Nat)])) m) → (∀ i : Nat, fbs rs = some i → R (.exc (NoRow (p + i))) m) → sr_walked K (f + 1) [.int W, .lst (obs rs), .int p, .int A] m R := by
  intro j
  induction j with
  | zero => intro f rs p A m R _ hA hrs hmn h1 h2; exact walked_core (j := 0) hW (fun t us hx => False.elim hx) hrs hmn h1 h2
  | succ j ih =>
    intro f rs p A m R hf hA hrs hmn h1 h2
    obtain ⟨f, rfl⟩ : ∃ k, f = k + 1 := ⟨f - 1, by omega⟩
    exact walked_core (j := j + 1) hW (fun t us hx => ⟨by omega, fun p m R hmn h1 h2 => ih (by omega) (by omega) hx.2.2.2 hmn h1 h2⟩) hrs hmn h1 h2
/-! ### check_steps, need_kept -/
theorem chk_width {d : D} (hp : pl d = true) (hw : ¬ Wid d) {st : D} (h : R (.exc (NoWidth d)) m) : sp_check_steps K [d, st] m R := by
  show w_check_steps K [some d, some st, none] m _
  unfold w_check_steps
  walk_at "vg"
  exact p_need_width hp (fun c => absurd c hw) (fun _ => h)
theorem chk_nolist {st : D} (hW : Wd W) (hr : ∀ m : Mem, res m st = st) (hi : isiQ st "list" = some false) (h : R (.exc (NoRow 0)) m) : sp_check_steps K [.int W, st] m R := by
  show w_check_steps K [some (.int W), some st, none] m _
  unfold w_check_steps
  walk_at "vg"
  try refine p_width hW ?_
  walk_at "vg"
  refine isi_F (hr _) hi ?_
  walk_at "vg"
  exact h
theorem chk_bad {j i : Nat} {rs : List Rw} (hW : Wd W) (hj : j ≤ 5) (hrs : ∀ r ∈ rs, r.good W j) (hmn : mns rs ≤ 100000000) (hf : fbs rs = some i) (h : R (.exc (NoRow i)) m) : sp_check_steps K [.int W, .lst (obs rs)] m R := by
  show w_check_steps K [some (.int W), some (.lst (obs rs)), none] m _
  unfold w_check_steps
  walk_at "vg"
  try refine p_width hW ?_
  walk_at "vg"
  unfold w_check_steps_2
  walk_at "vg"
  refine p_walked (f := 7) hW (by omega) (by omega) hrs hmn (fun e => by rw [hf] at e; cases e) (fun i' e => ?_)
  rw [hf] at e
  cases e
  rw [Int.zero_add]
  exact h
theorem chk_much {j : Nat} {rs : List Rw} (hW : Wd W) (hj : j ≤ 5) (hrs : ∀ r ∈ rs, r.good W j) (hmn : mns rs ≤ 100000000) (hf : fbs rs = none) (hm : 1000000 < mns rs) (h : R (.exc TooMuch) m) : sp_check_steps K [.int W, .lst (obs rs)] m R := by
  show w_check_steps K [some (.int W), some (.lst (obs rs)), none] m _
  unfold w_check_steps
  walk_at "vg"
  try refine p_width hW ?_
  walk_at "vg"
  unfold w_check_steps_2
  walk_at "vg"
  refine p_walked (f := 7) hW (by omega) (by omega) hrs hmn (fun _ => ?_) (fun i' e => by rw [hf] at e; cases e)
  walk_at "vg"
  exact h
theorem chk_good {j : Nat} {rs : List Rw} (hW : Wd W) (hj : j ≤ 5) (hrs : ∀ r ∈ rs, r.good W j) (hf : fbs rs = none) (hm : mns rs ≤ 1000000) (h : R (.ret (.int (mns rs : Nat))) m) : sp_check_steps K [.int W, .lst (obs rs)] m R := by
  show w_check_steps K [some (.int W), some (.lst (obs rs)), none] m _
  unfold w_check_steps
  walk_at "vg"
  try refine p_width hW ?_
  walk_at "vg"
  unfold w_check_steps_2
  walk_at "vg"
  refine p_walked (f := 7) hW (by omega) (by omega) hrs (by omega) (fun _ => ?_) (fun i' e => by rw [hf] at e; cases e)
  walk_at "vg"
  unfold w_check_steps_1
  walk_at "vg"
  exact h
theorem kept_nolist {d : D} (hr : ∀ m : Mem, res m d = d) (hi : isiQ d "list" = some false) (h : R (.exc (NoReg d)) m) : sp_need_kept K [d] m R := by
  show w_need_kept K [some d, none] m _
  unfold w_need_kept
  walk_at "vg"
  refine isi_F (hr _) hi ?_
  walk_at "vg"
  exact h
theorem kept_bad {pre r : List D} {x : D} (hp : ∀ d ∈ pre, sc d = true ∧ regD d = true) (hx : sc x = true) (hb : regD x = false) (h : R (.exc (NoReg x)) m) : sp_need_kept K [.lst (pre ++ x :: r)] m R := by
  show w_need_kept K [some (.lst (pre ++ x :: r)), none] m _
  unfold w_need_kept
  walk_at "vg"
  unfold w_need_kept_2
  walk_at "vg"
  refine turns (fun i v m' => i ≤ pre.length ∧ m' = m ∧ ∃ y1, v = [some (.lst (pre ++ x :: r)), y1]) ⟨Nat.zero_le _, rfl, none, rfl⟩ ?_ ?_
  · rintro i d v1 m2 hi ⟨hle, rfl, y1, rfl⟩
    show w_need_kept_1 K [some (.lst (pre ++ x :: r)), some d] _ _
    unfold w_need_kept_1
    walk_at "vg"
    by_cases c : i < pre.length
    · rw [List.getElem?_append_left c, List.getElem?_eq_getElem c] at hi
      cases hi
      obtain ⟨h1, h2⟩ := hp _ (List.getElem_mem c)
      refine p_is_register h1 ?_
      walk_at "vg"
      exact ⟨_, _, Gh.refl, by omega, rfl, _, rfl⟩
    · have e : i = pre.length := by omega
      subst e
      rw [List.getElem?_append_right (Nat.le_refl _), Nat.sub_self] at hi
      cases hi
      refine p_is_register hx ?_
      walk_at "vg"
      exact h
  · rintro v1 m2 ⟨hle, _⟩
    rw [List.length_append, List.length_cons] at hle
    omega
theorem kept_good {xs : List D} (hp : ∀ d ∈ xs, sc d = true ∧ regD d = true) (h : R (.ret .non) m) : sp_need_kept K [.lst xs] m R := by
  show w_need_kept K [some (.lst xs), none] m _
  unfold w_need_kept
  walk_at "vg"
  unfold w_need_kept_2
  walk_at "vg"
  refine turns (fun i v m' => m' = m ∧ ∃ y1, v = [some (.lst xs), y1]) ⟨rfl, none, rfl⟩ ?_ ?_
  · rintro i d v1 m2 hi ⟨rfl, y1, rfl⟩
    show w_need_kept_1 K [some (.lst xs), some d] _ _
    unfold w_need_kept_1
    walk_at "vg"
    obtain ⟨h1, h2⟩ := hp d (List.mem_of_getElem? hi)
    refine p_is_register h1 ?_
    walk_at "vg"
    exact ⟨_, _, Gh.refl, rfl, _, rfl⟩
  · rintro v1 m2 ⟨rfl, y1, rfl⟩
    exact h
theorem good_up {W : Nat} : ∀ {n n' : Nat} {r : Rw}, r.good W n → n ≤ n' → r.good W n' := by
  intro n
  induction n with
  | zero =>
    intro n' r h hn
    cases r with
    | lf l => cases n' <;> exact h
    | tn t rs => exact False.elim h
    | bad d => cases n' <;> exact h
  | succ n ih =>
    intro n' r h hn
    obtain ⟨n', rfl⟩ : ∃ k, n' = k + 1 := ⟨n' - 1, by omega⟩
    cases r with
    | lf l => exact h
    | bad d => exact h
    | tn t rs => exact ⟨h.1, h.2.1, h.2.2.1, fun r hr => ih (h.2.2.2 r hr) (by omega)⟩
end
end K29
end
section
namespace K29
open PySem PySem.Spec PyProof.Rows L2 Ab
section
variable {K : PySem.W.Frag} {m m0 : Mem} {R : ARes → Mem → Prop} {W : Nat} {P : SK} {v : Ab.Env} {k : KE} {kx : KX} {i j : Nat} {T : ClsT} {a p q : Addr} {n : Nat} {d x : D}
/-! ### flags: lists in memory that are changed -/
abbrev Gm := Addr → Option (List Rw)
def FlX (G : Gm) : Rw → D → Prop
  | .tn _ us, d => ∃ a, d = .raw (.ref a) ∧ G a = some us
  | _, d => ∃ b, d = .bl b
def FlA (G : Gm) (rs : List Rw) (xs : List D) : Prop := xs.length = rs.length ∧ ∀ (i : Nat) r x, rs[i]? = some r → xs[i]? = some x → FlX G r x
theorem FlX.mono {G G' : Gm} (e : ∀ a rs, G a = some rs → G' a = some rs) {r : Rw} {x : D} (h : FlX G r x) : FlX G' r x := by
  cases r with
  | tn t us => obtain ⟨a, h1, h2⟩ := h; exact ⟨a, h1, e _ _ h2⟩
  | lf l => exact h
  | bad d => exact h
theorem FlA.mono {G G' : Gm} (e : ∀ a rs, G a = some rs → G' a = some rs) {rs : List Rw} {xs : List D} (h : FlA G rs xs) : FlA G' rs xs := ⟨h.1, fun i r x h1 h2 => (h.2 i r x h1 h2).mono e⟩
/-- memory m holds what m0 holds, and lists of the kinds of G -/
structure St (m0 : Mem) (G : Gm) (m : Mem) : Prop where
  keep : ∀ b d, m0 b = some d → m b = some d
  ty : ∀ a rs, G a = some rs → m0 a = none ∧ ∃ xs, m a = some (.lst xs) ∧ FlA G rs xs
theorem St.start : St m (fun _ => none) m := ⟨fun _ _ h => h, fun _ _ h => nomatch h⟩
theorem St.fresh {G : Gm} (S : St m0 G m) (ha : m a = none) : m0 a = none ∧ G a = none := by
  constructor
  · cases e : m0 a with
    | none => rfl
    | some d => rw [S.keep a d e] at ha; cases ha
  · cases e : G a with
    | none => rfl
    | some rs => obtain ⟨_, xs, h, _⟩ := S.ty a rs e; rw [h] at ha; cases ha
/-- another thing's place -/
theorem St.other {G : Gm} {m' : Mem} (S : St m0 G m) (h : ∀ b, (m0 b ≠ none ∨ G b ≠ none) → m' b = m b) : St m0 G m' := by
  refine ⟨fun b d e => ?_, fun a rs e => ?_⟩
  · rw [h b (.inl (by rw [e]; exact fun z => nomatch z))]
    exact S.keep b d e
  · obtain ⟨h1, xs, h2, h3⟩ := S.ty a rs e
    exact ⟨h1, xs, by rw [h a (.inr (by rw [e]; exact fun z => nomatch z))]; exact h2, h3⟩
theorem St.put {G : Gm} (S : St m0 G m) (h1 : m0 a = none) (h2 : G a = none) : St m0 G (setM m a d) := S.other fun b hb => setM_ne (by rintro rfl; rcases hb with hb | hb; exact hb h1; exact hb h2)
theorem St.del {G : Gm} (S : St m0 G m) (h1 : m0 a = none) (h2 : G a = none) : St m0 G (delM m a) := S.other fun b hb => delM_ne (by rintro rfl; rcases hb with hb | hb; exact hb h1; exact hb h2)
theorem St.flag {G : Gm} {rs : List Rw} {xs : List D} {l : Lf} {n : Nat} {b : Bool} (S : St m0 G m) (ha : G a = some rs) (hm : m a = some (.lst xs)) (hr : rs[n]? = some (.lf l)) : St m0 G (setM m a (.lst (xs.set n (.bl b)))) := by
  obtain ⟨h1, ys, h2, h3⟩ := S.ty a rs ha
  rw [hm] at h2
  cases h2
  refine ⟨fun c d e => ?_, fun c qs e => ?_⟩
  · rw [setM_ne (by rintro rfl; rw [h1] at e; cases e)]
    exact S.keep c d e
  · by_cases hc : c = a
    · subst hc
      rw [ha] at e
      cases e
      refine ⟨h1, _, setM_same, by rw [List.length_set]; exact h3.1, fun i r x e1 e2 => ?_⟩
      by_cases hi : n = i
      · subst hi
        rw [hr] at e1
        cases e1
        rw [List.getElem?_set_self (by rw [h3.1]; exact (List.getElem?_eq_some_iff.mp hr).1)] at e2
        cases e2
        exact ⟨_, rfl⟩
      · rw [List.getElem?_set_ne hi] at e2
        exact h3.2 i r x e1 e2
    · obtain ⟨g1, zs, g2, g3⟩ := S.ty c qs e
      exact ⟨g1, zs, by rw [setM_ne hc]; exact g2, g3⟩
theorem St.new {G : Gm} {rs : List Rw} {xs : List D} (S : St m0 G m) (ha : m a = none) (h : FlA G rs xs) : St m0 (fun b => if b = a then some rs else G b) (setM m a (.lst xs)) ∧ (∀ b qs, G b = some qs → (fun b => if b = a then some rs else G b) b = some qs) := by
  obtain ⟨f1, f2⟩ := S.fresh ha
  have ext : ∀ b qs, G b = some qs → (fun b => if b = a then some rs else G b) b = some qs := by
    intro b qs e
    show (if b = a then some rs else G b) = _
    rw [if_neg (by rintro rfl; rw [f2] at e; cases e)]
    exact e
  refine ⟨⟨fun c d e => ?_, fun c qs e => ?_⟩, ext⟩
  · rw [setM_ne (by rintro rfl; rw [f1] at e; cases e)]
    exact S.keep c d e
  · have e' : (if c = a then some rs else G c) = some qs := e
    by_cases hc : c = a
    · subst hc
      rw [if_pos rfl] at e'
      cases e'
      exact ⟨f1, xs, setM_same, h.mono ext⟩
    · rw [if_neg hc] at e'
      obtain ⟨g1, zs, g2, g3⟩ := S.ty c qs e'
      exact ⟨g1, zs, by rw [setM_ne hc]; exact g2, g3.mono ext⟩
/-! ### flags that will not change any more -/
def snp (m : Mem) : Nat → D → D
  | n + 1, .raw (.ref a) => match m a with
    | some (.lst xs) => .lst (xs.map (snp m n))
    | _ => .raw (.ref a)
  | _, d => d
def Rw.dep : Nat → Rw → Prop
  | n + 1, .tn _ us => us.length ≤ 1000 ∧ ∀ r ∈ us, r.dep n
  | 0, .tn _ _ => False
  | _, _ => True
theorem law_dep : ∀ {n : Nat} {r : Rw}, r.law W n → r.dep n := by
  intro n
  induction n with
  | zero =>
    intro r h
    cases r with
    | tn t us => exact False.elim h
    | lf l => exact trivial
    | bad d => exact False.elim h
  | succ n ih =>
    intro r h
    cases r with
    | tn t us => exact ⟨by have := h.2.2.2.1; omega, fun r hr => ih (h.2.2.2.2 r hr)⟩
    | lf l => exact trivial
    | bad d => exact False.elim h
def FdX : Nat → Rw → D → Prop
  | n + 1, .tn _ us, d => ∃ xs, d = .lst xs ∧ (xs.length = us.length ∧ us.length ≤ 1000) ∧ ∀ (i : Nat) r x, us[i]? = some r → xs[i]? = some x → FdX n r x
  | 0, .tn _ _, _ => False
  | _, .lf _, d => ∃ b, d = .bl b
  | _, .bad _, d => ∃ b, d = .bl b
theorem snp_fd {G : Gm} (S : St m0 G m) : ∀ {n : Nat} {r : Rw} {x : D}, FlX G r x → r.dep n → FdX n r (snp m n x) := by
  intro n
  induction n with
  | zero =>
    intro r x h hd
    cases r with
    | tn t us => exact False.elim hd
    | lf l => obtain ⟨b, rfl⟩ := h; exact ⟨b, rfl⟩
    | bad l => obtain ⟨b, rfl⟩ := h; exact ⟨b, rfl⟩
  | succ n ih =>
    intro r x h hd
    cases r with
    | lf l => obtain ⟨b, rfl⟩ := h; exact ⟨b, rfl⟩
    | bad l => obtain ⟨b, rfl⟩ := h; exact ⟨b, rfl⟩
    | tn t us =>
      obtain ⟨a, rfl, hG⟩ := h
      obtain ⟨_, xs, h2, h3⟩ := S.ty a us hG
      have e : snp m (n + 1) (.raw (.ref a)) = .lst (xs.map (snp m n)) := by
        rw [snp, h2]
      rw [e]
      refine ⟨_, rfl, ⟨by rw [List.length_map]; exact h3.1, hd.1⟩, fun i r x e1 e2 => ?_⟩
      rw [List.getElem?_map] at e2
      obtain ⟨y, y1, rfl⟩ := Option.map_eq_some_iff.mp e2
      exact ih (h3.2 i r y e1 y1) (hd.2 r (List.mem_of_getElem? e1))
theorem repL_snp {F F' : Hp} {n : Nat} : ∀ {xs : List D} {vs : List V}, (∀ (i : Nat) x v, xs[i]? = some x → Rep K F x v → Rep K F' (snp m n x) v) → RepL K F xs vs → RepL K F' (xs.map (snp m n)) vs
  | [], vs, _, h => by rw [repL_nil.mp h]; exact RepL.nil
  | x :: xs, vs, f, h => by
    obtain ⟨u, t, rfl, r1, r2⟩ := repL_cons.mp h
    rw [List.map_cons]
    exact RepL.cons (f 0 x u rfl r1) (repL_snp (fun i y w hy hr => f (i + 1) y w hy hr) r2)
open Classical in
theorem gh_deep {G : Gm} {n : Nat} {r : Rw} {x : D} (S : St m0 G m) (h : FlX G r x) (hd : r.dep n) : GhD x m (snp m n x) m0 := by
  intro K B F H v hm hr
  let F' : Hp := fun a => if G a = none then F a else H a
  have hG : ∀ a, G a ≠ none → ∃ xs vs, m a = some (.lst xs) ∧ H a = some (.lst vs) ∧ RepL K F xs vs ∧ F a = none := by
    intro a ha
    cases e : G a with
    | none => exact absurd e ha
    | some rs =>
      obtain ⟨_, xs, h2, _⟩ := S.ty a rs e
      obtain ⟨f1, ⟨vs, f2, f3⟩, _⟩ := hm.mem a _ h2
      exact ⟨xs, vs, h2, f2, f3, f1⟩
  have sF : Same F F' := by
    intro a o e
    show (if G a = none then F a else H a) = some o
    by_cases c : G a = none
    · rw [if_pos c]; exact e
    · obtain ⟨_, _, _, _, _, f⟩ := hG a c
      rw [f] at e; cases e
  have key : ∀ {n : Nat} {r : Rw} {x : D} {v : V}, FlX G r x → r.dep n → Rep K F x v → Rep K F' (snp m n x) v := by
    intro n
    induction n with
    | zero =>
      intro r x v h hd hr
      cases r with
      | tn t us => exact False.elim hd
      | lf l => obtain ⟨b, rfl⟩ := h; exact rep_mono sF _ hr
      | bad l => obtain ⟨b, rfl⟩ := h; exact rep_mono sF _ hr
    | succ n ih =>
      intro r x v h hd hr
      cases r with
      | lf l => obtain ⟨b, rfl⟩ := h; exact rep_mono sF _ hr
      | bad l => obtain ⟨b, rfl⟩ := h; exact rep_mono sF _ hr
      | tn t us =>
        obtain ⟨a, rfl, hGa⟩ := h
        obtain ⟨_, xs, h2, h3⟩ := S.ty a us hGa
        obtain ⟨xs', vs, g1, g2, g3, g4⟩ := hG a (by rw [hGa]; exact fun z => nomatch z)
        rw [h2] at g1
        cases g1
        have e : snp m (n + 1) (.raw (.ref a)) = .lst (xs.map (snp m n)) := by
          rw [snp, h2]
        rw [e]
        unfold Rep at hr ⊢
        subst hr
        refine ⟨a, vs, rfl, ?_, repL_snp (fun i y w hy hw => ?_) g3⟩
        · show (if G a = none then F a else H a) = _
          rw [if_neg (by rw [hGa]; exact fun z => nomatch z)]
          exact g2
        · have hi : i < us.length := by rw [← h3.1]; exact (List.getElem?_eq_some_iff.mp hy).1
          exact ih (h3.2 i us[i] y (List.getElem?_eq_getElem hi) hy) (hd.2 _ (List.getElem_mem hi)) hw
  refine ⟨F', sF, ⟨?_, hm.f0.trans sF, ?_, hm.frame, ?_, hm.grow⟩, key h hd hr⟩
  · intro a o e
    have e' : (if G a = none then F a else H a) = some o := e
    by_cases c : G a = none
    · rw [if_pos c] at e'; exact hm.fr a o e'
    · rw [if_neg c] at e'; exact e'
  · intro a o e
    have e' : (if G a = none then F a else H a) = some o := e
    by_cases c : G a = none
    · rw [if_pos c] at e'; exact hm.fresh a o e'
    · obtain ⟨xs, vs, g1, g2, g3, g4⟩ := hG a c
      rcases (hm.mem a _ g1).2.2 with z | z
      · exact .inr (.inr z)
      · exact .inr (.inl z)
  · intro a d e
    have e2 := S.keep a d e
    obtain ⟨f1, f2, f3⟩ := hm.mem a d e2
    have c : G a = none := by
      cases eg : G a with
      | none => rfl
      | some rs => rw [(S.ty a rs eg).1] at e; cases e
    refine ⟨?_, f2.mono sF rfl, f3⟩
    show (if G a = none then F a else H a) = none
    rw [if_pos c]
    exact f1
end
end K29
end
section
namespace K29
open PySem PySem.Spec PyProof.Rows L2 Ab
section
variable {K : PySem.W.Frag} {m m0 : Mem} {R : ARes → Mem → Prop} {W : Nat} {P : SK} {v : Ab.Env} {k : KE} {kx : KX} {i j : Nat} {T : ClsT} {a p q : Addr} {n : Nat} {d x : D}
/-! ### unneeded -/
theorem ob_cls {l : Lf} : ∃ C ns xs, l.ob = .obj C ns xs ∧ CS.contains C = true ∧ SUBS.contains (C, ("Turns" : Str)) = false := by
  cases l with
  | pair p g o t => cases p <;> exact ⟨_, _, _, rfl, rfl, by kernel_rfl⟩
  | carr c g y o t => cases c <;> exact ⟨_, _, _, rfl, rfl, by kernel_rfl⟩
  | shift s g o n => cases s <;> exact ⟨_, _, _, rfl, rfl, by kernel_rfl⟩
  | _ => exact ⟨_, _, _, rfl, rfl, by kernel_rfl⟩
theorem isL_go {T : ClsT} {l : Lf} {i : Nat} (hT : T.cs = CS) (hS : T.sub = SUBS) (hi : look v i = some l.ob) (h : k (.bl false) m) : wIsO T "Turns" (wVar i) v m k kx := by
  obtain ⟨C, ns, xs, e, hC, hq⟩ := ob_cls (l := l)
  rw [e] at hi
  exact isOv_go hi (by rw [hT]; exact hC) (by rw [hS]; exact hq) h
theorem isT_go {T : ClsT} {t s : D} {i : Nat} (hT : T.cs = CS) (hS : T.sub = SUBS) (hi : look v i = some (obTurns t s)) (h : k (.bl true) m) : wIsO T "Turns" (wVar i) v m k kx := isOv_go hi (by rw [hT]; rfl) (by rw [hS]; kernel_rfl) h
theorem take_snoc {α : Type} {rs : List α} {i : Nat} {r : α} (h : rs[i]? = some r) : rs.take (i + 1) = rs.take i ++ [r] := by
  obtain ⟨hi, rfl⟩ := List.getElem?_eq_some_iff.mp h
  exact List.take_succ_eq_append_getElem hi
theorem FlA.snoc {G : Gm} {rs : List Rw} {xs : List D} {r : Rw} {x : D} (h : FlA G rs xs) (hx : FlX G r x) : FlA G (rs ++ [r]) (xs ++ [x]) := by
  refine ⟨by rw [List.length_append, List.length_append, h.1]; rfl, fun i r' x' e1 e2 => ?_⟩
  by_cases c : i < rs.length
  · rw [List.getElem?_append_left c] at e1
    rw [List.getElem?_append_left (by rw [h.1]; exact c)] at e2
    exact h.2 i r' x' e1 e2
  · rw [List.getElem?_append_right (by omega)] at e1
    rw [List.getElem?_append_right (by rw [h.1]; omega), h.1] at e2
    obtain ⟨hi, rfl⟩ := List.getElem?_eq_some_iff.mp e1
    rw [List.length_cons, List.length_nil] at hi
    have e0 : i - rs.length = 0 := by omega
    simp only [e0] at e2 ⊢
    cases e2
    exact hx
theorem unneeded_core {j : Nat} {sp : ASp} (hsp : ∀ t us, (Rw.tn t us).law W j → ∀ (G : Gm) (m : Mem) (R : ARes → Mem → Prop), St m0 G m → (∀ G' a m', (∀ b qs, G b = some qs → G' b = some qs) → St m0 G' m' → G' a = some us → R (.ret (.raw (.ref a))) m') → sp [.lst (obs us)] m R)
    {rs : List Rw} {G : Gm} {m : Mem} {R : ARes → Mem → Prop} (hrs : ∀ r ∈ rs, r.law W j) (hln : rs.length ≤ 1000) (S : St m0 G m) (h : ∀ G' a m', (∀ b qs, G b = some qs → G' b = some qs) → St m0 G' m' → G' a = some rs → R (.ret (.raw (.ref a))) m') : spOf 2 (w_unneeded K sp) [.lst (obs rs)] m R := by
  show w_unneeded K sp [some (.lst (obs rs)), none] m _
  unfold w_unneeded
  refine ret_go ?_
  show iSeq _ _ _ _ _
  rw [obs_map]
  walk_at "vg"
  refine ⟨fun i acc m' => ∃ G', (∀ b qs, G b = some qs → G' b = some qs) ∧ St m0 G' m' ∧ FlA G' (rs.take i) acc, ⟨G, fun _ _ h => h, S, by rw [List.take_zero]; exact ⟨rfl, fun i r x e => by simp at e⟩⟩, ?_, ?_⟩
  · rintro i d acc m2 hi ⟨G', hG, S', hF⟩
    rw [List.getElem?_map] at hi
    obtain ⟨r, hr, rfl⟩ := Option.map_eq_some_iff.mp hi
    have hlen : acc.length ≤ 1000 := by
      rw [hF.1, List.length_take]
      omega
    have hx := hrs r (List.mem_of_getElem? hr)
    dsimp only [gN, wYes, wipeE, List.set_cons_zero, List.set_cons_succ]
    refine if_T ?_
    cases r with
    | bad d => cases j <;> exact False.elim hx
    | lf l =>
      rw [Rw.ob]
      refine iff_go (tru_go (isL_go rfl rfl rfl ?_))
      walk_at "vg"
      refine ⟨by rw [sizeLine_eq]; omega, G', hG, S', ?_⟩
      rw [take_snoc hr]
      exact hF.snoc ⟨_, rfl⟩
    | tn t us =>
      rw [Rw.ob]
      refine iff_go (tru_go (isT_go rfl rfl rfl ?_))
      walk_at "vg"
      refine hsp t us hx _ _ _ S' (fun G2 a2 m3 e2 S2 h2 => ?_)
      walk_at "vg"
      refine ⟨by rw [sizeLine_eq]; omega, G2, fun b qs e => e2 _ _ (hG _ _ e), S2, ?_⟩
      rw [take_snoc hr]
      exact (hF.mono e2).snoc ⟨_, rfl, h2⟩
  · rintro acc m2 ⟨G', hG, S', hF⟩
    rw [List.length_map, List.take_length] at hF
    refine newf_go fun q hq => ?_
    obtain ⟨S2, e2⟩ := S'.new hq hF
    refine rt_any (h _ q _ (fun b qs e => e2 _ _ (hG _ _ e)) S2 (if_pos rfl))
theorem p_unneeded : ∀ {j f : Nat} {rs : List Rw} {G : Gm} {m : Mem} {R : ARes → Mem → Prop}, j ≤ f → (∀ r ∈ rs, r.law W j) → rs.length ≤ 1000 → St m0 G m → (∀ G' a m', (∀ b qs, G b = some qs → G' b = some qs) → St m0 G' m' → G' a = some rs → R (.ret (.raw (.ref a))) m') → sr_unneeded K (f + 1) [.lst (obs rs)] m R := by
  intro j
  induction j with
  | zero => intro f rs G m R _ hrs hln S h; exact unneeded_core (j := 0) (W := W) (fun t us hx => False.elim hx) hrs hln S h
  | succ j ih =>
    intro f rs G m R hf hrs hln S h
    obtain ⟨f, rfl⟩ : ∃ k, f = k + 1 := ⟨f - 1, by omega⟩
    exact unneeded_core (j := j + 1) (W := W) (fun t us hx G m R S h => ih (by omega) hx.2.2.2.2 (by have := hx.2.2.2.1; omega) S h) hrs hln S h
/-! ### puts_of, reads_of -/
def Lf.puts : Lf → List Str
  | .set g _ => [g]
  | .copy g _ => [g]
  | .pair _ g _ _ => [g]
  | .carr _ g none _ _ => [g]
  | .carr _ g (some y) _ _ => [g, y]
  | .shift _ g _ _ => [g]
  | .pick g _ _ _ => [g]
  | .mark _ _ _ => []
def Lf.reads : Lf → List Str
  | .set _ _ => []
  | .copy _ o => [o]
  | .pair _ _ o t => [o, t]
  | .carr _ _ _ o t => [o, t]
  | .shift _ _ o _ => [o]
  | .pick _ b o t => [b, o, t]
  | .mark _ _ b => [b]
def Lf.isMark : Lf → Bool
  | .mark _ _ _ => true
  | _ => false
theorem reads_RG {l : Lf} (hl : l.ok W) : (∀ s ∈ l.reads, s ∈ RG) ∧ l.reads.length ≤ 3 := by
  constructor
  · intro s hs
    cases l with
    | set g b => cases hs
    | copy g o => rw [Lf.reads, List.mem_singleton] at hs; subst hs; exact hl.2
    | pair p g o t => simp only [Lf.reads, List.mem_cons, List.not_mem_nil, or_false] at hs; rcases hs with rfl | rfl; exact hl.2.1; exact hl.2.2
    | carr c g y o t => simp only [Lf.reads, List.mem_cons, List.not_mem_nil, or_false] at hs; rcases hs with rfl | rfl; exact hl.2.2.1; exact hl.2.2.2
    | shift p g o t => rw [Lf.reads, List.mem_singleton] at hs; subst hs; exact hl.2.1
    | pick g b o t => simp only [Lf.reads, List.mem_cons, List.not_mem_nil, or_false] at hs; rcases hs with rfl | rfl | rfl; exact hl.2.1; exact hl.2.2.1; exact hl.2.2.2
    | mark l w b => rw [Lf.reads, List.mem_singleton] at hs; subst hs; exact hl.2.2
  · cases l <;> simp [Lf.reads]
theorem isM_go {T : ClsT} {l : Lf} {i : Nat} (hT : T.cs = CS) (hS : T.sub = SUBS) (hi : look v i = some l.ob) (h : k (.bl l.isMark) m) : wIsO T "Mark" (wVar i) v m k kx := by
  cases l with
  | pair p g o t => cases p <;> exact isOv_go hi (by rw [hT]; rfl) (by rw [hS]; kernel_rfl) h
  | carr c g y o t => cases c <;> exact isOv_go hi (by rw [hT]; rfl) (by rw [hS]; kernel_rfl) h
  | shift s g o n => cases s <;> exact isOv_go hi (by rw [hT]; rfl) (by rw [hS]; kernel_rfl) h
  | _ => exact isOv_go hi (by rw [hT]; rfl) (by rw [hS]; kernel_rfl) h
theorem isOTv_go {C C1 C2 : Str} {ns : List Str} {xs : List D} {i : Nat} {b : Bool} (hi : look v i = some (.obj C ns xs)) (hC : T.cs.contains C = true) (hq : (T.sub.contains (C, C1) || T.sub.contains (C, C2)) = b) (h : k (.bl b) m) : wIsOT T [C1, C2] (wVar i) v m k kx := by
  refine var_go hi ⟨List.contains_iff_mem.mp hC, ?_⟩
  subst hq
  have e : ∀ C', decide ((C, C') ∈ T.sub) = T.sub.contains (C, C') := fun C' => by rw [Bool.eq_iff_iff, decide_eq_true_eq, List.contains_iff_mem]
  rw [List.any_cons, List.any_cons, List.any_nil, Bool.or_false, e, e]
  exact h
theorem isn_go {y : D} {b : Bool} (e : isNonD (res m y) = some b) (h : k (.bl (!b)) m) : oIsNot m (res m y) (res m .non) k := ⟨b, e, h⟩
theorem p_puts_of {l : Lf} (h : R (.ret (.lst (l.puts.map D.str))) m) : sp_puts_of K [l.ob] m R := by
  cases l with
  | set g b =>
    show w_puts_of K [some (obSet (.str g) (.int b))] m _
    unfold w_puts_of
    walk_at "vg"
    refine if_f (by kernel_rfl) ?_
    walk_at "vg"
    unfold w_puts_of_2
    walk_at "vg"
    refine if_f (by kernel_rfl) ?_
    walk_at "vg"
    unfold w_puts_of_1
    walk_at "vg"
    exact h
  | copy g o =>
    show w_puts_of K [some (obCopy (.str g) (.str o))] m _
    unfold w_puts_of
    walk_at "vg"
    refine if_f (by kernel_rfl) ?_
    walk_at "vg"
    unfold w_puts_of_2
    walk_at "vg"
    refine if_f (by kernel_rfl) ?_
    walk_at "vg"
    unfold w_puts_of_1
    walk_at "vg"
    exact h
  | pair p g o t =>
    cases p <;> (
      show w_puts_of K [some (obPair _ (.str g) (.str o) (.str t))] m _
      unfold w_puts_of
      walk_at "vg"
      refine if_f (by kernel_rfl) ?_
      walk_at "vg"
      unfold w_puts_of_2
      walk_at "vg"
      refine if_f (by kernel_rfl) ?_
      walk_at "vg"
      unfold w_puts_of_1
      walk_at "vg"
      exact h
      )
  | shift p g o n =>
    cases p <;> (
      show w_puts_of K [some (obShift _ (.str g) (.str o) (.int n))] m _
      unfold w_puts_of
      walk_at "vg"
      refine if_f (by kernel_rfl) ?_
      walk_at "vg"
      unfold w_puts_of_2
      walk_at "vg"
      refine if_f (by kernel_rfl) ?_
      walk_at "vg"
      unfold w_puts_of_1
      walk_at "vg"
      exact h
      )
  | pick g b o t =>
    show w_puts_of K [some (obPick (.str g) (.str b) (.str o) (.str t))] m _
    unfold w_puts_of
    walk_at "vg"
    refine if_f (by kernel_rfl) ?_
    walk_at "vg"
    unfold w_puts_of_2
    walk_at "vg"
    refine if_f (by kernel_rfl) ?_
    walk_at "vg"
    unfold w_puts_of_1
    walk_at "vg"
    exact h
  | mark l w b =>
    show w_puts_of K [some (obMark (.int l) (.str w) (.str b))] m _
    unfold w_puts_of
    walk_at "vg"
    refine if_t (by kernel_rfl) ?_
    walk_at "vg"
    exact h
  | carr c g y o t =>
    cases y with
    | none =>
      cases c <;> (
        show w_puts_of K [some (obCarr _ (.str g) (.non) (.str o) (.str t))] m _
        unfold w_puts_of
        walk_at "vg"
        refine if_f (by kernel_rfl) ?_
        walk_at "vg"
        unfold w_puts_of_2
        walk_at "vg"
        refine if_t (by kernel_rfl) ?_
        walk_at "vg"
        refine isn_go rfl ?_
        walk_at "vg"
        unfold w_puts_of_1
        walk_at "vg"
        exact h
        )
    | some y =>
      cases c <;> (
        show w_puts_of K [some (obCarr _ (.str g) (.str y) (.str o) (.str t))] m _
        unfold w_puts_of
        walk_at "vg"
        refine if_f (by kernel_rfl) ?_
        walk_at "vg"
        unfold w_puts_of_2
        walk_at "vg"
        refine if_t (by kernel_rfl) ?_
        walk_at "vg"
        refine isn_go rfl ?_
        walk_at "vg"
        exact h
        )
theorem p_reads_of {l : Lf} (h : R (.ret (.lst (l.reads.map D.str))) m) : sp_reads_of K [l.ob] m R := by
  cases l with
  | set g b =>
    show w_reads_of K [some (obSet (.str g) (.int b))] m _
    unfold w_reads_of
    walk_at "vg"
    refine isOTv_go (b := false) rfl (by kernel_rfl) (by kernel_rfl) ?_
    walk_at "vg"
    unfold w_reads_of_4
    walk_at "vg"
    refine isOTv_go (b := false) rfl (by kernel_rfl) (by kernel_rfl) ?_
    walk_at "vg"
    unfold w_reads_of_3
    walk_at "vg"
    refine if_f (by kernel_rfl) ?_
    walk_at "vg"
    unfold w_reads_of_2
    walk_at "vg"
    refine if_f (by kernel_rfl) ?_
    walk_at "vg"
    unfold w_reads_of_1
    walk_at "vg"
    exact h
  | copy g o =>
    show w_reads_of K [some (obCopy (.str g) (.str o))] m _
    unfold w_reads_of
    walk_at "vg"
    refine isOTv_go (b := true) rfl (by kernel_rfl) (by kernel_rfl) ?_
    walk_at "vg"
    exact h
  | pair p g o t =>
    cases p <;> (
      show w_reads_of K [some (obPair _ (.str g) (.str o) (.str t))] m _
      unfold w_reads_of
      walk_at "vg"
      refine isOTv_go (b := false) rfl (by kernel_rfl) (by kernel_rfl) ?_
      walk_at "vg"
      unfold w_reads_of_4
      walk_at "vg"
      refine isOTv_go (b := true) rfl (by kernel_rfl) (by kernel_rfl) ?_
      walk_at "vg"
      exact h
      )
  | carr c g y o t =>
    cases c <;> (
      show w_reads_of K [some (obCarr _ (.str g) (oS y) (.str o) (.str t))] m _
      unfold w_reads_of
      walk_at "vg"
      refine isOTv_go (b := false) rfl (by kernel_rfl) (by kernel_rfl) ?_
      walk_at "vg"
      unfold w_reads_of_4
      walk_at "vg"
      refine isOTv_go (b := true) rfl (by kernel_rfl) (by kernel_rfl) ?_
      walk_at "vg"
      exact h
      )
  | shift p g o n =>
    cases p <;> (
      show w_reads_of K [some (obShift _ (.str g) (.str o) (.int n))] m _
      unfold w_reads_of
      walk_at "vg"
      refine isOTv_go (b := true) rfl (by kernel_rfl) (by kernel_rfl) ?_
      walk_at "vg"
      exact h
      )
  | pick g b o t =>
    show w_reads_of K [some (obPick (.str g) (.str b) (.str o) (.str t))] m _
    unfold w_reads_of
    walk_at "vg"
    refine isOTv_go (b := false) rfl (by kernel_rfl) (by kernel_rfl) ?_
    walk_at "vg"
    unfold w_reads_of_4
    walk_at "vg"
    refine isOTv_go (b := false) rfl (by kernel_rfl) (by kernel_rfl) ?_
    walk_at "vg"
    unfold w_reads_of_3
    walk_at "vg"
    refine if_t (by kernel_rfl) ?_
    walk_at "vg"
    exact h
  | mark l w b =>
    show w_reads_of K [some (obMark (.int l) (.str w) (.str b))] m _
    unfold w_reads_of
    walk_at "vg"
    refine isOTv_go (b := false) rfl (by kernel_rfl) (by kernel_rfl) ?_
    walk_at "vg"
    unfold w_reads_of_4
    walk_at "vg"
    refine isOTv_go (b := false) rfl (by kernel_rfl) (by kernel_rfl) ?_
    walk_at "vg"
    unfold w_reads_of_3
    walk_at "vg"
    refine if_f (by kernel_rfl) ?_
    walk_at "vg"
    unfold w_reads_of_2
    walk_at "vg"
    refine if_t (by kernel_rfl) ?_
    walk_at "vg"
    exact h
end
end K29
end
section
namespace K29
open PySem PySem.Spec PyProof.Rows L2 Ab
section
variable {K : PySem.W.Frag} {m m0 : Mem} {R : ARes → Mem → Prop} {W : Nat} {P : SK} {v : Ab.Env} {k : KE} {kx : KX} {i j : Nat} {T : ClsT} {a p q : Addr} {n : Nat} {d x : D}
/-- a comprehension over a list with a test, that changes nothing -/
theorem lc_filter {α : Type} {f : α → D} {g : WG} {wt : WT} {te : WE} {z : Bool} {own : List Nat} {xs : List α} {v : Ab.Env} {m : Mem} {k : KE} (r : α → D) (p : α → Bool) (hl : xs.length ≤ 16000000)
    (h1 : ∀ i (hi : i < xs.length) (kk : KE) (Z : Mem → Prop), (p xs[i] = true → kk (r xs[i]) m) → (p xs[i] = false → Z m) → g (f xs[i]) (wipeE v own) m fun v3 m3 => wt v3 m3 (fun q m4 => (q = true → te v3 m4 kk kx0) ∧ (q = false → Z m4)) kx0) (h2 : newK z (.lst ((xs.filter p).map r)) m k) :
    (∃ I : Nat → List D → Mem → Prop, I 0 [] m ∧
  (∀ i d acc m2, (xs.map f)[i]? = some d → I i acc m2 → g d (wipeE v own) m2 fun v3 m3 => wt v3 m3 (fun q m4 =>
    (q = true → te v3 m4 (fun y m5 => acc.length < sizeLine ∧ I (i + 1) (acc ++ [y]) m5) kx0) ∧ (q = false → I (i + 1) acc m4)) kx0) ∧
  ∀ acc m2, I (xs.map f).length acc m2 → newK z (.lst acc) m2 k) := by
  refine ⟨fun i acc m' => m' = m ∧ acc = ((xs.take i).filter p).map r, ⟨rfl, by simp⟩, ?_, ?_⟩
  · rintro i d acc m2 hi ⟨rfl, rfl⟩
    have hl : i < xs.length := by
      have := (List.getElem?_eq_some_iff.mp hi).1
      rwa [List.length_map] at this
    rw [List.getElem?_map, List.getElem?_eq_getElem hl] at hi
    cases hi
    have e : xs.take (i + 1) = xs.take i ++ [xs[i]] := (List.take_append_getElem hl).symm
    have hlen : (((xs.take i).filter p).map r).length ≤ i := by
      rw [List.length_map]
      refine Nat.le_trans (List.length_filter_le _ _) ?_
      rw [List.length_take]
      omega
    refine h1 i hl (fun y m5 => (((xs.take i).filter p).map r).length < sizeLine ∧ (m5 = m2 ∧ ((xs.take i).filter p).map r ++ [y] = ((xs.take (i + 1)).filter p).map r)) (fun m4 => m4 = m2 ∧ ((xs.take i).filter p).map r = ((xs.take (i + 1)).filter p).map r) (fun hp => ⟨by rw [sizeLine_eq]; omega, rfl, ?_⟩) (fun hp => ⟨rfl, ?_⟩)
    · rw [e, List.filter_append, List.filter_cons_of_pos hp, List.map_append]
      rfl
    · rw [e, List.filter_append, List.filter_cons_of_neg (by simp [hp]), List.filter_nil, List.append_nil]
  · rintro acc m2 ⟨rfl, rfl⟩
    rw [List.length_map, List.take_length]
    exact h2
/-! ### marked, gone_back -/
theorem nd_len : ∀ {L ks : List Str}, ks.Nodup → (∀ s ∈ ks, s ∈ L) → ks.length ≤ L.length
  | [], ks, _, h => by
    cases ks with
    | nil => exact Nat.le_refl _
    | cons k ks => exact absurd (h k (List.mem_cons_self ..)) List.not_mem_nil
  | x :: L, ks, hn, h => by
    have h1 : (ks.erase x).Nodup := hn.erase x
    have h2 : ∀ s ∈ ks.erase x, s ∈ L := by
      intro s hs
      rw [hn.mem_erase_iff] at hs
      exact (List.mem_cons.mp (h s hs.2)).resolve_left hs.1
    have := nd_len h1 h2
    rw [List.length_erase] at this
    rw [List.length_cons]
    split at this <;> omega
/-- a dict of registers in memory -/
def Lv (m : Mem) (p : Addr) : Prop := ∃ (ks : List Str) (xs : List D), m p = some (.dct (ks.map Sum.inr) xs) ∧ ks.Nodup ∧ ∀ s ∈ ks, s ∈ RG
theorem Lv.same {m' : Mem} (h : Lv m p) (e : m' p = m p) : Lv m' p := by
  obtain ⟨ks, xs, h1, h2⟩ := h
  exact ⟨ks, xs, e.trans h1, h2⟩
theorem dct0_go {z : Bool} (h : newK z (.dct [] []) m k) : wDct0 z v m k kx := h
theorem p_marked {ss : List Str} (hs : ∀ s ∈ ss, s ∈ RG) (hl : ss.length ≤ 1000) (h : ∀ p m', m p = none → (∀ b, b ≠ p → m' b = m b) → Lv m' p → R (.ret (.raw (.ref p))) m') : sp_marked K [.lst (ss.map D.str)] m R := by
  show w_marked K [some (.lst (ss.map D.str)), none, none] m _
  unfold w_marked
  walk_at "vg"
  refine dct0_go (newf_go fun p hp => ?_)
  walk_at "vg"
  refine rest_turns (fun pre r v m' => ∃ (ks : List Str) (xs : List D), m' = setM m p (.dct (ks.map Sum.inr) xs) ∧ ks.Nodup ∧ (∀ s ∈ ks, s ∈ RG) ∧ ∃ y2, v = [some (.lst (ss.map D.str)), some (.raw (.ref p)), y2]) ⟨[], [], rfl, List.nodup_nil, (fun s h => nomatch h), none, rfl⟩ ?_ ?_
  · rintro pre s r v1 m2 hpre ⟨ks, xs, rfl, hn, hR, y2, rfl⟩
    have hsR := hs s (by rw [← hpre]; simp)
    have hkl : ks.length ≤ 5 := nd_len (L := RG) hn hR
    show w_marked_2 K [some (.lst (ss.map D.str)), some (.raw (.ref p)), some (.str s)] _ _
    unfold w_marked_2
    walk_at "vg"
    refine var_go rfl (var_go rfl ⟨ks.map Sum.inr, xs, setM_same, by rw [List.length_map]; omega, ?_⟩)
    by_cases c : s ∈ ks
    · refine .inr ⟨List.mem_map.mpr ⟨s, c, rfl⟩, ?_⟩
      rw [setM_setM]
      exact ⟨_, _, Gh.refl, ks, _, rfl, hn, hR, _, rfl⟩
    · refine .inl ⟨?_, ?_⟩
      · intro z
        obtain ⟨x, hx, e⟩ := List.mem_map.mp z
        cases e
        exact c hx
      rw [setM_setM]
      refine ⟨_, _, Gh.refl, ks ++ [s], xs ++ [.bl true], by rw [List.map_append]; rfl, ?_, ?_, _, rfl⟩
      · rw [List.nodup_append]
        refine ⟨hn, by simp, fun a ha b hb => ?_⟩
        rw [List.mem_singleton] at hb
        subst hb
        rintro rfl
        exact c ha
      · intro x hx
        rcases List.mem_append.mp hx with hx | hx
        · exact hR x hx
        · rw [List.mem_singleton] at hx; subst hx; exact hsR
  · rintro v1 m2 ⟨ks, xs, rfl, hn, hR, y2, rfl⟩
    refine nx_go ?_
    unfold w_marked_1
    walk_at "vg"
    exact rt_any (h p _ hp (fun b hb => setM_ne hb) ⟨ks, xs, setM_same, hn, hR⟩)
theorem memD_go {s : Str} {ks : List Str} {xs : List D} {d : D} (hr : res m d = .dct (ks.map Sum.inr) xs) (h : k (.bl (decide (s ∈ ks))) m) : oIn m (res m (.str s)) (res m d) k := by
  rw [hr]
  show k (.bl (nB false (memK (.inr s) (ks.map Sum.inr)))) m
  have e : memK (.inr s) (ks.map Sum.inr) = decide (s ∈ ks) := by
    rw [Bool.eq_iff_iff, memK_iff, decide_eq_true_eq]
    constructor
    · intro z
      obtain ⟨x, hx, e⟩ := List.mem_map.mp z
      cases e
      exact hx
    · intro z
      exact List.mem_map.mpr ⟨s, z, rfl⟩
  rw [e]
  exact h
theorem ninl_go {s : Str} {ss : List Str} (h : k (.bl (!decide (s ∈ ss))) m) : oNin m (res m (.str s)) (res m (.lst (ss.map D.str))) k := ⟨ss, rfl, h⟩
theorem p_gone_back {l : Lf} {G : Gm} (hl : l.ok W) (S : St m0 G m) (L : Lv m p) (h0 : m0 p = none) (h1 : R (.ret .non) m) (h2 : ∀ p' m', St m0 G m' → Lv m' p' → m0 p' = none → R (.ret (.raw (.ref p'))) m') : sp_gone_back K [l.ob, .raw (.ref p)] m R := by
  obtain ⟨ks, xs, hp, hn, hR⟩ := L
  have hkl : ks.length ≤ 5 := nd_len (L := RG) hn hR
  have hGp : G p = none := by
    cases e : G p with
    | none => rfl
    | some rs => obtain ⟨_, ys, z, _⟩ := S.ty p rs e; rw [hp] at z; cases z
  show w_gone_back K [some l.ob, some (.raw (.ref p)), none, none] m _
  unfold w_gone_back
  walk_at "vg"
  refine p_puts_of ?_
  walk_at "vg"
  refine isM_go rfl rfl rfl ?_
  walk_at "vg"
  have rest : ∀ P : SK, (∀ d m, P.rt d m = R (.ret d) m) → w_gone_back_1 K [some l.ob, some (.raw (.ref p)), some (.lst (l.puts.map D.str)), none] m P := by
    intro P hP
    unfold w_gone_back_1
    walk_at "vg"
    show iSeq _ _ _ _ _
    walk_at "vg"
    refine skd_go hp ?_
    have ek : (ks.map Sum.inr).map keyD = ks.map D.str := by rw [List.map_map]; rfl
    rw [ek]
    refine lc_filter (f := D.str) (xs := ks) D.str (fun s => !decide (s ∈ l.puts)) (by omega) (fun i hi kk Z h1 h2 => ?_) ?_
    · dsimp only [gN, wipeE, List.set_cons_zero, List.set_cons_succ]
      walk_at "vg"
      refine ninl_go ?_
      walk_at "vg"
      refine if_dec (fun c => ?_) (fun c => ?_)
      · exact h2 (by rw [decide_eq_true c]; rfl)
      · have := h1 (by rw [decide_eq_false c]; rfl)
        walk_at "vg"
        exact this
    · walk_at "vg"
      refine p_reads_of ?_
      obtain ⟨r1, r2⟩ := reads_RG hl
      have hfl : (ks.filter fun s => !decide (s ∈ l.puts)).length ≤ 5 := Nat.le_trans (List.length_filter_le _ _) hkl
      walk_at "vg"
      refine addl_go (by rw [List.length_map, List.length_map]; omega) ?_
      rw [← List.map_append]
      walk_at "vg"
      refine p_marked (fun s hs => ?_) (by rw [List.length_append]; omega) (fun p' m' hp' fr hL => ?_)
      · rcases List.mem_append.mp hs with hs | hs
        · exact hR s (List.mem_filter.mp hs).1
        · exact r1 s hs
      · have hS : St m0 G (delM m p) := S.del h0 hGp
        obtain ⟨f1, f2⟩ := hS.fresh hp'
        refine rt_any ?_
        rw [hP]
        exact h2 p' m' (hS.other fun b hb => fr b (by rintro rfl; rcases hb with hb | hb; exact hb f1; exact hb f2)) hL f1
  refine if_b (fun c => ?_) (fun c => ?_)
  · walk_at "vg"
    exact rest _ (fun _ _ => rfl)
  · walk_at "vg"
    show iSeq _ _ _ _ _
    walk_at "vg"
    refine lc_map (f := D.str) (xs := l.puts) (fun s => .bl (decide (s ∈ ks))) (by cases l <;> simp [Lf.puts]; rename_i y _ _; cases y <;> simp [Lf.puts]) (fun i hi kk2 Z2 hkk2 => ?_) ?_
    · dsimp only [gN, wYes, wipeE, List.set_cons_zero, List.set_cons_succ]
      refine if_T ?_
      walk_at "vg"
      exact memD_go (res_some hp) hkk2
    · walk_at "vg"
      refine ⟨l.puts.map fun s => decide (s ∈ ks), by rw [List.map_map]; rfl, ?_⟩
      walk_at "vg"
      refine if_b (fun c => ?_) (fun c => ?_)
      · walk_at "vg"
        exact rest _ (fun _ _ => rfl)
      · walk_at "vg"
        exact h1
end
end K29
end
section
namespace K29
open PySem PySem.Spec PyProof.Rows L2 Ab
section
variable {K : PySem.W.Frag} {m m0 : Mem} {R : ARes → Mem → Prop} {W : Nat} {P : SK} {v : Ab.Env} {k : KE} {kx : KX} {i j : Nat} {T : ClsT} {a p q : Addr} {n : Nat} {d x : D}
/-! ### back -/
theorem Lv.ne {xs : List D} (L : Lv m p) (h : m a = some (.lst xs)) : p ≠ a := by
  rintro rfl
  obtain ⟨ks, ys, hp, _⟩ := L
  rw [hp] at h
  cases h
theorem idxr {xs : List D} {z : Int} {y : D} (hp : m a = some (.lst xs)) (h : atI xs z = some y) (hk : k y m) : oIdx m (res m (.raw (.ref a))) (res m (.int z)) k := by
  rw [res_some hp]
  exact ⟨y, h, hk⟩
theorem ix_nat {n i : Nat} (h : i < n) : ixN n (i : Int) = some i := by
  unfold ixN
  rw [if_pos (by omega), if_pos (by omega)]
  rfl
theorem subL_go {xs : List D} {z : Nat} {y : D} {i j : Nat} {kk : Ab.Env → Mem → Prop} (hi : look v i = some (.raw (.ref a))) (hj : look v j = some (.int (z : Int))) (ha : m a = some (.lst xs)) (hz : z < xs.length) (h : kk v (setM m a (.lst (xs.set z y)))) : gSubL (wVar i) (wVar j) y v m kk := by
  refine var_go hi (var_go hj ?_)
  rw [mutL_some ha]
  exact ⟨z, ix_nat hz, h⟩
/-- what a run over a loop's rows promises -/
def PRound (K : PySem.W.Frag) (W j : Nat) (sp : ASp) : Prop := ∀ t us, (Rw.tn t us).law W j → ∀ (m0 : Mem) (G : Gm) (m : Mem) (a p : Addr) (R : ARes → Mem → Prop), St m0 G m → Lv m p → m0 p = none → G a = some us → (∀ m' p', St m0 G m' → Lv m' p' → m0 p' = none → R (.ret (.raw (.ref p'))) m') → sp [obTurns (.int t) (.lst (obs us)), .raw (.ref a), .raw (.ref p)] m R
/-- what a run over rows promises -/
def PBack (K : PySem.W.Frag) (W j : Nat) (sp : ASp) : Prop := ∀ rs, (∀ r ∈ rs, r.law W j) → rs.length ≤ 1000 → ∀ (m0 : Mem) (G : Gm) (m : Mem) (a p : Addr) (R : ARes → Mem → Prop), St m0 G m → Lv m p → m0 p = none → G a = some rs → (∀ m' p', St m0 G m' → Lv m' p' → m0 p' = none → R (.ret (.raw (.ref p'))) m') → sp [.lst (obs rs), .raw (.ref a), .raw (.ref p)] m R
theorem back_core {j : Nat} {q1 q2 : ASp} (h2 : PRound K W j q2) : PBack K W j (spOf 6 (w_back K q1 q2)) := by
  intro rs hrs hln m0 G m a p R S L h0 hG h
  show w_back K q1 q2 [some (.lst (obs rs)), some (.raw (.ref a)), some (.raw (.ref p)), none, none, none] m _
  unfold w_back
  walk_at "vg"
  have hol : (obs rs).length = rs.length := by rw [obs_map, List.length_map]
  rw [hol]
  refine rg_down (by omega) ?_
  refine dn_turns (fun r v m' => ∃ p', St m0 G m' ∧ Lv m' p' ∧ m0 p' = none ∧ ∃ y3 y4 y5, v = [some (.lst (obs rs)), some (.raw (.ref a)), some (.raw (.ref p')), y3, y4, y5]) ⟨p, S, L, h0, none, none, none, rfl⟩ ?_ ?_
  · rintro i v1 m2 hi ⟨p', S', L', h0', y3, y4, y5, rfl⟩
    have hr : rs[i]? = some rs[i] := List.getElem?_eq_getElem hi
    have hx := hrs _ (List.getElem_mem hi)
    obtain ⟨_, xs, g2, g3⟩ := S'.ty a rs hG
    have hox : atI (obs rs) (i : Int) = some (rs[i]).ob := at_nat (by omega) (by rw [Int.toNat_natCast, obs_map, List.getElem?_map, hr]; rfl)
    have hxi : i < xs.length := by rw [g3.1]; exact hi
    generalize rs[i] = r at *
    show w_back_2 K q1 q2 [some (.lst (obs rs)), some (.raw (.ref a)), some (.raw (.ref p')), some (.int (i : Int)), y4, y5] _ _
    unfold w_back_2
    walk_at "vg"
    refine idxl_go hox ?_
    walk_at "vg"
    cases r with
    | bad d => cases j <;> exact False.elim hx
    | lf l =>
      rw [Rw.ob]
      refine isL_go rfl rfl rfl ?_
      walk_at "vg"
      have hl : l.ok W := by cases j <;> exact hx
      refine p_gone_back hl S' L' h0' ?_ (fun p2 m3 S2 L2 h02 => ?_)
      · walk_at "vg"
        refine isn_go rfl ?_
        walk_at "vg"
        exact ⟨_, _, Gh.refl, p', S', L', h0', _, _, _, rfl⟩
      · walk_at "vg"
        obtain ⟨ks, zs, hp2, _⟩ := id L2
        refine isn_go (b := false) (by rw [res_some hp2]; rfl) ?_
        walk_at "vg"
        obtain ⟨_, ws, e2, e3⟩ := S2.ty a rs hG
        refine subL_go rfl rfl e2 (by rw [e3.1]; exact hi) ?_
        walk_at "vg"
        exact ⟨_, _, Gh.refl, p2, S2.flag hG e2 hr, L2.same (setM_ne (L2.ne e2)), h02, _, _, _, rfl⟩
    | tn t us =>
      rw [Rw.ob]
      refine isT_go rfl rfl rfl ?_
      walk_at "vg"
      obtain ⟨b, eb, hb⟩ := g3.2 i _ _ hr (List.getElem?_eq_getElem hxi)
      refine idxr g2 (at_nat (by omega) (by rw [Int.toNat_natCast]; exact List.getElem?_eq_getElem hxi)) ?_
      rw [eb]
      walk_at "vg"
      refine h2 t us hx _ _ _ _ _ _ S' L' h0' hb (fun m3 p3 S3 L3 h03 => ?_)
      walk_at "vg"
      exact ⟨_, _, Gh.refl, p3, S3, L3, h03, _, _, _, rfl⟩
  · rintro v1 m2 ⟨p', S', L', h0', y3, y4, y5, rfl⟩
    refine nx_go ?_
    unfold w_back_1
    walk_at "vg"
    exact rt_any (h _ _ S' L' h0')
/-! ### back_round -/
abbrev lS (z : List Str) : D := .lst (z.map D.str)
theorem RG_ok {s : Str} (h : s ∈ RG) : PyData.strOk s = true := by
  have : ∀ s ∈ RG, PyData.strOk s = true := by decide +kernel
  exact this s h
theorem sortD_go {ks : List Str} {xs : List D} (hr : res m d = .dct (ks.map Sum.inr) xs) (hl : ks.length < 64) (h : ∀ ys : List Str, ys.Perm ks → k (lS ys) m) : cSort true m ([d].map (res m)) k := by
  show cSort true m [res m d] k
  rw [hr]
  exact ⟨ks, rfl, hl, fun ys hp _ => newt_go (h ys hp)⟩
theorem inL_go {s : List Str} {ss : List (List Str)} {e : D} (hr : res m e = .lst (ss.map lS)) (hs : ∀ z ∈ s, z ∈ RG) (hss : ∀ t ∈ ss, ∀ z ∈ t, z ∈ RG) (h : k (.bl (decide (s ∈ ss))) m) : oIn m (res m (lS s)) (res m e) k := by
  rw [hr]
  exact ⟨s, ss, rfl, rfl, fun z hz => RG_ok (hs z hz), fun t ht z hz => RG_ok (hss t ht z hz), h⟩
theorem first_of {s : List Str} : ∀ {ss : List (List Str)}, s ∈ ss → ∃ j : Nat, ss[j]? = some s ∧ ∀ (i : Nat) (t : List Str), i < j → ss[i]? = some t → t ≠ s
  | [], h => nomatch h
  | t :: ss, h => by
    by_cases c : t = s
    · subst c
      exact ⟨0, rfl, fun i t hi => by omega⟩
    · obtain ⟨j, h1, h2⟩ := first_of ((List.mem_cons.mp h).resolve_left fun z => c z.symm)
      refine ⟨j + 1, h1, fun i u hi e => ?_⟩
      cases i with
      | zero => cases e; exact c
      | succ i => exact h2 i u (by omega) e
theorem index_go {s : List Str} {ss : List (List Str)} {e : D} {j : Nat} (hr : res m e = .lst (ss.map lS)) (hs : ∀ z ∈ s, z ∈ RG) (hss : ∀ t ∈ ss, ∀ z ∈ t, z ∈ RG) (h1 : ss[j]? = some s) (h2 : ∀ i t, i < j → ss[i]? = some t → t ≠ s) (h : k (.int (j : Nat)) m) : mIndex m e [lS s] k := by
  show (match res m e, [lS s].map (res m) with
    | .lst xs, [.lst ys] => ∃ (s : List Str) (ss : List (List Str)) (j : Nat), ys = s.map D.str ∧ xs = ss.map (fun z => .lst (z.map D.str)) ∧ (∀ z ∈ s, PyData.strOk z = true) ∧ (∀ t ∈ ss, ∀ z ∈ t, PyData.strOk z = true) ∧ ss[j]? = some s ∧ (∀ i t, i < j → ss[i]? = some t → t ≠ s) ∧ k (.int (j : Nat)) m
    | _, _ => False)
  rw [hr]
  exact ⟨s, ss, j, rfl, rfl, fun z hz => RG_ok (hs z hz), fun t ht z hz => RG_ok (hss t ht z hz), h1, h2, h⟩
theorem round_core {j : Nat} {q1 q2 : ASp} (h1 : ∀ us, us.length ≤ 4 → (∀ r ∈ us, r.law W j) → ∀ (m0 : Mem) (G : Gm) (m : Mem) (a p : Addr) (R : ARes → Mem → Prop), St m0 G m → Lv m p → m0 p = none → G a = some us → (∀ m' p', St m0 G m' → Lv m' p' → m0 p' = none → R (.ret (.raw (.ref p'))) m') → q1 [.lst (obs us), .raw (.ref a), .raw (.ref p)] m R) : PRound K W (j + 1) (spOf 8 (w_back_round K q1 q2)) := by
  intro t us hx m0 G m a p R S L h0 hG h
  have ht1 := hx.1
  have ht9 := hx.2.1
  obtain ⟨tn', htn⟩ : ∃ k : Nat, t = (k : Int) := ⟨t.toNat, by omega⟩
  subst htn
  show w_back_round K q1 q2 [some (obTurns (.int tn') (.lst (obs us))), some (.raw (.ref a)), some (.raw (.ref p)), none, none, none, none, none] m _
  unfold w_back_round
  walk_at "vg"
  obtain ⟨ks, xs, hp, hn, hR⟩ := id L
  have hkl : ks.length ≤ 5 := nd_len (L := RG) hn hR
  refine sortD_go (res_some hp) (by omega) (fun ys hys => ?_)
  have hyR : ∀ s ∈ ys, s ∈ RG := fun s hs => hR s (hys.mem_iff.mp hs)
  walk_at "vg"
  refine newf_go fun q hq => ?_
  obtain ⟨fq1, fq2⟩ := S.fresh hq
  walk_at "vg"
  refine ⟨by omega, by omega, by omega, by omega, ?_⟩
  rw [show ((tn' : Int) + 1 - 1).toNat = tn' by omega]
  have hpq : p ≠ q := by rintro rfl; rw [hp] at hq; cases hq
  refine rng_turns (fun i v m' => ∃ (p' : Addr) (zs : List (List Str)), zs.length = i + 1 ∧ St m0 G m' ∧ Lv m' p' ∧ m0 p' = none ∧ m' q = some (.lst (zs.map lS)) ∧ (∀ z ∈ zs, z.length ≤ 5 ∧ ∀ s ∈ z, s ∈ RG) ∧ ∃ y4 y5 y6 y7, v = [some (obTurns (.int tn') (.lst (obs us))), some (.raw (.ref a)), some (.raw (.ref p')), some (.raw (.ref q)), y4, y5, y6, y7]) ⟨p, [ys], rfl, S.put fq1 fq2, L.same (setM_ne hpq), h0, setM_same, (by intro z hz; rw [List.mem_singleton] at hz; subst hz; exact ⟨by rw [hys.length_eq]; exact hkl, hyR⟩), none, none, none, none, rfl⟩ ?_ ?_
  · rintro i v1 m2 hi ⟨p1, zs, hzl, S1, L1, h01, hq1, hzR, y4, y5, y6, y7, rfl⟩
    show w_back_round_3 K q1 q2 [some (obTurns (.int tn') (.lst (obs us))), some (.raw (.ref a)), some (.raw (.ref p1)), some (.raw (.ref q)), some (.int (1 + (i : Int))), y5, y6, y7] _ _
    unfold w_back_round_3
    walk_at "vg"
    have hp1q : p1 ≠ q := L1.ne hq1
    have S1' : St (setM m0 q (.lst (zs.map lS))) G m2 := by
      refine ⟨fun b d e => ?_, fun b rs e => ?_⟩
      · by_cases c : b = q
        · subst c; rw [setM_same] at e; rw [← e]; exact hq1
        · rw [setM_ne c] at e; exact S1.keep b d e
      · obtain ⟨g1, g2⟩ := S1.ty b rs e
        exact ⟨by rw [setM_ne (by rintro rfl; rw [fq2] at e; cases e)]; exact g1, g2⟩
    refine h1 us hx.2.2.2.1 hx.2.2.2.2 _ _ _ _ _ _ S1' L1 (by rw [setM_ne hp1q]; exact h01) hG (fun m3 p3 S3 L3 h03 => ?_)
    have hq3 : m3 q = some (.lst (zs.map lS)) := S3.keep q _ setM_same
    have hp3q : p3 ≠ q := L3.ne hq3
    rw [setM_ne hp3q] at h03
    have S3' : St m0 G m3 := by
      refine ⟨fun b d e => S3.keep b d (by rw [setM_ne (by rintro rfl; rw [fq1] at e; cases e)]; exact e), fun b rs e => ?_⟩
      obtain ⟨g1, g2⟩ := S3.ty b rs e
      rw [setM_ne (by rintro rfl; rw [fq2] at e; cases e)] at g1
      exact ⟨g1, g2⟩
    walk_at "vg"
    obtain ⟨ks3, xs3, e3, n3, R3⟩ := id L3
    have hkl3 : ks3.length ≤ 5 := nd_len (L := RG) n3 R3
    refine sortD_go (res_some e3) (by omega) (fun ws hws => ?_)
    have hwR : ∀ s ∈ ws, s ∈ RG := fun s hs => R3 s (hws.mem_iff.mp hs)
    walk_at "vg"
    refine inL_go (res_some hq3) hwR (fun t ht => (hzR t ht).2) ?_
    walk_at "vg"
    refine if_dec (fun c => ?_) (fun c => ?_)
    · obtain ⟨f, f1, f2⟩ := first_of c
      have hf : f < i + 1 := by rw [← hzl]; exact (List.getElem?_eq_some_iff.mp f1).1
      walk_at "vg"
      refine ist_at hq3 ?_
      walk_at "vg"
      refine index_go (res_some hq3) hwR (fun t ht => (hzR t ht).2) f1 f2 ?_
      walk_at "vg"
      have hm0 : 0 ≤ ((tn' : Int) - (1 + (i : Int))) % (1 + (i : Int) - (f : Int)) := Int.emod_nonneg _ (by omega)
      have hm1 : ((tn' : Int) - (1 + (i : Int))) % (1 + (i : Int) - (f : Int)) < 1 + (i : Int) - (f : Int) := Int.emod_lt_of_pos _ (by omega)
      generalize ((tn' : Int) - (1 + (i : Int))) % (1 + (i : Int) - (f : Int)) = w at hm0 hm1 ⊢
      obtain ⟨g, hg⟩ : ∃ g : Nat, (f : Int) + w = (g : Int) := ⟨((f : Int) + w).toNat, by omega⟩
      have hgl : g < zs.length := by omega
      rw [hg]
      refine idxr hq3 (at_nat (by omega) (by rw [Int.toNat_natCast, List.getElem?_map, List.getElem?_eq_getElem hgl]; rfl)) ?_
      walk_at "vg"
      have hgR := hzR _ (List.getElem_mem hgl)
      refine p_marked hgR.2 (by have := hgR.1; omega) (fun p' m' hp' fr hL => ?_)
      obtain ⟨f1, f2⟩ := S3'.fresh hp'
      exact rt_any (h m' p' (S3'.other fun b hb => fr b (by rintro rfl; rcases hb with hb | hb; exact hb f1; exact hb f2)) hL f1)
    · walk_at "vg"
      unfold w_back_round_2
      walk_at "vg"
      refine ist_at hq3 ?_
      walk_at "vg"
      refine app_at hq3 (by rw [List.length_map]; omega) ?_
      walk_at "vg"
      refine ⟨_, _, Gh.refl, p3, zs ++ [ws], by rw [List.length_append, hzl]; rfl, S3'.put fq1 fq2, L3.same (setM_ne hp3q), h03, by rw [setM_same, List.map_append]; rfl, ?_, _, _, _, _, rfl⟩
      intro z hz
      rcases List.mem_append.mp hz with hz | hz
      · exact hzR z hz
      · rw [List.mem_singleton] at hz; subst hz; exact ⟨by rw [hws.length_eq]; exact hkl3, hwR⟩
  · rintro v1 m2 ⟨p1, zs, hzl, S1, L1, h01, hq1, hzR, y4, y5, y6, y7, rfl⟩
    refine nx_go ?_
    unfold w_back_round_1
    walk_at "vg"
    exact rt_any (h _ _ S1 L1 h01)
theorem p_back : ∀ {j f : Nat}, j ≤ f → PBack K W j (sr_back K (2 * f + 2)) := by
  intro j
  induction j with
  | zero => intro f _; exact back_core (fun t us hx => False.elim hx)
  | succ j ih =>
    intro f hf
    obtain ⟨f, rfl⟩ : ∃ k, f = k + 1 := ⟨f - 1, by omega⟩
    show PBack K W (j + 1) (spOf 6 (w_back K (sg_back K (2 * f + 3)).1 (sg_back K (2 * f + 3)).2))
    refine back_core ?_
    show PRound K W (j + 1) (spOf 8 (w_back_round K (sg_back K (2 * f + 2)).1 (sg_back K (2 * f + 2)).2))
    exact round_core fun us hl hu m0 G m a p R => ih (by omega) us hu (by omega) m0 G m a p R
end
end K29
end
section
namespace K29
open PySem PySem.Spec PyProof.Rows L2 Ab
section
variable {K : PySem.W.Frag} {m m0 : Mem} {R : ARes → Mem → Prop} {W : Nat} {P : SK} {v : Ab.Env} {k : KE} {kx : KX} {i j : Nat} {T : ClsT} {a p q : Addr} {n : Nat} {d x : D}
/-! ### the answers, of flags that do not change -/
def FdL (n : Nat) (rs : List Rw) (xs : List D) : Prop := (xs.length = rs.length ∧ rs.length ≤ 1000) ∧ ∀ (i : Nat) r x, rs[i]? = some r → xs[i]? = some x → FdX n r x
theorem FdX.cases {n : Nat} {r : Rw} {x : D} (h : FdX n r x) : (∃ b, x = .bl b ∧ ∀ t us, r ≠ .tn t us) ∨ ∃ n' t us ys, n = n' + 1 ∧ r = .tn t us ∧ x = .lst ys ∧ FdL n' us ys := by
  cases r with
  | lf l =>
    cases n <;> (obtain ⟨b, rfl⟩ := h; exact .inl ⟨b, rfl, fun _ _ => nofun⟩)
  | bad d =>
    cases n <;> (obtain ⟨b, rfl⟩ := h; exact .inl ⟨b, rfl, fun _ _ => nofun⟩)
  | tn t us =>
    cases n with
    | zero => exact False.elim h
    | succ n =>
      obtain ⟨ys, rfl, h1, h2⟩ := h
      exact .inr ⟨n, t, us, ys, rfl, rfl, rfl, h1, h2⟩
theorem any_core {n : Nat} {sp : ASp} (hsp : ∀ n' us ys, n = n' + 1 → FdL n' us ys → ∀ (m : Mem) (R : ARes → Mem → Prop), (∀ b, R (.ret (.bl b)) m) → sp [.lst ys] m R) {us : List Rw} {xs : List D} {m : Mem} {R : ARes → Mem → Prop} (hF : FdL n us xs) (h : ∀ b, R (.ret (.bl b)) m) : spOf 2 (w_any_needed K sp) [.lst xs] m R := by
  show w_any_needed K sp [some (.lst xs), none] m _
  have hl := hF.1.2
  unfold w_any_needed
  refine ret_go (cb_go (cons_go ?_))
  show iSeq _ _ _ _ _
  walk_at "vg"
  refine ⟨fun i acc m' => m' = m ∧ ∃ bs : List Bool, acc = bs.map D.bl ∧ bs.length = i, ⟨rfl, [], rfl, rfl⟩, ?_, ?_⟩
  · rintro i d acc m2 hi ⟨rfl, bs, rfl, rfl⟩
    have hil := (List.getElem?_eq_some_iff.mp hi).1
    rw [hF.1.1] at hil
    dsimp only [gN, wYes, wipeE, List.set_cons_zero, List.set_cons_succ]
    refine if_T ?_
    have fin : ∀ b, (bs.map D.bl).length < sizeLine ∧ (m2 = m2 ∧ ∃ bs' : List Bool, bs.map D.bl ++ [D.bl b] = bs'.map D.bl ∧ bs'.length = bs.length + 1) := fun b =>
      ⟨by rw [List.length_map, sizeLine_eq]; omega, rfl, bs ++ [b], by rw [List.map_append]; rfl, by rw [List.length_append]; rfl⟩
    rcases (hF.2 _ _ _ (List.getElem?_eq_getElem hil) hi).cases with ⟨b, rfl, _⟩ | ⟨n', t, us', ys, e, e2, rfl, hF'⟩
    · walk_at "vg"
      exact fin b
    · walk_at "vg"
      exact hsp n' us' ys e hF' _ _ fun b => fin b
  · rintro acc m2 ⟨rfl, bs, rfl, _⟩
    walk_at "vg"
    refine ⟨bs, rfl, ?_⟩
    walk_at "vg"
    exact h _
theorem p_any_needed : ∀ {f n : Nat} {us : List Rw} {xs : List D} {m : Mem} {R : ARes → Mem → Prop}, n ≤ f → FdL n us xs → (∀ b, R (.ret (.bl b)) m) → sr_any_needed K (f + 1) [.lst xs] m R := by
  intro f
  induction f with
  | zero => intro n us xs m R hn hF h; exact any_core (fun n' _ _ e => by omega) hF h
  | succ f ih => intro n us xs m R hn hF h; exact any_core (fun n' us ys e hF m R h => ih (by omega) hF h) hF h
theorem ext_at {xs ys : List D} (hp : m q = some (.lst xs)) (hl : xs.length + ys.length ≤ 16000000) (h : k .non (setM m q (.lst (xs ++ ys)))) : mExtend m (.raw (.ref q)) [.lst ys] k := by
  unfold mExtend
  dsimp only
  rw [mutL_some hp]
  exact ⟨by rw [sizeLine_eq]; omega, h⟩
theorem idle_core {n : Nat} {sp : ASp} (hn : n ≤ 7) (hsp : ∀ n' us ys, n = n' + 1 → FdL n' us ys → szs us ≤ 1000000 → ∀ (z : Int) (m : Mem) (R : ARes → Mem → Prop), (∀ zs z', zs.length ≤ szs us → R (.ret (.tup [.lst zs, .int z'])) m) → sp [.lst ys, .int z] m R)
    {us : List Rw} {xs : List D} {z : Int} {m : Mem} {R : ARes → Mem → Prop} (hF : FdL n us xs) (hz : szs us ≤ 1000000) (h : ∀ zs z', zs.length ≤ szs us → R (.ret (.tup [.lst zs, .int z'])) m) : spOf 5 (w_idle_among K sp) [.lst xs, .int z] m R := by
  show w_idle_among K sp [some (.lst xs), some (.int z), none, none, none] m _
  unfold w_idle_among
  walk_at "vg"
  refine newf_go fun q hq => ?_
  walk_at "vg"
  refine turns (fun i v m' => ∃ zs z', zs.length ≤ szs (us.take i) ∧ m' = setM m q (.lst zs) ∧ ∃ y3 y4, v = [some (.lst xs), some (.int z'), some (.raw (.ref q)), y3, y4]) ⟨[], z, Nat.zero_le _, rfl, none, none, rfl⟩ ?_ ?_
  · rintro i d v1 m2 hi ⟨zs, z', hzl, rfl, y3, y4, rfl⟩
    have hil := (List.getElem?_eq_some_iff.mp hi).1
    rw [hF.1.1] at hil
    have hr := List.getElem?_eq_getElem hil
    have e1 : szs (us.take (i + 1)) = szs (us.take i) + us[i].sz := by rw [take_snoc hr, szs_snoc]
    have e2 : szs (us.take (i + 1)) ≤ szs us := by
      have : szs us = szs (us.take (i + 1)) + szs (us.drop (i + 1)) := by rw [← szs_app, List.take_append_drop]
      omega
    have hsz := sz_pos (r := us[i])
    rcases (hF.2 _ _ _ hr hi).cases with ⟨b, rfl, _⟩ | ⟨n', t, us', ys, e, et, rfl, hF'⟩
    · show w_idle_among_4 K sp [some (.lst xs), some (.int z'), some (.raw (.ref q)), some (.bl b), y4] _ _
      unfold w_idle_among_4
      walk_at "vg"
      refine if_b (fun c => ?_) (fun c => ?_)
      · walk_at "vg"
        unfold w_idle_among_3
        walk_at "vg"
        exact ⟨_, _, Gh.refl, zs, _, by omega, rfl, _, _, rfl⟩
      · walk_at "vg"
        unfold w_idle_among_3
        walk_at "vg"
        exact ⟨_, _, Gh.refl, zs ++ [.int z'], _, by rw [List.length_append]; show zs.length + 1 ≤ _; omega, rfl, _, _, rfl⟩
    · rw [et, Rw.sz] at e1
      have inner : ∀ (P : SK) (us0 : List D), us0.length ≤ zs.length + 1 → (∀ (zs2 : List D) (z2 : Int) (y4 : Option D), zs2.length ≤ szs (us.take (i + 1)) → P.nx [some (.lst xs), some (.int z2), some (.raw (.ref q)), some (.lst ys), y4] (setM m q (.lst zs2))) → w_idle_among_2 K sp [some (.lst xs), some (.int z'), some (.raw (.ref q)), some (.lst ys), y4] (setM m q (.lst us0)) P := by
        intro P us0 hu0 hP
        unfold w_idle_among_2
        walk_at "vg"
        refine hsp n' us' ys e hF' (by omega) _ _ _ (fun ws z2 hw => ?_)
        walk_at "vg"
        refine ext_at setM_same (by omega) ?_
        walk_at "vg"
        rw [setM_setM]
        refine hP _ _ _ ?_
        rw [List.length_append]
        omega
      show w_idle_among_4 K sp [some (.lst xs), some (.int z'), some (.raw (.ref q)), some (.lst ys), y4] _ _
      unfold w_idle_among_4
      walk_at "vg"
      refine p_any_needed (n := n') (us := us') (by omega) hF' (fun b => ?_)
      walk_at "vg"
      refine if_b (fun c => ?_) (fun c => ?_)
      · walk_at "vg"
        refine inner _ zs (by omega) (fun zs2 z2 y hy => ?_)
        exact ⟨_, _, Gh.refl, zs2, z2, hy, rfl, _, _, rfl⟩
      · walk_at "vg"
        refine inner _ (zs ++ [.int z']) (by rw [List.length_append]; exact Nat.le_refl _) (fun zs2 z2 y hy => ?_)
        exact ⟨_, _, Gh.refl, zs2, z2, hy, rfl, _, _, rfl⟩
  · rintro v1 m2 ⟨zs, z', hzl, rfl, y3, y4, rfl⟩
    rw [hF.1.1, List.take_length] at hzl
    refine nx_frz 2 rfl hq ?_
    unfold w_idle_among_1
    show sRet _ [some (.lst xs), some (.int z'), some (.lst zs), y3, y4] m _
    walk_at "vg"
    exact h zs z' hzl
theorem p_idle_among : ∀ {f n : Nat} {us : List Rw} {xs : List D} {z : Int} {m : Mem} {R : ARes → Mem → Prop}, n ≤ f → n ≤ 7 → FdL n us xs → szs us ≤ 1000000 → (∀ zs z', zs.length ≤ szs us → R (.ret (.tup [.lst zs, .int z'])) m) → sr_idle_among K (f + 1) [.lst xs, .int z] m R := by
  intro f
  induction f with
  | zero => intro n us xs z m R hn h7 hF hz h; exact idle_core h7 (fun n' _ _ e => by omega) hF hz h
  | succ f ih => intro n us xs z m R hn h7 hF hz h; exact idle_core h7 (fun n' us ys e hF hz z m R h => ih (by omega) (by omega) hF hz h) hF hz h
/-! ### left_rows -/
theorem izip_go {a b : WE} {v : Ab.Env} {m : Mem} {kl : KL} {kx : KX} (h : a v m (fun d m1 => b v m1 (fun e m2 => ∃ xs ys, lstOf d = some xs ∧ lstOf e = some ys ∧ kl (zipD xs ys) m2) kx) kx) : iZipD a b v m kl kx := h
theorem left_core {n : Nat} {sp : ASp} (hsp : ∀ n' t us ys, n = n' + 1 → (Rw.tn t us).law W n → FdL n' us ys → ∀ (m : Mem) (R : ARes → Mem → Prop), (∀ ds, R (.ret (.lst ds)) m) → sp [.lst (obs us), .lst ys] m R)
    {us : List Rw} {xs : List D} {m : Mem} {R : ARes → Mem → Prop} (hu : ∀ r ∈ us, r.law W n) (hF : FdL n us xs) (h : ∀ ds, R (.ret (.lst ds)) m) : spOf 6 (w_left_rows K sp) [.lst (obs us), .lst xs] m R := by
  show w_left_rows K sp [some (.lst (obs us)), some (.lst xs), none, none, none, none] m _
  have hl := hF.1.2
  unfold w_left_rows
  walk_at "vg"
  refine newf_go fun q hq => ?_
  walk_at "vg"
  refine izip_go (var_go rfl (var_go rfl ⟨_, _, rfl, rfl, ?_⟩))
  refine turns (fun i v m' => ∃ zs, zs.length ≤ i ∧ m' = setM m q (.lst zs) ∧ ∃ y3 y4 y5, v = [some (.lst (obs us)), some (.lst xs), some (.raw (.ref q)), y3, y4, y5]) ⟨[], Nat.zero_le _, rfl, none, none, none, rfl⟩ ?_ ?_
  · rintro i d v1 m2 hi ⟨zs, hzl, rfl, y3, y4, y5, rfl⟩
    have hil := (List.getElem?_eq_some_iff.mp hi).1
    rw [zipD_len, obs_map, List.length_map, hF.1.1, Nat.min_self] at hil
    have hr := List.getElem?_eq_getElem hil
    have hxi : i < xs.length := by rw [hF.1.1]; exact hil
    have hx := List.getElem?_eq_getElem hxi
    have hz := zipD_get (obs us) xs i _ _ (by rw [obs_map, List.getElem?_map, hr]; rfl) hx
    rw [hz] at hi
    cases hi
    have hlw := hu _ (List.getElem_mem hil)
    have hFx := hF.2 _ _ _ hr hx
    generalize us[i] = r at *
    generalize xs[i] = x at *
    refine two_go ?_
    show w_left_rows_2 K sp [some (.lst (obs us)), some (.lst xs), some (.raw (.ref q)), some r.ob, some x, y5] _ _
    unfold w_left_rows_2
    cases r with
    | bad d => cases n <;> exact False.elim hlw
    | lf l =>
      rw [Rw.ob]
      obtain ⟨b, rfl⟩ : ∃ b, x = .bl b := by cases n <;> exact hFx
      refine if_go (tru_go (isL_go rfl rfl rfl ?_))
      walk_at "vg"
      refine if_b (fun c => ?_) (fun c => ?_)
      · walk_at "vg"
        exact ⟨_, _, Gh.refl, _, by rw [List.length_append]; show zs.length + 1 ≤ _; omega, rfl, _, _, _, rfl⟩
      · walk_at "vg"
        exact ⟨_, _, Gh.refl, zs, by omega, rfl, _, _, _, rfl⟩
    | tn t us' =>
      rw [Rw.ob]
      rcases hFx.cases with ⟨b, _, e⟩ | ⟨n', t', us2, ys, e, et, rfl, hF'⟩
      · exact absurd rfl (e t us')
      · cases et
        refine if_go (tru_go (isT_go rfl rfl rfl ?_))
        walk_at "vg"
        refine hsp n' t us' ys e hlw hF' _ _ (fun ds => ?_)
        walk_at "vg"
        refine nenl_go ?_
        walk_at "vg"
        refine if_b (fun c => ?_) (fun c => ?_)
        · walk_at "vg"
          exact ⟨_, _, Gh.refl, zs, by omega, rfl, _, _, _, rfl⟩
        · walk_at "vg"
          refine mkw (fun h => mk_turns h) (fun kl hk => by walk_at "vg"; exact hk) ?_
          walk_at "vg"
          exact ⟨_, _, Gh.refl, _, by rw [List.length_append]; show zs.length + 1 ≤ _; omega, rfl, _, _, _, rfl⟩
  · rintro v1 m2 ⟨zs, hzl, rfl, y3, y4, y5, rfl⟩
    refine nx_go ?_
    unfold w_left_rows_1
    walk_at "vg"
    exact rt_set hq (h zs)
theorem p_left_rows : ∀ {f n : Nat} {us : List Rw} {xs : List D} {m : Mem} {R : ARes → Mem → Prop}, n ≤ f → (∀ r ∈ us, r.law W n) → FdL n us xs → (∀ ds, R (.ret (.lst ds)) m) → sr_left_rows K (f + 1) [.lst (obs us), .lst xs] m R := by
  intro f
  induction f with
  | zero => intro n us xs m R hn hu hF h; exact left_core (W := W) (fun n' _ _ _ e => by omega) hu hF h
  | succ f ih => intro n us xs m R hn hu hF h; exact left_core (W := W) (fun n' t us ys e hl hF m R h => ih (by omega) (by subst e; exact hl.2.2.2.2) hF h) hu hF h
end
end K29
end
section
/-! Sp2: spans, plain: the least wrong word, the corners. -/
namespace Sp
def br (e : Nat) (f a : Int) (t : Nat) (x : Int) : Int := (f * (x / 2 ^ e) + a) / 2 ^ t
/-- wrong at a word -/
def W (d : Int) (e : Nat) (f a : Int) (t : Nat) (x : Int) : Prop := br e f a t x ≠ x / d
section
variable {d D f a : Int} {e t : Nat}
theorem p2 (n : Nat) : (0 : Int) < 2 ^ n := Int.pow_pos (by omega)
/-! ### the corners -/
def under (low d : Int) : Int := low + (d - 1 - low) % d
theorem mono {x h f : Int} (f0 : 0 ≤ f) (hx : x ≤ h) : br e f a t x ≤ br e f a t h := by
  unfold br
  refine Int.ediv_le_ediv (p2 t) ?_
  have := Int.mul_le_mul_of_nonneg_left (Int.ediv_le_ediv (p2 e) hx) f0
  omega
end
end Sp
end
section
namespace Ab
open PySem PySem.Spec PyProof.Rows L2
--pps
section
variable {K : PySem.W.Frag} {m : Mem} {R : ARes → Mem → Prop} {W : Nat} {P : SK}
/-! ### how great a number is -/
def Bn (n : Nat) (x : Int) : Prop := x.natAbs < 2 ^ n
theorem Bn.mono {a b : Nat} {x : Int} (h : Bn a x) (hb : a ≤ b) : Bn b x := Nat.lt_of_lt_of_le h (Nat.pow_le_pow_right (by omega) hb)
theorem Bn.sub {a : Nat} {x y : Int} (hx : Bn a x) (hy : Bn a y) : Bn (a + 1) (x - y) := by
  unfold Bn at *
  rw [Nat.pow_succ]
  omega
/-! ### tuples -/
/-- a span -/
def Span (W : Nat) (d : D) : Prop := ∃ low high : Int, d = .tup [.int low, .int high] ∧ 0 ≤ low ∧ low ≤ high ∧ high ≤ 2 ^ W - 1
theorem four_go {a b c d : D} {i j l n : Nat} {v : Ab.Env} {k : Ab.Env → Mem → Prop} (h : k ((((v.set i (some a)).set j (some b)).set l (some c)).set n (some d)) m) : gT 4 (gs1 (gN i) (gs1 (gN j) (gs1 (gN l) (gs1 (gN n) gs0)))) (.tup [a, b, c, d]) v m k := ⟨rfl, h⟩
end
end Ab
end
section
namespace Ab
open PySem PySem.Spec PyProof.Rows L2
--pps
section
variable {K : PySem.W.Frag} {m : Mem} {R : ARes → Mem → Prop} {W : Nat} {P : SK}
section
variable {d C f a : Int} {e t : Nat}
/-- right from low to high -/
def AllR (d : Int) (e : Nat) (f a : Int) (t : Nat) (low high : Int) : Prop := ∀ x, low ≤ x → x ≤ high → ¬ Sp.W d e f a t x
end
end
end Ab
end
section
namespace Ab
open PySem PySem.Spec PyProof.Rows L2
--pps
end Ab
end
section
namespace Ab
open PySem PySem.Spec PyProof.Rows L2
--pps
section
variable {K : PySem.W.Frag} {m : Mem} {R : ARes → Mem → Prop} {W : Nat} {P : SK}
section
variable {d C f a : Int} {e t : Nat}
/-- the least wrong word from low to high, if any -/
def LW (d : Int) (e : Nat) (f a : Int) (t : Nat) (low high : Int) (o : Option Int) : Prop := match o with
  | none => AllR d e f a t low high
  | some x => low ≤ x ∧ x ≤ high ∧ Sp.W d e f a t x ∧ ∀ z, low ≤ z → z < x → ¬ Sp.W d e f a t z
theorem lw_uniq {low high : Int} {o u : Option Int} (h1 : LW d e f a t low high o) (h2 : LW d e f a t low high u) : o = u := by
  cases o with
  | none =>
    cases u with
    | none => rfl
    | some y => exact absurd h2.2.2.1 (h1 y h2.1 h2.2.1)
  | some x =>
    cases u with
    | none => exact absurd h1.2.2.1 (h2 x h1.1 h1.2.1)
    | some y =>
      by_cases c : x = y
      · rw [c]
      · exfalso
        by_cases c2 : x < y
        · exact h2.2.2.2 x h1.1 c2 h1.2.2.1
        · exact h1.2.2.2 y h2.1 (by omega) h2.2.2.1
theorem LW.all {low high : Int} {o : Option Int} (h : LW d e f a t low high o) : AllR d e f a t low high ↔ o = none := by
  constructor
  · intro al
    exact lw_uniq h al
  · intro e
    rw [e] at h
    exact h
def spD (low high : Int) : D := .tup [.int low, .int high]
/-- a told divisor and a span -/
structure Dsp (W : Nat) (d low high : Int) : Prop where
  d0 : 1 ≤ d
  d1 : d ≤ 2 ^ W - 1
  l0 : 0 ≤ low
  lh : low ≤ high
  h1 : high ≤ 2 ^ W - 1
theorem Dsp.s {low high : Int} (S : Dsp W d low high) : Span W (spD low high) := ⟨low, high, rfl, S.l0, S.lh, S.h1⟩
variable {low high : Int}
end
end
end Ab
end
section
namespace Ab
open PySem PySem.Spec PyProof.Rows L2
end Ab
end
section
namespace Ab
open PySem PySem.Spec PyProof.Rows L2
end Ab
end
section
namespace Ab
open PySem PySem.Spec PyProof.Rows L2
end Ab
end
section
namespace Ab
open PySem PySem.Spec PyProof.Rows L2
end Ab
end
section
namespace Ab
open PySem PySem.Spec PyProof.Rows L2
end Ab
end
section
namespace Ab
open PySem PySem.Spec PyProof.Rows L2
end Ab
end
section
namespace Ab
open PySem PySem.Spec PyProof.Rows L2
end Ab
end
section
namespace Ab
open PySem PySem.Spec PyProof.Rows L2
end Ab
end
section
namespace Ab
open PySem PySem.Spec PyProof.Rows L2
--pps
end Ab
end
section
namespace Ab
open PySem PySem.Spec PyProof.Rows L2
--pps
end Ab
end
section
namespace Ab
open PySem PySem.Spec PyProof.Rows L2
--pps
end Ab
end
section
namespace Ab
open PySem PySem.Spec PyProof.Rows L2
--pps
end Ab
end
section
namespace K29
open PySem PySem.Spec PyProof.Rows L2 Ab
section
variable {K : PySem.W.Frag} {m : Mem} {R : ARes → Mem → Prop} {W : Nat} {P : SK} {d : Int} {y : D}
def Rp (d : D) : Prop := ∃ s : Str, ∀ (m : Mem) (k : KE), k (.str s) m → cRepr m [res m d] k
theorem rp_of {d : D} (hr : ∀ m : Mem, res m d = d) {p : PyData} (h : toP d = some p) (hs : p.showable = true) (hd : p.depth ≤ 60) (hl : p.shown.length ≤ sizeLine) : Rp d := ⟨p.shown, fun m k hk => by
  rw [hr]
  have h2 := toR_of h
  unfold cRepr
  split
  · rename_i e
    cases e
    rw [toP] at h
    · cases h
    all_goals (intros; contradiction)
  · rename_i e
    cases e
    exact ⟨p, h2, hs, hd, hl, hk⟩
  · rename_i e1 e2
    exact absurd rfl (e2 d)⟩
theorem log_small {i : Int} (h : i.natAbs < 10 ^ 12) : i.natAbs.log2 < 1920 := by
  by_cases c : i.natAbs = 0
  · rw [c]; decide
  · have := Nat.log2_lt (n := i.natAbs) (k := 40) c
    omega
theorem rp_int {i : Int} (h : i.natAbs < 10 ^ 12) : Rp (.int i) := rp_of (p := .int i) (fun _ => rfl) rfl (decide_eq_true (log_small h)) (Nat.zero_le _) (int_text_fits (log_small h))
theorem ofs_small {z : String} : ∀ c ∈ (Str.ofString z).cps.toList, c < 16 ^ 8 := by
  intro c hc
  rw [Str.ofString_eq_toList] at hc
  obtain ⟨a, _, rfl⟩ := List.mem_map.mp (show c ∈ z.toList.map Char.toNat from hc)
  have := a.val.toNat_lt
  show a.val.toNat < 16 ^ 8
  omega
theorem rp_str {z : String} (h : (Str.ofString z).length ≤ 100000) : Rp (.str (Str.ofString z)) := rp_of (p := .str _) (fun _ => rfl) rfl rfl (Nat.zero_le _) (by
  have := StrLaws.reprText_len (Str.ofString z) ofs_small
  exact size_line (Nat.le_trans this (by omega)))
theorem rp_non : Rp .non := rp_of (p := .none) (fun _ => rfl) rfl rfl (Nat.zero_le _) (size_line (by decide))
theorem rp_bl {b : Bool} : Rp (.bl b) := rp_of (p := .bool b) (fun _ => rfl) rfl rfl (Nat.zero_le _) (size_line (by cases b <;> decide))
theorem rp_d0 : Rp (.dct [] []) := ⟨_, fun m k hk => hk⟩
end
end K29
end
section
namespace K29
open PySem PySem.Spec PyProof.Rows L2 Ab
section
variable {K : PySem.W.Frag} {m m0 : Mem} {R : ARes → Mem → Prop} {W : Nat} {P : SK} {v : Ab.Env} {k : KE} {kx : KX} {i j : Nat} {T : ClsT} {a p q : Addr} {n : Nat} {d x wd st kp : D} {rs : List Rw} {ks : List Str}
/-! ### the three functions -/
theorem law_sz {n : Nat} : ∀ {r : Rw}, r.law W n → r.sz ≤ r.mn := by
  have key : ∀ {n : Nat}, (∀ {r : Rw}, r.law W n → r.sz ≤ r.mn) → ∀ {qs : List Rw}, (∀ r ∈ qs, r.law W n) → szs qs ≤ mns qs := by
    intro n ih qs hq
    induction qs with
    | nil => exact Nat.le_refl _
    | cons q qs ih2 =>
      rw [szs, mns]
      exact Nat.add_le_add (ih (hq q (List.mem_cons_self ..))) (ih2 fun r hr => hq r (List.mem_cons_of_mem _ hr))
  induction n with
  | zero =>
    intro r h
    cases r with
    | lf l => exact Nat.le_refl _
    | tn t us => exact False.elim h
    | bad d => exact False.elim h
  | succ n ih =>
    intro r h
    cases r with
    | lf l => exact Nat.le_refl _
    | bad d => exact False.elim h
    | tn t us =>
      have := key ih h.2.2.2.2
      rw [Rw.sz, Rw.mn]
      have h1 : 1 * (1 + mns us) ≤ t.toNat * (1 + mns us) := Nat.mul_le_mul_right _ (by have := h.1; omega)
      omega
theorem laws_sz {qs : List Rw} (hq : ∀ r ∈ qs, r.law W n) : szs qs ≤ mns qs := by
  induction qs with
  | nil => exact Nat.le_refl _
  | cons q qs ih2 =>
    rw [szs, mns]
    exact Nat.add_le_add (law_sz (hq q (List.mem_cons_self ..))) (ih2 fun r hr => hq r (List.mem_cons_of_mem _ hr))
/-- good rows, as the law draws them -/
structure Gd (W : Nat) (rs : List Rw) : Prop where
  law : ∀ r ∈ rs, r.law W 3
  len : rs.length ≤ 9
theorem Gd.mn (h : Gd W rs) : mns rs ≤ 527877 := by
  have h1 := laws_mn (W := W) (n := 3) law_mn h.law
  have h2 : mB 3 = 58653 := by decide
  rw [h2] at h1
  have := h.len
  have h3 : rs.length * 58653 ≤ 9 * 58653 := Nat.mul_le_mul_right _ this
  omega
theorem Gd.chk (hW : Wd W) (g : Gd W rs) (h : R (.ret (.int (mns rs : Nat))) m) : sp_check_steps K [.int W, .lst (obs rs)] m R := chk_good (j := 3) hW (by omega) (fun r hr => law_good (g.law r hr)) (laws_fb g.law) (by have := g.mn; omega) h
theorem RG_kept (hk : ∀ s ∈ ks, s ∈ RG) (h : R (.ret .non) m) : sp_need_kept K [.lst (ks.map D.str)] m R := by
  refine kept_good (fun d hd => ?_) h
  obtain ⟨s, hs, rfl⟩ := List.mem_map.mp hd
  exact RG_sc (hk s hs)
theorem p_flagged (hW : Wd W) (g : Gd W rs) (hk : ∀ s ∈ ks, s ∈ RG) (hkl : ks.length ≤ 1000) (h : ∀ xs, FdL 3 rs xs → R (.ret (.lst xs)) m) : sp_flagged K [.int W, .lst (obs rs), .lst (ks.map D.str)] m R := by
  have hln := g.len
  show w_flagged K [some (.int W), some (.lst (obs rs)), some (.lst (ks.map D.str)), none] m _
  unfold w_flagged
  walk_at "vg"
  refine g.chk hW ?_
  walk_at "vg"
  refine RG_kept hk ?_
  walk_at "vg"
  refine p_unneeded (j := 3) (f := 7) (W := W) (m0 := m) (by omega) g.law (by omega) St.start (fun G a m1 _ S1 hG => ?_)
  walk_at "vg"
  refine p_marked hk hkl (fun p m2 hp fr hL => ?_)
  walk_at "vg"
  obtain ⟨f1, f2⟩ := S1.fresh hp
  have S2 : St m G m2 := S1.other fun b hb => fr b (by rintro rfl; rcases hb with hb | hb; exact hb f1; exact hb f2)
  refine p_back (j := 3) (f := 3) (W := W) (Nat.le_refl _) rs g.law (by omega) _ _ _ _ _ _ S2 hL f1 hG (fun m3 p3 S3 L3 _ => ?_)
  walk_at "vg"
  have hd : (Rw.tn 0 rs).dep 4 := ⟨by omega, fun r hr => law_dep (g.law r hr)⟩
  have hx : FlX G (.tn 0 rs) (.raw (.ref a)) := ⟨a, rfl, hG⟩
  obtain ⟨xs, e, hl, hF⟩ := snp_fd S3 hx hd
  refine ⟨_, _, gh_deep S3 hx hd, ?_⟩
  rw [e]
  exact h xs ⟨hl, hF⟩
theorem p_idle_rows (hW : Wd W) (g : Gd W rs) (hk : ∀ s ∈ ks, s ∈ RG) (hkl : ks.length ≤ 1000) (h : ∀ d, R (.ret d) m) : sp_idle_rows K [.int W, .lst (obs rs), .lst (ks.map D.str)] m R := by
  show w_idle_rows K [some (.int W), some (.lst (obs rs)), some (.lst (ks.map D.str))] m _
  unfold w_idle_rows
  walk_at "vg"
  refine p_flagged hW g hk hkl (fun xs hF => ?_)
  walk_at "vg"
  refine p_idle_among (n := 3) (f := 7) (us := rs) (by omega) (by omega) hF (by have := g.mn; have := laws_sz g.law; omega) (fun zs z' _ => ?_)
  walk_at "vg"
  exact h _
theorem p_trimmed (hW : Wd W) (g : Gd W rs) (hk : ∀ s ∈ ks, s ∈ RG) (hkl : ks.length ≤ 1000) (h : ∀ d, R (.ret d) m) : sp_trimmed K [.int W, .lst (obs rs), .lst (ks.map D.str)] m R := by
  show w_trimmed K [some (.int W), some (.lst (obs rs)), some (.lst (ks.map D.str))] m _
  unfold w_trimmed
  walk_at "vg"
  refine p_flagged hW g hk hkl (fun xs hF => ?_)
  walk_at "vg"
  refine p_left_rows (n := 3) (f := 7) (us := rs) (W := W) (by omega) g.law hF (fun ds => ?_)
  walk_at "vg"
  exact h _
theorem sortF_go {ks : List Str} {xs : List D} (hr : res m d = .dct (ks.map Sum.inr) xs) (hl : ks.length < 64) (h : ∀ ys : List Str, ∀ q, m q = none → k (.raw (.ref q)) (setM m q (lS ys))) : cSort false m ([d].map (res m)) k := by
  show cSort false m [res m d] k
  rw [hr]
  exact ⟨ks, rfl, hl, fun ys hp _ => newf_go (h ys)⟩
theorem p_needed_registers (hW : Wd W) (g : Gd W rs) (hk : ∀ s ∈ ks, s ∈ RG) (hkl : ks.length ≤ 1000) (h : ∀ d, R (.ret d) m) : sp_needed_registers K [.int W, .lst (obs rs), .lst (ks.map D.str)] m R := by
  have hln := g.len
  show w_needed_registers K [some (.int W), some (.lst (obs rs)), some (.lst (ks.map D.str))] m _
  unfold w_needed_registers
  walk_at "vg"
  refine g.chk hW ?_
  walk_at "vg"
  refine RG_kept hk ?_
  walk_at "vg"
  refine p_unneeded (j := 3) (f := 7) (W := W) (m0 := m) (by omega) g.law (by omega) St.start (fun G a m1 _ S1 hG => ?_)
  walk_at "vg"
  refine p_marked hk hkl (fun p m2 hp fr hL => ?_)
  walk_at "vg"
  obtain ⟨f1, f2⟩ := S1.fresh hp
  have S2 : St m G m2 := S1.other fun b hb => fr b (by rintro rfl; rcases hb with hb | hb; exact hb f1; exact hb f2)
  refine p_back (j := 3) (f := 3) (W := W) (Nat.le_refl _) rs g.law (by omega) _ _ _ _ _ _ S2 hL f1 hG (fun m3 p3 S3 L3 _ => ?_)
  walk_at "vg"
  obtain ⟨zs, xs, e, hn, hR⟩ := L3
  refine sortF_go (res_some e) (by have := nd_len (L := RG) hn hR; show zs.length < 64; have : RG.length = 5 := rfl; omega) (fun ys q hq => ?_)
  obtain ⟨g1, g2⟩ := S3.fresh hq
  exact ⟨_, _, GhD.drop (m' := m) (fun b d e => by rw [setM_ne (by rintro rfl; rw [g1] at e; cases e)]; exact S3.keep b d e), h _⟩
/-! ### refusals -/
def Rfz (K : PySem.W.Frag) (wd st kp : D) (x : Exn) : Prop := (∀ (m : Mem) (R : ARes → Mem → Prop), R (.exc x) m → sp_check_steps K [wd, st] m R) ∨ ∃ n, (∀ (m : Mem) (R : ARes → Mem → Prop), R (.ret n) m → sp_check_steps K [wd, st] m R) ∧ (∀ (m : Mem) (R : ARes → Mem → Prop), R (.exc x) m → sp_need_kept K [kp] m R)
theorem flagged_x {x : Exn} (hz : Rfz K wd st kp x) (h : R (.exc x) m) : sp_flagged K [wd, st, kp] m R := by
  show w_flagged K [some wd, some st, some kp, none] m _
  unfold w_flagged
  walk_at "vg"
  rcases hz with h1 | ⟨n, h1, h2⟩
  · refine h1 _ _ ?_
    exact h
  · refine h1 _ _ ?_
    walk_at "vg"
    refine h2 _ _ ?_
    exact h
theorem idle_x {x : Exn} (hz : Rfz K wd st kp x) (h : R (.exc x) m) : sp_idle_rows K [wd, st, kp] m R := by
  show w_idle_rows K [some wd, some st, some kp] m _
  unfold w_idle_rows
  walk_at "vg"
  refine flagged_x hz ?_
  exact h
theorem trimmed_x {x : Exn} (hz : Rfz K wd st kp x) (h : R (.exc x) m) : sp_trimmed K [wd, st, kp] m R := by
  show w_trimmed K [some wd, some st, some kp] m _
  unfold w_trimmed
  walk_at "vg"
  refine flagged_x hz ?_
  exact h
theorem needed_x {x : Exn} (hz : Rfz K wd st kp x) (h : R (.exc x) m) : sp_needed_registers K [wd, st, kp] m R := by
  show w_needed_registers K [some wd, some st, some kp] m _
  unfold w_needed_registers
  walk_at "vg"
  rcases hz with h1 | ⟨n, h1, h2⟩
  · refine h1 _ _ ?_
    exact h
  · refine h1 _ _ ?_
    walk_at "vg"
    refine h2 _ _ ?_
    exact h
theorem tab_go {n i : Nat} {z : Int} {tab : List ASp} {w : WL} {sp : ASp} (hi : look v i = some (.int z)) (hs : atI tab z = some sp) (h : w v m (fun ds m2 => ds.length = n ∧ sp ds m2 fun r m3 => match r with
    | .ret d => k d m3
    | .exc x => kx x m3) kx) : wTab n tab (wVar i) w v m k kx := var_go hi ⟨sp, hs, h⟩
abbrev HS : List Hnd := [("NoWidth", some 4, .ret "width" "found"), ("NoRow", some 4, .ret "row" "place"), ("TooMuch", some 4, .ret "much" "line"), ("NoRegister", some 4, .ret "register" "name")]
/-- how the law tells an exception -/
def Told (x : Exn) (c : Str) (d : D) : Prop := ∀ (P : SK) (v : Ab.Env) (m : Mem), 4 < v.length → P.rt (.lst [.str c, d]) m → hands XS FS P HS x v m
theorem told_width : Told (NoWidth d) "width" d := fun P v m hv h => ⟨(by show ("NoWidth" : Str) ∈ XS; decide), fun _ => ⟨hv, d, rfl, h⟩, fun n => absurd rfl n⟩
theorem told_row {z : Int} : Told (NoRow z) "row" (.int z) := fun P v m hv h => ⟨(by show ("NoRow" : Str) ∈ XS; decide), fun e => absurd e (by show ¬ ("NoRow" : Str) = "NoWidth"; decide), fun _ => ⟨(by show ("NoRow" : Str) ∈ XS; decide), fun _ => ⟨hv, .int z, rfl, h⟩, fun n => absurd rfl n⟩⟩
theorem told_much : Told TooMuch "much" (.int (-1)) := fun P v m hv h => ⟨(by show ("TooMuch" : Str) ∈ XS; decide), fun e => absurd e (by show ¬ ("TooMuch" : Str) = "NoWidth"; decide), fun _ => ⟨(by show ("TooMuch" : Str) ∈ XS; decide), fun e => absurd e (by show ¬ ("TooMuch" : Str) = "NoRow"; decide), fun _ => ⟨(by show ("TooMuch" : Str) ∈ XS; decide), fun _ => ⟨hv, .int (-1), rfl, h⟩, fun n => absurd rfl n⟩⟩⟩
theorem told_reg : Told (NoReg d) "register" d := fun P v m hv h => ⟨(by show ("NoRegister" : Str) ∈ XS; decide), fun e => absurd e (by show ¬ ("NoRegister" : Str) = "NoWidth"; decide), fun _ => ⟨(by show ("NoRegister" : Str) ∈ XS; decide), fun e => absurd e (by show ¬ ("NoRegister" : Str) = "NoRow"; decide), fun _ => ⟨(by show ("NoRegister" : Str) ∈ XS; decide), fun e => absurd e (by show ¬ ("NoRegister" : Str) = "TooMuch"; decide), fun _ => ⟨(by show ("NoRegister" : Str) ∈ XS; decide), fun _ => ⟨hv, d, rfl, h⟩, fun n => absurd rfl n⟩⟩⟩⟩
theorem asked_x {w : Nat} {x : Exn} {c : Str} {e : D} (hw : w < 3) (hz : Rfz K wd st kp x) (ht : Told x c e) (h : R (.ret (.lst [.str c, e])) m) : sp_law_asked K [.int (w : Nat), wd, st, kp] m R := by
  show w_law_asked K [some (.int (w : Nat)), some wd, some st, some kp, none] m _
  unfold w_law_asked
  walk_at "vg"
  refine try_go ?_
  unfold w_law_asked_2
  walk_at "vg"
  have h4 : 4 < [some (.int (w : Nat)), some wd, some st, some kp, none].length := Nat.le_refl _
  match w, hw with
  | 0, _ =>
    refine tab_go rfl at0 ?_
    walk_at "vg"
    exact idle_x hz (ht _ _ _ h4 h)
  | 1, _ =>
    refine tab_go rfl at1 ?_
    walk_at "vg"
    exact trimmed_x hz (ht _ _ _ h4 h)
  | 2, _ =>
    refine tab_go rfl at2 ?_
    walk_at "vg"
    exact needed_x hz (ht _ _ _ h4 h)
theorem asked_ok {w : Nat} (hw : w < 3) (hW : Wd W) (g : Gd W rs) (hk : ∀ s ∈ ks, s ∈ RG) (hkl : ks.length ≤ 1000) (h : R (.ret (.lst [.str "told", .non])) m) : sp_law_asked K [.int (w : Nat), .int W, .lst (obs rs), .lst (ks.map D.str)] m R := by
  show w_law_asked K [some (.int (w : Nat)), some (.int W), some (.lst (obs rs)), some (.lst (ks.map D.str)), none] m _
  unfold w_law_asked
  walk_at "vg"
  refine try_go ?_
  unfold w_law_asked_2
  walk_at "vg"
  have fin : w_law_asked_1 K [some (.int (w : Nat)), some (.int W), some (.lst (obs rs)), some (.lst (ks.map D.str)), none] m ⟨fun _ m => R (.ret .non) m, fun d m => R (.ret d) m, fun _ _ => False, fun _ _ => False, fun x _ m => R (.exc x) m⟩ := by
    unfold w_law_asked_1
    walk_at "vg"
    exact h
  match w, hw with
  | 0, _ =>
    refine tab_go rfl at0 ?_
    walk_at "vg"
    refine p_idle_rows hW g hk hkl (fun d => ?_)
    walk_at "vg"
    exact fin
  | 1, _ =>
    refine tab_go rfl at1 ?_
    walk_at "vg"
    refine p_trimmed hW g hk hkl (fun d => ?_)
    walk_at "vg"
    exact fin
  | 2, _ =>
    refine tab_go rfl at2 ?_
    walk_at "vg"
    refine p_needed_registers hW g hk hkl (fun d => ?_)
    walk_at "vg"
    exact fin
end
end K29
end
section
namespace K29
open PySem PySem.Spec PyProof.Rows L2 Ab
section
variable {K : PySem.W.Frag} {m : Mem} {R : ARes → Mem → Prop} {W w at' : Nat} {P : SK} {a : Addr} {n : Nat} {rs qs : List Rw} {ks : List Str} {x0 x1 x5 x6 x9 x10 x11 x12 x13 x14 x15 x16 x17 x18 : Option D} {y : D}
/-! ### the law -/
def RpK (K : PySem.W.Frag) (d : D) : Prop := ∃ s : Str, ∀ (m : Mem) (k : KE), k (.str s) m → Ab.cReprK K m [res m d] k
theorem Rp.toK {d : D} (h : Rp d) : RpK K d := by
  obtain ⟨s, h⟩ := h
  exact ⟨s, fun m k hk => .inl (h m k hk)⟩
theorem sm2 {c : Str} {i : Int} (hc : c.length ≤ 1000000) : Sm 8 (.lst [.str c, .int i]) (.lst [.str c, .int i]) := by
  refine .seq (T := "list") (.inl rfl) rfl rfl (.inl rfl) (.inl rfl) rfl (Nat.le_of_ble_eq_true rfl) (fun j x y h1 h2 => ?_)
  rw [h1] at h2
  cases h2
  match j with
  | 0 => cases h1; exact .str hc
  | 1 => cases h1; exact .int
  | j + 2 => cases h1
theorem tupl_go {k : KE} {xs : List D} (h : k (.tup xs) m) : cTuple m ([D.lst xs].map (res m)) k := h
/-- what one turn of the law knows -/
structure Cx9 (W : Nat) (rs : List Rw) (ks : List Str) : Prop where
  w : Wd W
  g : Gd W rs
  pos : 1 ≤ szs rs
  k : ks = [] ∨ ks = (["a"] : List Str) ∨ ks = (["a", "e9"] : List Str)
theorem Cx9.kr (C : Cx9 W rs ks) : ∀ s ∈ ks, s ∈ RG := by
  rcases C.k with rfl | rfl | rfl <;> decide
theorem Cx9.kl (C : Cx9 W rs ks) : ks.length ≤ 2 := by
  rcases C.k with rfl | rfl | rfl <;> decide
theorem Cx9.rpt (C : Cx9 W rs ks) : Rp (.tup (ks.map D.str)) := by
  rcases C.k with rfl | rfl | rfl
  · exact rp_of (p := .tuple []) (fun _ => rfl) rfl (by decide +kernel) (by decide +kernel) (size_line (by decide +kernel))
  · exact rp_of (p := .tuple [.str "a"]) (fun _ => rfl) rfl (by decide +kernel) (by decide +kernel) (size_line (by decide +kernel))
  · exact rp_of (p := .tuple [.str "a", .str "e9"]) (fun _ => rfl) rfl (by decide +kernel) (by decide +kernel) (size_line (by decide +kernel))
/-- a bad name -/
structure BdN (K : PySem.W.Frag) (y : D) : Prop where
  s : sc y = true
  r : regD y = false
  p : RpK K y
/-- the slots of a turn -/
abbrev En (a : Addr) (W : Nat) (rs : List Rw) (ks : List Str) (w : Nat) (x0 x1 x5 x10 x11 x12 x13 x14 x15 x16 x17 x18 : Option D) : Ab.Env := [x0, x1, some (.raw (.ref a)), some (.int W), some (.lst (tls rs)), x5, some (.int (szs rs : Nat)), some (.lst (obs rs)), some (.lst (ks.map D.str)), some (.int (w : Nat)), x10, x11, x12, x13, x14, x15, x16, x17, x18]
theorem r2 (C : Cx9 W rs ks) (hw : w < 3) (H : P.nx (En a W rs ks w x0 x1 x5 x10 x11 x12 x13 x14 x15 x16 x17 x18) m) : w_law_2 K (En a W rs ks w x0 x1 x5 x10 x11 x12 x13 x14 x15 x16 x17 x18) m P := by
  unfold w_law_2
  walk_at "vg"
  refine asked_ok hw C.w C.g C.kr (by have := C.kl; omega) ?_
  walk_at "vg"
  refine if_D rfl ?_
  walk_at "vg"
  exact H
theorem Cx9.kept (C : Cx9 W rs ks) {e : Exn} {st kp : D} (hs : st = .lst (obs rs)) (h : ∀ (m : Mem) (R : ARes → Mem → Prop), R (.exc e) m → sp_need_kept K [kp] m R) : Rfz K (.int W) st kp e := .inr ⟨_, fun m R hR => by rw [hs]; exact C.g.chk C.w hR, h⟩
theorem r3 (C : Cx9 W rs ks) (hw : w < 3) (hb : Box m a n) (hn : n < 1000000)
    (H : ∀ x15 x18 m', Box m' a (n + 1) → P.nx (En a W rs ks w x0 x1 x5 x10 x11 x12 x13 x14 x15 x16 x17 x18) m') : w_law_3 K (En a W rs ks w x0 x1 x5 x10 x11 x12 x13 x14 x15 x16 x17 x18) m P := by
  unfold w_law_3
  walk_at "vg"
  refine tupl_go ?_
  walk_at "vg"
  refine dct0_go (newt_go ?_)
  walk_at "vg"
  refine tk hb (by omega) (by decide) (by decide) (fun t m1 t0 t1 _ hb1 => ?_)
  walk_at "vg"
  have key : ∀ y ∈ ([.non, .tup (ks.map D.str), .str "a", .dct [] [], .int 7] : List D), (∀ m : Mem, res m y = y) ∧ isiQ y "list" = some false ∧ RpK K y := by
    intro y hy
    simp only [List.mem_cons, List.not_mem_nil, or_false] at hy
    rcases hy with rfl | rfl | rfl | rfl | rfl
    · exact ⟨fun _ => rfl, rfl, rp_non.toK⟩
    · exact ⟨fun _ => rfl, rfl, C.rpt.toK⟩
    · exact ⟨fun _ => rfl, rfl, (rp_str (by decide)).toK⟩
    · exact ⟨fun _ => rfl, rfl, rp_d0.toK⟩
    · exact ⟨fun _ => rfl, rfl, (rp_int (by decide)).toK⟩
  refine idx_take t0 t1 (fun y hy => ?_)
  obtain ⟨k1, k2, k3⟩ := key y hy
  walk_at "vg"
  refine asked_x hw (C.kept rfl fun m R hR => kept_nolist k1 k2 hR) told_reg ?_
  walk_at "vg"
  obtain ⟨s, hs⟩ := k3
  refine if_D rfl ?_
  walk_at "vg"
  refine hs _ _ ?_
  walk_at "vg"
  refine hs _ _ ?_
  walk_at "vg"
  refine if_D rfl ?_
  walk_at "vg"
  exact r2 C hw (H _ _ _ hb1)
theorem r4 (C : Cx9 W rs ks) (hw : w < 3) (hb : Box m a n) (hn : n < 1000000) {r : List D} (B : BdN K y)
    (H : ∀ x15 x18 m', Box m' a (n + 1) → P.nx (En a W rs ks w x0 x1 x5 x10 x11 (some y) (some (.lst (ks.map D.str ++ y :: r))) x14 x15 x16 x17 x18) m') : w_law_4 K (En a W rs ks w x0 x1 x5 x10 x11 (some y) (some (.lst (ks.map D.str ++ y :: r))) x14 x15 x16 x17 x18) m P := by
  unfold w_law_4
  walk_at "vg"
  refine asked_x hw (C.kept rfl fun m R hR => kept_bad (fun d hd => ?_) B.s B.r hR) told_reg ?_
  · obtain ⟨s, hs, rfl⟩ := List.mem_map.mp hd
    exact RG_sc (C.kr s hs)
  walk_at "vg"
  obtain ⟨s, hs⟩ := B.p
  refine if_D rfl ?_
  walk_at "vg"
  refine hs _ _ ?_
  walk_at "vg"
  refine hs _ _ ?_
  walk_at "vg"
  refine if_D rfl ?_
  walk_at "vg"
  exact r3 C hw hb hn H
/-- loops that do too much -/
def muchR (u : Int) : Rw := .tn 64 [.tn 64 [.tn 64 [.tn u [.lf (.copy "a" "b")]]]]
theorem r5 (C : Cx9 W rs ks) (hw : w < 3) (hb : Box m a n) (hn : n < 999990) {r : List D} (B : BdN K y)
    (H : ∀ x15 x17 x18 m', Box m' a (n + 2) → P.nx (En a W rs ks w x0 x1 x5 x10 x11 (some y) (some (.lst (ks.map D.str ++ y :: r))) x14 x15 x16 x17 x18) m') : w_law_5 K (En a W rs ks w x0 x1 x5 x10 x11 (some y) (some (.lst (ks.map D.str ++ y :: r))) x14 x15 x16 x17 x18) m P := by
  unfold w_law_5
  walk_at "vg"
  refine mkx ?_
  walk_at "vg"
  refine mkx ?_
  walk_at "vg"
  refine mkx ?_
  walk_at "vg"
  refine mkx ?_
  walk_at "vg"
  refine tk hb (by omega) (by decide) (by decide) (fun t m1 t0 t1 _ hb1 => ?_)
  walk_at "vg"
  refine mkw (fun h => mk_copy rfl h) (fun kl hk => by walk_at "vg"; exact hk) ?_
  walk_at "vg"
  refine mk_turns ?_
  walk_at "vg"
  refine mk_turns ?_
  walk_at "vg"
  refine mk_turns ?_
  walk_at "vg"
  refine mk_turns ?_
  walk_at "vg"
  refine addl_go (by rw [obs_map, List.length_map]; have := C.g.len; show rs.length + 1 ≤ _; omega) ?_
  walk_at "vg"
  have e : obs rs ++ [obTurns (.int 64) (.lst [obTurns (.int 64) (.lst [obTurns (.int 64) (.lst [obTurns (.int (4 + t)) (.lst [obCopy (.str "a") (.str "b")])])])])] = obs (rs ++ [muchR (4 + t)]) := by
    rw [obs_map, obs_map, List.map_append]
    rfl
  have hmn : (muchR (4 + t)).mn = 64 * (1 + 64 * (1 + 64 * (1 + (4 + t).toNat * 2))) := by
    unfold muchR
    simp only [Rw.mn, mns]
    rfl
  have hm := C.g.mn
  have hmn2 : mns (rs ++ [muchR (4 + t)]) = mns rs + (muchR (4 + t)).mn := by rw [mns_app, mns, mns, Nat.add_zero]
  have hgd : ∀ q ∈ rs ++ [muchR (4 + t)], q.good W 4 := by
    intro q hq
    rcases List.mem_append.mp hq with hq | hq
    · exact good_up (law_good (C.g.law q hq)) (by omega)
    · rw [List.mem_singleton] at hq
      subst hq
      refine ⟨by omega, by omega, by simp, fun q hq => ?_⟩
      rw [List.mem_singleton] at hq
      subst hq
      refine ⟨by omega, by omega, by simp, fun q hq => ?_⟩
      rw [List.mem_singleton] at hq
      subst hq
      refine ⟨by omega, by omega, by simp, fun q hq => ?_⟩
      rw [List.mem_singleton] at hq
      subst hq
      refine ⟨by omega, by omega, by simp, fun q hq => ?_⟩
      rw [List.mem_singleton] at hq
      subst hq
      exact ⟨by decide, by decide⟩
  have hfb : fbs (rs ++ [muchR (4 + t)]) = none := by
    rw [fbs_app, laws_fb C.g.law]
    rfl
  refine asked_x hw (.inl fun m R hR => ?_) told_much ?_
  · have := chk_much (K := K) (j := 4) C.w (by omega) hgd (by rw [hmn2, hmn]; omega) hfb (by rw [hmn2, hmn]; omega) hR
    rw [← e] at this
    exact this
  walk_at "vg"
  refine p_law_same (sm2 (by decide)) ?_
  walk_at "vg"
  exact r4 C hw hb1 (by omega) B (fun z15 z18 m' hb' => H _ _ _ _ hb')
theorem r6 (C : Cx9 W rs ks) (hw : w < 3) (hb : Box m a n) (hn : n < 999980) {r : List D} (B : BdN K y)
    (H : ∀ x15 x16 x17 x18 m', Box m' a (n + 3) → P.nx (En a W rs ks w x0 x1 x5 x10 x11 (some y) (some (.lst (ks.map D.str ++ y :: r))) x14 x15 x16 x17 x18) m') : w_law_6 K (En a W rs ks w x0 x1 x5 x10 x11 (some y) (some (.lst (ks.map D.str ++ y :: r))) x14 x15 x16 x17 x18) m P := by
  unfold w_law_6
  walk_at "vg"
  refine tupl_go ?_
  walk_at "vg"
  refine dct0_go (newt_go ?_)
  walk_at "vg"
  refine tk hb (by omega) (by decide) (by decide) (fun t m1 t0 t1 _ hb1 => ?_)
  walk_at "vg"
  have key : ∀ y ∈ ([.non, .tup (obs rs), .str "rows", .dct [] [], .int 7] : List D), (∀ m : Mem, res m y = y) ∧ isiQ y "list" = some false := by
    intro y hy
    simp only [List.mem_cons, List.not_mem_nil, or_false] at hy
    rcases hy with rfl | rfl | rfl | rfl | rfl <;> exact ⟨fun _ => rfl, rfl⟩
  refine idx_take t0 t1 (fun z hz => ?_)
  obtain ⟨k1, k2⟩ := key z hz
  walk_at "vg"
  refine asked_x hw (.inl fun m R hR => chk_nolist C.w k1 k2 hR) told_row ?_
  walk_at "vg"
  refine p_law_same (sm2 (by decide)) ?_
  walk_at "vg"
  exact r5 C hw hb1 (by omega) B (fun z15 z17 z18 m' hb' => H _ _ _ _ _ (box_mono hb' (by omega)))
theorem r7 (C : Cx9 W rs ks) (hw : w < 3) (hb : Box m a n) (hn : n < 999970) {r : List D} (B : BdN K y) (hq : ∀ q ∈ qs, q.good W 3) (hf : fbs qs = some at') (hmn : mns qs ≤ 100000000)
    (H : ∀ x15 x16 x17 x18 m', Box m' a (n + 4) → P.nx (En a W rs ks w x0 x1 x5 (some (.int (at' : Nat))) (some (.lst (obs qs))) (some y) (some (.lst (ks.map D.str ++ y :: r))) x14 x15 x16 x17 x18) m') : w_law_7 K (En a W rs ks w x0 x1 x5 (some (.int (at' : Nat))) (some (.lst (obs qs))) (some y) (some (.lst (ks.map D.str ++ y :: r))) x14 x15 x16 x17 x18) m P := by
  unfold w_law_7
  walk_at "vg"
  refine tk hb (by omega) (by decide) (by decide) (fun t m1 t0 t1 _ hb1 => ?_)
  walk_at "vg"
  refine idx_take t0 t1 (fun z hz => ?_)
  walk_at "vg"
  refine asked_x hw (.inl fun m R hR => chk_bad (j := 3) C.w (by omega) hq hmn hf hR) told_row ?_
  walk_at "vg"
  refine p_law_same (sm2 (by decide)) ?_
  walk_at "vg"
  exact r6 C hw hb1 (by omega) B (fun z15 z16 z17 z18 m' hb' => H _ _ _ _ _ (box_mono hb' (by omega)))
end
end K29
end
section
namespace K29
open PySem PySem.Spec PyProof.Rows L2 Ab
section
variable {K : PySem.W.Frag} {m : Mem} {R : ARes → Mem → Prop} {W w at' : Nat} {P : SK} {a : Addr} {n : Nat} {rs qs : List Rw} {ks : List Str} {x0 x1 x5 x6 x9 x10 x11 x12 x13 x14 x15 x16 x17 x18 : Option D} {y : D}
theorem bdn {y : D} (hy : y ∈ ([.str "B", .str "", .str "9a", .non, .int 7, .str "b c", .str "abcdefghi", .bl true] : List D)) : BdN K y := by
  simp only [List.mem_cons, List.not_mem_nil, or_false] at hy
  rcases hy with rfl | rfl | rfl | rfl | rfl | rfl | rfl | rfl
  · exact ⟨by decide +kernel, by decide +kernel, (rp_str (by decide)).toK⟩
  · exact ⟨by decide +kernel, by decide +kernel, (rp_str (by decide)).toK⟩
  · exact ⟨by decide +kernel, by decide +kernel, (rp_str (by decide)).toK⟩
  · exact ⟨rfl, rfl, rp_non.toK⟩
  · exact ⟨rfl, rfl, (rp_int (by decide)).toK⟩
  · exact ⟨by decide +kernel, by decide +kernel, (rp_str (by decide)).toK⟩
  · exact ⟨by decide +kernel, by decide +kernel, (rp_str (by decide)).toK⟩
  · exact ⟨rfl, rfl, rp_bl.toK⟩
theorem odds {y : D} (hy : y ∈ ([.int 3, .int 33, .non, .str "8", .bl true] : List D)) : pl y = true ∧ ¬ Wid y ∧ RpK K y := by
  simp only [List.mem_cons, List.not_mem_nil, or_false] at hy
  rcases hy with rfl | rfl | rfl | rfl | rfl
  · exact ⟨rfl, by rintro ⟨i, e, h1, h2⟩; cases e; omega, (rp_int (by decide)).toK⟩
  · exact ⟨rfl, by rintro ⟨i, e, h1, h2⟩; cases e; omega, (rp_int (by decide)).toK⟩
  · exact ⟨rfl, (by rintro ⟨i, e, _⟩; cases e), rp_non.toK⟩
  · exact ⟨rfl, (by rintro ⟨i, e, _⟩; cases e), (rp_str (by decide)).toK⟩
  · exact ⟨rfl, (by rintro ⟨i, e, _⟩; cases e), rp_bl.toK⟩
theorem cut_len {xs : List D} {lo hi : Option Int} : (Ab.cutD xs lo hi).length ≤ xs.length := by
  unfold Ab.cutD
  rw [List.length_take, List.length_drop]
  omega
theorem r8 (C : Cx9 W rs ks) (hw : w < 3) (hb : Box m a n) (hn : n < 900000)
    (H : ∀ x10 x11 x12 x13 x14 x15 x16 x17 x18 m', Box m' a (n + 20) → P.nx (En a W rs ks w x0 x1 x5 x10 x11 x12 x13 x14 x15 x16 x17 x18) m') : w_law_8 K (En a W rs ks w x0 x1 x5 x10 x11 x12 x13 x14 x15 x16 x17 x18) m P := by
  have hpos := C.pos
  have hlen := C.g.len
  have hmn := C.g.mn
  have hsz := laws_sz C.g.law
  unfold w_law_8
  walk_at "vg"
  refine tk hb (by omega) (by omega) (by omega) (fun t1 m1 t10 t11 _ hb1 => ?_)
  walk_at "vg"
  obtain ⟨at', rfl⟩ : ∃ k : Nat, t1 = (k : Int) := ⟨t1.toNat, by omega⟩
  refine p_law_spoilt (j := 3) (f := 7) (at' := at') C.w (by omega) (by omega) C.g.law (by omega) (by omega) hb1 (by omega) (fun qs m2 hql hqs hf hmq _ hb2 => ?_)
  walk_at "vg"
  refine tk hb2 (by omega) (by decide) (by decide) (fun t2 m3 t20 t21 _ hb3 => ?_)
  walk_at "vg"
  refine idx_take (xs := [.str "B", .str "", .str "9a", .non, .int 7, .str "b c", .str "abcdefghi", .bl true]) t20 t21 (fun y hy => ?_)
  have B : BdN K y := bdn hy
  walk_at "vg"
  refine addl_go (by rw [List.length_map]; have := C.kl; show ks.length + 1 ≤ _; omega) ?_
  walk_at "vg"
  refine tk hb3 (by omega) (by decide) (by decide) (fun t3 m4 t30 t31 _ hb4 => ?_)
  walk_at "vg"
  have hcl : (Ab.cutD [D.non, D.str "b"] none (some t3)).length ≤ 2 := cut_len
  generalize Ab.cutD [D.non, D.str "b"] none (some t3) = r at hcl ⊢
  refine addl_go (by rw [List.length_append, List.length_map]; have := C.kl; show ks.length + 1 + r.length ≤ _; omega) ?_
  rw [show (ks.map D.str ++ [y]) ++ r = ks.map D.str ++ y :: r by rw [List.append_assoc]; rfl]
  walk_at "vg"
  refine tk hb4 (by omega) (by decide) (by decide) (fun t4 m5 t40 t41 _ hb5 => ?_)
  walk_at "vg"
  refine idx_take (xs := [.int 3, .int 33, .non, .str "8", .bl true]) t40 t41 (fun z hz => ?_)
  obtain ⟨z1, z2, z3⟩ := odds (K := K) hz
  walk_at "vg"
  refine tk hb5 (by omega) (by decide) (by decide) (fun t5 m6 t50 t51 _ hb6 => ?_)
  walk_at "vg"
  refine idx_take t50 t51 (fun st _ => ?_)
  walk_at "vg"
  refine tk hb6 (by omega) (by decide) (by decide) (fun t6 m7 t60 t61 _ hb7 => ?_)
  walk_at "vg"
  refine idx_take t60 t61 (fun kp _ => ?_)
  walk_at "vg"
  refine asked_x hw (.inl fun m R hR => chk_width z1 z2 hR) told_width ?_
  walk_at "vg"
  obtain ⟨s, hs⟩ := z3
  refine if_D rfl ?_
  walk_at "vg"
  refine hs _ _ ?_
  walk_at "vg"
  refine hs _ _ ?_
  walk_at "vg"
  refine if_D rfl ?_
  walk_at "vg"
  exact r7 C hw hb7 (by omega) B hqs hf (by omega) (fun z15 z16 z17 z18 m' hb' => H _ _ _ _ _ _ _ _ _ _ (box_mono hb' (by omega)))
theorem keep_cut {t : Int} (h0 : 0 ≤ t) (h1 : t < 3) : ∃ ks : List Str, (ks = [] ∨ ks = (["a"] : List Str) ∨ ks = (["a", "e9"] : List Str)) ∧ Ab.cutD [D.str "a", D.str "e9"] none (some t) = ks.map D.str := by
  obtain rfl | rfl | rfl : t = 0 ∨ t = 1 ∨ t = 2 := by omega
  · exact ⟨[], .inl rfl, rfl⟩
  · exact ⟨["a"], .inr (.inl rfl), rfl⟩
  · exact ⟨["a", "e9"], .inr (.inr rfl), rfl⟩
theorem szs_pos {rs : List Rw} (h : 1 ≤ rs.length) : 1 ≤ szs rs := by
  cases rs with
  | nil => rw [List.length_nil] at h; omega
  | cons r rs => have := sz_pos (r := r); rw [szs]; omega
theorem r9 {l : Nat} {ns : List Int} {x2 x3 x4 x5 x6 x7 x8 x9 : Option D} (H : ∀ y2 y3 y4 y5 y6 y7 y8 y9 y10 y11 y12 y13 y14 y15 y16 y17 y18 m', P.nx [some (.frl (ns.map D.int)), some (.int (l : Nat)), y2, y3, y4, y5, y6, y7, y8, y9, y10, y11, y12, y13, y14, y15, y16, y17, y18] m') :
    w_law_9 K [some (.frl (ns.map D.int)), some (.int (l : Nat)), x2, x3, x4, x5, x6, x7, x8, x9, x10, x11, x12, x13, x14, x15, x16, x17, x18] m P := by
  unfold w_law_9
  walk_at "vg"
  refine p_law_cell (by omega) (fun c => ?_)
  walk_at "vg"
  refine p_law_box (fun a m1 ha _ hb => ?_)
  walk_at "vg"
  refine tk hb (by omega) (by omega) (by omega) (fun t m2 t0 t1 _ b2 => ?_)
  walk_at "vg"
  obtain ⟨W, eW⟩ : ∃ W : Nat, 4 + t = (W : Int) := ⟨(4 + t).toNat, by omega⟩
  rw [eW]
  have hW : Wd W := ⟨by omega, by omega⟩
  refine tk b2 (by omega) (by omega) (by omega) (fun u m3 u0 u1 _ b3 => ?_)
  walk_at "vg"
  obtain ⟨mn, em⟩ : ∃ mn : Nat, 1 + u = (mn : Int) := ⟨(1 + u).toNat, by omega⟩
  rw [em]
  refine p_law_rows0 (many := mn) hW b3 (by omega) (by omega) (fun rs m4 hrl hrs _ b4 => ?_)
  have g : Gd W rs := ⟨hrs, by omega⟩
  have hpos := szs_pos (rs := rs) (by omega)
  walk_at "vg"
  refine p_law_placed (j := 7) (W := W) (fun r hr => law_up (hrs r hr) (by omega)) (by omega) (fun xs => ?_)
  rw [Int.zero_add]
  walk_at "vg"
  show iSeq _ _ _ _ _
  rw [tls_map]
  walk_at "vg"
  refine lc_map (f := Rw.tl) (xs := rs) (fun r => Rw.ob r) (by omega) (fun i hi kk2 Z2 hkk2 => ?_) ?_
  · have hm := hrs _ (List.getElem_mem hi)
    dsimp only [gN, wYes, wipeE, List.set_cons_zero, List.set_cons_succ]
    refine if_T ?_
    walk_at "vg"
    refine p_law_step (n := 7) (W := W) (law_up hm (by omega)) ?_
    exact hkk2
  rw [← tls_map, ← obs_map]
  walk_at "vg"
  refine tk b4 (by omega) (by decide) (by decide) (fun q m5 q0 q1 _ b5 => ?_)
  walk_at "vg"
  obtain ⟨ks, hk, ek⟩ := keep_cut q0 q1
  rw [ek]
  have C : Cx9 W rs ks := ⟨hW, g, hpos, hk⟩
  walk_at "vg"
  refine ⟨by omega, by omega, ?_⟩
  refine rng_turns (lo := 0) (n := 3) (fun i v m' => Box m' a (20010 + 20 * i) ∧ ∃ y9 y10 y11 y12 y13 y14 y15 y16 y17 y18, v = [some (.frl (ns.map D.int)), some (.int (l : Nat)), some (.raw (.ref a)), some (.int W), some (.lst (tls rs)), some (.lst xs), some (.int (szs rs : Nat)), some (.lst (obs rs)), some (.lst (ks.map D.str)), y9, y10, y11, y12, y13, y14, y15, y16, y17, y18]) ⟨box_mono b5 (by omega), _, _, _, _, _, _, _, _, _, _, rfl⟩ ?_ ?_
  · rintro i v1 m7 hi ⟨b7, y9, y10, y11, y12, y13, y14, y15, y16, y17, y18, rfl⟩
    rw [Int.zero_add]
    show w_law_8 K (En a W rs ks i (some (.frl (ns.map D.int))) (some (.int (l : Nat))) (some (.lst xs)) y10 y11 y12 y13 y14 y15 y16 y17 y18) m7 _
    exact r8 C hi b7 (by omega) fun z10 z11 z12 z13 z14 z15 z16 z17 z18 m' hb' => ⟨_, _, Gh.refl, box_mono hb' (by omega), _, _, _, _, _, _, _, _, _, _, rfl⟩
  · rintro v1 m7 ⟨b7, y9, y10, y11, y12, y13, y14, y15, y16, y17, y18, rfl⟩
    exact H _ _ _ _ _ _ _ _ _ _ _ _ _ _ _ _ _ _
theorem plain (K : PySem.W.Frag) (hk : Ab.smK K = true) : Ab.LawSp 63 (sp_law K) := by
  intro ns hl _
  show w_law K [some (.frl (ns.map D.int)), none, none, none, none, none, none, none, none, none, none, none, none, none, none, none, none, none, none] m0 _
  unfold w_law
  have hlen : (ns.map D.int).length ≤ 63 := by rw [List.length_map]; omega
  walk_at "vg"
  have hb : ∀ c : Int, 0 ≤ c → c ≤ 63 → (-(2 ^ 62) ≤ (if (if c < 3 then c else 3) > 1 then (if c < 3 then c else 3) else 1) ∧ (if (if c < 3 then c else 3) > 1 then (if c < 3 then c else 3) else (1 : Int)) < 2 ^ 62) := fun c c0 c1 => by
    split <;> (try split) <;> omega
  have hc := hb ((ns.map D.int).length : Int) (by omega) (by omega)
  refine ⟨hc.1, hc.2, ?_⟩
  refine rng_turns (fun _ v _ => ∃ y1 y2 y3 y4 y5 y6 y7 y8 y9 y10 y11 y12 y13 y14 y15 y16 y17 y18, v = [some (.frl (ns.map D.int)), y1, y2, y3, y4, y5, y6, y7, y8, y9, y10, y11, y12, y13, y14, y15, y16, y17, y18]) ⟨_, _, _, _, _, _, _, _, _, _, _, _, _, _, _, _, _, _, rfl⟩ ?_ ?_
  · rintro i v1 m1 hi ⟨y1, y2, y3, y4, y5, y6, y7, y8, y9, y10, y11, y12, y13, y14, y15, y16, y17, y18, rfl⟩
    show w_law_9 K [some (.frl (ns.map D.int)), some (.int (0 + (i : Int))), y2, y3, y4, y5, y6, y7, y8, y9, y10, y11, y12, y13, y14, y15, y16, y17, y18] _ _
    rw [Int.zero_add]
    exact r9 fun z2 z3 z4 z5 z6 z7 z8 z9 z10 z11 z12 z13 z14 z15 z16 z17 z18 m' => ⟨_, _, Gh.refl, _, z2, z3, z4, z5, z6, z7, z8, z9, z10, z11, z12, z13, z14, z15, z16, z17, z18, rfl⟩
  · rintro v1 m1 ⟨y1, y2, y3, y4, y5, y6, y7, y8, y9, y10, y11, y12, y13, y14, y15, y16, y17, y18, rfl⟩
    refine nx_go ?_
    unfold w_law_1
    exact ⟨_, _, GhD.refl, trivial⟩
end
end K29
end
theorem PySem.Challenge.cw_undivided_k29_trimming_refused_holds : PySem.Challenge.rw_undivided_k29_trimming_refused.Holds :=
  K29.holds K29.plain
