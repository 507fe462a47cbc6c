import PyProof.Rows.All
import Wide.All
import OpenK.AllK
import Wide.FinOn
import HandS.ForMost
import HandS.ForExc
import HandS.SortRule
import HandS.SortInts
import HandS.TupAny
import HandS.Zip
import HandS.Flow
import HandS.IsInst
import HandS.Wide
import HandS.WideBits
import HandS.CallSlots
import HandS.Walk
import HandS.DictComp
import KE.GoesMore
import KE.GoesEnum
import HandS.Conv
import HandS.Dict
import PySem.Challenge.RW_chaincore_k04_parts_and_turns_of_makers
import KE.KBits
import HandS.EndBits
set_option Elab.async false
set_option linter.all false
set_option maxRecDepth 100000
set_option maxHeartbeats 4000000
/-! A layer of mirrors over HandS: plain data, small heaps, owned lists. -/
namespace Mir
open PySem PySem.Spec PyProof.Rows L2

abbrev D := PyData
abbrev Env := List (Option D)

/-! ### small heaps -/
abbrev Asr := Hp → Prop
def emp : Asr := fun h => ∀ a, h a = none
def pur (p : Prop) : Asr := fun h => p ∧ ∀ a, h a = none
def pts (a : Addr) (o : HO) : Asr := fun h => ∀ b, h b = if b = a then some o else none
def Join (h1 h2 h : Hp) : Prop := ∀ a, (h1 a = none ∧ h a = h2 a) ∨ (h2 a = none ∧ h a = h1 a)
def star (P Q : Asr) : Asr := fun h => ∃ h1 h2, Join h1 h2 h ∧ P h1 ∧ Q h2
def Ext (F F' : Hp) : Prop := ∀ a o, F a = some o → F' a = some o

theorem Ext.refl (F : Hp) : Ext F F := fun _ _ h => h
theorem Ext.trans {F F1 F2 : Hp} (a : Ext F F1) (b : Ext F1 F2) : Ext F F2 := fun x o h => b x o (a x o h)
theorem Ext.new {H : Hp} {p : Addr} {o : HO} (h : H p = none) : Ext H (upd H p o) := fun a u e => by
  rw [upd_ne (ne_of_none e h)]
  exact e
theorem Ext.free {F F' : Hp} (e : Ext F F') {p : Addr} (h : F' p = none) : F p = none := by
  cases h1 : F p with
  | none => rfl
  | some o => rw [e p o h1] at h; cases h

theorem Join.comm {h1 h2 h : Hp} (j : Join h1 h2 h) : Join h2 h1 h := fun a => (j a).symm
theorem star_comm {P Q : Asr} {h : Hp} (s : star P Q h) : star Q P h := by
  obtain ⟨h1, h2, j, p, q⟩ := s
  exact ⟨h2, h1, j.comm, q, p⟩
theorem star_mono {P P' Q Q' : Asr} {h : Hp} (s : star P Q h) (a : ∀ h, P h → P' h) (b : ∀ h, Q h → Q' h) : star P' Q' h := by
  obtain ⟨h1, h2, j, p, q⟩ := s
  exact ⟨h1, h2, j, a _ p, b _ q⟩
theorem star_assoc {P Q R : Asr} {h : Hp} (s : star (star P Q) R h) : star P (star Q R) h := by
  obtain ⟨h12, h3, j, ⟨h1, h2, k, p, q⟩, r⟩ := s
  refine ⟨h1, fun a => if (h1 a).isSome then none else h a, fun a => ?_, p, h2, h3, fun a => ?_, q, r⟩
  · cases e : h1 a with
    | none => left; simp [e]
    | some o =>
      right
      have k' := k a
      have j' := j a
      simp only [e] at k' ⊢
      rcases k' with ⟨z, _⟩ | ⟨z, w⟩
      · cases z
      · rcases j' with ⟨y, _⟩ | ⟨y, x⟩
        · rw [w] at y; cases y
        · simp [x, w]
  · have k' := k a
    have j' := j a
    cases e : h1 a with
    | none =>
      simp only [e] at k' ⊢
      rcases k' with ⟨_, w⟩ | ⟨z, w⟩
      · rcases j' with ⟨y, x⟩ | ⟨y, x⟩
        · left; rw [w] at y; exact ⟨y, by simp [x]⟩
        · right; exact ⟨y, by simp [x, w]⟩
      · rcases j' with ⟨y, x⟩ | ⟨y, x⟩
        · left; exact ⟨z, by simp [x]⟩
        · right; refine ⟨y, ?_⟩; simp [x, w, z]
    | some o =>
      simp only [e] at k' ⊢
      rcases k' with ⟨z, _⟩ | ⟨z, w⟩
      · cases z
      · rcases j' with ⟨y, x⟩ | ⟨y, x⟩
        · rw [w] at y; cases y
        · left; exact ⟨z, by simp [y]⟩
theorem star_assoc' {P Q R : Asr} {h : Hp} (s : star P (star Q R) h) : star (star P Q) R h :=
  star_comm (star_assoc (star_comm (star_assoc (star_comm s))))
theorem star_left {P Q R : Asr} {h : Hp} (s : star P (star Q R) h) : star Q (star P R) h :=
  star_assoc (star_mono (star_assoc' s) (fun _ x => star_comm x) fun _ x => x)
theorem star_emp {P : Asr} {h : Hp} (s : star emp P h) : P h := by
  obtain ⟨h1, h2, j, p, q⟩ := s
  have e : h = h2 := by
    funext a
    rcases j a with ⟨_, x⟩ | ⟨y, x⟩
    · exact x
    · rw [x, y]; exact p a
  rw [e]; exact q
theorem emp_star {P : Asr} {h : Hp} (s : P h) : star emp P h := ⟨fun _ => none, h, fun _ => .inl ⟨rfl, rfl⟩, fun _ => rfl, s⟩
theorem star_pur {p : Prop} {P : Asr} {h : Hp} (s : star (pur p) P h) : p ∧ P h := by
  obtain ⟨h1, h2, j, ⟨pp, p⟩, q⟩ := s
  exact ⟨pp, star_emp ⟨h1, h2, j, p, q⟩⟩
theorem pur_star {p : Prop} {P : Asr} {h : Hp} (a : p) (s : P h) : star (pur p) P h := ⟨fun _ => none, h, fun _ => .inl ⟨rfl, rfl⟩, ⟨a, fun _ => rfl⟩, s⟩

/-! ### the state: F frozen, G another's, P owned -/
structure Sat (F G H : Hp) (P : Asr) : Prop where
  own : ∃ h, P h ∧ Ext h H ∧ ∀ a o, h a = some o → F a = none ∧ G a = none
  ef : Ext F H
  eg : Ext G H
  fg : ∀ a o, F a = some o → G a = none

section
variable {F G H : Hp} {P Q R : Asr} {a p : Addr} {o o' : HO}
theorem Sat.mono (s : Sat F G H P) (m : ∀ h, P h → Q h) : Sat F G H Q := by
  obtain ⟨⟨h, p, e, d⟩, ef, eg, fg⟩ := s
  exact ⟨⟨h, m h p, e, d⟩, ef, eg, fg⟩
theorem Sat.drop (s : Sat F G H (star P R)) : Sat F G H R := by
  obtain ⟨⟨h, ⟨h1, h2, j, p, r⟩, e, d⟩, ef, eg, fg⟩ := s
  have sub : Ext h2 h := fun a o q => by
    rcases j a with ⟨_, x⟩ | ⟨y, _⟩
    · rw [x]; exact q
    · rw [q] at y; cases y
  exact ⟨⟨h2, r, sub.trans e, fun a o q => d a o (sub a o q)⟩, ef, eg, fg⟩
theorem Sat.pure {p : Prop} (s : Sat F G H (star (pur p) R)) : p ∧ Sat F G H R := by
  obtain ⟨⟨h, q, e, d⟩, ef, eg, fg⟩ := s
  obtain ⟨pp, r⟩ := star_pur q
  exact ⟨pp, ⟨h, r, e, d⟩, ef, eg, fg⟩
theorem Sat.pur {p : Prop} (s : Sat F G H R) (a : p) : Sat F G H (star (pur p) R) := s.mono fun _ r => pur_star a r
theorem Sat.get (s : Sat F G H (star (pts a o) R)) : H a = some o := by
  obtain ⟨⟨h, ⟨h1, h2, j, p, r⟩, e, d⟩, ef, eg, fg⟩ := s
  have q : h1 a = some o := by rw [p a, if_pos rfl]
  refine e a o ?_
  rcases j a with ⟨y, _⟩ | ⟨_, x⟩
  · rw [q] at y; cases y
  · rw [x]; exact q
theorem Sat.upd (s : Sat F G H (star (pts a o) R)) : Sat F G (upd H a o') (star (pts a o') R) := by
  obtain ⟨⟨h, ⟨h1, h2, j, p, r⟩, e, d⟩, ef, eg, fg⟩ := s
  have q : h1 a = some o := by rw [p a, if_pos rfl]
  have ha : h a = some o := by
    rcases j a with ⟨y, _⟩ | ⟨_, x⟩
    · rw [q] at y; cases y
    · rw [x]; exact q
  have h2a : h2 a = none := by
    rcases j a with ⟨y, _⟩ | ⟨y, _⟩
    · rw [q] at y; cases y
    · exact y
  obtain ⟨fa, ga⟩ := d a o ha
  refine ⟨⟨L2.upd h a o', ⟨L2.upd (fun _ => none) a o', h2, fun b => ?_, fun b => ?_, r⟩, fun b u k => ?_, fun b u k => ?_⟩, fun b u k => ?_, fun b u k => ?_, fg⟩
  · by_cases z : b = a
    · subst z; right; exact ⟨h2a, by rw [upd_same, upd_same]⟩
    · left; refine ⟨by rw [upd_ne z], ?_⟩
      rw [upd_ne z]
      have pb := p b
      rw [if_neg z] at pb
      rcases j b with ⟨_, x⟩ | ⟨y, x⟩
      · exact x
      · rw [x, pb, y]
  · by_cases z : b = a
    · subst z; rw [upd_same, if_pos rfl]
    · rw [upd_ne z, if_neg z]
  · by_cases z : b = a
    · subst z; rw [upd_same] at k ⊢; exact k
    · rw [upd_ne z] at k ⊢; exact e b u k
  · by_cases z : b = a
    · subst z; exact ⟨fa, ga⟩
    · rw [upd_ne z] at k; exact d b u k
  · rw [upd_ne (ne_of_none k fa)]; exact ef b u k
  · rw [upd_ne (ne_of_none k ga)]; exact eg b u k
theorem Sat.newO (hp : H p = none) (s : Sat F G H R) : Sat F G (L2.upd H p o) (star (pts p o) R) := by
  obtain ⟨⟨h, r, e, d⟩, ef, eg, fg⟩ := s
  have hh : h p = none := e.free hp
  refine ⟨⟨L2.upd h p o, ⟨L2.upd (fun _ => none) p o, h, fun b => ?_, fun b => ?_, r⟩, fun b u k => ?_, fun b u k => ?_⟩, ef.trans (Ext.new hp), eg.trans (Ext.new hp), fg⟩
  · by_cases z : b = p
    · subst z; right; exact ⟨hh, by rw [upd_same, upd_same]⟩
    · left; exact ⟨by rw [upd_ne z], by rw [upd_ne z]⟩
  · by_cases z : b = p
    · subst z; rw [upd_same, if_pos rfl]
    · rw [upd_ne z, if_neg z]
  · by_cases z : b = p
    · subst z; rw [upd_same] at k ⊢; exact k
    · rw [upd_ne z] at k ⊢; exact e b u k
  · by_cases z : b = p
    · subst z; exact ⟨ef.free hp, eg.free hp⟩
    · rw [upd_ne z] at k; exact d b u k
theorem Sat.freeze1 (s : Sat F G H (star (pts a o) R)) : Sat (L2.upd F a o) G H R ∧ Ext F (L2.upd F a o) := by
  have ha := s.get
  obtain ⟨⟨h, ⟨h1, h2, j, p, r⟩, e, d⟩, ef, eg, fg⟩ := s
  have q : h1 a = some o := by rw [p a, if_pos rfl]
  have hha : h a = some o := by
    rcases j a with ⟨y, _⟩ | ⟨_, x⟩
    · rw [q] at y; cases y
    · rw [x]; exact q
  have h2a : h2 a = none := by
    rcases j a with ⟨y, _⟩ | ⟨y, _⟩
    · rw [q] at y; cases y
    · exact y
  obtain ⟨fa, ga⟩ := d a o hha
  have sub : Ext h2 h := fun a o q => by
    rcases j a with ⟨_, x⟩ | ⟨y, _⟩
    · rw [x]; exact q
    · rw [q] at y; cases y
  refine ⟨⟨⟨h2, r, sub.trans e, fun b u k => ?_⟩, fun b u k => ?_, eg, fun b u k => ?_⟩, Ext.new fa⟩
  · have nb : b ≠ a := ne_of_none k h2a
    rw [upd_ne nb]
    exact d b u (sub b u k)
  · by_cases z : b = a
    · subst z; rw [upd_same] at k; rw [ha]; exact k
    · rw [upd_ne z] at k; exact ef b u k
  · by_cases z : b = a
    · subst z; exact ga
    · rw [upd_ne z] at k; exact fg b u k
theorem Sat.newF (hp : H p = none) (s : Sat F G H R) : Sat (L2.upd F p o) G (L2.upd H p o) R ∧ Ext F (L2.upd F p o) := (s.newO (o := o) hp).freeze1
/-- what is owned and not needed for a while -/
def hjoin (G h : Hp) : Hp := fun a => match h a with | some o => some o | none => G a
theorem Sat.stash (s : Sat F G H (star P R)) : ∃ hR, R hR ∧ Sat F (hjoin G hR) H P ∧ ∀ a o, hR a = some o → G a = none := by
  obtain ⟨⟨h, ⟨h1, h2, j, p, r⟩, e, d⟩, ef, eg, fg⟩ := s
  have sub2 : Ext h2 h := fun a o q => by
    rcases j a with ⟨_, x⟩ | ⟨y, _⟩
    · rw [x]; exact q
    · rw [q] at y; cases y
  have sub1 : Ext h1 h := fun a o q => by
    rcases j a with ⟨y, _⟩ | ⟨_, x⟩
    · rw [q] at y; cases y
    · rw [x]; exact q
  refine ⟨h2, r, ⟨⟨h1, p, sub1.trans e, fun a o q => ⟨(d a o (sub1 a o q)).1, ?_⟩⟩, ef, fun a o q => ?_, fun a o q => ?_⟩, fun a o q => (d a o (sub2 a o q)).2⟩
  · have n : h2 a = none := by
      rcases j a with ⟨y, _⟩ | ⟨y, _⟩
      · rw [q] at y; cases y
      · exact y
    unfold hjoin; rw [n]; exact (d a o (sub1 a o q)).2
  · unfold hjoin at q
    cases k : h2 a with
    | some u => rw [k] at q; cases q; exact e a _ (sub2 a _ k)
    | none => rw [k] at q; exact eg a o q
  · unfold hjoin
    cases k : h2 a with
    | some u => have := (d a u (sub2 a u k)).1; rw [q] at this; cases this
    | none => exact fg a o q
theorem Sat.unstash {hR : Hp} (s : Sat F (hjoin G hR) H P) (dj : ∀ a o, hR a = some o → G a = none) : Sat F G H (star P (fun h => h = hR)) := by
  obtain ⟨⟨h, p, e, d⟩, ef, eg, fg⟩ := s
  refine ⟨⟨hjoin h hR, ⟨h, hR, fun a => ?_, p, rfl⟩, fun a o q => ?_, fun a o q => ?_⟩, ef, fun a o q => ?_, fun a o q => ?_⟩
  · unfold hjoin
    cases k : hR a with
    | some u =>
      left
      refine ⟨?_, rfl⟩
      cases k2 : h a with
      | none => rfl
      | some u2 =>
        have := (d a u2 k2).2
        unfold hjoin at this
        rw [k] at this; cases this
    | none => right; exact ⟨rfl, rfl⟩
  · unfold hjoin at q
    cases k : hR a with
    | some u =>
      rw [k] at q
      refine eg a o ?_
      unfold hjoin; rw [k]; exact q
    | none => rw [k] at q; exact e a o q
  · unfold hjoin at q
    cases k : hR a with
    | some u =>
      refine ⟨?_, dj a u k⟩
      cases k2 : F a with
      | none => rfl
      | some u2 =>
        have := fg a u2 k2
        unfold hjoin at this
        rw [k] at this; cases this
    | none =>
      rw [k] at q
      have := d a o q
      unfold hjoin at this
      rw [k] at this
      exact this
  · refine eg a o ?_
    unfold hjoin
    cases k : hR a with
    | some u => rw [dj a u k] at q; cases q
    | none => exact q
  · have := fg a o q
    unfold hjoin at this
    cases k : hR a with
    | some u => rw [k] at this; cases this
    | none => rw [k] at this; exact this
end
end Mir

set_option Elab.async false
set_option linter.all false
set_option maxRecDepth 100000
set_option maxHeartbeats 4000000
namespace Mir
open PySem PySem.Spec PyProof.Rows L2

/-! ### which value is which datum -/
def scrD (ds : List D) : D := .dict [(.none, .list ds)]
mutual
inductive Rep (K : PySem.W.Frag) (F : Hp) : V → D → Prop
  | non : Rep K F .non .none
  | bl (b : Bool) : Rep K F (.bl b) (.bool b)
  | int (i : Int) : Rep K F (.int i) (.int i)
  | str (x : Str) : Rep K F (.str x) (.str x)
  | lst {a : Addr} {xs : List V} {ds : List D} : F a = some (.lst xs) → RepL K F xs ds → Rep K F (.ref a) (.list ds)
  | tup {a : Addr} {xs : List V} {ds : List D} : F a = some (.tup xs) → RepL K F xs ds → Rep K F (.ref a) (.tuple ds)
  | dct {a : Addr} {kvs : List (Key × V)} {ds : List (D × D)} : F a = some (.dK kvs) → RepK K F kvs ds → Rep K F (.ref a) (.dict ds)
  | scr {a : Addr} {xs : List V} {ds : List D} : SqL K F a xs → RepL K F xs ds → Rep K F (.ref a) (.dict [(.none, .list ds)])
inductive RepL (K : PySem.W.Frag) (F : Hp) : List V → List D → Prop
  | nil : RepL K F [] []
  | cons {v : V} {vs : List V} {d : D} {ds : List D} : Rep K F v d → RepL K F vs ds → RepL K F (v :: vs) (d :: ds)
inductive RepK (K : PySem.W.Frag) (F : Hp) : List (Key × V) → List (D × D) → Prop
  | nil : RepK K F [] []
  | cons {k : Key} {kd : D} {v : V} {kvs : List (Key × V)} {d : D} {ds : List (D × D)} : Rep K F (kV k) kd → Rep K F v d → RepK K F kvs ds → RepK K F ((k, v) :: kvs) ((kd, d) :: ds)
end
section
variable {K : PySem.W.Frag} {F F' : Hp}
theorem rd_ext {a : Addr} {u : HO} (e : Ext F F') (h : Rd F a u) : Rd F' a u := by
  rcases h with h | ⟨o, h⟩
  · exact Or.inl (e a _ h)
  · exact Or.inr ⟨o, e a _ h⟩
theorem sqL_ext {a : Addr} {xs : List V} (e : Ext F F') (h : SqL K F a xs) : SqL K F' a xs := h.imp (rd_ext e) id
theorem sqT_ext {a : Addr} {xs : List V} (e : Ext F F') (h : SqT K F a xs) : SqT K F' a xs := h.imp (rd_ext e) id
mutual
theorem Rep.ext (e : Ext F F') : ∀ {v : V} {d : D}, Rep K F v d → Rep K F' v d
  | _, _, .non => .non
  | _, _, .bl b => .bl b
  | _, _, .int i => .int i
  | _, _, .str x => .str x
  | _, _, .lst h r => .lst (e _ _ h) (RepL.ext e r)
  | _, _, .tup h r => .tup (e _ _ h) (RepL.ext e r)
  | _, _, .dct h r => .dct (e _ _ h) (RepK.ext e r)
  | _, _, .scr h r => .scr (sqL_ext e h) (RepL.ext e r)
theorem RepL.ext (e : Ext F F') : ∀ {vs : List V} {ds : List D}, RepL K F vs ds → RepL K F' vs ds
  | _, _, .nil => .nil
  | _, _, .cons h r => .cons (Rep.ext e h) (RepL.ext e r)
theorem RepK.ext (e : Ext F F') : ∀ {vs : List (Key × V)} {ds : List (D × D)}, RepK K F vs ds → RepK K F' vs ds
  | _, _, .nil => .nil
  | _, _, .cons h1 h2 r => .cons (Rep.ext e h1) (Rep.ext e h2) (RepK.ext e r)
end
theorem RepL.length : ∀ {vs : List V} {ds : List D}, RepL K F vs ds → vs.length = ds.length
  | _, _, .nil => rfl
  | _, _, .cons _ r => congrArg (· + 1) (RepL.length r)
theorem RepL.get : ∀ {vs : List V} {ds : List D} {i : Nat} {d : D}, RepL K F vs ds → ds[i]? = some d → ∃ v, vs[i]? = some v ∧ Rep K F v d
  | _, _, _, _, .nil, e => by simp at e
  | _, _, 0, _, .cons h _, e => by simp at e; subst e; exact ⟨_, rfl, h⟩
  | _, _, i + 1, d, .cons _ r, e => by
    obtain ⟨v, h1, h2⟩ := RepL.get (i := i) (d := d) r (by simpa using e)
    exact ⟨v, by simpa using h1, h2⟩
theorem RepL.append : ∀ {vs ws : List V} {ds es : List D}, RepL K F vs ds → RepL K F ws es → RepL K F (vs ++ ws) (ds ++ es)
  | _, _, _, _, .nil, s => s
  | _, _, _, _, .cons h r, s => .cons h (RepL.append r s)
theorem RepL.take : ∀ {vs : List V} {ds : List D} (n : Nat), RepL K F vs ds → RepL K F (vs.take n) (ds.take n)
  | _, _, 0, _ => .nil
  | _, _, _ + 1, .nil => .nil
  | _, _, n + 1, .cons h r => .cons h (RepL.take n r)
theorem RepL.drop : ∀ {vs : List V} {ds : List D} (n : Nat), RepL K F vs ds → RepL K F (vs.drop n) (ds.drop n)
  | _, _, 0, r => r
  | _, _, _ + 1, .nil => .nil
  | _, _, n + 1, .cons _ r => RepL.drop n r
theorem RepL.reverse : ∀ {vs : List V} {ds : List D}, RepL K F vs ds → RepL K F vs.reverse ds.reverse
  | _, _, .nil => .nil
  | _, _, .cons h r => by rw [List.reverse_cons, List.reverse_cons]; exact (RepL.reverse r).append (.cons h .nil)
theorem RepL.ints : ∀ {vs : List V} {ns : List Int}, RepL K F vs (ns.map .int) → vs = ns.map V.int
  | _, [], .nil => rfl
  | _, _ :: _, .cons (.int _) r => by rw [RepL.ints r]; rfl
theorem RepL.of_ints : ∀ (ns : List Int), RepL K F (ns.map V.int) (ns.map .int)
  | [] => .nil
  | n :: ns => .cons (.int n) (RepL.of_ints ns)
theorem RepL.bools : ∀ {vs : List V} {ns : List Bool}, RepL K F vs (ns.map .bool) → vs = ns.map V.bl
  | _, [], .nil => rfl
  | _, _ :: _, .cons (.bl _) r => by rw [RepL.bools r]; rfl
mutual
/-- data that == compares -/
def plainD : D → Bool
  | .dict _ => false
  | .list ds => plainL ds
  | .tuple ds => plainL ds
  | _ => true
def plainL : List D → Bool
  | [] => true
  | d :: ds => plainD d && plainL ds
end
mutual
theorem Rep.dp : ∀ {v : V} {d : D}, plainD d = true → Rep K F v d → Dp K F v d
  | _, _, _, .non => .non
  | _, _, _, .bl b => .bl b
  | _, _, _, .int i => .int i
  | _, _, _, .str x => .str x
  | _, _, e, .lst h r => .lst (.inl (.inl h)) (RepL.dp (by simpa [plainD] using e) r)
  | _, _, e, .tup h r => .tup (.inl (.inl h)) (RepL.dp (by simpa [plainD] using e) r)
  | _, _, e, .scr _ _ => by simp [plainD] at e
  | _, _, e, .dct _ _ => by simp [plainD] at e
theorem RepL.dp : ∀ {vs : List V} {ds : List D}, plainL ds = true → RepL K F vs ds → DpAll K F vs ds
  | _, _, _, .nil => .nil
  | _, _, e, .cons h r => by
    obtain ⟨e1, e2⟩ : plainD _ = true ∧ plainL _ = true := by simpa [plainL] using e
    exact .cons (Rep.dp e1 h) (RepL.dp e2 r)
end
end

/-! ### owned data -/
section
variable {K : PySem.W.Frag} {F F' : Hp}
def OwnL (R : D → V → Asr) : List D → List V → Asr
  | [], [] => emp
  | d :: ds, v :: vs => star (R d v) (OwnL R ds vs)
  | _, _ => fun _ => False
def Own (K : PySem.W.Frag) (F : Hp) : Nat → D → V → Asr
  | 0, d, v => pur (Rep K F v d)
  | n + 1, .list ds, v => fun h => ∃ a vs, v = .ref a ∧ star (pts a (.lst vs)) (OwnL (Own K F n) ds vs) h
  | _ + 1, d, v => pur (Rep K F v d)
theorem OwnL.imp {R R' : D → V → Asr} (m : ∀ d v h, R d v h → R' d v h) : ∀ {ds : List D} {vs : List V} {h : Hp}, OwnL R ds vs h → OwnL R' ds vs h
  | [], [], _, x => x
  | _ :: _, _ :: _, _, x => star_mono x (fun _ q => m _ _ _ q) fun _ q => OwnL.imp m q
  | [], _ :: _, _, x => x.elim
  | _ :: _, [], _, x => x.elim
theorem Own.ext (e : Ext F F') : ∀ {n : Nat} {d : D} {v : V} {h : Hp}, Own K F n d v h → Own K F' n d v h
  | 0, _, _, _, ⟨r, x⟩ => ⟨r.ext e, x⟩
  | n + 1, .list ds, v, h, x => by
    obtain ⟨a, vs, q, s⟩ := x
    exact ⟨a, vs, q, star_mono s (fun _ z => z) fun _ z => OwnL.imp (fun _ _ _ y => Own.ext e y) z⟩
  | n + 1, .none, _, _, ⟨r, x⟩ => ⟨r.ext e, x⟩
  | n + 1, .bool _, _, _, ⟨r, x⟩ => ⟨r.ext e, x⟩
  | n + 1, .int _, _, _, ⟨r, x⟩ => ⟨r.ext e, x⟩
  | n + 1, .str _, _, _, ⟨r, x⟩ => ⟨r.ext e, x⟩
  | n + 1, .tuple _, _, _, ⟨r, x⟩ => ⟨r.ext e, x⟩
  | n + 1, .dict _, _, _, ⟨r, x⟩ => ⟨r.ext e, x⟩
theorem OwnL.ext (e : Ext F F') {n : Nat} {ds : List D} {vs : List V} {h : Hp} (x : OwnL (Own K F n) ds vs h) : OwnL (Own K F' n) ds vs h := OwnL.imp (fun _ _ _ => Own.ext e) x
theorem OwnL.zero : ∀ {ds : List D} {vs : List V} {h : Hp}, OwnL (Own K F 0) ds vs h → RepL K F vs ds ∧ ∀ a, h a = none
  | [], [], _, x => ⟨.nil, x⟩
  | _ :: _, _ :: _, _, x => by
    obtain ⟨r, y⟩ := star_pur x
    obtain ⟨q, z⟩ := OwnL.zero y
    exact ⟨.cons r q, z⟩
  | [], _ :: _, _, x => x.elim
  | _ :: _, [], _, x => x.elim
theorem OwnL.of_zero : ∀ {ds : List D} {vs : List V}, RepL K F vs ds → OwnL (Own K F 0) ds vs (fun _ => none)
  | _, _, .nil => fun _ => rfl
  | _, _, .cons h r => pur_star h (OwnL.of_zero r)
theorem OwnL.len {R : D → V → Asr} : ∀ {ds : List D} {vs : List V} {h : Hp}, OwnL R ds vs h → ds.length = vs.length
  | [], [], _, _ => rfl
  | _ :: _, _ :: _, _, ⟨_, _, _, _, q⟩ => congrArg (· + 1) (OwnL.len q)
  | [], _ :: _, _, x => x.elim
  | _ :: _, [], _, x => x.elim
theorem star_drop {P Q : Asr} {h : Hp} (s : star P Q h) : ∃ h2, Q h2 ∧ Ext h2 h := by
  obtain ⟨h1, h2, j, _, q⟩ := s
  exact ⟨h2, q, fun a o e => by
    rcases j a with ⟨_, x⟩ | ⟨y, _⟩
    · rw [x]; exact e
    · rw [e] at y; cases y⟩
/-- scalars, tuples: not lists -/
def notL : D → Bool
  | .list _ => false
  | _ => true
theorem Own.pure {d : D} (hd : notL d = true) : ∀ {n : Nat} {v : V} {h : Hp}, Own K F n d v h → Rep K F v d ∧ ∀ a, h a = none
  | 0, _, _, x => x
  | n + 1, v, h, x => by
    cases d with
    | list ds => cases hd
    | _ => exact x
theorem Own.of_rep {d : D} (hd : notL d = true) {v : V} (r : Rep K F v d) : ∀ n : Nat, Own K F n d v (fun _ => none)
  | 0 => ⟨r, fun _ => rfl⟩
  | n + 1 => by
    cases d with
    | list ds => cases hd
    | _ => exact ⟨r, fun _ => rfl⟩
end

section
variable {K : PySem.W.Frag} {F F' G H : Hp} {R : Asr}
theorem Sat.assoc {P Q : Asr} (s : Sat F G H (star (star P Q) R)) : Sat F G H (star P (star Q R)) := s.mono fun _ => star_assoc
theorem Sat.assoc' {P Q : Asr} (s : Sat F G H (star P (star Q R))) : Sat F G H (star (star P Q) R) := s.mono fun _ => star_assoc'
theorem Sat.left {P Q : Asr} (s : Sat F G H (star P (star Q R))) : Sat F G H (star Q (star P R)) := s.mono fun _ => star_left
theorem Sat.comm {P Q : Asr} (s : Sat F G H (star P Q)) : Sat F G H (star Q P) := s.mono fun _ => star_comm
theorem Sat.head {P P' : Asr} (s : Sat F G H (star P R)) (m : ∀ h, P h → P' h) : Sat F G H (star P' R) := s.mono fun _ x => star_mono x m fun _ y => y
theorem Sat.tail {P P' : Asr} (s : Sat F G H (star R P)) (m : ∀ h, P h → P' h) : Sat F G H (star R P') := s.mono fun _ x => star_mono x (fun _ y => y) m
theorem Sat.emp (s : Sat F G H R) : Sat F G H (star emp R) := s.mono fun _ => emp_star
/-- a datum that is no list is nothing owned -/
theorem Sat.flat {n : Nat} {d : D} {v : V} (s : Sat F G H (star (Own K F n d v) R)) (hd : notL d = true) : Rep K F v d ∧ Sat F G H R := by
  obtain ⟨⟨h, x, e, dj⟩, ef, eg, fg⟩ := s
  obtain ⟨h1, h2, j, o, r⟩ := x
  obtain ⟨rp, em⟩ := o.pure hd
  exact ⟨rp, Sat.mono (P := star Mir.emp R) ⟨⟨h, ⟨h1, h2, j, em, r⟩, e, dj⟩, ef, eg, fg⟩ fun _ => star_emp⟩
theorem Sat.flat0 {d : D} {v : V} (s : Sat F G H (star (Own K F 0 d v) R)) : Rep K F v d ∧ Sat F G H R := Sat.pure (p := Rep K F v d) s
theorem Sat.ofRep {d : D} {v : V} (s : Sat F G H R) (r : Rep K F v d) (n : Nat) (hd : notL d = true) : Sat F G H (star (Own K F n d v) R) :=
  s.mono fun h x => ⟨fun _ => none, h, fun _ => .inl ⟨rfl, rfl⟩, Own.of_rep hd r n, x⟩
theorem Sat.ofRep0 {d : D} {v : V} (s : Sat F G H R) (r : Rep K F v d) : Sat F G H (star (Own K F 0 d v) R) := s.pur r
theorem Sat.exists {α : Type} {P : α → Asr} (s : Sat F G H (fun h => ∃ a, P a h)) : ∃ a, Sat F G H (P a) := by
  obtain ⟨⟨h, ⟨a, x⟩, e, d⟩, ef, eg, fg⟩ := s
  exact ⟨a, ⟨h, x, e, d⟩, ef, eg, fg⟩
/-- an owned list opened -/
theorem Sat.open {n : Nat} {ds : List D} {v : V} (s : Sat F G H (star (Own K F (n + 1) (.list ds) v) R)) : ∃ a vs, v = .ref a ∧ Sat F G H (star (pts a (.lst vs)) (star (OwnL (Own K F n) ds vs) R)) := by
  obtain ⟨⟨h, x, e, dj⟩, ef, eg, fg⟩ := s
  obtain ⟨h1, h2, j, ⟨a, vs, q, o⟩, r⟩ := x
  exact ⟨a, vs, q, Sat.assoc ⟨⟨h, ⟨h1, h2, j, o, r⟩, e, dj⟩, ef, eg, fg⟩⟩
theorem Sat.close {n : Nat} {ds : List D} {a : Addr} {vs : List V} (s : Sat F G H (star (pts a (.lst vs)) (star (OwnL (Own K F n) ds vs) R))) : Sat F G H (star (Own K F (n + 1) (.list ds) (.ref a)) R) :=
  s.assoc'.head fun _ x => ⟨a, vs, rfl, x⟩

theorem lowerL {n m : Nat} (ih : ∀ {F : Hp} {d : D} {v : V} {R : Asr}, Sat F G H (star (Own K F n d v) R) → ∃ F', Ext F F' ∧ Sat F' G H (star (Own K F' m d v) R)) :
    ∀ {ds : List D} {vs : List V} {F : Hp} {R : Asr}, Sat F G H (star (OwnL (Own K F n) ds vs) R) → ∃ F', Ext F F' ∧ Sat F' G H (star (OwnL (Own K F' m) ds vs) R)
  | [], [], F, R, s => ⟨F, Ext.refl F, s⟩
  | d :: ds, v :: vs, F, R, s => by
    obtain ⟨F1, e1, s1⟩ := ih (Sat.assoc s)
    obtain ⟨F2, e2, s2⟩ := lowerL ih (ds := ds) (vs := vs) (s1.left.head fun _ x => OwnL.ext e1 x)
    exact ⟨F2, e1.trans e2, (s2.left.head fun _ x => Own.ext e2 x).assoc'⟩
  | [], _ :: _, F, R, s => by obtain ⟨⟨h, ⟨_, _, _, x, _⟩, _⟩, _⟩ := s; exact x.elim
  | _ :: _, [], F, R, s => by obtain ⟨⟨h, ⟨_, _, _, x, _⟩, _⟩, _⟩ := s; exact x.elim
theorem Sat.zeroL {ds : List D} {vs : List V} (s : Sat F G H (star (OwnL (Own K F 0) ds vs) R)) : RepL K F vs ds ∧ Sat F G H R := by
  obtain ⟨⟨h, ⟨h1, h2, j, o, r⟩, e, dj⟩, ef, eg, fg⟩ := s
  obtain ⟨rp, em⟩ := o.zero
  exact ⟨rp, Sat.mono (P := star Mir.emp R) ⟨⟨h, ⟨h1, h2, j, em, r⟩, e, dj⟩, ef, eg, fg⟩ fun _ => star_emp⟩
theorem Sat.ofZeroL {ds : List D} {vs : List V} (s : Sat F G H R) (r : RepL K F vs ds) : Sat F G H (star (OwnL (Own K F 0) ds vs) R) :=
  s.mono fun h x => ⟨fun _ => none, h, fun _ => .inl ⟨rfl, rfl⟩, OwnL.of_zero r, x⟩
theorem Sat.lower : ∀ {n m : Nat}, m ≤ n → ∀ {F : Hp} {d : D} {v : V} {R : Asr}, Sat F G H (star (Own K F n d v) R) → ∃ F', Ext F F' ∧ Sat F' G H (star (Own K F' m d v) R)
  | 0, 0, _, F, d, v, R, s => ⟨F, Ext.refl F, s⟩
  | n + 1, 0, _, F, d, v, R, s => by
    by_cases hd : notL d = true
    · obtain ⟨r, s1⟩ := s.flat hd
      exact ⟨F, Ext.refl F, s1.ofRep0 r⟩
    · cases d with
      | list ds =>
        obtain ⟨a, vs, q, s1⟩ := s.open
        obtain ⟨F1, e1, s2⟩ := lowerL (fun x => Sat.lower (Nat.zero_le n) x) s1.left
        obtain ⟨rp, s3⟩ := s2.zeroL
        obtain ⟨s4, e2⟩ := s3.freeze1
        subst q
        exact ⟨_, e1.trans e2, s4.ofRep0 (.lst upd_same (rp.ext e2))⟩
      | _ => exact (hd rfl).elim
  | n + 1, m + 1, hm, F, d, v, R, s => by
    by_cases hd : notL d = true
    · obtain ⟨r, s1⟩ := s.flat hd
      exact ⟨F, Ext.refl F, s1.ofRep r _ hd⟩
    · cases d with
      | list ds =>
        obtain ⟨a, vs, q, s1⟩ := s.open
        obtain ⟨F1, e1, s2⟩ := lowerL (fun x => Sat.lower (Nat.le_of_succ_le_succ hm) x) s1.left
        subst q
        exact ⟨F1, e1, s2.left.close⟩
      | _ => exact (hd rfl).elim
  | 0, m + 1, hm, _, _, _, _, _ => by omega
/-- frozen -/
theorem Sat.freeze {n : Nat} {d : D} {v : V} (s : Sat F G H (star (Own K F n d v) R)) : ∃ F', Ext F F' ∧ Rep K F' v d ∧ Sat F' G H R := by
  obtain ⟨F', e, s'⟩ := Sat.lower (Nat.zero_le n) s
  obtain ⟨r, s''⟩ := s'.flat0
  exact ⟨F', e, r, s''⟩
end

/-! ### the slots -/
def slot (K : PySem.W.Frag) (F : Hp) (n : Nat) : Option D → Option V → Asr
  | none, _ => emp
  | some d, some v => Own K F n d v
  | some _, none => fun _ => False
def slots (K : PySem.W.Frag) (F : Hp) : List Nat → Env → L2.St → Asr
  | n :: Γ, r :: ρ, s :: σ => star (slot K F n r s) (slots K F Γ ρ σ)
  | [], [], [] => emp
  | _, _, _ => fun _ => False
def leB : List Nat → List Nat → Bool
  | a :: as, b :: bs => decide (a ≤ b) && leB as bs
  | [], [] => true
  | _, _ => false
section
variable {K : PySem.W.Frag} {F F' G H : Hp} {R : Asr}
theorem slot_ext (e : Ext F F') {n : Nat} {r : Option D} {s : Option V} {h : Hp} (x : slot K F n r s h) : slot K F' n r s h := by
  cases r with
  | none => exact x
  | some d =>
    cases s with
    | none => exact x
    | some v => exact Own.ext e x
theorem slots_ext (e : Ext F F') : ∀ {Γ : List Nat} {ρ : Env} {σ : L2.St} {h : Hp}, slots K F Γ ρ σ h → slots K F' Γ ρ σ h
  | _ :: _, _ :: _, _ :: _, _, x => star_mono x (fun _ q => slot_ext e q) fun _ q => slots_ext e q
  | [], [], [], _, x => x
  | [], _ :: _, _, _, x => x.elim
  | [], [], _ :: _, _, x => x.elim
  | _ :: _, [], _, _, x => x.elim
  | _ :: _, _ :: _, [], _, x => x.elim
theorem slots_len : ∀ {Γ : List Nat} {ρ : Env} {σ : L2.St} {h : Hp}, slots K F Γ ρ σ h → Γ.length = σ.length ∧ ρ.length = σ.length
  | _ :: _, _ :: _, _ :: _, _, ⟨_, _, _, _, q⟩ => ⟨congrArg (· + 1) (slots_len q).1, congrArg (· + 1) (slots_len q).2⟩
  | [], [], [], _, x => ⟨rfl, rfl⟩
  | [], _ :: _, _, _, x => x.elim
  | [], [], _ :: _, _, x => x.elim
  | _ :: _, [], _, _, x => x.elim
  | _ :: _, _ :: _, [], _, x => x.elim
/-- a slot's content taken out -/
theorem slots_take : ∀ {Γ : List Nat} {ρ : Env} {σ : L2.St} {h : Hp} {i : Nat} {d : D}, slots K F Γ ρ σ h → ρ[i]? = some (some d) →
    ∃ v, σ[i]? = some (some v) ∧ star (Own K F (Γ.getD i 0) d v) (slots K F Γ (ρ.set i none) σ) h
  | n :: Γ, r :: ρ, s :: σ, h, 0, d, x, e => by
    have e' : r = some d := by simpa using e
    subst e'
    cases s with
    | none => obtain ⟨_, _, _, q, _⟩ := x; exact q.elim
    | some v => exact ⟨v, rfl, star_mono x (fun _ q => q) fun _ q => emp_star q⟩
  | n :: Γ, r :: ρ, s :: σ, h, i + 1, d, x, e => by
    obtain ⟨h1, h2, j, a, b⟩ := x
    obtain ⟨v, e1, y⟩ := slots_take b (show ρ[i]? = some (some d) by simpa using e)
    have e2 : (n :: Γ).getD (i + 1) 0 = Γ.getD i 0 := rfl
    rw [e2]
    exact ⟨v, by simpa using e1, star_left ⟨h1, h2, j, a, y⟩⟩
  | [], [], [], _, _, _, _, e => by simp at e
  | [], _ :: _, _, _, _, _, x, _ => x.elim
  | [], [], _ :: _, _, _, _, x, _ => x.elim
  | _ :: _, [], _, _, _, _, x, _ => x.elim
  | _ :: _, _ :: _, [], _, _, _, x, _ => x.elim
/-- an empty slot may hold anything, at any right -/
theorem slots_any : ∀ {Γ : List Nat} {ρ : Env} {σ : L2.St} {h : Hp} {i : Nat} (n : Nat) (s : Option V), slots K F Γ ρ σ h → ρ[i]? = some none → slots K F (Γ.set i n) ρ (σ.set i s) h
  | _ :: _, r :: _, _ :: _, h, 0, n, s, x, e => by
    have e' : r = none := by simpa using e
    subst e'
    exact x
  | _ :: _, _ :: ρ, _ :: _, h, i + 1, n, s, x, e => star_mono x (fun _ q => q) fun _ q => slots_any n s q (show ρ[i]? = some none by simpa using e)
  | [], [], [], _, _, _, _, _, e => by simp at e
  | [], _ :: _, _, _, _, _, _, x, _ => x.elim
  | [], [], _ :: _, _, _, _, _, x, _ => x.elim
  | _ :: _, [], _, _, _, _, _, x, _ => x.elim
  | _ :: _, _ :: _, [], _, _, _, _, x, _ => x.elim
theorem slots_put : ∀ {Γ : List Nat} {ρ : Env} {σ : L2.St} {h : Hp} {i n : Nat} {d : D} {v : V}, star (Own K F n d v) (slots K F Γ ρ σ) h → ρ[i]? = some none →
    slots K F (Γ.set i n) (ρ.set i (some d)) (σ.set i (some v)) h
  | _ :: _, r :: _, _ :: _, h, 0, n, d, v, x, e => by
    have e' : r = none := by simpa using e
    subst e'
    exact star_mono x (fun _ q => q) fun _ q => star_emp q
  | _ :: _, _ :: ρ, _ :: _, h, i + 1, n, d, v, x, e => star_mono (star_left x) (fun _ q => q) fun _ q => slots_put q (show ρ[i]? = some none by simpa using e)
  | [], [], [], _, _, _, _, _, _, e => by simp at e
  | [], _ :: _, _, _, _, _, _, _, x, _ => by obtain ⟨_, _, _, _, q⟩ := x; exact q.elim
  | [], [], _ :: _, _, _, _, _, _, x, _ => by obtain ⟨_, _, _, _, q⟩ := x; exact q.elim
  | _ :: _, [], _, _, _, _, _, _, x, _ => by obtain ⟨_, _, _, _, q⟩ := x; exact q.elim
  | _ :: _, _ :: _, [], _, _, _, _, _, x, _ => by obtain ⟨_, _, _, _, q⟩ := x; exact q.elim
theorem set_self {α : Type} : ∀ {l : List α} {i : Nat} {a : α}, l[i]? = some a → l.set i a = l
  | [], _, _, e => by simp at e
  | x :: l, 0, a, e => by simp at e; subst e; rfl
  | x :: l, i + 1, a, e => by rw [List.set_cons_succ, set_self (by simpa using e)]
theorem Sat.slotsLen {Γ : List Nat} {ρ : Env} {σ : L2.St} (s : Sat F G H (slots K F Γ ρ σ)) : Γ.length = σ.length ∧ ρ.length = σ.length := by
  obtain ⟨⟨h, x, _⟩, _⟩ := s
  exact slots_len x
theorem Sat.take {Γ : List Nat} {ρ : Env} {σ : L2.St} {i : Nat} {d : D} (s : Sat F G H (slots K F Γ ρ σ)) (e : ρ[i]? = some (some d)) :
    ∃ v, σ[i]? = some (some v) ∧ Sat F G H (star (Own K F (Γ.getD i 0) d v) (slots K F Γ (ρ.set i none) σ)) := by
  obtain ⟨⟨h, x, a, b⟩, c, g, f⟩ := s
  obtain ⟨v, e1, y⟩ := slots_take x e
  exact ⟨v, e1, ⟨h, y, a, b⟩, c, g, f⟩
theorem Sat.put {Γ : List Nat} {ρ : Env} {σ : L2.St} {i n : Nat} {d : D} {v : V} (s : Sat F G H (star (Own K F n d v) (slots K F Γ ρ σ))) (e : ρ[i]? = some none) : Sat F G H (slots K F (Γ.set i n) (ρ.set i (some d)) (σ.set i (some v))) :=
  s.mono fun _ x => slots_put x e
/-- a slot's content given up -/
theorem Sat.clear {Γ : List Nat} {ρ : Env} {σ : L2.St} (i : Nat) (s : Sat F G H (slots K F Γ ρ σ)) : Sat F G H (slots K F Γ (ρ.set i none) σ) := by
  cases e : ρ[i]? with
  | none => rw [List.set_eq_of_length_le (by simpa using e)]; exact s
  | some r =>
    cases r with
    | none => rw [set_self e]; exact s
    | some d =>
      obtain ⟨v, _, s'⟩ := s.take e
      exact s'.drop
/-- and another one put in -/
theorem Sat.store {Γ : List Nat} {ρ : Env} {σ : L2.St} {i n : Nat} {d : D} {v : V} (s : Sat F G H (star (Own K F n d v) (slots K F Γ ρ σ))) (hi : i < ρ.length) : Sat F G H (slots K F (Γ.set i n) (ρ.set i (some d)) (σ.set i (some v))) := by
  obtain ⟨hR, r, s1, dj⟩ := s.comm.stash
  have s2 := (s1.clear i).unstash dj
  have s3 : Sat F G H (star (Own K F n d v) (slots K F Γ (ρ.set i none) σ)) := s2.comm.head fun _ x => by subst x; exact r
  have s4 := s3.put (i := i) (by simp [hi])
  rwa [List.set_set] at s4
theorem Sat.lowerS : ∀ {Γ Γ' : List Nat} {ρ : Env} {σ : L2.St} {F : Hp} {R : Asr}, leB Γ' Γ = true → Sat F G H (star (slots K F Γ ρ σ) R) → ∃ F', Ext F F' ∧ Sat F' G H (star (slots K F' Γ' ρ σ) R)
  | n :: Γ, m :: Γ', r :: ρ, s :: σ, F, R, e, x => by
    obtain ⟨e1, e2⟩ : m ≤ n ∧ leB Γ' Γ = true := by simpa [leB] using e
    obtain ⟨F1, f1, x1⟩ : ∃ F', Ext F F' ∧ Sat F' G H (star (slot K F' m r s) (star (slots K F Γ ρ σ) R)) := by
      have x' := Sat.assoc x
      cases r with
      | none => exact ⟨F, Ext.refl F, x'⟩
      | some d =>
        cases s with
        | none => obtain ⟨⟨h, ⟨_, _, _, q, _⟩, _⟩, _⟩ := x'; exact q.elim
        | some v => exact Sat.lower e1 x'
    obtain ⟨F2, f2, x2⟩ := Sat.lowerS (Γ := Γ) (Γ' := Γ') (ρ := ρ) (σ := σ) e2 (x1.left.head fun _ => slots_ext f1)
    exact ⟨F2, f1.trans f2, (x2.left.head fun _ => slot_ext f2).assoc'⟩
  | [], [], [], [], F, R, _, x => ⟨F, Ext.refl F, x⟩
  | [], [], _ :: _, _, _, _, _, x => by obtain ⟨⟨h, ⟨_, _, _, q, _⟩, _⟩, _⟩ := x; exact q.elim
  | [], [], [], _ :: _, _, _, _, x => by obtain ⟨⟨h, ⟨_, _, _, q, _⟩, _⟩, _⟩ := x; exact q.elim
  | _ :: _, _ :: _, [], _, _, _, _, x => by obtain ⟨⟨h, ⟨_, _, _, q, _⟩, _⟩, _⟩ := x; exact q.elim
  | _ :: _, _ :: _, _ :: _, [], _, _, _, x => by obtain ⟨⟨h, ⟨_, _, _, q, _⟩, _⟩, _⟩ := x; exact q.elim
  | [], _ :: _, _, _, _, _, e, _ => by simp [leB] at e
  | _ :: _, [], _, _, _, _, e, _ => by simp [leB] at e
theorem Sat.lowerS' {Γ Γ' : List Nat} {ρ : Env} {σ : L2.St} {F : Hp} (e : leB Γ' Γ = true) (x : Sat F G H (slots K F Γ ρ σ)) : ∃ F', Ext F F' ∧ Sat F' G H (slots K F' Γ' ρ σ) := by
  obtain ⟨F', f, x'⟩ := Sat.lowerS e (R := Mir.emp) (x.emp.comm)
  exact ⟨F', f, x'.comm.mono fun _ => star_emp⟩
end
end Mir

set_option Elab.async false
set_option linter.all false
set_option maxRecDepth 100000
set_option maxHeartbeats 4000000
namespace Mir
open PySem PySem.Spec PyProof.Rows L2

/-! ### mirrors -/
structure Exn where
  c : Str
  fs : List (Str × D)
inductive Rs (α : Type) where
  | stuck
  | ok (a : α) (ρ : Env)
  | exc (x : Exn) (ρ : Env)
def Rs.bind {α β : Type} (r : Rs α) (f : α → Env → Rs β) : Rs β := match r with
  | .stuck => .stuck
  | .ok a ρ => f a ρ
  | .exc x ρ => .exc x ρ
abbrev M (α : Type) := Env → Rs α
def Rs.lift {α : Type} (o : Option α) (ρ : Env) : Rs α := match o with
  | some a => .ok a ρ
  | none => .stuck
def zer (ρ : Env) : List Nat := ρ.map fun _ => 0
def ExR (K : PySem.W.Frag) (mg : Str → Option Value) (F : Hp) (x : Exn) (cls : Value) (dd : Option Addr) : Prop :=
  ∃ C, mg x.c = some (.ref C) ∧ cls = .ref C ∧ (x.fs = [] ∨ ∃ a gs, dd = some a ∧ F a = some (.xd gs) ∧ Paired (fun (p : Str × V) (q : Str × D) => p.1 = q.1 ∧ Rep K F p.2 q.2) gs x.fs)

section
variable (X : Cx) (W : WX)
def excOk (F G : Hp) (σ : L2.St) (x : Exn) (ρ : Env) : Prop := ∀ F' H' cls dd, Ext F F' → ExR X.K X.mg F' x cls dd → Sat F' G H' (slots X.K F' (zer ρ) ρ σ) → W cls dd σ H'
def Out {α : Type} (F G : Hp) (σ : L2.St) (r : Rs α) (k : α → Env → Prop) : Prop := match r with
  | .stuck => False
  | .ok a ρ => k a ρ
  | .exc x ρ => excOk X W F G σ x ρ
def tE (Γ : List Nat) (m : M D) (Γ' : List Nat) (q : Nat) : TE := fun σ H Q => ∃ F G ρ, Sat F G H (slots X.K F Γ ρ σ) ∧
  Out X W F G σ (m ρ) fun d ρ' => ∀ F' H' v, Ext F F' → Sat F' G H' (star (Own X.K F' q d v) (slots X.K F' Γ' ρ' σ)) → Q v H'
def tT (Γ : List Nat) (m : M Bool) (Γ' : List Nat) : TT := fun σ H Q => ∃ F G ρ, Sat F G H (slots X.K F Γ ρ σ) ∧
  Out X W F G σ (m ρ) fun b ρ' => ∀ F' H', Ext F F' → Sat F' G H' (slots X.K F' Γ' ρ' σ) → Q b H'
def OwnA (K : PySem.W.Frag) (F : Hp) : List Nat → List D → List V → Asr
  | q :: qs, d :: ds, v :: vs => star (Own K F q d v) (OwnA K F qs ds vs)
  | [], [], [] => emp
  | _, _, _ => fun _ => False
def tA' (Γ : List Nat) (m : M (List D)) (Γ' : List Nat) (qs : List Nat) : TA := fun σ H Q => ∃ F G ρ, Sat F G H (slots X.K F Γ ρ σ) ∧
  Out X W F G σ (m ρ) fun ds ρ' => ∀ F' H' vs, Ext F F' → Sat F' G H' (star (OwnA X.K F' qs ds vs) (slots X.K F' Γ' ρ' σ)) → Q vs H'
/-- expressions, tests, argument lists by their mirrors -/
def SE (Γ : List Nat) (e : Expr) (m : M D) (Γ' : List Nat) (q : Nat) : Prop := PE X e (tE X W Γ m Γ' q)
def ST (Γ : List Nat) (e : Expr) (m : M Bool) (Γ' : List Nat) : Prop := PT X e (tT X W Γ m Γ')
def SW (Γ : List Nat) (e : Expr) (m : M Bool) (Γ' : List Nat) : Prop := PW X e (tT X W Γ m Γ')
def SA (Γ : List Nat) (es : List Expr) (m : M (List D)) (Γ' qs : List Nat) : Prop := PA X es (tA' X W Γ m Γ' qs)
end
theorem _root_.L2.PE.imp {X : Cx} {e : Expr} {t t' : TE} (h : PE X e t) (i : ∀ σ H Q, t' σ H Q → t σ H Q) : PE X e t' := ⟨fun p s σ H Q I x => h.run p s σ H Q I (i σ H Q x)⟩
theorem _root_.L2.PT.imp {X : Cx} {e : Expr} {t t' : TT} (h : PT X e t) (i : ∀ σ H Q, t' σ H Q → t σ H Q) : PT X e t' := ⟨fun p s σ H Q I x => h.run p s σ H Q I (i σ H Q x)⟩
theorem _root_.L2.PW.imp {X : Cx} {e : Expr} {t t' : TT} (h : PW X e t) (i : ∀ σ H Q, t' σ H Q → t σ H Q) : PW X e t' := ⟨fun w p s σ H Q I x => h.run w p s σ H Q I (i σ H Q x)⟩
theorem _root_.L2.PA.imp {X : Cx} {e : List Expr} {t t' : TA} (h : PA X e t) (i : ∀ σ H Q, t' σ H Q → t σ H Q) : PA X e t' := ⟨fun w p s σ H Q I x => h.run w p s σ H Q I (i σ H Q x)⟩

section
variable {X : Cx} {W : WX} {F F1 G H : Hp} {σ : L2.St} {α β : Type}
theorem excOk.ext {x : Exn} {ρ : Env} (e : Ext F F1) (h : excOk X W F G σ x ρ) : excOk X W F1 G σ x ρ := fun F' H' cls dd e' r s => h F' H' cls dd (e.trans e') r s
theorem excOk.stash {x : Exn} {ρ : Env} {hR : Hp} (dj : ∀ a o, hR a = some o → G a = none) (h : excOk X W F G σ x ρ) : excOk X W F (hjoin G hR) σ x ρ := fun F' H' cls dd e' r s => h F' H' cls dd e' r (s.unstash dj).comm.drop
theorem Out.imp {r : Rs α} {k k' : α → Env → Prop} (o : Out X W F G σ r k) (i : ∀ a ρ, k a ρ → k' a ρ) : Out X W F G σ r k' := by
  cases r with
  | stuck => exact o
  | ok a ρ => exact i a ρ o
  | exc x ρ => exact o
theorem Out.bind {r : Rs α} {f : α → Env → Rs β} {k : β → Env → Prop} {k' : α → Env → Prop} (o : Out X W F G σ (r.bind f) k) (i : ∀ a ρ, Out X W F G σ (f a ρ) k → k' a ρ) : Out X W F G σ r k' := by
  cases r with
  | stuck => exact o
  | ok a ρ => exact i a ρ o
  | exc x ρ => exact o
theorem Out.bindS {r : Rs α} {f : α → Env → Rs β} {k : β → Env → Prop} {k' : α → Env → Prop} {hR : Hp} (e : Ext F F1) (dj : ∀ a o, hR a = some o → G a = none) (o : Out X W F G σ (r.bind f) k) (i : ∀ a ρ, Out X W F G σ (f a ρ) k → k' a ρ) : Out X W F1 (hjoin G hR) σ r k' := by
  cases r with
  | stuck => exact o
  | ok a ρ => exact i a ρ o
  | exc x ρ => exact excOk.stash dj (excOk.ext e o)
theorem Out.bindE {r : Rs α} {f : α → Env → Rs β} {k : β → Env → Prop} {k' : α → Env → Prop} (e : Ext F F1) (o : Out X W F G σ (r.bind f) k) (i : ∀ a ρ, Out X W F G σ (f a ρ) k → k' a ρ) : Out X W F1 G σ r k' := by
  cases r with
  | stuck => exact o
  | ok a ρ => exact i a ρ o
  | exc x ρ => exact excOk.ext e o
theorem Out.mv {r : Rs α} {k k' : α → Env → Prop} (e : Ext F F1) (o : Out X W F G σ r k) (i : ∀ a ρ, k a ρ → k' a ρ) : Out X W F1 G σ r k' := by
  cases r with
  | stuck => exact o
  | ok a ρ => exact i a ρ o
  | exc x ρ => exact excOk.ext e o
theorem Out.mvS {r : Rs α} {k k' : α → Env → Prop} {hR : Hp} (e : Ext F F1) (dj : ∀ a o, hR a = some o → G a = none) (o : Out X W F G σ r k) (i : ∀ a ρ, k a ρ → k' a ρ) : Out X W F1 (hjoin G hR) σ r k' := by
  cases r with
  | stuck => exact o
  | ok a ρ => exact i a ρ o
  | exc x ρ => exact excOk.stash dj (excOk.ext e o)
theorem Out.lift {o : Option α} {ρ : Env} {k : α → Env → Prop} (h : Out X W F G σ (Rs.lift o ρ) k) : ∃ a, o = some a ∧ k a ρ := by
  cases o with
  | none => exact h.elim
  | some a => exact ⟨a, rfl, h⟩

/-! ### names, constants -/
def mC (d : D) : M D := fun ρ => .ok d ρ
def mSlot (i : Nat) : M D := fun ρ => match ρ[i]? with
  | some (some d) => .ok d ρ
  | _ => .stuck
def mSlotS (i : Nat) : M D := fun ρ => match ρ[i]? with
  | some (some d) => if notL d = true then .ok d ρ else .stuck
  | _ => .stuck
theorem mSlot_some {i : Nat} {ρ : Env} {k : D → Env → Prop} (o : Out X W F G σ (mSlot i ρ) k) : ∃ d, ρ[i]? = some (some d) ∧ k d ρ := by
  unfold mSlot at o
  cases e : ρ[i]? with
  | none => rw [e] at o; exact o.elim
  | some r =>
    cases r with
    | none => rw [e] at o; exact o.elim
    | some d => rw [e] at o; exact ⟨d, rfl, o⟩
theorem se_c {Γ : List Nat} {e : Expr} {v : V} {d : D} (h : PE X e (tC v)) (r : ∀ F, Rep X.K F v d) (hd : notL d = true) : SE X W Γ e (mC d) Γ 9 :=
  h.imp fun σ H Q ⟨F, G, ρ, s, o⟩ => o F H v (Ext.refl F) (s.ofRep (r F) 9 hd)
theorem se_int {Γ : List Nat} {i : Int} {j : Nat} {pos : Pos} : SE X W Γ (.Constant (.int i) j pos) (mC (.int i)) Γ 9 := se_c pe_int (fun _ => .int i) rfl
theorem se_bl {Γ : List Nat} {i : Bool} {j : Nat} {pos : Pos} : SE X W Γ (.Constant (.bool i) j pos) (mC (.bool i)) Γ 9 := se_c pe_bl (fun _ => .bl i) rfl
theorem se_non {Γ : List Nat} {j : Nat} {pos : Pos} : SE X W Γ (.Constant .none j pos) (mC .none) Γ 9 := se_c pe_non (fun _ => .non) rfl
theorem se_str {Γ : List Nat} {x : Str} {j : Nat} {pos : Pos} : SE X W Γ (.Constant (.str x) j pos) (mC (.str x)) Γ 9 := se_c pe_str (fun _ => .str x) rfl
theorem se_glob {Γ : List Nat} {e : Expr} {i : Int} (h : PE X e (tC (.int i))) : SE X W Γ e (mC (.int i)) Γ 9 := se_c h (fun _ => .int i) rfl
theorem sat_set (Γ : List Nat) (i : Nat) {ρ : Env} {n : Nat} {d : D} {v : V} (hv : σ[i]? = some (some v)) (hi : ρ[i]? = some (some d))
    (s : Sat F G H (star (Own X.K F n d v) (slots X.K F Γ (ρ.set i none) σ))) : Sat F G H (slots X.K F (Γ.set i n) ρ σ) := by
  have s2 := s.put (i := i) (by
    obtain ⟨h, _⟩ := List.getElem?_eq_some_iff.mp hi
    simp [h])
  rw [List.set_set, set_self hi, set_self hv] at s2
  exact s2
/-- a name: what it holds is frozen -/
theorem se_var {Γ : List Nat} {e : Expr} (i : Nat) (h : PE X e (tVar i)) : SE X W Γ e (mSlot i) (Γ.set i 0) 0 := h.imp fun σ H Q ⟨F, G, ρ, s, o⟩ => by
  obtain ⟨d, e, k⟩ := mSlot_some o
  obtain ⟨v, ev, s1⟩ := s.take e
  obtain ⟨F', f, r, s2⟩ := s1.freeze
  refine ⟨v, ev, k F' H v f ?_⟩
  have s3 : Sat F' G H (slots X.K F' (Γ.set i 0) ρ σ) := sat_set Γ i ev e ((s2.mono fun _ => slots_ext f).ofRep0 r)
  exact s3.ofRep0 r
/-- a name that holds no list -/
theorem se_varS {Γ : List Nat} {e : Expr} (i : Nat) (h : PE X e (tVar i)) : SE X W Γ e (mSlotS i) Γ 9 := h.imp fun σ H Q ⟨F, G, ρ, s, o⟩ => by
  unfold mSlotS at o
  cases e : ρ[i]? with
  | none => rw [e] at o; exact o.elim
  | some r =>
    cases r with
    | none => rw [e] at o; exact o.elim
    | some d =>
      rw [e] at o
      by_cases hd : notL d = true
      · simp only [if_pos hd] at o
        obtain ⟨v, ev, s1⟩ := s.take e
        obtain ⟨r, s2⟩ := s1.flat hd
        refine ⟨v, ev, o F H v (Ext.refl F) (s.ofRep r 9 hd)⟩
      · simp only [if_neg hd] at o; exact o.elim

/-! ### two operands, one operand -/
def m2 (f : D → D → Option D) (a b : M D) : M D := fun ρ => (a ρ).bind fun x ρ => (b ρ).bind fun y ρ => .lift (f x y) ρ
def m1 (f : D → Option D) (a : M D) : M D := fun ρ => (a ρ).bind fun x ρ => .lift (f x) ρ
structure OpS (K : PySem.W.Frag) (r : R2) (f : D → D → Option D) (q1 q2 q : Nat) : Prop where
  run : ∀ {F G H : Hp} {R : Asr} {d1 d2 d : D} {v1 v2 : V} {Q : VK}, f d1 d2 = some d →
  Sat F G H (star (Own K F q1 d1 v1) (star (Own K F q2 d2 v2) R)) → (∀ F' H' v, Ext F F' → Sat F' G H' (star (Own K F' q d v) R) → Q v H') → r v1 v2 H Q
structure OpS1 (K : PySem.W.Frag) (r : V → Hp → VK → Prop) (f : D → Option D) (q1 q : Nat) : Prop where
  run : ∀ {F G H : Hp} {R : Asr} {d1 d : D} {v1 : V} {Q : VK}, f d1 = some d →
  Sat F G H (star (Own K F q1 d1 v1) R) → (∀ F' H' v, Ext F F' → Sat F' G H' (star (Own K F' q d v) R) → Q v H') → r v1 H Q
theorem t2_sound {Γ Γ1 Γ2 : List Nat} {q1 q2 q : Nat} {f : D → D → Option D} {r : R2} {ma mb : M D} (hf : OpS X.K r f q1 q2 q) {Q : VK} (h : tE X W Γ (m2 f ma mb) Γ2 q σ H Q) : tOp r (tE X W Γ ma Γ1 q1) (tE X W Γ1 mb Γ2 q2) σ H Q := by
  obtain ⟨F, G, ρ, s, o⟩ := h
  refine ⟨F, G, ρ, s, Out.bind o fun d1 ρ1 o1 F1 H1 v1 e1 s1 => ?_⟩
  obtain ⟨hR, hr, s2, dj⟩ := s1.comm.stash
  refine ⟨F1, hjoin G hR, ρ1, s2, Out.bindS e1 dj o1 fun d2 ρ2 o2 F2 H2 v2 e2 s3 => ?_⟩
  obtain ⟨d, hd, k⟩ := o2.lift
  have s4 := (s3.unstash dj).comm.head (P' := Own X.K F2 q1 d1 v1) fun _ x => by subst x; exact hr.ext e2
  exact hf.run hd s4 fun F3 H3 v e3 s5 => k F3 H3 v ((e1.trans e2).trans e3) (s5.tail fun _ => slots_ext e3)
theorem t1_sound {Γ Γ1 : List Nat} {q1 q : Nat} {f : D → Option D} {r : V → Hp → VK → Prop} {ma : M D} (hf : OpS1 X.K r f q1 q) {Q : VK} (h : tE X W Γ (m1 f ma) Γ1 q σ H Q) : tUn r (tE X W Γ ma Γ1 q1) σ H Q := by
  obtain ⟨F, G, ρ, s, o⟩ := h
  refine ⟨F, G, ρ, s, Out.bind o fun d1 ρ1 o1 F1 H1 v1 e1 s1 => ?_⟩
  obtain ⟨d, hd, k⟩ := o1.lift
  exact hf.run hd s1 fun F3 H3 v e3 s5 => k F3 H3 v (e1.trans e3) (s5.tail fun _ => slots_ext e3)
variable {Γ Γ1 Γ2 : List Nat} {q1 q2 q : Nat} {a b : Expr} {ma mb : M D} {pos : Pos}
theorem se_op {op : Operator} {f : D → D → Option D} {r : R2} (ho : OpR X (binaryOp op) r) (hf : OpS X.K r f q1 q2 q) (ha : SE X W Γ a ma Γ1 q1) (hb : SE X W Γ1 b mb Γ2 q2) : SE X W Γ (.BinOp a op b pos) (m2 f ma mb) Γ2 q :=
  (pe_op ho ha hb).imp fun _ _ _ => t2_sound hf
theorem se_un {op : UnaryOp} {f : D → Option D} {r : V → Hp → VK → Prop} (ho : UnR X (unaryOp op) r) (hf : OpS1 X.K r f q1 q) (ha : SE X W Γ a ma Γ1 q1) : SE X W Γ (.UnaryOp op a pos) (m1 f ma) Γ1 q :=
  (pe_un ho ha).imp fun _ _ _ => t1_sound hf
theorem se_cmp {op : CmpOp} {f : D → D → Option D} {r : R2} (ho : OpR X (compareOp op) r) (hf : OpS X.K r f q1 q2 q) (ha : SE X W Γ a ma Γ1 q1) (hb : SE X W Γ1 b mb Γ2 q2) (hm : behindInMarks op b = false) : SE X W Γ (.Compare a [op] [b] pos) (m2 f ma mb) Γ2 q :=
  (pe_cmpR ho ha hb hm).imp fun _ _ _ => t2_sound hf
theorem se_ix {f : D → D → Option D} {r : R2} (ho : IxR X r) (hf : OpS X.K r f q1 q2 q) (ha : SE X W Γ a ma Γ1 q1) (hb : SE X W Γ1 b mb Γ2 q2) (hs : PlainIx b) : SE X W Γ (.Subscript a b pos) (m2 f ma mb) Γ2 q :=
  (pe_ix ho ha hb hs).imp fun _ _ _ => t2_sound hf
/-- a value that is True or False, as a test -/
def boolD : D → Option Bool
  | .bool b => some b
  | _ => none
def mTB (m : M D) : M Bool := fun ρ => (m ρ).bind fun d ρ => .lift (boolD d) ρ
theorem tb_sound {m : M D} {Q : Bool → Hp → Prop} (h : tT X W Γ (mTB m) Γ1 σ H Q) : tE X W Γ m Γ1 q σ H (fun x H' => ∃ k, x = .bl k ∧ Q k H') := by
  obtain ⟨F, G, ρ, s, o⟩ := h
  refine ⟨F, G, ρ, s, Out.bind o fun d ρ1 o1 F1 H1 v1 e1 s1 => ?_⟩
  obtain ⟨b, hb, k⟩ := o1.lift
  cases d with
  | bool c =>
    cases hb
    obtain ⟨r, s2⟩ := s1.flat rfl
    cases r
    exact ⟨_, rfl, k F1 H1 e1 s2⟩
  | _ => cases hb
theorem st_cmp {op : CmpOp} {f : D → D → Option D} {r : R2} (ho : OpR X (compareOp op) r) (hf : OpS X.K r f q1 q2 q) (ha : SE X W Γ a ma Γ1 q1) (hb : SE X W Γ1 b mb Γ2 q2) (hm : behindInMarks op b = false) : ST X W Γ (.Compare a [op] [b] pos) (mTB (m2 f ma mb)) Γ2 :=
  (pt_cmpR ho ha hb hm).imp fun _ _ _ h => t2_sound hf (tb_sound h)
theorem st_val (ha : SE X W Γ a ma Γ1 q1) (he : ∀ whole, isTrue a X.env whole = (do let v ← whole; standAt a.pos; holding [v] (truthy v))) : ST X W Γ a (mTB ma) Γ1 :=
  (pt_val ha he).imp fun _ _ _ h => tb_sound h
/-- any value's truth -/
def truD : D → Option Bool
  | .none => some false
  | .bool b => some b
  | .int i => some (i != 0)
  | .list ds => some (!ds.isEmpty)
  | .tuple ds => some (!ds.isEmpty)
  | _ => none
def mTru (m : M D) : M Bool := fun ρ => (m ρ).bind fun d ρ => .lift (truD d) ρ
theorem empty_eq {K : PySem.W.Frag} {F : Hp} {vs : List V} {ds : List D} (r : RepL K F vs ds) : (!ds.isEmpty) = !vs.isEmpty := by cases r <;> rfl
theorem st_tru (ha : SE X W Γ a ma Γ1 q1) (he : ∀ whole, isTrue a X.env whole = (do let v ← whole; standAt a.pos; holding [v] (truthy v))) : ST X W Γ a (mTru ma) Γ1 :=
  (pt_truth ha he).imp fun σ H Q ⟨F, G, ρ, s, o⟩ => by
    refine ⟨F, G, ρ, s, Out.bind o fun d ρ1 o1 F1 H1 v1 e1 s1 => ?_⟩
    obtain ⟨b, hb, k⟩ := o1.lift
    obtain ⟨F2, e2, r, s2⟩ := s1.freeze
    refine ⟨b, ?_, k F2 H1 (e1.trans e2) (s2.mono fun _ => slots_ext e2)⟩
    cases d with
    | none => cases hb; cases r; rfl
    | bool c => cases hb; cases r; rfl
    | int i => cases hb; cases r; rfl
    | list ds =>
      cases hb
      cases r with
      | lst h rl => exact .inl ⟨_, sqL_ext s2.ef (SqL.of h), empty_eq rl⟩
    | tuple ds =>
      cases hb
      cases r with
      | tup h rl => exact .inr (.inl ⟨_, SqT.of (s2.ef _ _ h), empty_eq rl⟩)
    | _ => cases hb
/-! ### and, or, not, if -/
def mAnd (a b : M Bool) : M Bool := fun ρ => (a ρ).bind fun c ρ => if c = true then b ρ else .ok false ρ
def mOr (a b : M Bool) : M Bool := fun ρ => (a ρ).bind fun c ρ => if c = true then .ok true ρ else b ρ
def mNot (a : M Bool) : M Bool := fun ρ => (a ρ).bind fun c ρ => .ok (!c) ρ
variable {ta tb : M Bool} {rest : List Expr}
theorem sw_and1 (ha : ST X W Γ a ta Γ1) : SW X W Γ (.BoolOp .And [a] pos) ta Γ1 := pw_and1 ha
theorem sw_or1 (ha : ST X W Γ a ta Γ1) : SW X W Γ (.BoolOp .Or [a] pos) ta Γ1 := pw_or1 ha
theorem sat_low {Γ Γ' : List Nat} {ρ : Env} (s : Sat F G H (slots X.K F Γ ρ σ)) (e : leB Γ' Γ = true) : ∃ F', Ext F F' ∧ Sat F' G H (slots X.K F' Γ' ρ σ) := Sat.lowerS' e s
theorem sw_and (ha : ST X W Γ a ta Γ1) (hb : SW X W Γ1 (.BoolOp .And (b :: rest) pos) tb Γ2) (hl : leB Γ2 Γ1 = true) : SW X W Γ (.BoolOp .And (a :: b :: rest) pos) (mAnd ta tb) Γ2 :=
  (pw_and ha hb).imp fun σ H Q ⟨F, G, ρ, s, o⟩ => by
    refine ⟨F, G, ρ, s, Out.bind o fun c ρ1 o1 F1 H1 e1 s1 => ?_⟩
    cases c with
    | true => exact ⟨F1, G, ρ1, s1, Out.mv e1 o1 fun b ρ2 k F2 H2 e2 s2 => k F2 H2 (e1.trans e2) s2⟩
    | false =>
      obtain ⟨F2, e2, s2⟩ := sat_low s1 hl
      exact o1 F2 H1 (e1.trans e2) s2
theorem sw_or (ha : ST X W Γ a ta Γ1) (hb : SW X W Γ1 (.BoolOp .Or (b :: rest) pos) tb Γ2) (hl : leB Γ2 Γ1 = true) : SW X W Γ (.BoolOp .Or (a :: b :: rest) pos) (mOr ta tb) Γ2 :=
  (pw_or ha hb).imp fun σ H Q ⟨F, G, ρ, s, o⟩ => by
    refine ⟨F, G, ρ, s, Out.bind o fun c ρ1 o1 F1 H1 e1 s1 => ?_⟩
    cases c with
    | false => exact ⟨F1, G, ρ1, s1, Out.mv e1 o1 fun b ρ2 k F2 H2 e2 s2 => k F2 H2 (e1.trans e2) s2⟩
    | true =>
      obtain ⟨F2, e2, s2⟩ := sat_low s1 hl
      exact o1 F2 H1 (e1.trans e2) s2
theorem st_bool {e : Expr} (h : SW X W Γ e ta Γ1) : ST X W Γ e ta Γ1 := PW.pt h
theorem st_not (ha : ST X W Γ a ta Γ1) : ST X W Γ (.UnaryOp .Not a pos) (mNot ta) Γ1 :=
  (pt_not ha).imp fun σ H Q ⟨F, G, ρ, s, o⟩ => ⟨F, G, ρ, s, Out.bind o fun c ρ1 o1 F1 H1 e1 s1 => o1 F1 H1 e1 s1⟩
end
end Mir

set_option Elab.async false
set_option linter.all false
set_option maxRecDepth 100000
set_option maxHeartbeats 4000000
namespace Mir
open PySem PySem.Spec PyProof.Rows L2

section
variable {K : PySem.W.Frag} {F G H : Hp} {R : Asr}
theorem Sat.newList {p : Addr} {vs : List V} {ds : List D} (hp : H p = none) (s : Sat F G H R) (r : RepL K F vs ds) : Sat F G (L2.upd H p (.lst vs)) (star (Own K F 1 (.list ds) (.ref p)) R) := by
  have s1 := s.newO (o := .lst vs) hp
  refine Sat.close (s1.tail fun h x => ?_)
  exact ⟨fun _ => none, h, fun _ => .inl ⟨rfl, rfl⟩, OwnL.of_zero r, x⟩
theorem Sat.newTup {p : Addr} {vs : List V} {ds : List D} (hp : H p = none) (s : Sat F G H R) (r : RepL K F vs ds) (q : Nat) : ∃ F', Ext F F' ∧ Sat F' G (L2.upd H p (.tup vs)) (star (Own K F' q (.tuple ds) (.ref p)) R) := by
  obtain ⟨s1, e⟩ := s.newF (o := .tup vs) hp
  exact ⟨_, e, s1.ofRep (.tup upd_same (r.ext e)) q rfl⟩
theorem opS_of {r : R2} {f : D → D → Option D} {q1 q2 q : Nat} (h : ∀ (F G H : Hp) (R : Asr) (d1 d2 d : D) (v1 v2 : V) (Q : VK), f d1 d2 = some d → Rep K F v1 d1 → Rep K F v2 d2 →
    Sat F G H R → (∀ F' H' v, Ext F F' → Sat F' G H' (star (Own K F' q d v) R) → Q v H') → r v1 v2 H Q) : OpS K r f q1 q2 q := ⟨fun {F G H R d1 d2 d v1 v2 Q} hd s k => by
  obtain ⟨F1, e1, r1, s1⟩ := s.freeze
  obtain ⟨F2, e2, r2, s2⟩ := (s1.head fun _ x => Own.ext e1 x).freeze
  exact h _ _ _ _ _ _ _ _ _ _ hd (r1.ext e2) r2 s2 fun F' H' v e s' => k F' H' v ((e1.trans e2).trans e) s'⟩
theorem opS1_of {r : V → Hp → VK → Prop} {f : D → Option D} {q1 q : Nat} (h : ∀ (F G H : Hp) (R : Asr) (d1 d : D) (v1 : V) (Q : VK), f d1 = some d → Rep K F v1 d1 →
    Sat F G H R → (∀ F' H' v, Ext F F' → Sat F' G H' (star (Own K F' q d v) R) → Q v H') → r v1 H Q) : OpS1 K r f q1 q := ⟨fun {F G H R d1 d v1 Q} hd s k => by
  obtain ⟨F1, e1, r1, s1⟩ := s.freeze
  exact h _ _ _ _ _ _ _ _ hd r1 s1 fun F' H' v e s' => k F' H' v (e1.trans e) s'⟩

/-! ### ints -/
def fI (g : Int → Int → Int) : D → D → Option D
  | .int i, .int j => some (.int (g i j))
  | _, _ => none
def fIc (C : Int → Int → Prop) [∀ i j, Decidable (C i j)] (g : Int → Int → Int) : D → D → Option D
  | .int i, .int j => if C i j then some (.int (g i j)) else none
  | _, _ => none
def fB (g : Int → Int → Bool) : D → D → Option D
  | .int i, .int j => some (.bool (g i j))
  | _, _ => none
theorem ops_I {g : Int → Int → Int} {q1 q2 : Nat} : OpS K (rI0 fun i j => .int (g i j)) (fI g) q1 q2 9 := opS_of fun F G H R d1 d2 d v1 v2 Q hd r1 r2 s k => by
  cases r1 <;> cases r2 <;> cases hd
  exact ⟨_, _, rfl, rfl, k F H _ (Ext.refl F) (s.ofRep (.int _) 9 rfl)⟩
theorem ops_Ic {C : Int → Int → Prop} [∀ i j, Decidable (C i j)] {g : Int → Int → Int} {q1 q2 : Nat} : OpS K (rI C fun i j => .int (g i j)) (fIc C g) q1 q2 9 := opS_of fun F G H R d1 d2 d v1 v2 Q hd r1 r2 s k => by
  cases r1 <;> cases r2 <;> try (cases hd; done)
  rename_i i j
  simp only [fIc] at hd
  by_cases c : C i j
  · rw [if_pos c] at hd
    cases hd
    exact ⟨_, _, rfl, rfl, c, k F H _ (Ext.refl F) (s.ofRep (.int _) 9 rfl)⟩
  · rw [if_neg c] at hd; cases hd
theorem ops_B {g : Int → Int → Bool} {q1 q2 : Nat} : OpS K (rI0 fun i j => .bl (g i j)) (fB g) q1 q2 9 := opS_of fun F G H R d1 d2 d v1 v2 Q hd r1 r2 s k => by
  cases r1 <;> cases r2 <;> cases hd
  exact ⟨_, _, rfl, rfl, k F H _ (Ext.refl F) (s.ofRep (.bl _) 9 rfl)⟩
def fU (g : Int → Int) : D → Option D
  | .int i => some (.int (g i))
  | _ => none
theorem ops_U {g : Int → Int} {q1 : Nat} : OpS1 K (rU fun i => .int (g i)) (fU g) q1 9 := opS1_of fun F G H R d1 d v1 Q hd r1 s k => by
  cases r1 <;> cases hd
  exact ⟨_, rfl, k F H _ (Ext.refl F) (s.ofRep (.int _) 9 rfl)⟩
instance {i j : Int} : Decidable (CDiv i j) := inferInstanceAs (Decidable (0 < j ∧ j < 1073741824))
instance {i j : Int} : Decidable (CDivN i j) := inferInstanceAs (Decidable (j ≠ 0 ∧ j.natAbs < 1073741824))
instance {i j : Int} : Decidable (CPow i j) := inferInstanceAs (Decidable (0 ≤ j ∧ j ≤ 1000000 ∧ i.natAbs < 2 ^ 64))
instance {i j : Int} : Decidable (CMul i j) := inferInstanceAs (Decidable ((-(2 ^ 64) < i ∧ i < 2 ^ 64) ∨ (-(2 ^ 64) < j ∧ j < 2 ^ 64)))
abbrev fSub := fI fun i j => i - j
abbrev fDiv := fIc CDiv fun i j => i / j
abbrev fMod := fIc (fun _ j => 0 < j) fun i j => i % j
abbrev fPow := fIc CPow fun i j => i ^ j.toNat
abbrev fShl := fIc CPow fun i j => i * 2 ^ j.toNat
abbrev fShr := fIc (fun _ j => 0 ≤ j) fun i j => i / 2 ^ j.toNat
abbrev fAnd := fI Builtin.bitAnd
abbrev fOr := fI Builtin.bitOr
abbrev fXor := fI Builtin.bitXor
abbrev fNeg := fU fun i => -i
abbrev fInv := fU fun i => Builtin.bitNot i
abbrev fLt := fB fun i j => decide (i < j)
abbrev fLe := fB fun i j => decide (i ≤ j)
abbrev fGt := fB fun i j => decide (j < i)
abbrev fGe := fB fun i j => decide (j ≤ i)

/-! ### a + b, a * b of any kind -/
def big : Nat := 1000000
theorem big_le {n : Nat} (h : n ≤ big) : n ≤ sizeLine := Nat.le_trans h (by rw [sizeLine_eq]; decide)
theorem big_lt {n : Nat} (h : n < big) : n < sizeLine := Nat.lt_of_lt_of_le h (by rw [sizeLine_eq]; decide)
def fAdd : D → D → Option D
  | .int i, .int j => some (.int (i + j))
  | .tuple xs, .tuple ys => if xs.length + ys.length ≤ big then some (.tuple (xs ++ ys)) else none
  | .list xs, .list ys => if xs.length + ys.length ≤ big then some (.list (xs ++ ys)) else none
  | _, _ => none
def rAdd' (K : PySem.W.Frag) : R2 := fun x y H Q => rI0 (fun i j => .int (i + j)) x y H Q ∨ (rCatA K x y H Q ∨ rCat x y H Q)
theorem op_add' {X : Cx} : OpR X (binaryOp .Add) (rAdd' X.K) := OpR.or op_add (OpR.or op_catA op_cat)
theorem ops_add {q1 q2 : Nat} : OpS K (rAdd' K) fAdd q1 q2 1 := opS_of fun F G H R d1 d2 d v1 v2 Q hd r1 r2 s k => by
  cases r1 with
  | int i =>
    cases r2 <;> cases hd
    exact .inl ⟨_, _, rfl, rfl, k F H _ (Ext.refl F) (s.ofRep (.int _) 1 rfl)⟩
  | tup h1 rl1 =>
    cases r2 <;> try (cases hd; done)
    rename_i a1 xs1 ds1 a2 xs2 ds2 h2 rl2
    unfold fAdd at hd
    simp only at hd
    split at hd
    · rename_i hz
      cases hd
      refine .inr (.inl ⟨_, _, _, _, rfl, rfl, SqT.of (s.ef _ _ h1), SqT.of (s.ef _ _ h2), by rw [rl1.length, rl2.length]; exact big_le hz, fun e => ?_, fun e e2 => ?_, fun _ _ p hp => ?_⟩)
      · subst e
        cases rl1
        exact k F H _ (Ext.refl F) (s.ofRep (.tup h2 rl2) 1 rfl)
      · subst e2
        cases rl2
        refine k F H _ (Ext.refl F) (s.ofRep (.tup h1 ?_) 1 rfl)
        rw [List.append_nil]; exact rl1
      · obtain ⟨F', e, s'⟩ := s.newTup hp (rl1.append rl2) 1
        exact k F' _ _ e s'
    · cases hd
  | lst h1 rl1 =>
    cases r2 <;> try (cases hd; done)
    rename_i a1 xs1 ds1 a2 xs2 ds2 h2 rl2
    unfold fAdd at hd
    simp only at hd
    split at hd
    · rename_i hz
      cases hd
      exact .inr (.inr ⟨_, _, _, _, rfl, rfl, s.ef _ _ h1, s.ef _ _ h2, by rw [rl1.length, rl2.length]; exact big_le hz, fun p hp => k F _ _ (Ext.refl F) (s.newList hp (rl1.append rl2))⟩)
    · cases hd
  | _ => cases hd
def fMul : D → D → Option D
  | .int i, .int j => if CMul i j then some (.int (i * j)) else none
  | .list xs, .int k => if -1000000 ≤ k ∧ k ≤ 1000000 ∧ xs.length * k.toNat ≤ big then some (.list (List.replicate k.toNat xs).flatten) else none
  | _, _ => none
def rMul' : R2 := fun x y H Q => rI CMul (fun i j => .int (i * j)) x y H Q ∨ rRep x y H Q
theorem op_mul' {X : Cx} : OpR X (binaryOp .Mult) rMul' := OpR.or op_mul op_rep
theorem RepL.rep {vs : List V} {ds : List D} (r : RepL K F vs ds) : ∀ n : Nat, RepL K F (List.replicate n vs).flatten (List.replicate n ds).flatten
  | 0 => .nil
  | n + 1 => by
    rw [List.replicate_succ, List.replicate_succ, List.flatten_cons, List.flatten_cons]
    exact r.append (RepL.rep r n)
theorem ops_mul {q1 q2 : Nat} : OpS K rMul' fMul q1 q2 1 := opS_of fun F G H R d1 d2 d v1 v2 Q hd r1 r2 s k => by
  cases r1 with
  | int i =>
    cases r2 <;> try (cases hd; done)
    unfold fMul at hd
    simp only at hd
    split at hd
    · rename_i c
      cases hd
      exact .inl ⟨_, _, rfl, rfl, c, k F H _ (Ext.refl F) (s.ofRep (.int _) 1 rfl)⟩
    · cases hd
  | lst h1 rl1 =>
    cases r2 <;> try (cases hd; done)
    rename_i a1 xs1 ds1 n
    unfold fMul at hd
    simp only at hd
    split at hd
    · rename_i c
      cases hd
      exact .inr ⟨_, _, _, rfl, rfl, s.ef _ _ h1, by omega, by omega, by rw [rl1.length]; exact big_le c.2.2, fun p hp => k F _ _ (Ext.refl F) (s.newList hp (rl1.rep _))⟩
    · cases hd
  | _ => cases hd

/-! ### ==, !=, in, not in -/
def okD (d : D) : Bool := plainD d && SeqAt.shaped d
def fEq : D → D → Option D
  | .int i, .int j => some (.bool (i == j))
  | .bool i, .bool j => some (.bool (i == j))
  | x, y => if okD x = true ∧ okD y = true then some (.bool (PyData.eqv x y)) else none
def fNe (x y : D) : Option D := match fEq x y with
  | some (.bool b) => some (.bool (!b))
  | _ => none
theorem dp_of {d : D} {v : V} (r : Rep K F v d) (h : okD d = true) (e : Ext F H) : Dp K H v d ∧ SeqAt.shaped d = true := by
  obtain ⟨h1, h2⟩ := Bool.and_eq_true_iff.mp h
  exact ⟨(r.ext e).dp h1, h2⟩
theorem okD_int (i : Int) : okD (.int i) = true := by simp [okD, plainD, SeqAt.shaped, PyData.canLay0, PyData.depth]
theorem okD_bool (i : Bool) : okD (.bool i) = true := by simp [okD, plainD, SeqAt.shaped, PyData.canLay0, PyData.depth]
theorem fEq_cases {x y d : D} (h : fEq x y = some d) : okD x = true ∧ okD y = true ∧ d = .bool (PyData.eqv x y) := by
  unfold fEq at h
  split at h
  · cases h; exact ⟨okD_int _, okD_int _, by simp only [PyData.eqv]⟩
  · cases h; exact ⟨okD_bool _, okD_bool _, by simp only [PyData.eqv]⟩
  · split at h
    · rename_i c; cases h; exact ⟨c.1, c.2, rfl⟩
    · cases h
theorem ops_eq {q1 q2 : Nat} : OpS K (rEqD K) fEq q1 q2 9 := opS_of fun F G H R d1 d2 d v1 v2 Q hd r1 r2 s k => by
  obtain ⟨h1, h2, rfl⟩ := fEq_cases hd
  exact ⟨d1, d2, (dp_of r1 h1 s.ef).1, (dp_of r2 h2 s.ef).1, (dp_of r1 h1 s.ef).2, (dp_of r2 h2 s.ef).2, k F H _ (Ext.refl F) (s.ofRep (.bl _) 9 rfl)⟩
theorem ops_ne {q1 q2 : Nat} : OpS K (rNeD K) fNe q1 q2 9 := opS_of fun F G H R d1 d2 d v1 v2 Q hd r1 r2 s k => by
  unfold fNe at hd
  cases e : fEq d1 d2 with
  | none => rw [e] at hd; cases hd
  | some x =>
    obtain ⟨h1, h2, rfl⟩ := fEq_cases e
    rw [e] at hd
    cases hd
    exact ⟨d1, d2, (dp_of r1 h1 s.ef).1, (dp_of r2 h2 s.ef).1, (dp_of r1 h1 s.ef).2, (dp_of r2 h2 s.ef).2, k F H _ (Ext.refl F) (s.ofRep (.bl _) 9 rfl)⟩
def rInS (K : PySem.W.Frag) (neg : Bool) : R2 := fun x y H Q => ∃ d e, Dp K H x d ∧ Dp K H y e ∧ SeqAt.shaped d = true ∧ SeqAt.shaped e = true ∧ ∃ ds, (e = .list ds ∨ e = .tuple ds) ∧ Q (.bl (if neg then !(ds.any fun z => PyData.eqv z d) else ds.any fun z => PyData.eqv z d)) H
theorem op_inS {X : Cx} (hu : X.A.units + 65 < cLine) : OpR X (compareOp .In) (rInS X.K false) := by
  intro pins s σ H x y v u Q I rx ry h
  obtain ⟨d, e, hd, he, sd, se, ds, hh, q⟩ := h
  obtain ⟨as, r1⟩ := Dp.reads I d x v hd rx
  obtain ⟨bs, r2⟩ := Dp.reads I e y u he ry
  rcases hh with rfl | rfl
  · exact SeqAt.in_list_reads r2 r1 (SeqAt.canLay_of_shaped se) (SeqAt.canLay_of_shaped sd) (room_in_shaped sd hu) ⟨.bl _, H, I, rfl, q⟩
  · exact SeqAt.in_tuple_reads r2 r1 (SeqAt.canLay_of_shaped se) (SeqAt.canLay_of_shaped sd) (room_in_shaped sd hu) ⟨.bl _, H, I, rfl, q⟩
theorem op_notInS {X : Cx} (hu : X.A.units + 65 < cLine) : OpR X (compareOp .NotIn) (rInS X.K true) := by
  intro pins s σ H x y v u Q I rx ry h
  obtain ⟨d, e, hd, he, sd, se, ds, hh, q⟩ := h
  obtain ⟨as, r1⟩ := Dp.reads I d x v hd rx
  obtain ⟨bs, r2⟩ := Dp.reads I e y u he ry
  rcases hh with rfl | rfl
  · exact SeqAt.notIn_list_reads r2 r1 (SeqAt.canLay_of_shaped se) (SeqAt.canLay_of_shaped sd) (room_in_shaped sd hu) ⟨.bl _, H, I, rfl, q⟩
  · exact SeqAt.notIn_tuple_reads r2 r1 (SeqAt.canLay_of_shaped se) (SeqAt.canLay_of_shaped sd) (room_in_shaped sd hu) ⟨.bl _, H, I, rfl, q⟩
def fIn (neg : Bool) : D → D → Option D
  | x, .tuple ds => if okD x = true ∧ okD (.tuple ds) = true then some (.bool (if neg then !(ds.any fun z => PyData.eqv z x) else ds.any fun z => PyData.eqv z x)) else none
  | x, .list ds => if okD x = true ∧ okD (.list ds) = true then some (.bool (if neg then !(ds.any fun z => PyData.eqv z x) else ds.any fun z => PyData.eqv z x)) else none
  | _, _ => none
theorem ops_in {neg : Bool} {q1 q2 : Nat} : OpS K (rInS K neg) (fIn neg) q1 q2 9 := opS_of fun F G H R d1 d2 d v1 v2 Q hd r1 r2 s k => by
  unfold fIn at hd
  split at hd
  · split at hd
    · rename_i c
      cases hd
      exact ⟨_, _, (dp_of r1 c.1 s.ef).1, (dp_of r2 c.2 s.ef).1, (dp_of r1 c.1 s.ef).2, (dp_of r2 c.2 s.ef).2, _, .inr rfl, k F H _ (Ext.refl F) (s.ofRep (.bl _) 9 rfl)⟩
    · cases hd
  · split at hd
    · rename_i c
      cases hd
      exact ⟨_, _, (dp_of r1 c.1 s.ef).1, (dp_of r2 c.2 s.ef).1, (dp_of r1 c.1 s.ef).2, (dp_of r2 c.2 s.ef).2, _, .inl rfl, k F H _ (Ext.refl F) (s.ofRep (.bl _) 9 rfl)⟩
    · cases hd
  · cases hd
/-- is None, is not None -/
def fIsN (neg : Bool) (x y : D) : Option D := match y with
  | .none => some (.bool (match x with | .none => !neg | _ => neg))
  | _ => none
theorem ops_isN {q1 q2 : Nat} : OpS K (fun x y H Q => y = .non ∧ Q (.bl (decide (x = .non))) H) (fIsN false) q1 q2 9 := opS_of fun F G H R d1 d2 d v1 v2 Q hd r1 r2 s k => by
  unfold fIsN at hd
  split at hd
  · cases r2
    cases hd
    refine ⟨rfl, k F H _ (Ext.refl F) (s.ofRep ?_ 9 rfl)⟩
    cases r1 <;> exact .bl _
  · cases hd
theorem ops_notN {q1 q2 : Nat} : OpS K (fun x y H Q => y = .non ∧ Q (.bl (!decide (x = .non))) H) (fIsN true) q1 q2 9 := opS_of fun F G H R d1 d2 d v1 v2 Q hd r1 r2 s k => by
  unfold fIsN at hd
  split at hd
  · cases r2
    cases hd
    refine ⟨rfl, k F H _ (Ext.refl F) (s.ofRep ?_ 9 rfl)⟩
    cases r1 <;> exact .bl _
  · cases hd
/-! ### an item -/
def fIx : D → D → Option D
  | .tuple ds, .int i => atI ds i
  | .list ds, .int i => atI ds i
  | _, _ => none
theorem RepL.atI {vs : List V} {ds : List D} {i : Int} {d : D} (r : RepL K F vs ds) (h : atI ds i = some d) : ∃ v, L2.atI vs i = some v ∧ Rep K F v d := by
  unfold L2.atI at h ⊢
  rw [r.length]
  cases e : ixN ds.length i with
  | none => rw [e] at h; cases h
  | some j => rw [e] at h; exact r.get h
theorem ops_ix {q1 q2 : Nat} : OpS K (rIx K) fIx q1 q2 0 := opS_of fun F G H R d1 d2 d v1 v2 Q hd r1 r2 s k => by
  cases r1 with
  | tup h1 rl1 =>
    cases r2 <;> try (cases hd; done)
    obtain ⟨v, hv, rv⟩ := rl1.atI hd
    exact .inr (.inl ⟨_, _, _, v, rfl, rfl, SqT.of (s.ef _ _ h1), hv, k F H v (Ext.refl F) (s.ofRep0 rv)⟩)
  | lst h1 rl1 =>
    cases r2 <;> try (cases hd; done)
    obtain ⟨v, hv, rv⟩ := rl1.atI hd
    exact .inl ⟨_, _, _, v, rfl, rfl, SqL.of (s.ef _ _ h1), hv, k F H v (Ext.refl F) (s.ofRep0 rv)⟩
  | _ => cases hd
end

/-! ### the rules with their operators -/
section
variable {X : Cx} {W : WX} {Γ Γ1 Γ2 Γ3 : List Nat} {q1 q2 q3 : Nat} {a b c : Expr} {ma mb mc : M D} {pos : Pos}
theorem e_add (ha : SE X W Γ a ma Γ1 q1) (hb : SE X W Γ1 b mb Γ2 q2) : SE X W Γ (.BinOp a .Add b pos) (m2 fAdd ma mb) Γ2 1 := se_op op_add' ops_add ha hb
theorem e_sub (ha : SE X W Γ a ma Γ1 q1) (hb : SE X W Γ1 b mb Γ2 q2) : SE X W Γ (.BinOp a .Sub b pos) (m2 fSub ma mb) Γ2 9 := se_op op_sub ops_I ha hb
theorem e_mul (ha : SE X W Γ a ma Γ1 q1) (hb : SE X W Γ1 b mb Γ2 q2) : SE X W Γ (.BinOp a .Mult b pos) (m2 fMul ma mb) Γ2 1 := se_op op_mul' ops_mul ha hb
theorem e_div (ha : SE X W Γ a ma Γ1 q1) (hb : SE X W Γ1 b mb Γ2 q2) : SE X W Γ (.BinOp a .FloorDiv b pos) (m2 fDiv ma mb) Γ2 9 := se_op op_fdiv ops_Ic ha hb
theorem e_mod (ha : SE X W Γ a ma Γ1 q1) (hb : SE X W Γ1 b mb Γ2 q2) : SE X W Γ (.BinOp a .Mod b pos) (m2 fMod ma mb) Γ2 9 := se_op op_mod ops_Ic ha hb
theorem e_pow (ha : SE X W Γ a ma Γ1 q1) (hb : SE X W Γ1 b mb Γ2 q2) : SE X W Γ (.BinOp a .Pow b pos) (m2 fPow ma mb) Γ2 9 := se_op op_pow ops_Ic ha hb
theorem e_shl (ha : SE X W Γ a ma Γ1 q1) (hb : SE X W Γ1 b mb Γ2 q2) : SE X W Γ (.BinOp a .LShift b pos) (m2 fShl ma mb) Γ2 9 := se_op op_shl ops_Ic ha hb
theorem e_shr (ha : SE X W Γ a ma Γ1 q1) (hb : SE X W Γ1 b mb Γ2 q2) : SE X W Γ (.BinOp a .RShift b pos) (m2 fShr ma mb) Γ2 9 := se_op op_shr ops_Ic ha hb
theorem e_and (ha : SE X W Γ a ma Γ1 q1) (hb : SE X W Γ1 b mb Γ2 q2) : SE X W Γ (.BinOp a .BitAnd b pos) (m2 fAnd ma mb) Γ2 9 := se_op op_and ops_I ha hb
theorem e_or (ha : SE X W Γ a ma Γ1 q1) (hb : SE X W Γ1 b mb Γ2 q2) : SE X W Γ (.BinOp a .BitOr b pos) (m2 fOr ma mb) Γ2 9 := se_op op_or ops_I ha hb
theorem e_xor (ha : SE X W Γ a ma Γ1 q1) (hb : SE X W Γ1 b mb Γ2 q2) : SE X W Γ (.BinOp a .BitXor b pos) (m2 fXor ma mb) Γ2 9 := se_op op_xor ops_I ha hb
theorem e_neg (ha : SE X W Γ a ma Γ1 q1) : SE X W Γ (.UnaryOp .USub a pos) (m1 fNeg ma) Γ1 9 := se_un un_neg ops_U ha
theorem e_inv (ha : SE X W Γ a ma Γ1 q1) : SE X W Γ (.UnaryOp .Invert a pos) (m1 fInv ma) Γ1 9 := se_un un_inv ops_U ha
theorem e_eq (hu : X.A.units + 64 < cLine) (ha : SE X W Γ a ma Γ1 q1) (hb : SE X W Γ1 b mb Γ2 q2) : SE X W Γ (.Compare a [.Eq] [b] pos) (m2 fEq ma mb) Γ2 9 := se_cmp (op_eqD hu) ops_eq ha hb (nomark b)
theorem e_ne (hu : X.A.units + 64 < cLine) (ha : SE X W Γ a ma Γ1 q1) (hb : SE X W Γ1 b mb Γ2 q2) : SE X W Γ (.Compare a [.NotEq] [b] pos) (m2 fNe ma mb) Γ2 9 := se_cmp (op_neD hu) ops_ne ha hb (nomark b)
theorem e_lt (ha : SE X W Γ a ma Γ1 q1) (hb : SE X W Γ1 b mb Γ2 q2) : SE X W Γ (.Compare a [.Lt] [b] pos) (m2 fLt ma mb) Γ2 9 := se_cmp op_lt ops_B ha hb (nomark b)
theorem e_le (ha : SE X W Γ a ma Γ1 q1) (hb : SE X W Γ1 b mb Γ2 q2) : SE X W Γ (.Compare a [.LtE] [b] pos) (m2 fLe ma mb) Γ2 9 := se_cmp op_le ops_B ha hb (nomark b)
theorem e_gt (ha : SE X W Γ a ma Γ1 q1) (hb : SE X W Γ1 b mb Γ2 q2) : SE X W Γ (.Compare a [.Gt] [b] pos) (m2 fGt ma mb) Γ2 9 := se_cmp op_gt ops_B ha hb (nomark b)
theorem e_ge (ha : SE X W Γ a ma Γ1 q1) (hb : SE X W Γ1 b mb Γ2 q2) : SE X W Γ (.Compare a [.GtE] [b] pos) (m2 fGe ma mb) Γ2 9 := se_cmp op_ge ops_B ha hb (nomark b)
theorem e_isN (ha : SE X W Γ a ma Γ1 q1) (hb : SE X W Γ1 b mb Γ2 q2) : SE X W Γ (.Compare a [.Is] [b] pos) (m2 (fIsN false) ma mb) Γ2 9 := se_cmp op_isN ops_isN ha hb (nomark b)
theorem e_notN (ha : SE X W Γ a ma Γ1 q1) (hb : SE X W Γ1 b mb Γ2 q2) : SE X W Γ (.Compare a [.IsNot] [b] pos) (m2 (fIsN true) ma mb) Γ2 9 := se_cmp op_notN ops_notN ha hb (nomark b)
theorem e_in (hu : X.A.units + 65 < cLine) (ha : SE X W Γ a ma Γ1 q1) (hb : SE X W Γ1 b mb Γ2 q2) (hm : behindInMarks .In b = false) : SE X W Γ (.Compare a [.In] [b] pos) (m2 (fIn false) ma mb) Γ2 9 := se_cmp (op_inS hu) ops_in ha hb hm
theorem e_notin (hu : X.A.units + 65 < cLine) (ha : SE X W Γ a ma Γ1 q1) (hb : SE X W Γ1 b mb Γ2 q2) (hm : behindInMarks .NotIn b = false) : SE X W Γ (.Compare a [.NotIn] [b] pos) (m2 (fIn true) ma mb) Γ2 9 := se_cmp (op_notInS hu) ops_in ha hb hm
theorem t_eq (hu : X.A.units + 64 < cLine) (ha : SE X W Γ a ma Γ1 q1) (hb : SE X W Γ1 b mb Γ2 q2) : ST X W Γ (.Compare a [.Eq] [b] pos) (mTB (m2 fEq ma mb)) Γ2 := st_cmp (op_eqD hu) ops_eq ha hb (nomark b)
theorem t_ne (hu : X.A.units + 64 < cLine) (ha : SE X W Γ a ma Γ1 q1) (hb : SE X W Γ1 b mb Γ2 q2) : ST X W Γ (.Compare a [.NotEq] [b] pos) (mTB (m2 fNe ma mb)) Γ2 := st_cmp (op_neD hu) ops_ne ha hb (nomark b)
theorem t_lt (ha : SE X W Γ a ma Γ1 q1) (hb : SE X W Γ1 b mb Γ2 q2) : ST X W Γ (.Compare a [.Lt] [b] pos) (mTB (m2 fLt ma mb)) Γ2 := st_cmp op_lt ops_B ha hb (nomark b)
theorem t_le (ha : SE X W Γ a ma Γ1 q1) (hb : SE X W Γ1 b mb Γ2 q2) : ST X W Γ (.Compare a [.LtE] [b] pos) (mTB (m2 fLe ma mb)) Γ2 := st_cmp op_le ops_B ha hb (nomark b)
theorem t_gt (ha : SE X W Γ a ma Γ1 q1) (hb : SE X W Γ1 b mb Γ2 q2) : ST X W Γ (.Compare a [.Gt] [b] pos) (mTB (m2 fGt ma mb)) Γ2 := st_cmp op_gt ops_B ha hb (nomark b)
theorem t_ge (ha : SE X W Γ a ma Γ1 q1) (hb : SE X W Γ1 b mb Γ2 q2) : ST X W Γ (.Compare a [.GtE] [b] pos) (mTB (m2 fGe ma mb)) Γ2 := st_cmp op_ge ops_B ha hb (nomark b)
theorem t_isN (ha : SE X W Γ a ma Γ1 q1) (hb : SE X W Γ1 b mb Γ2 q2) : ST X W Γ (.Compare a [.Is] [b] pos) (mTB (m2 (fIsN false) ma mb)) Γ2 := st_cmp op_isN ops_isN ha hb (nomark b)
theorem t_notN (ha : SE X W Γ a ma Γ1 q1) (hb : SE X W Γ1 b mb Γ2 q2) : ST X W Γ (.Compare a [.IsNot] [b] pos) (mTB (m2 (fIsN true) ma mb)) Γ2 := st_cmp op_notN ops_notN ha hb (nomark b)
theorem t_in (hu : X.A.units + 65 < cLine) (ha : SE X W Γ a ma Γ1 q1) (hb : SE X W Γ1 b mb Γ2 q2) (hm : behindInMarks .In b = false) : ST X W Γ (.Compare a [.In] [b] pos) (mTB (m2 (fIn false) ma mb)) Γ2 := st_cmp (op_inS hu) ops_in ha hb hm
theorem t_notin (hu : X.A.units + 65 < cLine) (ha : SE X W Γ a ma Γ1 q1) (hb : SE X W Γ1 b mb Γ2 q2) (hm : behindInMarks .NotIn b = false) : ST X W Γ (.Compare a [.NotIn] [b] pos) (mTB (m2 (fIn true) ma mb)) Γ2 := st_cmp (op_notInS hu) ops_in ha hb hm
theorem e_ix (ha : SE X W Γ a ma Γ1 q1) (hb : SE X W Γ1 b mb Γ2 q2) (hs : PlainIx b) : SE X W Γ (.Subscript a b pos) (m2 fIx ma mb) Γ2 0 := se_ix ix_seq ops_ix ha hb hs
end
end Mir

set_option Elab.async false
set_option linter.all false
set_option maxRecDepth 100000
set_option maxHeartbeats 4000000
namespace Mir
open PySem PySem.Spec PyProof.Rows L2

section
variable {X : Cx} {W : WX} {Γ Γ1 Γ2 Γ3 : List Nat} {q q1 q2 q3 : Nat} {a b c e : Expr} {es : List Expr} {ma mb mc : M D} {pos p : Pos} {F G H : Hp} {σ : L2.St} {qs : List Nat}
/-! ### written items -/
def mNil : M (List D) := fun ρ => .ok [] ρ
def mCons (a : M D) (r : M (List D)) : M (List D) := fun ρ => (a ρ).bind fun d ρ => (r ρ).bind fun ds ρ => .ok (d :: ds) ρ
theorem OwnA.ext {K : PySem.W.Frag} {F F' : Hp} (f : Ext F F') : ∀ {qs : List Nat} {ds : List D} {vs : List V} {h : Hp}, OwnA K F qs ds vs h → OwnA K F' qs ds vs h
  | _ :: _, _ :: _, _ :: _, _, x => star_mono x (fun _ y => Own.ext f y) fun _ y => OwnA.ext f y
  | [], [], [], _, x => x
  | [], _ :: _, _, _, x => x.elim
  | [], [], _ :: _, _, x => x.elim
  | _ :: _, [], _, _, x => x.elim
  | _ :: _, _ :: _, [], _, x => x.elim
theorem a_nil : SA X W Γ [] mNil Γ [] := (pa_nil).imp fun σ H Q ⟨F, G, ρ, s, o⟩ => o F H [] (Ext.refl F) s.emp
theorem a_cons {mr : M (List D)} (ha : SE X W Γ e ma Γ1 q) (hr : SA X W Γ1 es mr Γ2 qs) (hs : starEach (e :: es) X.env = (false, eval e X.env) :: starEach es X.env) : SA X W Γ (e :: es) (mCons ma mr) Γ2 (q :: qs) :=
  (pa_cons ha hr hs).imp fun σ H Q ⟨F, G, ρ, s, o⟩ => by
    refine ⟨F, G, ρ, s, Out.bind o fun d1 ρ1 o1 F1 H1 v1 e1 s1 => ?_⟩
    obtain ⟨hR, hr, s2, dj⟩ := s1.comm.stash
    refine ⟨F1, hjoin G hR, ρ1, s2, Out.bindS e1 dj o1 fun ds ρ2 o2 F2 H2 vs e2 s3 => ?_⟩
    have s4 := (s3.unstash dj).comm.head (P' := Own X.K F2 q d1 v1) fun _ x => by subst x; exact hr.ext e2
    exact o2 F2 H2 (v1 :: vs) (e1.trans e2) s4.assoc'
theorem Sat.freezeA {K : PySem.W.Frag} : ∀ {qs : List Nat} {ds : List D} {vs : List V} {F : Hp} {R : Asr}, Sat F G H (star (OwnA K F qs ds vs) R) → ∃ F', Ext F F' ∧ RepL K F' vs ds ∧ Sat F' G H R
  | _ :: qs, d :: ds, v :: vs, F, R, s => by
    obtain ⟨F1, e1, r1, s1⟩ := s.assoc.freeze
    obtain ⟨F2, e2, r2, s2⟩ := Sat.freezeA (s1.head fun _ x => OwnA.ext e1 x)
    exact ⟨F2, e1.trans e2, .cons (r1.ext e2) r2, s2⟩
  | [], [], [], F, R, s => ⟨F, Ext.refl F, .nil, s.mono fun _ => star_emp⟩
  | [], _ :: _, _, F, R, s => by obtain ⟨⟨h, ⟨_, _, _, x, _⟩, _⟩, _⟩ := s; exact x.elim
  | [], [], _ :: _, F, R, s => by obtain ⟨⟨h, ⟨_, _, _, x, _⟩, _⟩, _⟩ := s; exact x.elim
  | _ :: _, [], _, F, R, s => by obtain ⟨⟨h, ⟨_, _, _, x, _⟩, _⟩, _⟩ := s; exact x.elim
  | _ :: _, _ :: _, [], F, R, s => by obtain ⟨⟨h, ⟨_, _, _, x, _⟩, _⟩, _⟩ := s; exact x.elim
theorem Sat.lowerA {K : PySem.W.Frag} {n : Nat} : ∀ {qs : List Nat} {ds : List D} {vs : List V} {F : Hp} {R : Asr}, qs.all (fun q => decide (n ≤ q)) = true → Sat F G H (star (OwnA K F qs ds vs) R) → ∃ F', Ext F F' ∧ Sat F' G H (star (OwnL (Own K F' n) ds vs) R)
  | q :: qs, d :: ds, v :: vs, F, R, hq, s => by
    obtain ⟨h1, h2⟩ : n ≤ q ∧ qs.all (fun q => decide (n ≤ q)) = true := by simpa using hq
    obtain ⟨F1, e1, s1⟩ := s.assoc.lower h1
    obtain ⟨F2, e2, s2⟩ := Sat.lowerA h2 (s1.left.head fun _ x => OwnA.ext e1 x)
    exact ⟨F2, e1.trans e2, (s2.left.head fun _ x => Own.ext e2 x).assoc'⟩
  | [], [], [], F, R, _, s => ⟨F, Ext.refl F, s⟩
  | [], _ :: _, _, F, R, _, s => by obtain ⟨⟨h, ⟨_, _, _, x, _⟩, _⟩, _⟩ := s; exact x.elim
  | [], [], _ :: _, F, R, _, s => by obtain ⟨⟨h, ⟨_, _, _, x, _⟩, _⟩, _⟩ := s; exact x.elim
  | _ :: _, [], _, F, R, _, s => by obtain ⟨⟨h, ⟨_, _, _, x, _⟩, _⟩, _⟩ := s; exact x.elim
  | _ :: _, _ :: _, [], F, R, _, s => by obtain ⟨⟨h, ⟨_, _, _, x, _⟩, _⟩, _⟩ := s; exact x.elim
theorem OwnA.len {K : PySem.W.Frag} {F : Hp} : ∀ {qs : List Nat} {ds : List D} {vs : List V} {h : Hp}, OwnA K F qs ds vs h → qs.length = ds.length ∧ vs.length = ds.length
  | _ :: _, _ :: _, _ :: _, _, ⟨_, _, _, _, y⟩ => ⟨congrArg (· + 1) (OwnA.len y).1, congrArg (· + 1) (OwnA.len y).2⟩
  | [], [], [], _, x => ⟨rfl, rfl⟩
  | [], _ :: _, _, _, x => x.elim
  | [], [], _ :: _, _, x => x.elim
  | _ :: _, [], _, _, x => x.elim
  | _ :: _, _ :: _, [], _, x => x.elim
theorem Sat.lenA {K : PySem.W.Frag} {qs : List Nat} {ds : List D} {vs : List V} {R : Asr} (s : Sat F G H (star (OwnA K F qs ds vs) R)) : qs.length = ds.length ∧ vs.length = ds.length := by
  obtain ⟨⟨h, ⟨_, _, _, x, _⟩, _⟩, _⟩ := s
  exact x.len
def mTup (m : M (List D)) : M D := fun ρ => (m ρ).bind fun ds ρ => .ok (.tuple ds) ρ
def mLst (m : M (List D)) : M D := fun ρ => (m ρ).bind fun ds ρ => .ok (.list ds) ρ
theorem e_tup {m : M (List D)} {x1 : Nat} (h : SA X W Γ es m Γ1 qs) (hl : qs.length ≤ 1000) : SE X W Γ (.Tuple es x1 pos) (mTup m) Γ1 9 :=
  (pe_tup h).imp fun σ H Q ⟨F, G, ρ, s, o⟩ => by
    refine ⟨F, G, ρ, s, Out.bind o fun ds ρ1 o1 F1 H1 vs e1 s1 => ?_⟩
    have hz := s1.lenA
    refine ⟨big_le (by unfold big; omega), fun p hp => ?_⟩
    obtain ⟨F2, e2, r, s2⟩ := s1.freezeA
    obtain ⟨F3, e3, s3⟩ := s2.newTup hp r 9
    exact o1 F3 _ _ ((e1.trans e2).trans e3) (s3.tail fun _ => slots_ext (e2.trans e3))
theorem e_lst {m : M (List D)} (n : Nat) (h : SA X W Γ es m Γ1 qs) (hl : qs.length ≤ 1000) (hq : qs.all (fun q => decide (n ≤ q)) = true) : SE X W Γ (.List es pos) (mLst m) Γ1 (n + 1) :=
  (pe_lst h).imp fun σ H Q ⟨F, G, ρ, s, o⟩ => by
    refine ⟨F, G, ρ, s, Out.bind o fun ds ρ1 o1 F1 H1 vs e1 s1 => ?_⟩
    have hz := s1.lenA
    refine ⟨big_le (by unfold big; omega), fun p hp => ?_⟩
    obtain ⟨F2, e2, s2⟩ := s1.lowerA hq
    exact o1 F2 _ _ (e1.trans e2) ((s2.newO hp).close.tail fun _ => slots_ext e2)
/-! ### if .. else, and, or, not as values -/
def mIf (t : M Bool) (a b : M D) : M D := fun ρ => (t ρ).bind fun c ρ => if c = true then a ρ else b ρ
variable {ta : M Bool} {c' : Expr} {qa qb : Nat} {Γa Γb : List Nat}
theorem Sat.weak {K : PySem.W.Frag} {F : Hp} {d : D} {v : V} {ρ : Env} {Γ Γ' : List Nat} {q q' : Nat} (s : Sat F G H (star (Own K F q d v) (slots K F Γ ρ σ))) (hq : q' ≤ q) (hl : leB Γ' Γ = true) : ∃ F', Ext F F' ∧ Sat F' G H (star (Own K F' q' d v) (slots K F' Γ' ρ σ)) := by
  obtain ⟨F1, e1, s1⟩ := s.lower hq
  obtain ⟨F2, e2, s2⟩ := Sat.lowerS hl (s1.comm.head fun _ => slots_ext e1)
  exact ⟨F2, e1.trans e2, (s2.comm.head fun _ => Own.ext e2)⟩
theorem e_if (ht : ST X W Γ c ta Γ1) (ha : SE X W Γ1 a ma Γa qa) (hb : SE X W Γ1 b mb Γb qb) (Γ2 : List Nat) (q : Nat) (h1 : leB Γ2 Γa = true) (h2 : leB Γ2 Γb = true) (h3 : q ≤ qa) (h4 : q ≤ qb) : SE X W Γ (.IfExp c a b pos) (mIf ta ma mb) Γ2 q :=
  (pe_ifExp ht ha hb).imp fun σ H Q ⟨F, G, ρ, s, o⟩ => by
    refine ⟨F, G, ρ, s, Out.bind o fun c ρ1 o1 F1 H1 e1 s1 => ?_⟩
    cases c with
    | true => exact ⟨F1, G, ρ1, s1, Out.mv e1 o1 fun d ρ2 k F2 H2 v e2 s2 => let ⟨F3, e3, s3⟩ := s2.weak h3 h1; k F3 H2 v ((e1.trans e2).trans e3) s3⟩
    | false => exact ⟨F1, G, ρ1, s1, Out.mv e1 o1 fun d ρ2 k F2 H2 v e2 s2 => let ⟨F3, e3, s3⟩ := s2.weak h4 h2; k F3 H2 v ((e1.trans e2).trans e3) s3⟩
def mAndV (a b : M D) : M D := fun ρ => (a ρ).bind fun d ρ => (Rs.lift (boolD d) ρ).bind fun c ρ => if c = true then b ρ else .ok (.bool false) ρ
def mOrV (a b : M D) : M D := fun ρ => (a ρ).bind fun d ρ => (Rs.lift (boolD d) ρ).bind fun c ρ => if c = true then .ok (.bool true) ρ else b ρ
def mNotV (a : M D) : M D := fun ρ => (a ρ).bind fun d ρ => (Rs.lift (boolD d) ρ).bind fun c ρ => .ok (.bool (!c)) ρ
variable {rest : List Expr}
theorem v_one {op : BoolOp} (ha : SE X W Γ a ma Γ1 q) : SE X W Γ (.BoolOp op [a] pos) ma Γ1 q := pe_one ha
theorem boolD_some {d : D} {c : Bool} (h : boolD d = some c) : d = .bool c := by
  cases d <;> first | (cases h; rfl) | cases h
theorem v_and (ha : SE X W Γ a ma Γ1 q1) (hb : SE X W Γ1 (.BoolOp .And (b :: rest) pos) mb Γ2 q2) (hl : leB Γ2 Γ1 = true) : SE X W Γ (.BoolOp .And (a :: b :: rest) pos) (mAndV ma mb) Γ2 q2 :=
  (pe_and ha hb).imp fun σ H Q ⟨F, G, ρ, s, o⟩ => by
    refine ⟨F, G, ρ, s, Out.bind o fun d ρ1 o1 F1 H1 v e1 s1 => ?_⟩
    obtain ⟨c, hc, o2⟩ := Out.lift (Out.bind (k' := fun c ρ => Out X W F G σ (if c = true then mb ρ else .ok (.bool false) ρ) _) o1 fun _ _ x => x)
    cases boolD_some hc
    obtain ⟨r, s2⟩ := s1.flat rfl
    cases r
    refine ⟨c, rfl, ?_⟩
    cases c with
    | true => exact ⟨F1, G, ρ1, s2, Out.mv e1 o2 fun d ρ2 k F2 H2 v e2 s3 => k F2 H2 v (e1.trans e2) s3⟩
    | false =>
      obtain ⟨F2, e2, s3⟩ := sat_low s2 hl
      exact o2 F2 H1 _ (e1.trans e2) (s3.ofRep (.bl _) _ rfl)
theorem v_or (ha : SE X W Γ a ma Γ1 q1) (hb : SE X W Γ1 (.BoolOp .Or (b :: rest) pos) mb Γ2 q2) (hl : leB Γ2 Γ1 = true) : SE X W Γ (.BoolOp .Or (a :: b :: rest) pos) (mOrV ma mb) Γ2 q2 :=
  (pe_or ha hb).imp fun σ H Q ⟨F, G, ρ, s, o⟩ => by
    refine ⟨F, G, ρ, s, Out.bind o fun d ρ1 o1 F1 H1 v e1 s1 => ?_⟩
    obtain ⟨c, hc, o2⟩ := Out.lift (Out.bind (k' := fun c ρ => Out X W F G σ (if c = true then .ok (.bool true) ρ else mb ρ) _) o1 fun _ _ x => x)
    cases boolD_some hc
    obtain ⟨r, s2⟩ := s1.flat rfl
    cases r
    refine ⟨c, rfl, ?_⟩
    cases c with
    | false => exact ⟨F1, G, ρ1, s2, Out.mv e1 o2 fun d ρ2 k F2 H2 v e2 s3 => k F2 H2 v (e1.trans e2) s3⟩
    | true =>
      obtain ⟨F2, e2, s3⟩ := sat_low s2 hl
      exact o2 F2 H1 _ (e1.trans e2) (s3.ofRep (.bl _) _ rfl)
theorem v_not (ha : SE X W Γ a ma Γ1 q1) : SE X W Γ (.UnaryOp .Not a pos) (mNotV ma) Γ1 9 :=
  (pe_not ha).imp fun σ H Q ⟨F, G, ρ, s, o⟩ => by
    refine ⟨F, G, ρ, s, Out.bind o fun d ρ1 o1 F1 H1 v e1 s1 => ?_⟩
    obtain ⟨c, hc, o2⟩ := Out.lift (Out.bind (k' := fun c ρ => Out X W F G σ (Rs.ok (α := D) (PyData.bool (!c)) ρ) _) o1 fun _ _ x => x)
    cases boolD_some hc
    obtain ⟨r, s2⟩ := s1.flat rfl
    cases r
    exact ⟨c, rfl, o2 F1 H1 _ e1 (s2.ofRep (.bl _) _ rfl)⟩
/-! ### a < b < c -/
def mChain (f g : D → D → Option D) (a b c : M D) : M D := fun ρ => (a ρ).bind fun x ρ => (b ρ).bind fun y ρ => (Rs.lift (f x y) ρ).bind fun z ρ => (Rs.lift (boolD z) ρ).bind fun k ρ =>
  if k = true then (c ρ).bind fun w ρ => .lift (g y w) ρ else .ok (.bool false) ρ
theorem chain_sound {f g : D → D → Option D} {r r' : R2} {q' : Nat} (hf : OpS X.K r f 0 0 9) (hg : OpS X.K r' g 0 q3 9) {Q : VK} (hl : leB Γ3 Γ2 = true) (h : tE X W Γ (mChain f g ma mb mc) Γ3 9 σ H Q) :
    tChain r r' (tE X W Γ ma Γ1 q1) (tE X W Γ1 mb Γ2 q2) (tE X W Γ2 mc Γ3 q3) σ H Q := by
  obtain ⟨F, G, ρ, s, o⟩ := h
  refine ⟨F, G, ρ, s, Out.bind o fun d1 ρ1 o1 F1 H1 v1 e1 s1 => ?_⟩
  obtain ⟨F1', e1', r1, s1'⟩ := s1.freeze
  refine ⟨F1', G, ρ1, s1'.mono fun _ => slots_ext e1', Out.bindE (e1.trans e1') o1 fun d2 ρ2 o2 F2 H2 v2 e2 s2 => ?_⟩
  obtain ⟨F2', e2', r2, s2'⟩ := s2.freeze
  obtain ⟨z, hz, o3⟩ := Out.lift (Out.bind (k' := fun z ρ => Out X W F G σ ((Rs.lift (boolD z) ρ).bind fun k ρ => if k = true then (mc ρ).bind fun w ρ => .lift (g d2 w) ρ else .ok (.bool false) ρ) _) o2 fun _ _ x => x)
  obtain ⟨k, hk, o4⟩ := Out.lift (Out.bind (k' := fun k ρ => Out X W F G σ (if k = true then (mc ρ).bind fun w ρ => .lift (g d2 w) ρ else .ok (.bool false) ρ) _) o3 fun _ _ x => x)
  cases boolD_some hk
  have s3 := (s2'.mono fun _ => slots_ext e2').ofRep0 r2
  have s4 := s3.ofRep0 (r1.ext (e2.trans e2'))
  refine hf.run hz s4 fun F3 H3 v e3 s5 => ?_
  obtain ⟨rk, s6⟩ := s5.flat rfl
  cases rk
  refine ⟨k, rfl, ?_⟩
  have ee := ((e1.trans e1').trans (e2.trans e2')).trans e3
  have s7 := s6.mono fun _ => slots_ext e3
  cases k with
  | false =>
    obtain ⟨F4, e4, s8⟩ := sat_low s7 hl
    exact o4 F4 H3 _ (ee.trans e4) (s8.ofRep (.bl _) _ rfl)
  | true =>
    refine ⟨F3, G, ρ2, s7, Out.bindE ee o4 fun d3 ρ3 o5 F4 H4 v3 e4 s8 => ?_⟩
    obtain ⟨d, hd, kk⟩ := o5.lift
    exact hg.run hd (s8.ofRep0 ((r2.ext e3).ext e4)) fun F5 H5 v e5 s9 => kk F5 H5 v ((ee.trans e4).trans e5) (s9.tail fun _ => slots_ext e5)
theorem e_chain {f g : D → D → Option D} {r r' : R2} {op op' : CmpOp} (ho : OpR X (compareOp op) r) (ho' : OpR X (compareOp op') r') (hf : OpS X.K r f 0 0 9) (hg : OpS X.K r' g 0 q3 9) (ha : SE X W Γ a ma Γ1 q1) (hb : SE X W Γ1 b mb Γ2 q2) (hc : SE X W Γ2 c mc Γ3 q3)
    (hl : leB Γ3 Γ2 = true) (hm : lastMarks [op, op'] [b, c] = false) : SE X W Γ (.Compare a [op, op'] [b, c] pos) (mChain f g ma mb mc) Γ3 9 :=
  (pe_chain ho ho' ha hb hc hm).imp fun _ _ _ h => chain_sound (q' := 0) hf hg hl h
theorem t_chain {f g : D → D → Option D} {r r' : R2} {op op' : CmpOp} (ho : OpR X (compareOp op) r) (ho' : OpR X (compareOp op') r') (hf : OpS X.K r f 0 0 9) (hg : OpS X.K r' g 0 q3 9) (ha : SE X W Γ a ma Γ1 q1) (hb : SE X W Γ1 b mb Γ2 q2) (hc : SE X W Γ2 c mc Γ3 q3)
    (hl : leB Γ3 Γ2 = true) (hm : lastMarks [op, op'] [b, c] = false) : ST X W Γ (.Compare a [op, op'] [b, c] pos) (mTB (mChain f g ma mb mc)) Γ3 :=
  (pt_chain ho ho' ha hb hc hm).imp fun _ _ _ h => chain_sound (q' := 0) hf hg hl (tb_sound h)

/-! ### built-in calls of one, of two arguments -/
structure OpC1 (K : PySem.W.Frag) (r : List V → Hp → VK → Prop) (f : D → Option D) (q1 q : Nat) : Prop where
  run : ∀ {F G H : Hp} {R : Asr} {d1 d : D} {v1 : V} {Q : VK}, f d1 = some d → Sat F G H (star (Own K F q1 d1 v1) R) → (∀ F' H' v, Ext F F' → Sat F' G H' (star (Own K F' q d v) R) → Q v H') → r [v1] H Q
theorem c1_sound {f : D → Option D} {r : List V → Hp → VK → Prop} {ma : M D} (hf : OpC1 X.K r f q1 q) {Q : VK} (h : tE X W Γ (m1 f ma) Γ1 q σ H Q) : tCB r (tCons (tE X W Γ ma Γ1 q1) tNil) σ H Q := by
  obtain ⟨F, G, ρ, s, o⟩ := h
  refine ⟨F, G, ρ, s, Out.bind o fun d1 ρ1 o1 F1 H1 v1 e1 s1 => ?_⟩
  obtain ⟨d, hd, k⟩ := o1.lift
  exact hf.run hd s1 fun F3 H3 v e3 s5 => k F3 H3 v (e1.trans e3) (s5.tail fun _ => slots_ext e3)
structure OpC2 (K : PySem.W.Frag) (r : List V → Hp → VK → Prop) (f : D → D → Option D) (q1 q2 q : Nat) : Prop where
  run : ∀ {F G H : Hp} {R : Asr} {d1 d2 d : D} {v1 v2 : V} {Q : VK}, f d1 d2 = some d → Sat F G H (star (Own K F q1 d1 v1) (star (Own K F q2 d2 v2) R)) → (∀ F' H' v, Ext F F' → Sat F' G H' (star (Own K F' q d v) R) → Q v H') → r [v1, v2] H Q
theorem c2_sound {f : D → D → Option D} {r : List V → Hp → VK → Prop} {ma mb : M D} (hf : OpC2 X.K r f q1 q2 q) {Q : VK} (h : tE X W Γ (m2 f ma mb) Γ2 q σ H Q) : tCB r (tCons (tE X W Γ ma Γ1 q1) (tCons (tE X W Γ1 mb Γ2 q2) tNil)) σ H Q :=
  t2_sound (r := fun v1 v2 H Q => r [v1, v2] H Q) ⟨fun hd s k => hf.run hd s k⟩ h
variable {K : PySem.W.Frag}
theorem opC1_of {r : List V → Hp → VK → Prop} {f : D → Option D} {q1 q : Nat} (h : ∀ (F G H : Hp) (R : Asr) (d1 d : D) (v1 : V) (Q : VK), f d1 = some d → Rep K F v1 d1 →
    Sat F G H R → (∀ F' H' v, Ext F F' → Sat F' G H' (star (Own K F' q d v) R) → Q v H') → r [v1] H Q) : OpC1 K r f q1 q := ⟨fun {F G H R d1 d v1 Q} hd s k => by
  obtain ⟨F1, e1, r1, s1⟩ := s.freeze
  exact h _ _ _ _ _ _ _ _ hd r1 s1 fun F' H' v e s' => k F' H' v (e1.trans e) s'⟩
theorem opC2_of {r : List V → Hp → VK → Prop} {f : D → D → Option D} {q1 q2 q : Nat} (h : ∀ (F G H : Hp) (R : Asr) (d1 d2 d : D) (v1 v2 : V) (Q : VK), f d1 d2 = some d → Rep K F v1 d1 → Rep K F v2 d2 →
    Sat F G H R → (∀ F' H' v, Ext F F' → Sat F' G H' (star (Own K F' q d v) R) → Q v H') → r [v1, v2] H Q) : OpC2 K r f q1 q2 q := ⟨fun {F G H R d1 d2 d v1 v2 Q} hd s k => by
  obtain ⟨F1, e1, r1, s1⟩ := s.freeze
  obtain ⟨F2, e2, r2, s2⟩ := (s1.head fun _ x => Own.ext e1 x).freeze
  exact h _ _ _ _ _ _ _ _ _ _ hd (r1.ext e2) r2 s2 fun F' H' v e s' => k F' H' v ((e1.trans e2).trans e) s'⟩
def itemsD : D → Option (List D)
  | .list ds => some ds
  | .tuple ds => some ds
  | _ => none
theorem items_rep {F : Hp} {v : V} {d : D} {ds : List D} (r : Rep K F v d) (h : itemsD d = some ds) (e : Ext F H) : ∃ a xs, v = .ref a ∧ (SqL K H a xs ∨ SqT K H a xs) ∧ RepL K F xs ds := by
  cases r with
  | lst h1 rl => cases h; exact ⟨_, _, rfl, .inl (SqL.of (e _ _ h1)), rl⟩
  | tup h1 rl => cases h; exact ⟨_, _, rfl, .inr (SqT.of (e _ _ h1)), rl⟩
  | _ => cases h
def fLen (d : D) : Option D := (itemsD d).map fun ds => .int ds.length
theorem opc_len : OpC1 K (fun xs H Q => ∃ p ys, xs = [.ref p] ∧ (SqL K H p ys ∨ SqT K H p ys) ∧ Q (.int ys.length) H) fLen q1 9 := opC1_of fun F G H R d1 d v1 Q hd r1 s k => by
  unfold fLen at hd
  cases e : itemsD d1 with
  | none => rw [e] at hd; cases hd
  | some ds =>
    rw [e] at hd
    cases hd
    obtain ⟨a, xs, rfl, h, rl⟩ := items_rep r1 e s.ef
    refine ⟨a, xs, rfl, h, ?_⟩
    rw [rl.length]
    exact k F H _ (Ext.refl F) (s.ofRep (.int _) 9 rfl)
def fList (d : D) : Option D := (itemsD d).map .list
theorem opc_list : OpC1 K (fun xs H Q => ∃ p ys, xs = [.ref p] ∧ (SqL K H p ys ∨ SqT K H p ys) ∧ ∀ l, H l = none → Q (.ref l) (upd H l (.lst ys))) fList q1 1 := opC1_of fun F G H R d1 d v1 Q hd r1 s k => by
  unfold fList at hd
  cases e : itemsD d1 with
  | none => rw [e] at hd; cases hd
  | some ds =>
    rw [e] at hd
    cases hd
    obtain ⟨a, xs, rfl, h, rl⟩ := items_rep r1 e s.ef
    exact ⟨a, xs, rfl, h, fun l hl => k F _ _ (Ext.refl F) (s.newList hl rl)⟩
def fTuple (d : D) : Option D := (itemsD d).map .tuple
theorem opc_tuple : OpC1 K (fun xs H Q => ∃ p ys, xs = [.ref p] ∧ ((SqL K H p ys ∧ ∀ l, H l = none → Q (.ref l) (upd H l (.tup ys))) ∨ (SqT K H p ys ∧ Q (.ref p) H))) fTuple q1 9 := opC1_of fun F G H R d1 d v1 Q hd r1 s k => by
  cases r1 with
  | lst h1 rl =>
    cases hd
    refine ⟨_, _, rfl, .inl ⟨SqL.of (s.ef _ _ h1), fun l hl => ?_⟩⟩
    obtain ⟨F', e, s'⟩ := s.newTup hl rl 9
    exact k F' _ _ e s'
  | tup h1 rl =>
    cases hd
    exact ⟨_, _, rfl, .inr ⟨SqT.of (s.ef _ _ h1), k F H _ (Ext.refl F) (s.ofRep (.tup h1 rl) 9 rfl)⟩⟩
  | _ => cases hd
def fInt : D → Option D
  | .int i => some (.int i)
  | .bool b => some (.int (if b then 1 else 0))
  | _ => none
theorem opc_int : OpC1 K (fun xs H Q => (∃ i, xs = [.int i] ∧ Q (.int i) H) ∨ ∃ k, xs = [.bl k] ∧ Q (.int (if k then 1 else 0)) H) fInt q1 9 := opC1_of fun F G H R d1 d v1 Q hd r1 s k => by
  cases r1 with
  | int i => cases hd; exact .inl ⟨_, rfl, k F H _ (Ext.refl F) (s.ofRep (.int _) 9 rfl)⟩
  | bl b => cases hd; exact .inr ⟨_, rfl, k F H _ (Ext.refl F) (s.ofRep (.int _) 9 rfl)⟩
  | _ => cases hd
def fAbs : D → Option D
  | .int i => some (.int (if i < 0 then -i else i))
  | _ => none
theorem opc_abs : OpC1 K (fun xs H Q => ∃ i, xs = [.int i] ∧ Q (.int (if i < 0 then -i else i)) H) fAbs q1 9 := opC1_of fun F G H R d1 d v1 Q hd r1 s k => by
  cases r1 with
  | int i => cases hd; exact ⟨_, rfl, k F H _ (Ext.refl F) (s.ofRep (.int _) 9 rfl)⟩
  | _ => cases hd
def boolsD : List D → Option (List Bool)
  | [] => some []
  | .bool b :: ds => (boolsD ds).map (b :: ·)
  | _ => none
theorem boolsD_some : ∀ {ds : List D} {bs : List Bool}, boolsD ds = some bs → ds = bs.map .bool
  | [], _, h => by cases h; rfl
  | .bool b :: ds, bs, h => by
    unfold boolsD at h
    cases e : boolsD ds with
    | none => rw [e] at h; cases h
    | some cs => rw [e] at h; cases h; rw [boolsD_some e]; rfl
  | .none :: _, _, h => by cases h
  | .int _ :: _, _, h => by cases h
  | .str _ :: _, _, h => by cases h
  | .list _ :: _, _, h => by cases h
  | .tuple _ :: _, _, h => by cases h
  | .dict _ :: _, _, h => by cases h
def intsD : List D → Option (List Int)
  | [] => some []
  | .int b :: ds => (intsD ds).map (b :: ·)
  | _ => none
theorem intsD_some : ∀ {ds : List D} {bs : List Int}, intsD ds = some bs → ds = bs.map .int
  | [], _, h => by cases h; rfl
  | .int b :: ds, bs, h => by
    unfold intsD at h
    cases e : intsD ds with
    | none => rw [e] at h; cases h
    | some cs => rw [e] at h; cases h; rw [intsD_some e]; rfl
  | .none :: _, _, h => by cases h
  | .bool _ :: _, _, h => by cases h
  | .str _ :: _, _, h => by cases h
  | .list _ :: _, _, h => by cases h
  | .tuple _ :: _, _, h => by cases h
  | .dict _ :: _, _, h => by cases h
def fAll : D → Option D
  | .list ds => (boolsD ds).map fun bs => .bool (bs.all id)
  | _ => none
def fAny : D → Option D
  | .list ds => (boolsD ds).map fun bs => .bool (bs.any id)
  | _ => none
theorem opc_all : OpC1 K (rAll K) fAll q1 9 := opC1_of fun F G H R d1 d v1 Q hd r1 s k => by
  cases r1 with
  | lst h1 rl =>
    simp only [fAll] at hd
    rename_i a xs ds
    cases e : boolsD ds with
    | none => rw [e] at hd; cases hd
    | some bs =>
      rw [e] at hd
      cases hd
      cases boolsD_some e
      have z := rl.bools
      subst z
      exact ⟨a, bs, rfl, SqL.of (s.ef _ _ h1), k F H _ (Ext.refl F) (s.ofRep (.bl _) 9 rfl)⟩
  | _ => cases hd
theorem opc_any : OpC1 K (rAny K) fAny q1 9 := opC1_of fun F G H R d1 d v1 Q hd r1 s k => by
  cases r1 with
  | lst h1 rl =>
    simp only [fAny] at hd
    rename_i a xs ds
    cases e : boolsD ds with
    | none => rw [e] at hd; cases hd
    | some bs =>
      rw [e] at hd
      cases hd
      cases boolsD_some e
      have z := rl.bools
      subst z
      exact ⟨a, bs, rfl, SqL.of (s.ef _ _ h1), k F H _ (Ext.refl F) (s.ofRep (.bl _) 9 rfl)⟩
  | _ => cases hd
def fSum : D → Option D
  | .list ds => (intsD ds).map fun bs => .int bs.sum
  | _ => none
theorem opc_sum : OpC1 K (rSum K) fSum q1 9 := opC1_of fun F G H R d1 d v1 Q hd r1 s k => by
  cases r1 with
  | lst h1 rl =>
    simp only [fSum] at hd
    rename_i a xs ds
    cases e : intsD ds with
    | none => rw [e] at hd; cases hd
    | some bs =>
      rw [e] at hd
      cases hd
      cases intsD_some e
      have z := rl.ints
      subst z
      exact ⟨a, bs, rfl, SqL.of (s.ef _ _ h1), k F H _ (Ext.refl F) (s.ofRep (.int _) 9 rfl)⟩
  | _ => cases hd
abbrev fMin2 := fI fun i j => if j < i then j else i
abbrev fMax2 := fI fun i j => if j > i then j else i
theorem opc_min2 : OpC2 K (fun xs H Q => ∃ i j, xs = [.int i, .int j] ∧ Q (.int (if j < i then j else i)) H) fMin2 q1 q2 9 := opC2_of fun F G H R d1 d2 d v1 v2 Q hd r1 r2 s k => by
  cases r1 <;> cases r2 <;> cases hd
  exact ⟨_, _, rfl, k F H _ (Ext.refl F) (s.ofRep (.int _) 9 rfl)⟩
theorem opc_max2 : OpC2 K (fun xs H Q => ∃ i j, xs = [.int i, .int j] ∧ Q (.int (if j > i then j else i)) H) fMax2 q1 q2 9 := opC2_of fun F G H R d1 d2 d v1 v2 Q hd r1 r2 s k => by
  cases r1 <;> cases r2 <;> cases hd
  exact ⟨_, _, rfl, k F H _ (Ext.refl F) (s.ofRep (.int _) 9 rfl)⟩
/-- isinstance(x, T), T int, bool, str, tuple, list -/
def isK (T : String) : D → Option Bool
  | .none => kitB "NoneType" T
  | .bool _ => kitB "bool" T
  | .int _ => kitB "int" T
  | .str _ => kitB "str" T
  | .list _ => kitB "list" T
  | .tuple _ => kitB "tuple" T
  | _ => none
def fIs (T : String) (d : D) : Option D := (isK T d).map .bool
def rIs1 (K : PySem.W.Frag) (T : String) : V → Hp → VK → Prop := fun x H Q => rIsi K [x, .ty T] H Q
theorem ops_is {T : String} : OpS1 K (rIs1 K T) (fIs T) q1 9 := opS1_of fun F G H R d1 d v1 Q hd r1 s k => by
  unfold fIs at hd
  cases e : isK T d1 with
  | none => rw [e] at hd; cases hd
  | some b =>
    rw [e] at hd
    cases hd
    have kk := k F H (.bl b) (Ext.refl F) (s.ofRep (.bl _) 9 rfl)
    cases r1 with
    | non => exact ⟨_, _, _, _, b, rfl, .ty T, .base .non, kit_ty e, kk⟩
    | bl x => exact ⟨_, _, _, _, b, rfl, .ty T, .base (.bl _), kit_ty e, kk⟩
    | int x => exact ⟨_, _, _, _, b, rfl, .ty T, .base (.int _), kit_ty e, kk⟩
    | str x => exact ⟨_, _, _, _, b, rfl, .ty T, .base (.str _), kit_ty e, kk⟩
    | lst h rl => exact ⟨_, _, _, _, b, rfl, .ty T, .base (.lst (s.ef _ _ h)), kit_ty e, kk⟩
    | tup h rl => exact ⟨_, _, _, _, b, rfl, .ty T, .base (.tup (s.ef _ _ h)), kit_ty e, kk⟩
    | dct h rl => cases e
    | scr h rl => cases e
end
end Mir

set_option Elab.async false
set_option linter.all false
set_option maxRecDepth 100000
set_option maxHeartbeats 4000000
namespace Mir
open PySem PySem.Spec PyProof.Rows L2

/-! ### built-in calls by name -/
section
variable {X : Cx} {W : WX} {Γ Γ1 Γ2 Γ3 : List Nat} {q q1 q2 q3 : Nat} {a b c e : Expr} {es : List Expr} {ma mb mc : M D} {pos p : Pos} {F G H : Hp} {σ : L2.St} {qs : List Nat}
theorem c_len (hg : Gl X "len") (hm : X.mg "len" = none) (ha : SE X W Γ a ma Γ1 q1) (hs : starEach [a] X.env = [(false, eval a X.env)]) : SE X W Γ (.Call (.Name "len" p) [a] [] pos) (m1 fLen ma) Γ1 9 :=
  (pe_callB call_len_seq hg hm PySem.boot_len (pa_cons ha pa_nil hs) (by decide) (by decide) hs rfl).imp fun _ _ _ => c1_sound opc_len
theorem c_list (hg : Gl X "list") (hm : X.mg "list" = none) (ha : SE X W Γ a ma Γ1 q1) (hs : starEach [a] X.env = [(false, eval a X.env)]) : SE X W Γ (.Call (.Name "list" p) [a] [] pos) (m1 fList ma) Γ1 1 :=
  (pe_callTy call_list_of hg hm boot_list (pa_cons ha pa_nil hs) (by decide) (by decide) hs rfl).imp fun _ _ _ => c1_sound opc_list
theorem c_tuple (hg : Gl X "tuple") (hm : X.mg "tuple" = none) (ha : SE X W Γ a ma Γ1 q1) (hs : starEach [a] X.env = [(false, eval a X.env)]) : SE X W Γ (.Call (.Name "tuple" p) [a] [] pos) (m1 fTuple ma) Γ1 9 :=
  (pe_callTy call_tuple_of hg hm boot_tuple (pa_cons ha pa_nil hs) (by decide) (by decide) hs rfl).imp fun _ _ _ => c1_sound opc_tuple
theorem c_int (hg : Gl X "int") (hm : X.mg "int" = none) (ha : SE X W Γ a ma Γ1 q1) (hs : starEach [a] X.env = [(false, eval a X.env)]) : SE X W Γ (.Call (.Name "int" p) [a] [] pos) (m1 fInt ma) Γ1 9 :=
  (pe_callTy call_int1 hg hm boot_int (pa_cons ha pa_nil hs) (by decide) (by decide) hs rfl).imp fun _ _ _ => c1_sound opc_int
theorem c_abs (hg : Gl X "abs") (hm : X.mg "abs" = none) (ha : SE X W Γ a ma Γ1 q1) (hs : starEach [a] X.env = [(false, eval a X.env)]) : SE X W Γ (.Call (.Name "abs" p) [a] [] pos) (m1 fAbs ma) Γ1 9 :=
  (pe_callB call_abs hg hm boot_abs (pa_cons ha pa_nil hs) (by decide) (by decide) hs rfl).imp fun _ _ _ => c1_sound opc_abs
theorem c_all (hc : X.calm = true) (hg : Gl X "all") (hm : X.mg "all" = none) (ha : SE X W Γ a ma Γ1 q1) (hs : starEach [a] X.env = [(false, eval a X.env)]) : SE X W Γ (.Call (.Name "all" p) [a] [] pos) (m1 fAll ma) Γ1 9 :=
  (pe_callB (cr_all hc) hg hm boot_all (pa_cons ha pa_nil hs) (by decide) (by decide) hs rfl).imp fun _ _ _ => c1_sound opc_all
theorem c_any (hc : X.calm = true) (hg : Gl X "any") (hm : X.mg "any" = none) (ha : SE X W Γ a ma Γ1 q1) (hs : starEach [a] X.env = [(false, eval a X.env)]) : SE X W Γ (.Call (.Name "any" p) [a] [] pos) (m1 fAny ma) Γ1 9 :=
  (pe_callB (cr_any hc) hg hm boot_any (pa_cons ha pa_nil hs) (by decide) (by decide) hs rfl).imp fun _ _ _ => c1_sound opc_any
theorem c_sum (hc : X.calm = true) (hg : Gl X "sum") (hm : X.mg "sum" = none) (ha : SE X W Γ a ma Γ1 q1) (hs : starEach [a] X.env = [(false, eval a X.env)]) : SE X W Γ (.Call (.Name "sum" p) [a] [] pos) (m1 fSum ma) Γ1 9 :=
  (pe_callB (cr_sum hc) hg hm boot_sum (pa_cons ha pa_nil hs) (by decide) (by decide) hs rfl).imp fun _ _ _ => c1_sound opc_sum
theorem c_min2 (hc : X.calm = true) (hg : Gl X "min") (hm : X.mg "min" = none) (ha : SE X W Γ a ma Γ1 q1) (hb : SE X W Γ1 b mb Γ2 q2) (hs : starEach [a, b] X.env = (false, eval a X.env) :: starEach [b] X.env) (hs2 : starEach [b] X.env = [(false, eval b X.env)]) :
    SE X W Γ (.Call (.Name "min" p) [a, b] [] pos) (m2 fMin2 ma mb) Γ2 9 :=
  (pe_callB (call_min2 hc) hg hm boot_min (pa_cons ha (pa_cons hb pa_nil hs2) hs) (by decide) (by decide) hs (by rw [hs2]; rfl)).imp fun _ _ _ => c2_sound opc_min2
theorem c_max2 (hc : X.calm = true) (hg : Gl X "max") (hm : X.mg "max" = none) (ha : SE X W Γ a ma Γ1 q1) (hb : SE X W Γ1 b mb Γ2 q2) (hs : starEach [a, b] X.env = (false, eval a X.env) :: starEach [b] X.env) (hs2 : starEach [b] X.env = [(false, eval b X.env)]) :
    SE X W Γ (.Call (.Name "max" p) [a, b] [] pos) (m2 fMax2 ma mb) Γ2 9 :=
  (pe_callB (call_max2 hc) hg hm boot_max (pa_cons ha (pa_cons hb pa_nil hs2) hs) (by decide) (by decide) hs (by rw [hs2]; rfl)).imp fun _ _ _ => c2_sound opc_max2
theorem c_isi (T : String) {t : Str} {p' : Pos} (hg : Gl X "isinstance") (hm : X.mg "isinstance" = none) (ha : SE X W Γ a ma Γ1 q1) (hgt : Gl X t) (hmt : X.mg t = none) (hv : bootBuiltins t = some (.type T))
    (hs : starEach [a, .Name t p'] X.env = (false, eval a X.env) :: starEach [.Name t p'] X.env) (hn : t ≠ "__name__" := by decide) (hd : (t == ("__debug__" : Str)) = false := by decide) : SE X W Γ (.Call (.Name "isinstance" p) [a, .Name t p'] [] pos) (m1 (fIs T) ma) Γ1 9 :=
  (pe_callB call_isi hg hm boot_isinstance (pa_cons ha (pa_cons (pe_bltn (v := .ty T) hgt hmt hv rfl hn hd) pa_nil rfl) hs) (by decide) (by decide) hs rfl).imp fun σ H Q h => t1_sound (r := rIs1 X.K T) ops_is h
end

/-! ### what a slot owns, read in place -/
section
variable {X : Cx} {W : WX} {Γ Γ1 Γ2 Γ3 : List Nat} {q q1 q2 q3 : Nat} {a b c e : Expr} {es : List Expr} {ma mb mc : M D} {pos p : Pos} {F G H : Hp} {σ : L2.St} {qs : List Nat} {K : PySem.W.Frag}
def listAt (ρ : Env) (i : Nat) : Option (List D) := match ρ[i]? with
  | some (some (.list ds)) => some ds
  | _ => none
theorem listAt_some {ρ : Env} {i : Nat} {ds : List D} (h : listAt ρ i = some ds) : ρ[i]? = some (some (.list ds)) := by
  unfold listAt at h
  split at h
  · rename_i e; cases h; exact e
  · cases h
theorem Sat.takeL {ρ : Env} {i n : Nat} {ds : List D} (s : Sat F G H (slots K F Γ ρ σ)) (e : ρ[i]? = some (some (.list ds))) (hn : Γ.getD i 0 = n + 1) :
    ∃ a vs, σ[i]? = some (some (.ref a)) ∧ Sat F G H (star (pts a (.lst vs)) (star (OwnL (Own K F n) ds vs) (slots K F Γ (ρ.set i none) σ))) := by
  obtain ⟨v, ev, s1⟩ := s.take e
  rw [hn] at s1
  obtain ⟨a, vs, rfl, s2⟩ := s1.open
  exact ⟨a, vs, ev, s2⟩
theorem Sat.putL {ρ : Env} {i n : Nat} {ds : List D} {a : Addr} {vs : List V} (s : Sat F G H (star (pts a (.lst vs)) (star (OwnL (Own K F n) ds vs) (slots K F Γ (ρ.set i none) σ)))) (ev : σ[i]? = some (some (.ref a))) (hi : i < ρ.length) :
    Sat F G H (slots K F (Γ.set i (n + 1)) (ρ.set i (some (.list ds))) σ) := by
  have s1 := s.close.put (i := i) (by simp [hi])
  rw [List.set_set, set_self ev] at s1
  exact s1
theorem OwnL.get {n : Nat} : ∀ {ds : List D} {vs : List V} {h : Hp} {j : Nat} {d : D}, OwnL (Own K F n) ds vs h → ds[j]? = some d → (n = 0 ∨ notL d = true) → ∃ v, vs[j]? = some v ∧ Rep K F v d
  | d :: _, v :: _, h, 0, d', x, e, hn => by
    have e' : d = d' := by simpa using e
    subst e'
    obtain ⟨h1, h2, _, o, _⟩ := x
    refine ⟨v, rfl, ?_⟩
    rcases hn with rfl | hd
    · exact o.1
    · exact (o.pure hd).1
  | _ :: _, _ :: _, h, j + 1, d', ⟨_, _, _, _, y⟩, e, hn => by
    obtain ⟨v, h1, h2⟩ := OwnL.get y (by simpa using e) hn
    exact ⟨v, by simpa using h1, h2⟩
  | [], [], _, _, _, _, e, _ => by simp at e
  | [], _ :: _, _, _, _, x, _, _ => x.elim
  | _ :: _, [], _, _, _, x, _, _ => x.elim
theorem Sat.first {P : Asr} {R : Asr} {α : Prop} (s : Sat F G H (star P R)) (m : ∀ h, P h → α) : α := by
  obtain ⟨⟨h, ⟨_, _, _, y, _⟩, _⟩, _⟩ := s
  exact m _ y
/-- len(x), x a slot that owns a list -/
def mLenO (i : Nat) : M D := fun ρ => match listAt ρ i with
  | some ds => .ok (.int ds.length) ρ
  | none => .stuck
theorem c_lenO {i n : Nat} (hn : Γ.getD i 0 = n + 1) (hg : Gl X "len") (hm : X.mg "len" = none) (ha : PE X a (tVar i)) (hs : starEach [a] X.env = [(false, eval a X.env)]) : SE X W Γ (.Call (.Name "len" p) [a] [] pos) (mLenO i) Γ 9 :=
  (pe_callB call_len_seq hg hm PySem.boot_len (pa_cons ha pa_nil hs) (by decide) (by decide) hs rfl).imp fun σ H Q ⟨F, G, ρ, s, o⟩ => by
    unfold mLenO at o
    cases e : listAt ρ i with
    | none => rw [e] at o; exact o.elim
    | some ds =>
      rw [e] at o
      obtain ⟨v, vs, ev, s1⟩ := s.takeL (listAt_some e) hn
      have hl : ds.length = vs.length := s1.left.first fun h x => OwnL.len x
      refine ⟨.ref v, ev, v, vs, rfl, .inl (SqL.of s1.get), ?_⟩
      rw [← hl]
      exact o F H _ (Ext.refl F) (s.ofRep (.int _) 9 rfl)
/-- x[e], x a slot that owns a list -/
def mIxO (i n : Nat) (mb : M D) : M D := fun ρ => match ρ[i]? with
  | some (some _) => (mb ρ).bind fun k ρ => match listAt ρ i, k with
    | some ds, .int k => match atI ds k with
      | some d => if n = 0 ∨ notL d = true then .ok d ρ else .stuck
      | none => .stuck
    | _, _ => .stuck
  | _ => .stuck
theorem e_ixO (i n : Nat) (hn1 : Γ1.getD i 0 = n + 1) (ha : PE X a (tVar i)) (hb : SE X W Γ b mb Γ1 q2) (hs : PlainIx b) : SE X W Γ (.Subscript a b pos) (mIxO i n mb) Γ1 0 :=
  (pe_ix ix_list ha hb hs).imp fun σ H Q ⟨F, G, ρ, s, o⟩ => by
    unfold mIxO at o
    cases e0 : ρ[i]? with
    | none => rw [e0] at o; exact o.elim
    | some r0 =>
      cases r0 with
      | none => rw [e0] at o; exact o.elim
      | some d0 =>
        simp only [e0] at o
        obtain ⟨v0, ev0, _⟩ := s.take e0
        refine ⟨v0, ev0, F, G, ρ, s, Out.bind o fun dk ρ1 o1 F1 H1 v1 e1 s1 => ?_⟩
        cases el : listAt ρ1 i with
        | none => simp only [el] at o1; exact o1.elim
        | some ds =>
          cases dk with
          | int k =>
            simp only [el] at o1
            cases ea : L2.atI ds k with
            | none => simp only [ea] at o1; exact o1.elim
            | some d =>
              simp only [ea] at o1
              split at o1
              · rename_i hc
                obtain ⟨r1, s2⟩ := s1.flat rfl
                cases r1
                obtain ⟨a, vs, ev, s3⟩ := s2.takeL (listAt_some el) hn1
                have ee : v0 = .ref a := Option.some.inj (Option.some.inj (ev0.symm.trans ev))
                subst ee
                have hl : ds.length = vs.length := s3.left.first fun h x => OwnL.len x
                obtain ⟨v, hv, rv⟩ : ∃ v, L2.atI vs k = some v ∧ Rep X.K F1 v d := by
                  unfold L2.atI at ea ⊢
                  rw [← hl]
                  cases ej : ixN ds.length k with
                  | none => rw [ej] at ea; cases ea
                  | some j =>
                    rw [ej] at ea
                    exact s3.left.first fun h x => OwnL.get x ea hc
                exact ⟨a, vs, k, v, rfl, rfl, SqL.of s3.get, hv, o1 F1 H1 v e1 (s2.ofRep0 rv)⟩
              · exact o1.elim
          | _ => simp only [el] at o1; exact o1.elim
end
end Mir

set_option Elab.async false
set_option linter.all false
set_option maxRecDepth 100000
set_option maxHeartbeats 4000000
namespace Mir
open PySem PySem.Spec PyProof.Rows L2

/-! ### statements -/
inductive Fl where
  | next | ret (d : D) | brk | cont
/-- what is fixed for a def: its parameters' rights, the rights at a return, the result's right -/
structure Sg where
  Γp : List Nat
  Γr : List Nat
  qr : Nat
def keepB (g : Sg) (σ σ' : L2.St) : Prop := σ'.length = σ.length ∧ ∀ i, g.Γp.getD i 0 ≠ 0 → σ'[i]? = σ[i]?
theorem keepB.refl (g : Sg) (σ : L2.St) : keepB g σ σ := ⟨rfl, fun _ _ => rfl⟩
theorem keepB.trans {g : Sg} {σ σ1 σ2 : L2.St} (a : keepB g σ σ1) (b : keepB g σ1 σ2) : keepB g σ σ2 := ⟨b.1.trans a.1, fun i h => (b.2 i h).trans (a.2 i h)⟩
section
variable (X : Cx) (W : WX) (g : Sg)
def excS (F G : Hp) (σ : L2.St) (x : Exn) (ρ : Env) : Prop := ∀ F' H' σ' cls dd, Ext F F' → keepB g σ σ' → ExR X.K X.mg F' x cls dd → Sat F' G H' (slots X.K F' (zer ρ) ρ σ') → W cls dd σ' H'
def OutS {α : Type} (F G : Hp) (σ : L2.St) (r : Rs α) (k : α → Env → Prop) : Prop := match r with
  | .stuck => False
  | .ok a ρ => k a ρ
  | .exc x ρ => excS X W g F G σ x ρ
def kS (Γ' Γb Γc : List Nat) (F G : Hp) (σ : L2.St) (E : Ends) (fl : Fl) (ρ : Env) : Prop := ∀ F' H' σ', Ext F F' → keepB g σ σ' → match fl with
  | .next => Sat F' G H' (slots X.K F' Γ' ρ σ') → E.nx σ' H'
  | .ret d => ∀ v, Sat F' G H' (star (Own X.K F' g.qr d v) (slots X.K F' g.Γr ρ σ')) → E.rt v H'
  | .brk => Sat F' G H' (slots X.K F' Γb ρ σ') → E.bk σ' H'
  | .cont => Sat F' G H' (slots X.K F' Γc ρ σ') → E.ct σ' H'
def tS (Γ : List Nat) (m : M Fl) (Γ' Γb Γc : List Nat) : TS := fun E σ H => ∃ F G ρ, Sat F G H (slots X.K F Γ ρ σ) ∧ OutS X W g F G σ (m ρ) (kS X g Γ' Γb Γc F G σ E)
def SS (Γ : List Nat) (st : Stmt) (m : M Fl) (Γ' Γb Γc : List Nat) : Prop := PS X st (tS X W g Γ m Γ' Γb Γc)
def SB (Γ : List Nat) (st : List Stmt) (m : M Fl) (Γ' Γb Γc : List Nat) : Prop := PSs X st (tS X W g Γ m Γ' Γb Γc)
/-- targets -/
def tG (Γ : List Nat) (q : Nat) (m : D → M Unit) (Γ' : List Nat) : TG := fun v σ H Q => ∃ F G ρ d, Sat F G H (star (Own X.K F q d v) (slots X.K F Γ ρ σ)) ∧
  OutS X W g F G σ (m d ρ) fun _ ρ' => ∀ F' H' σ', Ext F F' → keepB g σ σ' → Sat F' G H' (slots X.K F' Γ' ρ' σ') → Q σ' H'
def SG (Γ : List Nat) (q : Nat) (tg : Expr) (m : D → M Unit) (Γ' : List Nat) : Prop := PG X tg (tG X W g Γ q m Γ')
def tGs (Γ : List Nat) (m : List D → M Unit) (Γ' : List Nat) : TGs := fun vs σ H Q => ∃ F G ρ ds, RepL X.K F vs ds ∧ Sat F G H (slots X.K F Γ ρ σ) ∧
  OutS X W g F G σ (m ds ρ) fun _ ρ' => ∀ F' H' σ', Ext F F' → keepB g σ σ' → Sat F' G H' (slots X.K F' Γ' ρ' σ') → Q σ' H'
def SGs (Γ : List Nat) (tg : List Expr) (m : List D → M Unit) (Γ' : List Nat) : Prop := PGs X tg (tGs X W g Γ m Γ')
end
theorem _root_.L2.PS.imp {X : Cx} {e : Stmt} {t t' : TS} (h : PS X e t) (i : ∀ E σ H, t' E σ H → t E σ H) : PS X e t' := ⟨fun p s σ H Q I x => h.run p s σ H Q I (i Q σ H x)⟩
theorem _root_.L2.PSs.imp {X : Cx} {e : List Stmt} {t t' : TS} (h : PSs X e t) (i : ∀ E σ H, t' E σ H → t E σ H) : PSs X e t' := ⟨fun p s σ H Q I x => h.run p s σ H Q I (i Q σ H x)⟩
theorem _root_.L2.PG.imp {X : Cx} {e : Expr} {t t' : TG} (h : PG X e t) (i : ∀ v σ H Q, t' v σ H Q → t v σ H Q) : PG X e t' := ⟨fun p s σ H v u Q I r x => h.run p s σ H v u Q I r (i v σ H Q x)⟩
theorem _root_.L2.PGs.imp {X : Cx} {e : List Expr} {t t' : TGs} (h : PGs X e t) (i : ∀ v σ H Q, t' v σ H Q → t v σ H Q) : PGs X e t' := ⟨fun p s σ H v u Q I r x => h.run p s σ H v u Q I r (i v σ H Q x)⟩

section
variable {X : Cx} {W : WX} {g : Sg} {F F1 G H : Hp} {σ σ1 : L2.St} {α β : Type}
theorem excS.mv {x : Exn} {ρ : Env} (e : Ext F F1) (kb : keepB g σ σ1) (h : excS X W g F G σ x ρ) : excS X W g F1 G σ1 x ρ := fun F' H' σ' cls dd e' kb' r s => h F' H' σ' cls dd (e.trans e') (kb.trans kb') r s
theorem excS.toE {x : Exn} {ρ : Env} (e : Ext F F1) (kb : keepB g σ σ1) (h : excS X W g F G σ x ρ) : excOk X W F1 G σ1 x ρ := fun F' H' cls dd e' r s => h F' H' σ1 cls dd (e.trans e') kb r s
theorem excS.stash {x : Exn} {ρ : Env} {hR : Hp} (dj : ∀ a o, hR a = some o → G a = none) (h : excS X W g F G σ x ρ) : excS X W g F (hjoin G hR) σ x ρ := fun F' H' σ' cls dd e' kb r s => h F' H' σ' cls dd e' kb r (s.unstash dj).comm.drop
theorem OutS.bind {r : Rs α} {f : α → Env → Rs β} {k : β → Env → Prop} {k' : α → Env → Prop} (e : Ext F F1) (kb : keepB g σ σ1) (o : OutS X W g F G σ (r.bind f) k) (i : ∀ a ρ, OutS X W g F G σ (f a ρ) k → k' a ρ) : OutS X W g F1 G σ1 r k' := by
  cases r with
  | stuck => exact o
  | ok a ρ => exact i a ρ o
  | exc x ρ => exact excS.mv e kb o
theorem OutS.bindE {r : Rs α} {f : α → Env → Rs β} {k : β → Env → Prop} {k' : α → Env → Prop} (e : Ext F F1) (kb : keepB g σ σ1) (o : OutS X W g F G σ (r.bind f) k) (i : ∀ a ρ, OutS X W g F G σ (f a ρ) k → k' a ρ) : Out X W F1 G σ1 r k' := by
  cases r with
  | stuck => exact o
  | ok a ρ => exact i a ρ o
  | exc x ρ => exact excS.toE e kb o
theorem OutS.bindES {r : Rs α} {f : α → Env → Rs β} {k : β → Env → Prop} {k' : α → Env → Prop} {hR : Hp} (dj : ∀ a o, hR a = some o → G a = none) (e : Ext F F1) (kb : keepB g σ σ1) (o : OutS X W g F G σ (r.bind f) k) (i : ∀ a ρ, OutS X W g F G σ (f a ρ) k → k' a ρ) : Out X W F1 (hjoin G hR) σ1 r k' := by
  cases r with
  | stuck => exact o
  | ok a ρ => exact i a ρ o
  | exc x ρ => exact excOk.stash dj (excS.toE e kb o)
theorem OutS.mv {r : Rs α} {k k' : α → Env → Prop} (e : Ext F F1) (kb : keepB g σ σ1) (o : OutS X W g F G σ r k) (i : ∀ a ρ, k a ρ → k' a ρ) : OutS X W g F1 G σ1 r k' := by
  cases r with
  | stuck => exact o
  | ok a ρ => exact i a ρ o
  | exc x ρ => exact excS.mv e kb o
theorem OutS.lift {o : Option α} {ρ : Env} {k : α → Env → Prop} (h : OutS X W g F G σ (Rs.lift o ρ) k) : ∃ a, o = some a ∧ k a ρ := by
  cases o with
  | none => exact h.elim
  | some a => exact ⟨a, rfl, h⟩
variable {Γ Γ1 Γ2 Γ' Γb Γc Γb' Γc' Γx : List Nat} {q q1 q2 : Nat} {a b c e : Expr} {ma mb : M D} {pos p : Pos} {st : Stmt} {sts : List Stmt} {ms ms' : M Fl} {E : Ends}
theorem kS.mv {fl : Fl} {ρ : Env} (e : Ext F F1) (kb : keepB g σ σ1) (h : kS X g Γ' Γb Γc F G σ E fl ρ) : kS X g Γ' Γb Γc F1 G σ1 E fl ρ := fun F' H' σ' e' kb' => h F' H' σ' (e.trans e') (kb.trans kb')
def mSeq (a b : M Fl) : M Fl := fun ρ => (a ρ).bind fun fl ρ => match fl with
  | .next => b ρ
  | fl => .ok fl ρ
def mSkip : M Fl := fun ρ => .ok .next ρ
theorem b_nil : SB X W g Γ [] mSkip Γ Γb Γc := pss_nil.imp fun E σ H ⟨F, G, ρ, s, o⟩ => o F H σ (Ext.refl F) (keepB.refl g σ) s
theorem b_cons (h1 : SS X W g Γ st ms Γ1 Γb Γc) (h2 : SB X W g Γ1 sts ms' Γ2 Γb Γc) : SB X W g Γ (st :: sts) (mSeq ms ms') Γ2 Γb Γc :=
  (pss_cons h1 h2).imp fun E σ H ⟨F, G, ρ, s, o⟩ => by
    refine ⟨F, G, ρ, s, OutS.bind (Ext.refl F) (keepB.refl g σ) o fun fl ρ1 o1 F1 H1 σ1 e1 kb => ?_⟩
    cases fl with
    | next => exact fun s1 => ⟨F1, G, ρ1, s1, OutS.mv e1 kb o1 fun fl ρ2 k => k.mv e1 kb⟩
    | ret d => exact fun v s1 => o1 F1 H1 σ1 e1 kb v s1
    | brk => exact fun s1 => o1 F1 H1 σ1 e1 kb s1
    | cont => exact fun s1 => o1 F1 H1 σ1 e1 kb s1
theorem b_one (h1 : SS X W g Γ st ms Γ1 Γb Γc) : SB X W g Γ [st] ms Γ1 Γb Γc := pss_one h1
/-- the rights let down at the end -/
theorem tS.weak (h1 : leB Γx Γ' = true) (h2 : leB Γb' Γb = true) (h3 : leB Γc' Γc = true) (h : tS X W g Γ ms Γx Γb' Γc' E σ H) : tS X W g Γ ms Γ' Γb Γc E σ H := by
  obtain ⟨F, G, ρ, s, o⟩ := h
  refine ⟨F, G, ρ, s, OutS.mv (Ext.refl F) (keepB.refl g σ) o fun fl ρ1 k F1 H1 σ1 e1 kb => ?_⟩
  cases fl with
  | next => exact fun s1 => let ⟨F2, e2, s2⟩ := sat_low s1 h1; k F2 H1 σ1 (e1.trans e2) kb s2
  | ret d => exact fun v s1 => k F1 H1 σ1 e1 kb v s1
  | brk => exact fun s1 => let ⟨F2, e2, s2⟩ := sat_low s1 h2; k F2 H1 σ1 (e1.trans e2) kb s2
  | cont => exact fun s1 => let ⟨F2, e2, s2⟩ := sat_low s1 h3; k F2 H1 σ1 (e1.trans e2) kb s2
theorem b_weak (Γx Γb' Γc' : List Nat) (h : SB X W g Γ sts ms Γ' Γb Γc) (h1 : leB Γx Γ' = true) (h2 : leB Γb' Γb = true) (h3 : leB Γc' Γc = true) : SB X W g Γ sts ms Γx Γb' Γc' := PSs.imp h fun _ _ _ x => tS.weak h1 h2 h3 x
def mPass : M Fl := mSkip
theorem s_pass : SS X W g Γ (.Pass pos) mSkip Γ Γb Γc := ps_pass.imp fun E σ H ⟨F, G, ρ, s, o⟩ => o F H σ (Ext.refl F) (keepB.refl g σ) s
def mBrk : M Fl := fun ρ => .ok .brk ρ
def mCont : M Fl := fun ρ => .ok .cont ρ
theorem s_brk : SS X W g Γ (.Break pos) mBrk Γ' Γ Γc := ps_break.imp fun E σ H ⟨F, G, ρ, s, o⟩ => o F H σ (Ext.refl F) (keepB.refl g σ) s
theorem s_cont : SS X W g Γ (.Continue pos) mCont Γ' Γb Γ := ps_continue.imp fun E σ H ⟨F, G, ρ, s, o⟩ => o F H σ (Ext.refl F) (keepB.refl g σ) s
def mNever : M Fl := fun _ => .stuck
theorem s_never : SS X W g Γ st mNever Γ' Γb Γc := ps_never.imp fun E σ H ⟨F, G, ρ, s, o⟩ => o
def mExpr (m : M D) : M Fl := fun ρ => (m ρ).bind fun _ ρ => .ok .next ρ
theorem s_expr (he : SE X W Γ e ma Γ1 q) (hs : swapsWith e none pos.line X.env = pure false := by rfl) : SS X W g Γ (.Expr e pos) (mExpr ma) Γ1 Γb Γc :=
  (ps_expr he hs).imp fun E σ H ⟨F, G, ρ, s, o⟩ => ⟨F, G, ρ, s, OutS.bindE (Ext.refl F) (keepB.refl g σ) o fun d ρ1 o1 F1 H1 v e1 s1 => o1 F1 H1 σ e1 (keepB.refl g σ) s1.drop⟩
def mRet (m : M D) : M Fl := fun ρ => (m ρ).bind fun d ρ => .ok (.ret d) ρ
theorem s_ret (he : SE X W Γ e ma Γ1 q) (hq : g.qr ≤ q) (hl : leB g.Γr Γ1 = true) : SS X W g Γ (.Return (some e) pos) (mRet ma) Γ' Γb Γc :=
  (ps_ret he).imp fun E σ H ⟨F, G, ρ, s, o⟩ => ⟨F, G, ρ, s, OutS.bindE (Ext.refl F) (keepB.refl g σ) o fun d ρ1 o1 F1 H1 v e1 s1 => let ⟨F2, e2, s2⟩ := s1.weak hq hl; o1 F2 H1 σ (e1.trans e2) (keepB.refl g σ) v s2⟩
theorem s_retN (hl : leB g.Γr Γ = true) : SS X W g Γ (.Return none pos) (mRet (mC .none)) Γ' Γb Γc :=
  (ps_retN).imp fun E σ H ⟨F, G, ρ, s, o⟩ => let ⟨F2, e2, s2⟩ := sat_low s hl; o F2 H σ e2 (keepB.refl g σ) .non (s2.ofRep .non _ rfl)
/-- return x, x a slot that owns: handed on -/
def mRetO (i : Nat) : M Fl := fun ρ => match ρ[i]? with
  | some (some d) => .ok (.ret d) (ρ.set i none)
  | _ => .stuck
theorem s_retO (i : Nat) (he : PE X e (tVar i)) (hq : g.qr ≤ Γ.getD i 0) (hb : g.Γp.getD i 0 = 0) (hl : leB g.Γr Γ = true) : SS X W g Γ (.Return (some e) pos) (mRetO i) Γ' Γb Γc :=
  (ps_ret he).imp fun E σ H ⟨F, G, ρ, s, o⟩ => by
    unfold mRetO at o
    cases e0 : ρ[i]? with
    | none => rw [e0] at o; exact o.elim
    | some r0 =>
      cases r0 with
      | none => rw [e0] at o; exact o.elim
      | some d =>
        rw [e0] at o
        obtain ⟨v, ev, s1⟩ := s.take e0
        obtain ⟨F2, e2, s2⟩ := s1.weak hq hl
        exact ⟨v, ev, o F2 H σ e2 (keepB.refl g σ) v s2⟩
def mIfS (t : M Bool) (a b : M Fl) : M Fl := fun ρ => (t ρ).bind fun c ρ => if c = true then a ρ else b ρ
theorem s_if {t : M Bool} {sa sb : List Stmt} {Γt : List Nat} (ht : ST X W Γ c t Γt) (ha : SB X W g Γt sa ms Γ' Γb Γc) (hb : SB X W g Γt sb ms' Γ' Γb Γc) : SS X W g Γ (.If c sa sb pos) (mIfS t ms ms') Γ' Γb Γc :=
  (ps_if ht ha hb).imp fun E σ H ⟨F, G, ρ, s, o⟩ => ⟨F, G, ρ, s, OutS.bindE (Ext.refl F) (keepB.refl g σ) o fun c ρ1 o1 F1 H1 e1 s1 => by
    cases c with
    | true => exact ⟨F1, G, ρ1, s1, OutS.mv e1 (keepB.refl g σ) o1 fun fl ρ2 k => k.mv e1 (keepB.refl g σ)⟩
    | false => exact ⟨F1, G, ρ1, s1, OutS.mv e1 (keepB.refl g σ) o1 fun fl ρ2 k => k.mv e1 (keepB.refl g σ)⟩⟩

/-! ### targets -/
def tgName (i : Nat) (d : D) : M Unit := fun ρ => if i < ρ.length then .ok () (ρ.set i (some d)) else .stuck
theorem keepB.set {i : Nat} {x : Option V} (hb : g.Γp.getD i 0 = 0) : keepB g σ (σ.set i x) := ⟨List.length_set .., fun j hj => by
  have ne : i ≠ j := fun e => hj (e ▸ hb)
  rw [List.getElem?_set_ne ne]⟩
theorem g_name (i : Nat) {x : Str} (h : PG X (.Name x pos) (gName i)) (hb : g.Γp.getD i 0 = 0) : SG X W g Γ q (.Name x pos) (tgName i) (Γ.set i q) :=
  h.imp fun v σ H Q ⟨F, G, ρ, d, s, o⟩ => by
    unfold tgName at o
    split at o
    · rename_i hi
      exact o F H _ (Ext.refl F) (keepB.set hb) (s.store hi)
    · exact o.elim
def tgNil : List D → M Unit := fun ds ρ => match ds with
  | [] => .ok () ρ
  | _ => .stuck
def tgCons (t : D → M Unit) (u : List D → M Unit) : List D → M Unit := fun ds ρ => match ds with
  | d :: ds => (t d ρ).bind fun _ ρ => u ds ρ
  | [] => .stuck
def tgTup (n : Nat) (u : List D → M Unit) (d : D) : M Unit := fun ρ => match d with
  | .tuple ds => if ds.length = n then u ds ρ else .stuck
  | _ => .stuck
theorem gs_nil : SGs X W g Γ [] tgNil Γ := pgs_nil.imp fun vs σ H Q ⟨F, G, ρ, ds, r, s, o⟩ => by
  cases r with
  | nil => exact ⟨rfl, o F H σ (Ext.refl F) (keepB.refl g σ) s⟩
  | cons _ _ => exact o.elim
theorem gs_cons {es : List Expr} {t : D → M Unit} {u : List D → M Unit} (h1 : SG X W g Γ 0 e t Γ1) (h2 : SGs X W g Γ1 es u Γ2) (hs : (assignEach (e :: es) X.env).map (·.2) = assign e X.env :: (assignEach es X.env).map (·.2) := by rfl) : SGs X W g Γ (e :: es) (tgCons t u) Γ2 :=
  (pgs_cons h1 h2 hs).imp fun vs σ H Q ⟨F, G, ρ, ds, r, s, o⟩ => by
    cases r with
    | nil => exact o.elim
    | cons r rs =>
      refine ⟨_, _, rfl, F, G, ρ, _, s.ofRep0 r, OutS.bind (Ext.refl F) (keepB.refl g σ) o fun _ ρ1 o1 F1 H1 σ1 e1 kb s1 => ?_⟩
      exact ⟨F1, G, ρ1, _, rs.ext e1, s1, OutS.mv e1 kb o1 fun _ ρ2 k F2 H2 σ2 e2 kb2 s2 => k F2 H2 σ2 (e1.trans e2) (kb.trans kb2) s2⟩
theorem g_tup {es : List Expr} {k n : Nat} {u : List D → M Unit} (hc : X.calm = true) (h : SGs X W g Γ es u Γ1) (hn : (assignEach es X.env).length = n := by rfl) (hst : (assignEach es X.env).findIdx? (·.1) = none := by rfl) : SG X W g Γ q (.Tuple es k pos) (tgTup n u) Γ1 :=
  (pg_tup hc h hn hst).imp fun v σ H Q ⟨F, G, ρ, d, s, o⟩ => by
    unfold tgTup at o
    split at o
    · split at o
      · rename_i ds hl
        obtain ⟨r, s1⟩ := s.flat rfl
        cases r with
        | tup h rl => exact ⟨_, _, rfl, SqT.of (s1.ef _ _ h), by rw [rl.length]; exact hl, F, G, ρ, _, rl, s1, o⟩
      · exact o.elim
    · exact o.elim
end
section
variable {K : PySem.W.Frag} {F G H : Hp} {R : Asr} {n : Nat}
theorem OwnL.split {P : D → V → Asr} : ∀ {ds : List D} {vs : List V} {h : Hp} (j : Nat), OwnL P ds vs h → star (OwnL P (ds.take j) (vs.take j)) (OwnL P (ds.drop j) (vs.drop j)) h
  | _, _, _, 0, x => emp_star x
  | d :: ds, v :: vs, h, j + 1, x => star_assoc' (star_mono x (fun _ y => y) fun _ y => OwnL.split j y)
  | [], [], _, _ + 1, x => emp_star x
  | [], _ :: _, _, _ + 1, x => x.elim
  | _ :: _, [], _, _ + 1, x => x.elim
theorem OwnL.join {P : D → V → Asr} : ∀ {ds es : List D} {vs ws : List V} {h : Hp}, star (OwnL P ds vs) (OwnL P es ws) h → OwnL P (ds ++ es) (vs ++ ws) h
  | [], _, [], _, _, x => star_emp x
  | d :: ds, _, v :: vs, _, h, x => star_mono (star_assoc x) (fun _ y => y) fun _ y => OwnL.join y
  | [], _, _ :: _, _, _, ⟨_, _, _, y, _⟩ => y.elim
  | _ :: _, _, [], _, _, ⟨_, _, _, y, _⟩ => y.elim
theorem OwnL.one {P : D → V → Asr} {d : D} {v : V} {h : Hp} (x : P d v h) : OwnL P [d] [v] h := star_comm (emp_star x)
theorem drop_cons {α : Type} : ∀ {l : List α} {j : Nat}, j < l.length → ∃ a, l[j]? = some a ∧ l.drop j = a :: l.drop (j + 1)
  | [], _, h => by simp at h
  | a :: l, 0, _ => ⟨a, rfl, rfl⟩
  | a :: l, j + 1, h => by
    obtain ⟨b, h1, h2⟩ := drop_cons (l := l) (j := j) (by simpa using h)
    exact ⟨b, by simpa using h1, by simpa using h2⟩
theorem set_eq {α : Type} : ∀ {l : List α} {j : Nat} {a : α}, j < l.length → l.set j a = l.take j ++ a :: l.drop (j + 1)
  | [], _, _, h => by simp at h
  | b :: l, 0, a, _ => rfl
  | b :: l, j + 1, a, h => by
    rw [List.set_cons_succ, set_eq (l := l) (by simpa using h)]
    rfl
/-- one place of an owned list: what stood there is given up -/
theorem OwnL.set {d : D} {v : V} {ds : List D} {vs : List V} {j : Nat} (s : Sat F G H (star (Own K F n d v) (star (OwnL (Own K F n) ds vs) R))) (hj : j < ds.length) : Sat F G H (star (OwnL (Own K F n) (ds.set j d) (vs.set j v)) R) := by
  have hl : ds.length = vs.length := s.left.first fun h x => OwnL.len x
  obtain ⟨a, _, ha⟩ := drop_cons hj
  obtain ⟨b, _, hb⟩ := drop_cons (hl ▸ hj : j < vs.length)
  have s1 : Sat F G H (star (OwnL (Own K F n) (ds.take j) (vs.take j)) (star (OwnL (Own K F n) (a :: ds.drop (j + 1)) (b :: vs.drop (j + 1))) (star (Own K F n d v) R))) := by
    have := s.left.head fun h x => OwnL.split j x
    rw [ha, hb] at this
    exact this.assoc
  have s2 : Sat F G H (star (Own K F n a b) (star (OwnL (Own K F n) (ds.drop (j + 1)) (vs.drop (j + 1))) (star (OwnL (Own K F n) (ds.take j) (vs.take j)) (star (Own K F n d v) R)))) := s1.left.head (fun _ x => x) |>.assoc
  have s3 := s2.drop
  rw [set_eq hj, set_eq (hl ▸ hj : j < vs.length)]
  have s4 : Sat F G H (star (OwnL (Own K F n) (ds.take j) (vs.take j)) (star (Own K F n d v) (star (OwnL (Own K F n) (ds.drop (j + 1)) (vs.drop (j + 1))) R))) := (s3.left.tail fun _ x => star_left x)
  have s5 := (s4.tail fun _ x => star_assoc' x).assoc'
  exact s5.head fun _ x => OwnL.join x
theorem OwnL.snoc {d : D} {v : V} {ds : List D} {vs : List V} (s : Sat F G H (star (Own K F n d v) (star (OwnL (Own K F n) ds vs) R))) : Sat F G H (star (OwnL (Own K F n) (ds ++ [d]) (vs ++ [v])) R) :=
  s.left.assoc'.head fun _ x => OwnL.join (star_mono x (fun _ y => y) fun _ y => OwnL.one y)
theorem OwnL.ins {d : D} {v : V} {ds : List D} {vs : List V} (j : Nat) (s : Sat F G H (star (Own K F n d v) (star (OwnL (Own K F n) ds vs) R))) : Sat F G H (star (OwnL (Own K F n) (ds.take j ++ d :: ds.drop j) (vs.take j ++ v :: vs.drop j)) R) := by
  have s1 := (s.left.head fun _ x => OwnL.split j x).assoc
  have s2 : Sat F G H (star (OwnL (Own K F n) (ds.take j) (vs.take j)) (star (Own K F n d v) (star (OwnL (Own K F n) (ds.drop j) (vs.drop j)) R))) := s1.tail fun _ x => star_left x
  exact ((s2.tail fun _ x => star_assoc' x).assoc').head fun _ x => OwnL.join x
end
end Mir

set_option Elab.async false
set_option linter.all false
set_option maxRecDepth 100000
set_option maxHeartbeats 4000000
namespace Mir
open PySem PySem.Spec PyProof.Rows L2

section
variable {X : Cx} {W : WX} {g : Sg} {K : PySem.W.Frag} {F F1 G H : Hp} {σ σ1 : L2.St} {Γ Γ1 Γ2 Γ' Γb Γc : List Nat} {q q1 q2 n m : Nat} {a b c e e2 : Expr} {ma mb mi me : M D} {pos p apos : Pos} {E : Ends} {P R : Asr}
theorem Sat.takeT {ρ : Env} {i : Nat} {ds : List D} (s : Sat F G H (star P (slots K F Γ ρ σ))) (e : ρ[i]? = some (some (.list ds))) (hn : Γ.getD i 0 = n + 1) :
    ∃ a vs, σ[i]? = some (some (.ref a)) ∧ Sat F G H (star P (star (pts a (.lst vs)) (star (OwnL (Own K F n) ds vs) (slots K F Γ (ρ.set i none) σ)))) := by
  obtain ⟨⟨h, ⟨h1, h2, j, p, x⟩, e', d⟩, ef, eg, fg⟩ := s
  obtain ⟨v, ev, y⟩ := slots_take x e
  rw [hn] at y
  obtain ⟨h3, h4, j2, ⟨a, vs, rfl, o⟩, z⟩ := y
  exact ⟨a, vs, ev, ⟨h, ⟨h1, h2, j, p, star_assoc ⟨h3, h4, j2, o, z⟩⟩, e', d⟩, ef, eg, fg⟩
theorem Sat.mutL {F0 : Hp} (f : Ext F0 F) {ρ : Env} {i : Nat} {ds : List D} {a : Addr} {vs ws : List V} (s : Sat F G H (star (pts a (.lst ws)) (star (OwnL (Own K F m) ds vs) (slots K F0 Γ (ρ.set i none) σ)))) (ev : σ[i]? = some (some (.ref a))) (hi : i < ρ.length) :
    Sat F G (L2.upd H a (.lst vs)) (slots K F (Γ.set i (m + 1)) (ρ.set i (some (.list ds))) σ) := Sat.putL (Sat.upd (s.tail fun _ x => star_mono x (fun _ y => y) fun _ y => slots_ext f y)) ev hi
theorem lt_of_some {α : Type} {ρ : List α} {i : Nat} {d : α} (e : ρ[i]? = some d) : i < ρ.length := (List.getElem?_eq_some_iff.mp e).1
theorem Sat.lowerL' {ds : List D} {vs : List V} (hm : m ≤ n) (s : Sat F G H (star (OwnL (Own K F n) ds vs) R)) : ∃ F', Ext F F' ∧ Sat F' G H (star (OwnL (Own K F' m) ds vs) R) := lowerL (fun x => Sat.lower hm x) s
theorem Sat.tyL {ρ : Env} {i : Nat} {ds : List D} {v : V} (s : Sat F G H (slots K F Γ ρ σ)) (e : listAt ρ i = some ds) (hn : Γ.getD i 0 = n + 1) (ev : σ[i]? = some (some v)) : tyV K "list" v H := by
  obtain ⟨a, vs, ev', s1⟩ := s.takeL (listAt_some e) hn
  have : v = .ref a := Option.some.inj (Option.some.inj (ev.symm.trans ev'))
  subst this
  exact .inl ⟨rfl, vs, SqL.of s1.get⟩
/-- an item and the list that is to take it, both let down -/
theorem Sat.ready {d : D} {v : V} {a : Addr} {ws : List V} {ds : List D} {vs : List V} (s2 : Sat F G H (star (Own K F q d v) (star (pts a (.lst ws)) (star (OwnL (Own K F n) ds vs) R)))) (hq : m ≤ q) (hm : m ≤ n) :
    ∃ F2, Ext F F2 ∧ ∃ F3, Ext F2 F3 ∧ Sat F3 G H (star (Own K F3 m d v) (star (OwnL (Own K F3 m) ds vs) (star (pts a (.lst ws)) R))) := by
  obtain ⟨F2, e2, s3⟩ := s2.lower hq
  obtain ⟨F3, e3, s4⟩ := Sat.lowerL' hm ((s3.left.tail fun _ x => star_left x).left.head fun _ x => OwnL.ext e2 x)
  have s5 := ((s4.left.tail fun _ x => star_left x).left.head (P' := Own K F3 m d v) fun _ x => Own.ext e3 x).tail fun _ x => star_left x
  exact ⟨F2, e2, F3, e3, s5⟩
/-- x.append(e) -/
def mAppend (i : Nat) (me : M D) : M D := fun ρ => match listAt ρ i with
  | none => .stuck
  | some _ => (me ρ).bind fun d ρ => match listAt ρ i with
    | some ds => if ds.length < big then .ok .none (ρ.set i (some (.list (ds ++ [d])))) else .stuck
    | none => .stuck
theorem e_append (i n0 n m : Nat) {o : Expr} (hn0 : Γ.getD i 0 = n0 + 1) (hn : Γ1.getD i 0 = n + 1) (hm : m ≤ n) (hq : m ≤ q) (ho : PE X o (tVar i)) (he : SE X W Γ e me Γ1 q)
    (h : ∀ {t : TA}, PA X [e] t → PE X (.Call (.Attribute o "append" apos) [e] [] pos) (tBM X.K "list" rAppend (tVar i) t)) (hs : starEach [e] X.env = [(false, eval e X.env)]) : SE X W Γ (.Call (.Attribute o "append" apos) [e] [] pos) (mAppend i me) (Γ1.set i (m + 1)) 9 :=
  (h (pa_cons he pa_nil hs)).imp fun σ H Q ⟨F, G, ρ, s, o⟩ => by
    unfold mAppend at o
    cases e0 : listAt ρ i with
    | none => rw [e0] at o; exact o.elim
    | some ds0 =>
      simp only [e0] at o
      obtain ⟨v0, ev0, _⟩ := s.take (listAt_some e0)
      refine ⟨v0, ev0, s.tyL e0 hn0 ev0, F, G, ρ, s, Out.bind o fun d ρ1 o1 F1 H1 v e1 s1 => ?_⟩
      cases el : listAt ρ1 i with
      | none => simp only [el] at o1; exact o1.elim
      | some ds =>
        simp only [el] at o1
        split at o1
        · rename_i hz
          obtain ⟨a, vs, ev, s2⟩ := s1.takeT (listAt_some el) hn
          have ee : v0 = .ref a := Option.some.inj (Option.some.inj (ev0.symm.trans ev))
          subst ee
          have s2' := (s2.left.tail fun _ x => star_left x).left
          have hl : ds.length = vs.length := s2'.first fun h x => OwnL.len x
          obtain ⟨F2, e2, F3, e3, s5⟩ := s2.ready hq hm
          have s6 := Sat.mutL (e2.trans e3) (OwnL.snoc s5).left ev (lt_of_some (listAt_some el))
          refine ⟨a, vs, v, rfl, rfl, s2.left.get, by rw [← hl]; exact big_lt hz, ?_⟩
          exact o1 F3 _ _ ((e1.trans e2).trans e3) (s6.ofRep .non 9 rfl)
        · exact o1.elim
/-- x.insert(e, f) -/
def mInsert (i : Nat) (mi me : M D) : M D := fun ρ => match listAt ρ i with
  | none => .stuck
  | some _ => (mi ρ).bind fun k ρ => (me ρ).bind fun d ρ => match listAt ρ i, k with
    | some ds, .int j => if ds.length < big ∧ 0 ≤ j ∧ j < 1000000000 then .ok .none (ρ.set i (some (.list (ds.take j.toNat ++ d :: ds.drop j.toNat)))) else .stuck
    | _, _ => .stuck
def rIns : V → List V → Hp → VK → Prop := fun x vs H Q => ∃ (l : Addr) (xs : List V) (i : Int) (y : V), x = .ref l ∧ vs = [.int i, y] ∧ H l = some (.lst xs) ∧ xs.length < sizeLine ∧ 0 ≤ i ∧ i < 2 ^ 63 ∧
    Q .non (L2.upd H l (.lst (xs.take i.toNat ++ [y] ++ xs.drop i.toNat)))
theorem e_insert (i n0 n m : Nat) {o : Expr} (hn0 : Γ.getD i 0 = n0 + 1) (hn : Γ2.getD i 0 = n + 1) (hm : m ≤ n) (hq : m ≤ q) (ho : PE X o (tVar i)) (hi : SE X W Γ e mi Γ1 q1) (he : SE X W Γ1 e2 me Γ2 q)
    (h : ∀ {t : TA}, PA X [e, e2] t → PE X (.Call (.Attribute o "insert" apos) [e, e2] [] pos) (tBM X.K "list" rIns (tVar i) t)) (hs : starEach [e, e2] X.env = (false, eval e X.env) :: starEach [e2] X.env) (hs2 : starEach [e2] X.env = [(false, eval e2 X.env)]) :
    SE X W Γ (.Call (.Attribute o "insert" apos) [e, e2] [] pos) (mInsert i mi me) (Γ2.set i (m + 1)) 9 :=
  (h (pa_cons hi (pa_cons he pa_nil hs2) hs)).imp fun σ H Q ⟨F, G, ρ, s, o⟩ => by
    unfold mInsert at o
    cases e0 : listAt ρ i with
    | none => rw [e0] at o; exact o.elim
    | some ds0 =>
      simp only [e0] at o
      obtain ⟨v0, ev0, _⟩ := s.take (listAt_some e0)
      refine ⟨v0, ev0, s.tyL e0 hn0 ev0, F, G, ρ, s, Out.bind o fun k ρ0 o0 F0 H0 vk e00 s0 => ?_⟩
      obtain ⟨Fk, ek, rk, sk⟩ := s0.freeze
      refine ⟨Fk, G, ρ0, sk.mono fun _ => slots_ext ek, Out.bindE (e00.trans ek) o0 fun d ρ1 o1 F1 H1 v e1 s1 => ?_⟩
      cases el : listAt ρ1 i with
      | none => simp only [el] at o1; exact o1.elim
      | some ds =>
        cases rk with
        | int j =>
          simp only [el] at o1
          split at o1
          · rename_i hz
            obtain ⟨a, vs, ev, s2⟩ := s1.takeT (listAt_some el) hn
            have ee : v0 = .ref a := Option.some.inj (Option.some.inj (ev0.symm.trans ev))
            subst ee
            have s2' := (s2.left.tail fun _ x => star_left x).left
            have hl : ds.length = vs.length := s2'.first fun h x => OwnL.len x
            obtain ⟨F2, e2, F3, e3, s5⟩ := s2.ready hq hm
            have s6 := Sat.mutL (e2.trans e3) (OwnL.ins j.toNat s5).left ev (lt_of_some (listAt_some el))
            refine ⟨a, vs, j, v, rfl, rfl, s2.left.get, by rw [← hl]; exact big_lt hz.1, hz.2.1, by omega, ?_⟩
            rw [List.append_assoc, List.singleton_append]
            exact o1 F3 _ _ ((((e00.trans ek).trans e1).trans e2).trans e3) (s6.ofRep .non 9 rfl)
          · exact o1.elim
        | _ => simp only [el] at o1; exact o1.elim
/-- x.extend(e), e a list -/
def mExtend (i : Nat) (me : M D) : M D := fun ρ => match listAt ρ i with
  | none => .stuck
  | some _ => (me ρ).bind fun d ρ => match listAt ρ i, d with
    | some ds, .list es => if ds.length + es.length ≤ big then .ok .none (ρ.set i (some (.list (ds ++ es)))) else .stuck
    | _, _ => .stuck
theorem e_extend (i n0 n : Nat) {o : Expr} (hn0 : Γ.getD i 0 = n0 + 1) (hn : Γ1.getD i 0 = n + 1) (ho : PE X o (tVar i)) (he : SE X W Γ e me Γ1 q)
    (h : ∀ {t : TA}, PA X [e] t → PE X (.Call (.Attribute o "extend" apos) [e] [] pos) (tBM X.K "list" rExtend (tVar i) t)) (hs : starEach [e] X.env = [(false, eval e X.env)]) : SE X W Γ (.Call (.Attribute o "extend" apos) [e] [] pos) (mExtend i me) (Γ1.set i 1) 9 :=
  (h (pa_cons he pa_nil hs)).imp fun σ H Q ⟨F, G, ρ, s, o⟩ => by
    unfold mExtend at o
    cases e0 : listAt ρ i with
    | none => rw [e0] at o; exact o.elim
    | some ds0 =>
      simp only [e0] at o
      obtain ⟨v0, ev0, _⟩ := s.take (listAt_some e0)
      refine ⟨v0, ev0, s.tyL e0 hn0 ev0, F, G, ρ, s, Out.bind o fun d ρ1 o1 F1 H1 v e1 s1 => ?_⟩
      obtain ⟨F2, e2, r, s2⟩ := s1.freeze
      cases el : listAt ρ1 i with
      | none => simp only [el] at o1; exact o1.elim
      | some ds =>
        cases r with
        | lst hb rl =>
          rename_i b zs es
          simp only [el] at o1
          split at o1
          · rename_i hz
            obtain ⟨a, vs, ev, s3⟩ := (s2.mono fun _ => slots_ext e2).takeL (listAt_some el) hn
            have ee : v0 = .ref a := Option.some.inj (Option.some.inj (ev0.symm.trans ev))
            subst ee
            have hl : ds.length = vs.length := s3.left.first fun h x => OwnL.len x
            obtain ⟨F3, e3, s4⟩ := Sat.lowerL' (Nat.zero_le n) s3.left
            have s5 : Sat F3 G H1 (star (OwnL (Own X.K F3 0) (ds ++ es) (vs ++ zs)) (star (pts a (.lst vs)) (slots X.K F2 Γ1 (ρ1.set i none) σ))) := by
              obtain ⟨rv, s41⟩ := s4.zeroL
              exact s41.ofZeroL (rv.append (rl.ext e3))
            have s6 := Sat.mutL e3 s5.left ev (lt_of_some (listAt_some el))
            refine ⟨a, b, vs, zs, rfl, rfl, s3.get, s2.ef _ _ hb, by rw [← hl, rl.length]; exact big_le hz, ?_⟩
            exact o1 F3 _ _ ((e1.trans e2).trans e3) (s6.ofRep .non 9 rfl)
          · exact o1.elim
        | _ => simp only [el] at o1; exact o1.elim
end
end Mir

set_option Elab.async false
set_option linter.all false
set_option maxRecDepth 100000
set_option maxHeartbeats 4000000
namespace Mir
open PySem PySem.Spec PyProof.Rows L2

section
variable {X : Cx} {W : WX} {g : Sg} {K : PySem.W.Frag} {F F1 G H : Hp} {σ σ1 : L2.St} {Γ Γ1 Γ2 Γ' Γb Γc : List Nat} {q q1 q2 n m : Nat} {a b c e e2 o : Expr} {ma mb mi me : M D} {pos p apos : Pos} {E : Ends} {P R : Asr}
/-! ### x[e] = .. -/
def tgSub (i : Nat) (mi : M D) (d : D) : M Unit := fun ρ => match ρ[i]? with
  | some (some _) => (mi ρ).bind fun k ρ => match listAt ρ i, k with
    | some ds, .int k => match ixN ds.length k with
      | some j => .ok () (ρ.set i (some (.list (ds.set j d))))
      | none => .stuck
    | _, _ => .stuck
  | _ => .stuck
theorem g_sub (i n m : Nat) (hn : Γ1.getD i 0 = n + 1) (hm : m ≤ n) (hq : m ≤ q) (ho : PE X o (tVar i)) (hi : SE X W Γ e mi Γ1 q1)
    (ha : ∀ v, assign (.Subscript o e pos) X.env v = (do
      let ov ← holding [v] (eval o X.env)
      let iv ← holding [v, ov] (eval e X.env)
      standAt pos
      holding [v, ov, iv] (setItem ov iv v)
      release [v, ov, iv] []) := by intro _; rfl) : SG X W g Γ q (.Subscript o e pos) (tgSub i mi) (Γ1.set i (m + 1)) :=
  (pg_sub ho hi set_list ha).imp fun v σ H Q ⟨F, G, ρ, d, s, oo⟩ => by
    unfold tgSub at oo
    cases e0 : ρ[i]? with
    | none => rw [e0] at oo; exact oo.elim
    | some r0 =>
      cases r0 with
      | none => rw [e0] at oo; exact oo.elim
      | some d0 =>
        simp only [e0] at oo
        obtain ⟨hR, hr, s0, dj⟩ := s.comm.stash
        obtain ⟨v0, ev0, _⟩ := s0.take e0
        refine ⟨v0, ev0, F, hjoin G hR, ρ, s0, OutS.bindES dj (Ext.refl F) (keepB.refl g σ) oo fun dk ρ1 o1 F1 H1 vk e1 s1 => ?_⟩
        obtain ⟨Fk, ek, rk, sk⟩ := s1.freeze
        have s2 := (sk.unstash dj).comm.head (P' := Own X.K Fk q d v) (fun _ x => by subst x; exact hr.ext (e1.trans ek)) |>.tail fun _ => slots_ext ek
        cases el : listAt ρ1 i with
        | none => simp only [el] at o1; exact o1.elim
        | some ds =>
          cases rk with
          | int k =>
            simp only [el] at o1
            cases ej : ixN ds.length k with
            | none => simp only [ej] at o1; exact o1.elim
            | some j =>
              simp only [ej] at o1
              obtain ⟨a, vs, ev, s3⟩ := s2.takeT (listAt_some el) hn
              have ee : v0 = .ref a := Option.some.inj (Option.some.inj (ev0.symm.trans ev))
              subst ee
              have s3' := (s3.left.tail fun _ x => star_left x).left
              have hl : ds.length = vs.length := s3'.first fun h x => OwnL.len x
              obtain ⟨F2, e2, F3, e3, s5⟩ := s3.ready hq hm
              have hj : j < ds.length := (ixN_seq ej).2.1
              have s6 := Sat.mutL (e2.trans e3) (OwnL.set s5 hj).left ev (lt_of_some (listAt_some el))
              exact ⟨a, vs, k, j, rfl, rfl, s3.left.get, by rw [← hl]; exact ej, o1 F3 _ σ (((e1.trans ek).trans e2).trans e3) (keepB.refl g σ) s6⟩
          | _ => simp only [el] at o1; exact o1.elim
/-! ### x = e -/
def mAsg (m : M D) (t : D → M Unit) : M Fl := fun ρ => (m ρ).bind fun d ρ => (t d ρ).bind fun _ ρ => .ok .next ρ
variable {t : D → M Unit} {tg : Expr}
theorem asg_sound {gt : TG} (hg : ∀ v σ H Q, tG X W g Γ1 q t Γ2 v σ H Q → gt v σ H Q) (h : tS X W g Γ (mAsg ma t) Γ2 Γb Γc E σ H) : tAsg (tE X W Γ ma Γ1 q) gt E σ H := by
  obtain ⟨F, G, ρ, s, o⟩ := h
  refine ⟨F, G, ρ, s, OutS.bindE (Ext.refl F) (keepB.refl g σ) o fun d ρ1 o1 F1 H1 v e1 s1 => hg _ _ _ _ ?_⟩
  refine ⟨F1, G, ρ1, d, s1, OutS.bind e1 (keepB.refl g σ) o1 fun _ ρ2 o2 F2 H2 σ2 e2 kb s2 => ?_⟩
  exact o2 F2 H2 σ2 (e1.trans e2) kb s2
theorem s_asg (he : SE X W Γ e ma Γ1 q) (hg : SG X W g Γ1 q tg t Γ2) (hs : swapsWithSole [tg] e pos.line X.env = pure false := by rfl) (hw : swappedStores [tg] e X.env = pure none := by rfl)
    (h1 : (assignEach [tg] X.env).map (·.2) = [assign tg X.env] := by rfl) : SS X W g Γ (.Assign [tg] e pos) (mAsg ma t) Γ2 Γb Γc :=
  (ps_asg he hg hs hw h1).imp fun _ _ _ => asg_sound fun _ _ _ _ x => x
theorem s_set (i : Nat) {x : Str} {pos' : Pos} (hN : X.N.Nodup) (hi : X.N[i]? = some x) (hx : Loc X.env.scope x) (he : SE X W Γ e ma Γ1 q) (hb : g.Γp.getD i 0 = 0) (hs : swapsWith e (some (.Name x pos')) pos.line X.env = pure false := by rfl)
    (hf : X.fn x = true ∨ X.env.scope.names.lookup x = some .local := by first | exact .inl rfl | exact .inr rfl | assumption) : SS X W g Γ (.Assign [.Name x pos'] e pos) (mAsg ma (tgName i)) (Γ1.set i q) Γb Γc :=
  (ps_set hN hi hx he hs hf).imp fun _ _ _ => asg_sound fun v σ H Q ⟨F, G, ρ, d, s, o⟩ => by
    unfold tgName at o
    split at o
    · rename_i hi
      exact o F H _ (Ext.refl F) (keepB.set hb) (s.store hi)
    · exact o.elim
/-- a, b = x, y -/
def mPar (i j : Nat) (m : M (List D)) : M Fl := fun ρ => (m ρ).bind fun ds ρ => match ds with
  | [d1, d2] => if i < ρ.length ∧ j < ρ.length then .ok .next ((ρ.set i (some d1)).set j (some d2)) else .stuck
  | _ => .stuck
theorem Sat.storeT {ρ : Env} {i : Nat} {d : D} {v : V} (s : Sat F G H (star P (star (Own K F n d v) (slots K F Γ ρ σ)))) (hi : i < ρ.length) : Sat F G H (star P (slots K F (Γ.set i n) (ρ.set i (some d)) (σ.set i (some v)))) := by
  obtain ⟨hR, r, s1, dj⟩ := s.comm.stash
  exact ((s1.store hi).unstash dj).comm.head fun _ x => by subst x; exact r
theorem s_par (i j : Nat) {x y : Str} {px py pt : Pos} {kt k2 : Nat} {pt2 : Pos} {m : M (List D)} (hc : X.calm = true) (hN : X.N.Nodup) (hi : X.N[i]? = some x) (hj : X.N[j]? = some y) (hij : i ≠ j)
    (hx : X.env.scope.names.lookup x = some .local) (hy : X.env.scope.names.lookup y = some .local) (ha : SA X W Γ [a, b] m Γ1 [q1, q2]) (hb1 : g.Γp.getD i 0 = 0) (hb2 : g.Γp.getD j 0 = 0)
    (hw : swappedStores [.Tuple [.Name x px, .Name y py] kt pt] (.Tuple [a, b] k2 pt2) X.env = pure (some [x, y]))
    (hs : swapsWithSole [.Tuple [.Name x px, .Name y py] kt pt] (.Tuple [a, b] k2 pt2) pos.line X.env = pure false := by rfl) :
    SS X W g Γ (.Assign [.Tuple [.Name x px, .Name y py] kt pt] (.Tuple [a, b] k2 pt2) pos) (mPar i j m) ((Γ1.set i q1).set j q2) Γb Γc :=
  (ps_par hc hN hi hj hij hx hy ha hw hs).imp fun E σ H ⟨F, G, ρ, s, o⟩ => by
    refine ⟨F, G, ρ, s, OutS.bindE (Ext.refl F) (keepB.refl g σ) o fun ds ρ1 o1 F1 H1 vs e1 s1 => ?_⟩
    match ds, o1 with
    | [d1, d2], o1 =>
      obtain ⟨hl1, hl2⟩ := s1.lenA
      match vs, hl2, s1 with
      | [v, w], _, s1 =>
        refine ⟨v, w, rfl, ?_⟩
        simp only at o1
        split at o1
        · rename_i hh
          have s2 : Sat F1 G H1 (star (Own X.K F1 q1 d1 v) (star (Own X.K F1 q2 d2 w) (slots X.K F1 Γ1 ρ1 σ))) := s1.assoc.tail fun _ x => star_mono (star_assoc x) (fun _ y => y) fun _ y => star_emp y
          have s3 := s2.left.storeT hh.1
          exact o1 F1 H1 _ e1 ((keepB.set hb1).trans (keepB.set hb2)) (s3.store (by rw [List.length_set]; exact hh.2))
        · exact o1.elim
    | [], o1 => exact o1.elim
    | [_], o1 => exact o1.elim
    | _ :: _ :: _ :: _, o1 => exact o1.elim
/-- x += e -/
def mAug (f : D → D → Option D) (i : Nat) (m : M D) : M Fl := fun ρ => match ρ[i]? with
  | some (some d0) => if notL d0 = true then (m ρ).bind fun d ρ => match f d0 d with
    | some z => if i < ρ.length then .ok .next (ρ.set i (some z)) else .stuck
    | none => .stuck
    else .stuck
  | _ => .stuck
theorem s_aug {op : Operator} {f : D → D → Option D} {r : R2} (i : Nat) {x : Str} {pos' : Pos} (hN : X.N.Nodup) (hi : X.N[i]? = some x) (hx : Loc X.env.scope x) (he : SE X W Γ e ma Γ1 q) (ho : OpR X (inplaceOp op) r) (hf' : OpS X.K r f 0 q 9) (hb : g.Γp.getD i 0 = 0)
    (hf : X.fn x = true ∨ X.env.scope.names.lookup x = some .local := by first | exact .inl rfl | exact .inr rfl | assumption) : SS X W g Γ (.AugAssign (.Name x pos') op e pos) (mAug f i ma) (Γ1.set i 9) Γb Γc :=
  (ps_aug hN hi hx he ho hf).imp fun E σ H ⟨F, G, ρ, s, o⟩ => by
    unfold mAug at o
    cases e0 : ρ[i]? with
    | none => rw [e0] at o; exact o.elim
    | some r0 =>
      cases r0 with
      | none => rw [e0] at o; exact o.elim
      | some d0 =>
        simp only [e0] at o
        split at o
        · rename_i hd0
          obtain ⟨v0, ev0, s0⟩ := s.take e0
          obtain ⟨r0, _⟩ := s0.flat hd0
          refine ⟨v0, ev0, F, G, ρ, s, OutS.bindE (Ext.refl F) (keepB.refl g σ) o fun d ρ1 o1 F1 H1 v e1 s1 => ?_⟩
          cases ef : f d0 d with
          | none => simp only [ef] at o1; exact o1.elim
          | some z =>
            simp only [ef] at o1
            split at o1
            · rename_i hl
              refine hf'.run ef (s1.ofRep0 (r0.ext e1)) fun F2 H2 w e2 s2 => ?_
              exact o1 F2 H2 _ (e1.trans e2) (keepB.set hb) (Sat.store (s2.tail fun _ => slots_ext e2) hl)
            · exact o1.elim
        · exact o.elim

/-! ### while -/
def mWhile (t : M Bool) (b : M Fl) : Nat → M Fl
  | 0 => fun _ => .stuck
  | k + 1 => fun ρ => (t ρ).bind fun c ρ => if c = true then (b ρ).bind fun fl ρ => match fl with
      | .next => mWhile t b k ρ
      | .cont => mWhile t b k ρ
      | .brk => .ok .next ρ
      | .ret d => .ok (.ret d) ρ
    else .ok .next ρ
variable {tb : M Bool} {mw : M Fl} {body : List Stmt}
theorem s_while (k : Nat) (Γl Γx : List Nat) {Γt : List Nat} (hp : PassesOwn (model X.prog X.w) X.A X.env X.xe) (ht : ST X W Γl c tb Γt) (hb : SB X W g Γt body mw Γl Γx Γl) (h1 : leB Γl Γ = true) (h2 : leB Γx Γt = true) : SS X W g Γ (.While c body [] pos) (mWhile tb mw k) Γx Γb Γc :=
  (ps_while hp ht hb).imp fun E σ H ⟨F, G, ρ, s, o⟩ => by
    obtain ⟨F0, e0, s0⟩ := sat_low s h1
    refine ⟨fun n σ' H' => ∃ F' ρ', Ext F F' ∧ keepB g σ σ' ∧ Sat F' G H' (slots X.K F' Γl ρ' σ') ∧ OutS X W g F G σ (mWhile tb mw n ρ') (kS X g Γx Γb Γc F G σ E), ⟨k, F0, ρ, e0, keepB.refl g σ, s0, o⟩, ?_⟩
    rintro n σ1 H1 ⟨F1, ρ1, e1, kb1, s1, o1⟩
    cases n with
    | zero => exact o1.elim
    | succ n =>
      refine ⟨F1, G, ρ1, s1, OutS.bindE e1 kb1 o1 fun c ρ2 o2 F2 H2 e2 s2 => ?_⟩
      cases c with
      | true =>
        simp only [if_true] at o2 ⊢
        refine ⟨fun σ' H' => ∃ F' ρ', Ext F F' ∧ keepB g σ σ' ∧ Sat F' G H' (slots X.K F' Γl ρ' σ') ∧ OutS X W g F G σ (mWhile tb mw n ρ') (kS X g Γx Γb Γc F G σ E), fun σ' H' w => ⟨n, Nat.lt_succ_self n, w⟩, ?_⟩
        refine ⟨F2, G, ρ2, s2, OutS.bind (e1.trans e2) kb1 o2 fun fl ρ3 o3 F3 H3 σ3 e3 kb3 => ?_⟩
        cases fl with
        | next => exact fun s3 => ⟨F3, ρ3, (e1.trans e2).trans e3, kb1.trans kb3, s3, o3⟩
        | cont => exact fun s3 => ⟨F3, ρ3, (e1.trans e2).trans e3, kb1.trans kb3, s3, o3⟩
        | brk => exact fun s3 => o3 F3 H3 σ3 ((e1.trans e2).trans e3) (kb1.trans kb3) s3
        | ret d => exact fun v s3 => o3 F3 H3 σ3 ((e1.trans e2).trans e3) (kb1.trans kb3) v s3
      | false =>
        obtain ⟨F3, e3, s3⟩ := sat_low s2 h2
        exact o2 F3 H2 σ1 ((e1.trans e2).trans e3) kb1 s3

/-! ### what is walked -/
structure ItOk (K : PySem.W.Frag) (F : Hp) (J : It) (ds : List D) : Prop where
  stop : ∀ (i : Nat) (H : Hp), Ext F H → ds.length ≤ i → J.stop i H
  go : ∀ (i : Nat) (d : D) (H : Hp), Ext F H → ds[i]? = some d → J.go i H
  yld : ∀ (i : Nat) (d : D) (H : Hp) (x : V) (H' : Hp), Ext F H → ds[i]? = some d → J.yld i H x H' → (H' = H ∧ Rep K F x d) ∨ ∃ p o, H p = none ∧ H' = L2.upd H p o ∧ Rep K (L2.upd F p o) x d
def tI (X : Cx) (W : WX) (Γ : List Nat) (m : M (List D)) (Γ' : List Nat) : TI := fun σ H R => ∃ F G ρ, Sat F G H (slots X.K F Γ ρ σ) ∧
  Out X W F G σ (m ρ) fun ds ρ' => ∀ F' H' J, Ext F F' → Sat F' G H' (slots X.K F' Γ' ρ' σ) → ItOk X.K F' J ds → R J H'
def SI (X : Cx) (W : WX) (Γ : List Nat) (tg iter : Expr) (m : M (List D)) (Γ' : List Nat) : Prop := PI X tg iter (tI X W Γ m Γ')
theorem _root_.L2.PI.imp {X : Cx} {tg e : Expr} {t t' : TI} (h : PI X tg e t) (i : ∀ σ H R, t' σ H R → t σ H R) : PI X tg e t' := ⟨fun p s σ H R I x => h.run p s σ H R I (i σ H R x)⟩
/-- one item more: the state that the loop's body sees -/
theorem ItOk.one {J : It} {ds : List D} {i : Nat} {d : D} {x : V} {H' Fs : Hp} (ok : ItOk K F J ds) (f : Ext F Fs) (s : Sat Fs G H P) (hi : ds[i]? = some d) (y : J.yld i H x H') : ∃ F', Ext Fs F' ∧ Rep K F' x d ∧ Sat F' G H' P := by
  rcases ok.yld i d H x H' (f.trans s.ef) hi y with ⟨rfl, r⟩ | ⟨p, o, hp, rfl, r⟩
  · exact ⟨Fs, Ext.refl Fs, r.ext f, s⟩
  · obtain ⟨s1, e1⟩ := s.newF (o := o) hp
    refine ⟨_, e1, r.ext fun a u k => ?_, s1⟩
    by_cases z : a = p
    · subst z; rw [upd_same] at k ⊢; exact k
    · rw [upd_ne z] at k ⊢; exact f a u k
def mFor (t : D → M Unit) (b : M Fl) : List D → M Fl
  | [] => fun ρ => .ok .next ρ
  | d :: ds => fun ρ => (t d ρ).bind fun _ ρ => (b ρ).bind fun fl ρ => match fl with
      | .next => mFor t b ds ρ
      | .cont => mFor t b ds ρ
      | .brk => .ok .next ρ
      | .ret d => .ok (.ret d) ρ
def mForS (src : M (List D)) (t : D → M Unit) (b : M Fl) : M Fl := fun ρ => (src ρ).bind fun ds ρ => mFor t b ds ρ
theorem s_for (Γl Γx : List Nat) {Γt : List Nat} {iter : Expr} {src : M (List D)} (hp : PassesOwn (model X.prog X.w) X.A X.env X.xe) (hc : X.calm = true) (hi : SI X W Γ tg iter src Γ1) (hg : SG X W g Γl 0 tg t Γt) (hb : SB X W g Γt body mw Γl Γx Γl) (h1 : leB Γl Γ1 = true) (h2 : leB Γx Γl = true)
    (hs : ∀ x, foldedSetIterable iter X.env x = pure x := by intro _; rfl) : SS X W g Γ (.For tg iter body [] pos) (mForS src t mw) Γx Γb Γc :=
  (ps_for hp hc hi hg hb hs).imp fun E σ H ⟨F, G, ρ, s, o⟩ => by
    refine ⟨F, G, ρ, s, OutS.bindE (Ext.refl F) (keepB.refl g σ) o fun ds ρ0 o0 F0 H0 J e0 s0 ok => ?_⟩
    obtain ⟨F1, e1, s1⟩ := sat_low s0 h1
    refine ⟨fun i m σ' H' => m + i = ds.length ∧ ∃ F' ρ', Ext F0 F' ∧ keepB g σ σ' ∧ Sat F' G H' (slots X.K F' Γl ρ' σ') ∧ OutS X W g F G σ (mFor t mw (ds.drop i) ρ') (kS X g Γx Γb Γc F G σ E),
      ⟨ds.length, rfl, F1, ρ0, e1, keepB.refl g σ, s1, o0⟩, ?_⟩
    rintro i m σ2 H2 ⟨hm, F2, ρ2, e2, kb2, s2, o2⟩
    by_cases hlt : i < ds.length
    · obtain ⟨d, hd, hdrop⟩ := drop_cons hlt
      rw [hdrop] at o2
      refine .inr ⟨ok.go i d H2 (e2.trans s2.ef) hd, fun σ' H' => ∃ F' ρ', Ext F0 F' ∧ keepB g σ σ' ∧ Sat F' G H' (slots X.K F' Γl ρ' σ') ∧ OutS X W g F G σ (mFor t mw (ds.drop (i + 1)) ρ') (kS X g Γx Γb Γc F G σ E), fun σ' H' w => ⟨m - 1, by omega, by omega, w⟩, fun x H' y => ?_⟩
      obtain ⟨F3, e3, r3, s3⟩ := ok.one e2 s2 hd y
      have ee := (e0.trans e2).trans e3
      refine ⟨F3, G, ρ2, d, (s3.mono fun _ => slots_ext e3).ofRep0 r3, OutS.bind ee kb2 o2 fun _ ρ3 o3 F4 H4 σ4 e4 kb4 s4 => ?_⟩
      refine ⟨F4, G, ρ3, s4, OutS.bind (ee.trans e4) (kb2.trans kb4) o3 fun fl ρ4 o4 F5 H5 σ5 e5 kb5 => ?_⟩
      have e05 : Ext F0 F5 := ((e2.trans e3).trans e4).trans e5
      have kk := (kb2.trans kb4).trans kb5
      cases fl with
      | next => exact fun s5 => ⟨F5, ρ4, e05, kk, s5, o4⟩
      | cont => exact fun s5 => ⟨F5, ρ4, e05, kk, s5, o4⟩
      | brk => exact fun s5 => o4 F5 H5 σ5 (e0.trans e05) kk s5
      | ret d => exact fun v s5 => o4 F5 H5 σ5 (e0.trans e05) kk v s5
    · rw [List.drop_eq_nil_of_le (by omega)] at o2
      obtain ⟨F3, e3, s3⟩ := sat_low s2 h2
      exact .inl ⟨ok.stop i H2 (e2.trans s2.ef) (by omega), o2 F3 H2 σ2 ((e0.trans e2).trans e3) kb2 s3⟩
end
end Mir

set_option Elab.async false
set_option linter.all false
set_option maxRecDepth 100000
set_option maxHeartbeats 4000000
/-! ### enumerate(a tuple) -/
namespace Mir
open PySem PySem.Spec PyProof.Rows L2
section
theorem meets_enum1 {v : Value} {o : Obj} {H : Heap → Prop} (B : Begins v o H) :
    Meets (Builtin.«enumerate.__new__» ⟨[.type "enumerate", v], []⟩) (fun _ R s => H s.heap ∧
      R (.ok (.ret (.ref (s.heap.push o).objs.size))) { s with heap := (s.heap.push o).push { cls := .type "enumerate", data := .fields #[.none, .bool false, .ref s.heap.objs.size, rawInt 0, .none, .none] } }) :=
  .of_wp fun prog w A R s h => by
    obtain ⟨hp, g, d, tk, os⟩ := s; obtain ⟨h1, h⟩ := h
    have hsub := sub_enumerate
    have q1 : ∀ {A' : Around} {E : Value → Shared → Prop} {Q : Value → Shared → Prop}, Q (.ref hp.objs.size) ⟨hp.push o, g, d, tk, os⟩ → wpAny (model prog w) A' (pyIter v) Q E ⟨hp, g, d, tk, os⟩ :=
      fun q => B.iter prog w _ _ ⟨hp, g, d, tk, os⟩ _ h1 q
    wp_walk using q1
    refine wpAny_stack_any fun st => wpAny_pure ?_
    split
    · rename_i c _ _ _ _ _
      cases (c == Value.type "enumerate")
      · wp_walk using q1
        exact ⟨_, rfl, h⟩
      · wp_walk using q1
        exact ⟨_, rfl, h⟩
    · wp_walk using q1
      exact ⟨_, rfl, h⟩
theorem enum_begins1 {prog : Program} {w : World} {A : Around} {E : Value → Shared → Prop} {s : Shared} {v : Value} {o : Obj} {H : Heap → Prop} {Q : Value → Shared → Prop} (B : Begins v o H) (h1 : H s.heap)
    (h : ∀ h', IsEnum h' (s.heap.objs.size + 1) s.heap.objs.size 0 .none → h'.get? s.heap.objs.size = some o → h'.objs.size = s.heap.objs.size + 2 →
      (∀ b o, s.heap.get? b = some o → h'.get? b = some o) → Q (.ref (s.heap.objs.size + 1)) { s with heap := h' }) :
    wpAny (model prog w) A (call (.type "enumerate") [v]) Q E s := by
  refine callType_new F.called_enumerate (by decide) (F.typeCall_enumerate_1 _) (F.newCall_enumerate_1 _) (fun obj => F.args_object_init_2 obj _) F.entry_enumerate_new
    (meets_enum1 B) ⟨h1, ?_⟩
  have hz : (s.heap.push o).objs.size = s.heap.objs.size + 1 := Heap.size_push ..
  show _ ∧ _
  rw [hz]
  have he : IsEnum ((s.heap.push o).push { cls := .type "enumerate", data := .fields #[.none, .bool false, .ref s.heap.objs.size, rawInt 0, .none, .none] }) (s.heap.objs.size + 1) s.heap.objs.size 0 .none := by
    have := Heap.get?_push_size (s.heap.push o) (o := { cls := .type "enumerate", data := .fields #[.none, .bool false, .ref s.heap.objs.size, rawInt 0, .none, .none] }) rfl
    rw [hz] at this; exact this
  refine ⟨⟨_, he, rfl⟩, h _ he (Heap.get?_push_of_some _ (Heap.get?_push_size _ B.free)) (by rw [Heap.size_push, hz]) fun b o x => Heap.get?_push_of_some _ (Heap.get?_push_of_some _ x)⟩
/-- the tuple at a, each item in a new pair -/
def IteT (K : PySem.W.Frag) (a : Addr) : It :=
  ⟨fun i H => ∃ (xs : List V) (x : V), SqT K H a xs ∧ xs[i]? = some x, fun i H v H' => ∃ T x, v = .ref T ∧ H T = none ∧ H' = L2.upd H T (.tup [.int (i : Nat), x]) ∧ ∀ xs, SqT K H a xs → xs[i]? = some x, fun i H => ∃ xs : List V, SqT K H a xs ∧ xs.length ≤ i⟩
theorem turn_enumT {P : Program} {w : World} {K : PySem.W.Frag} {elts : List Expr} {kk : Nat} {tpos : Pos} (a e it : Addr) :
    Turn P w K (.Tuple elts kk tpos) (IteT K a) [e, it] e (fun i h => (∃ old, IsEnum h e it ((i : Nat) : Int) old) ∧ h.IsTupleIter it a i ∧ e ≠ it) where
  mem := by simp
  obj := fun i h st b hb => by
    obtain ⟨⟨old, he⟩, ⟨o, ho, hc, hd⟩, _⟩ := st
    have e' : b = e ∨ b = it := by simpa using hb
    rcases e' with z | z
    · rw [z]; exact ⟨_, he, fun v q => nomatch q⟩
    · rw [z]; exact ⟨o, ho, fun v q => by rw [hd] at q; cases q⟩
  keep := fun i h h' st k => let ⟨⟨old, he⟩, hi, hne⟩ := st; ⟨⟨old, k e (by simp) _ he⟩, hi.at fun o q => k it (by simp) o q, hne⟩
  item := by
    intro X hP hw hK hc i pins s σ H E I hf st hg
    subst hP hw hK
    obtain ⟨⟨old, he⟩, hit, hne⟩ := st
    obtain ⟨xs, x, hq, hx⟩ := hg
    obtain ⟨its, rv, p, hz⟩ := I.tuple hq
    obtain ⟨u, hu, ru⟩ := rv.get hx
    have hel : e < s.heap.objs.size := Heap.lt_size he
    have hil : it < s.heap.objs.size := by obtain ⟨_, q, _⟩ := hit; exact Heap.lt_size q
    have htu : s.heap.IsTuple a its.toArray := p
    have hai : a ≠ it := fun z => by
      obtain ⟨o1, q1, c1, _⟩ := hit
      obtain ⟨o2, q2, c2, _⟩ := htu
      rw [z, q1] at q2; cases q2
      rw [c1] at c2; injection c2 with c2; exact absurd c2 (by decide)
    have hea : e ≠ a := fun z => by
      obtain ⟨o2, q2, c2, _⟩ := htu
      rw [← z, he] at q2; cases q2; injection c2 with c2; exact absurd c2 (by decide)
    have D := Draws.tuple (prog := X.prog) (w := X.w) (A := X.A.in1) (I.ok.hd hc) it a hai its.toArray
    have hlt : i < its.toArray.size := by
      have := (List.getElem?_eq_some_iff.mp hu).1
      simpa using this
    refine wpAny_pyNext_enum_itemD D he ⟨hit, htu⟩ hlt hne (by simp [hne, hea]) fun y h' tk hy ho hst' hT hsz hk => ?_
    have ey : y = u := by
      have h2 : its.toArray[i]? = some u := by simpa using hu
      rw [h2] at hy; exact (Option.some.inj hy).symm
    subst ey
    refine ⟨_, rfl, wpAny_letOwnedTupleGo_enum (s := { s with heap := h', toks := tk + 1 }) ho fun h'' he' sb => ?_⟩
    have hT2 : h''.get? s.heap.objs.size = some { cls := .type "tuple", data := .seq #[.int i tk, y] } := (sb.2 _ (Nat.ne_of_gt hel)).trans hT
    have new : ObjOk X.prog X.w (L2.upd H s.heap.objs.size (.tup [.int (i : Nat), x])) h'' s.heap.objs.size (.tup [.int (i : Nat), x]) :=
      ⟨by show 2 ≤ sizeLine; decide, [.int i tk, y], .cons ⟨_, rfl⟩ (.cons ru .nil), ⟨_, hT2, rfl, _, rfl⟩⟩
    have I1 : Inv X pins σ (L2.upd H s.heap.objs.size (.tup [.int (i : Nat), x])) { s with heap := h'', toks := tk + 1 } :=
      I.turnedNew (ch := [e, it]) (fun b ob hb q => (sb.2 b (fun z => hb (by simp [z]))).trans (hk b ob (fun z => hb (by simp [z])) (fun z => hb (by simp [z])) q)) hf (Nat.le_refl _) new
    refine ⟨.ref s.heap.objs.size, _, I1, rfl, ⟨_, x, rfl, I.hok.fresh (Nat.le_refl _), rfl, fun ys hy => by rw [I.tuple_inj hy hq]; exact hx⟩, ⟨⟨y, ?_⟩, hst'.1.at fun o q => (sb.2 it (Ne.symm hne)).trans q, hne⟩, fun b hb => ?_⟩
    · have e1 : ((i + 1 : Nat) : Int) = (i : Int) + 1 := by omega
      rw [e1]; exact he'
    · have hb' : b < s.heap.objs.size := by
        have e' : b = e ∨ b = it := by simpa using hb
        rcases e' with z | z
        · rw [z]; exact hel
        · rw [z]; exact hil
      rw [upd_ne (Nat.ne_of_lt hb')]
      exact (hf b hb).1
  done := by
    intro X hP hw hK hc i pins s σ H E I hf st hg
    subst hP hw hK
    obtain ⟨⟨old, he⟩, hit, hne⟩ := st
    obtain ⟨xs, hq, hx⟩ := hg
    obtain ⟨its, rv, p, hz⟩ := I.tuple hq
    obtain ⟨f0, f1, f2, f3, f4, f5⟩ := hf it (by simp)
    have hl := rv.length
    have htu : s.heap.IsTuple a its.toArray := p
    have hai : a ≠ it := fun z => by
      obtain ⟨o1, q1, c1, _⟩ := hit
      obtain ⟨o2, q2, c2, _⟩ := htu
      rw [z, q1] at q2; cases q2
      rw [c1] at c2; injection c2 with c2; exact absurd c2 (by decide)
    unfold pyNext
    have hTT : s.TypeIs (.ref e) "enumerate" := ⟨_, he, rfl⟩
    refine wpAny_bind (wpAny_attempt (wpAny_callSpecial?_slot (name := Str.ofString "__next__") hTT F.slot_enumerate_next
      (wpAny_call_entry F.slot_enumerate_next hTT F.entry_enumerate_next ?_ (F.args_enumerate_next_1 _))))
    show wpAny _ _ (field (.ref e) 2 >>= _) _ _ _
    refine wpAny_bind (wpAny_field he rfl (x := .ref it) rfl ?_)
    have hnone : its.toArray[i]? = none := by simp; omega
    refine wpAny_bind (wpAny_nextOf_tuple_end (A := X.A.in1) (I.ok.hd hc) hit htu hnone fun h' x he' hx' => ?_)
    obtain ⟨o, ho, hcl⟩ := hx'
    refine wpAny_bind (wpAny_isInstance (T := "StopIteration") (b := true) ⟨o, ho, hcl⟩ isSubtype_stop ?_)
    exact wpAny_pure ⟨rfl, I.turned (t' := s.toks) (fun b o hb q => he' b o hb q) f0 f1 f3 f4 f5⟩
  self := fun A i s Q E st h => let ⟨⟨_, he⟩, _⟩ := st; wpAny_pyIter_enum he h
def iEnumA (K : PySem.W.Frag) (ta : TA) : TI := fun σ H R => ta σ H fun vs H1 => ∃ a xs, vs = [.ref a] ∧ ((SqL K H1 a xs ∧ R (Ite K a) H1) ∨ (SqT K H1 a xs ∧ R (IteT K a) H1))
theorem pi_enumA {X : Cx} {e : Expr} {ta : TA} {p pos tpos : Pos} {elts : List Expr} {kk : Nat} (hg : Gl X "enumerate") (hm : X.mg "enumerate" = none) (ha : PA X [e] ta) (hs : starEach [e] X.env = [(false, eval e X.env)]) :
    PI X (.Tuple elts kk tpos) (.Call (.Name "enumerate" p) [e] [] pos) (iEnumA X.K ta) := by
  refine ⟨fun pins s σ H R I h => ?_⟩
  refine Call_ (ld_blt I hg hm boot_enumerate (PyProof.Rows.callWith_type1 (thn (ha.run pos pins s σ H _ I h) fun us s1 ⟨vs, H1, I1, r1, q1⟩ => ?_) hs rfl))
  obtain ⟨a, xs, ex, q⟩ := q1
  subst ex
  cases r1 with
  | cons r rr =>
    cases rr
    cases r
    have fr : ∀ b, b ∈ [s1.heap.objs.size + 1, s1.heap.objs.size] → FpOk X pins H1 b := fun b hb => by
      have e' : b = s1.heap.objs.size + 1 ∨ b = s1.heap.objs.size := by simpa using hb
      have hle : s1.heap.objs.size ≤ b := by
        rcases e' with z | z
        · rw [z]; exact Nat.le_add_right _ _
        · rw [z]; exact Nat.le_refl _
      exact I1.fpOk hle (I1.hok.fresh hle)
    rcases q with ⟨hq, q⟩ | ⟨hq, q⟩
    · obtain ⟨its, rv, p', hz⟩ := I1.list hq
      refine call_enumerate_list p'.isList fun h' he hit hsz hk => wpAny_pyIter_enum he ?_
      have I2 : Inv X pins σ H1 { s1 with heap := h' } := I1.kept (t' := s1.toks) hk
      exact ⟨s1.heap.objs.size + 1, [s1.heap.objs.size + 1, s1.heap.objs.size], _, _, H1, rfl, I2, turn_enum a (s1.heap.objs.size + 1) s1.heap.objs.size, ⟨⟨.none, he⟩, hit, Nat.succ_ne_self _⟩, fr, q⟩
    · obtain ⟨its, rv, p', hz⟩ := I1.tuple hq
      refine enum_begins1 (begins_tuple a its.toArray) (show s1.heap.IsTuple a its.toArray from p') fun h' he hit hsz hk => wpAny_pyIter_enum he ?_
      have I2 : Inv X pins σ H1 { s1 with heap := h' } := I1.kept (t' := s1.toks) hk
      exact ⟨s1.heap.objs.size + 1, [s1.heap.objs.size + 1, s1.heap.objs.size], _, _, H1, rfl, I2, turn_enumT a (s1.heap.objs.size + 1) s1.heap.objs.size, ⟨⟨.none, he⟩, ⟨_, hit, rfl, rfl⟩, Nat.succ_ne_self _⟩, fr, q⟩
/-- a list or a tuple -/
def iSeq (K : PySem.W.Frag) (tl : TE) : TI := fun σ H R => tl σ H fun x H1 => ∃ a xs, x = .ref a ∧ ((SqL K H1 a xs ∧ R (Itl K a) H1) ∨ (SqT K H1 a xs ∧ R (Itt K a) H1))
theorem pi_seq {X : Cx} {tg l : Expr} {tl : TE} (hl : PE X l tl) : PI X tg l (iSeq X.K tl) := by
  refine ⟨fun pins s σ H R I h => ?_⟩
  refine thn (hl.run pins s σ H _ I h) fun v s1 ⟨x, H1, I1, r1, q1⟩ => ?_
  obtain ⟨a, xs, e, q⟩ := q1
  subst e
  cases r1
  rcases q with ⟨hq, q⟩ | ⟨hq, q⟩
  · obtain ⟨its, rv, p, hz⟩ := I1.list hq
    refine wpAny_pyIter_list p.isList ?_
    refine ⟨s1.heap.objs.size, [s1.heap.objs.size], _, _, H1, rfl, I1.kept (t' := s1.toks) fun b o e => Heap.get?_push_of_some _ e, turn_list a _, ⟨_, Heap.get?_push_size _ rfl, rfl, rfl⟩, fun b hb => ?_, q⟩
    have e : b = s1.heap.objs.size := by simpa using hb
    subst e
    exact I1.fpOk (Nat.le_refl _) (I1.hok.fresh (Nat.le_refl _))
  · obtain ⟨its, rv, p, hz⟩ := I1.tuple hq
    refine wpAny_pyIter_tuple (show s1.heap.IsTuple a its.toArray from p) ?_
    refine ⟨s1.heap.objs.size, [s1.heap.objs.size], _, _, H1, rfl, I1.kept (t' := s1.toks) fun b o e => Heap.get?_push_of_some _ e, turn_tuple a _, ⟨_, Heap.get?_push_size _ rfl, rfl, rfl⟩, fun b hb => ?_, q⟩
    have e : b = s1.heap.objs.size := by simpa using hb
    subst e
    exact I1.fpOk (Nat.le_refl _) (I1.hok.fresh (Nat.le_refl _))
end

/-! ### the sources of loops -/
section
variable {X : Cx} {W : WX} {K : PySem.W.Frag} {F G H : Hp} {σ : L2.St} {Γ Γ1 Γ2 : List Nat} {q q1 q2 : Nat} {a b c e tg : Expr} {ma mb : M D} {pos p tpos : Pos} {P : Asr}
def rangeD (lo : Int) (n : Nat) : List D := (List.range n).map fun (k : Nat) => .int (lo + (k : Int))
theorem rangeD_get {lo : Int} {n i : Nat} {d : D} (h : (rangeD lo n)[i]? = some d) : i < n ∧ d = .int (lo + (i : Int)) := by
  unfold rangeD at h
  rw [List.getElem?_map] at h
  by_cases hi : i < n
  · rw [List.getElem?_range hi] at h
    exact ⟨hi, (Option.some.inj h).symm⟩
  · rw [List.getElem?_eq_none (by simpa using hi)] at h; cases h
theorem itok_range {lo : Int} {n : Nat} : ItOk K F (Itr lo n) (rangeD lo n) where
  stop := fun i H _ h => by
    have : n ≤ i := by simpa [rangeD] using h
    exact this
  go := fun i d H _ h => (rangeD_get h).1
  yld := fun i d H x H' _ h y => by
    obtain ⟨rfl, rfl⟩ := y
    obtain ⟨_, rfl⟩ := rangeD_get h
    exact .inl ⟨rfl, .int _⟩
def fRange1 : D → Option (List D)
  | .int j => if -1000000 ≤ j ∧ j ≤ 1000000 then some (rangeD 0 j.toNat) else none
  | _ => none
def fRange2 : D → D → Option (List D)
  | .int i, .int j => if (-1000000 ≤ i ∧ i ≤ 1000000) ∧ (-1000000 ≤ j ∧ j ≤ 1000000) then some (rangeD i (j - i).toNat) else none
  | _, _ => none
def mI1 (f : D → Option (List D)) (a : M D) : M (List D) := fun ρ => (a ρ).bind fun d ρ => .lift (f d) ρ
def mI2 (f : D → D → Option (List D)) (a b : M D) : M (List D) := fun ρ => (a ρ).bind fun d ρ => (b ρ).bind fun e ρ => .lift (f d e) ρ
theorem i_range1 (hg : Gl X "range") (hm : X.mg "range" = none) (ha : SE X W Γ a ma Γ1 q) (hs : starEach [a] X.env = [(false, eval a X.env)]) : SI X W Γ tg (.Call (.Name "range" p) [a] [] pos) (mI1 fRange1 ma) Γ1 :=
  (pi_range1 hg hm (pa_cons ha pa_nil hs) hs).imp fun σ H R ⟨F, G, ρ, s, o⟩ => by
    refine ⟨F, G, ρ, s, Out.bind o fun d ρ1 o1 F1 H1 v e1 s1 => ?_⟩
    obtain ⟨ds, hd, k⟩ := o1.lift
    obtain ⟨F2, e2, r, s2⟩ := s1.freeze
    cases r with
    | int j =>
      simp only [fRange1] at hd
      split at hd
      · cases hd
        exact ⟨j, rfl, by omega, by omega, k F2 H1 _ (e1.trans e2) (s2.mono fun _ => slots_ext e2) itok_range⟩
      · cases hd
    | _ => cases hd
theorem i_range2 (hg : Gl X "range") (hm : X.mg "range" = none) (ha : SE X W Γ a ma Γ1 q1) (hb : SE X W Γ1 b mb Γ2 q2) (hs : starEach [a, b] X.env = (false, eval a X.env) :: starEach [b] X.env) (hs2 : starEach [b] X.env = [(false, eval b X.env)]) :
    SI X W Γ tg (.Call (.Name "range" p) [a, b] [] pos) (mI2 fRange2 ma mb) Γ2 :=
  (pi_range2 hg hm (pa_cons ha (pa_cons hb pa_nil hs2) hs) (by rw [hs, hs2]) hs2).imp fun σ H R ⟨F, G, ρ, s, o⟩ => by
    refine ⟨F, G, ρ, s, Out.bind o fun d ρ1 o1 F1 H1 v e1 s1 => ?_⟩
    obtain ⟨F1', e1', r1, s1'⟩ := s1.freeze
    refine ⟨F1', G, ρ1, s1'.mono fun _ => slots_ext e1', Out.bindE (e1.trans e1') o1 fun d2 ρ2 o2 F2 H2 v2 e2 s2 => ?_⟩
    obtain ⟨ds, hd, k⟩ := o2.lift
    obtain ⟨F2', e2', r2, s2'⟩ := s2.freeze
    cases r1 with
    | int i =>
      cases r2 with
      | int j =>
        simp only [fRange2] at hd
        split at hd
        · cases hd
          exact ⟨i, j, rfl, by omega, k F2' H2 _ (((e1.trans e1').trans e2).trans e2') (s2'.mono fun _ => slots_ext e2') itok_range⟩
        · cases hd
      | _ => cases hd
    | _ => cases hd
theorem itok_list {a : Addr} {xs : List V} {ds : List D} (h : SqL K F a xs) (r : RepL K F xs ds) : ItOk K F (Itl K a) ds where
  stop := fun i H e hi => ⟨xs, sqL_ext e h, by rw [r.length]; exact hi⟩
  go := fun i d H e hi => let ⟨v, hv, _⟩ := r.get hi; ⟨xs, v, sqL_ext e h, hv⟩
  yld := fun i d H x H' e hi y => by
    obtain ⟨rfl, y⟩ := y
    obtain ⟨v, hv, rv⟩ := r.get hi
    have := y xs (sqL_ext e h)
    rw [hv] at this; cases this
    exact .inl ⟨rfl, rv⟩
theorem itok_tup {a : Addr} {xs : List V} {ds : List D} (h : SqT K F a xs) (r : RepL K F xs ds) : ItOk K F (Itt K a) ds where
  stop := fun i H e hi => ⟨xs, sqT_ext e h, by rw [r.length]; exact hi⟩
  go := fun i d H e hi => let ⟨v, hv, _⟩ := r.get hi; ⟨xs, v, sqT_ext e h, hv⟩
  yld := fun i d H x H' e hi y => by
    obtain ⟨rfl, y⟩ := y
    obtain ⟨v, hv, rv⟩ := r.get hi
    have := y xs (sqT_ext e h)
    rw [hv] at this; cases this
    exact .inl ⟨rfl, rv⟩
def fSeq : D → Option (List D)
  | .list ds => some ds
  | .tuple ds => some ds
  | .dict [(.none, .list ds)] => some ds
  | _ => none
theorem fSeq_dct {kvs : List (Key × V)} {ds : List (D × D)} {out : List D} (r : RepK K F kvs ds) (h : fSeq (.dict ds) = some out) : False := by
  cases r with
  | nil => simp [fSeq] at h
  | cons r1 r2 rs =>
    rename_i k kd v kvs d ds
    cases k with
    | inl i => cases r1; simp [fSeq] at h
    | inr x => cases r1; simp [fSeq] at h
theorem i_seq (ha : SE X W Γ a ma Γ1 q) : SI X W Γ tg a (mI1 fSeq ma) Γ1 :=
  (pi_seq ha).imp fun σ H R ⟨F, G, ρ, s, o⟩ => by
    refine ⟨F, G, ρ, s, Out.bind o fun d ρ1 o1 F1 H1 v e1 s1 => ?_⟩
    obtain ⟨ds, hd, k⟩ := o1.lift
    obtain ⟨F2, e2, r, s2⟩ := s1.freeze
    have s3 := s2.mono fun _ => slots_ext e2
    cases r with
    | lst h rl => cases hd; exact ⟨_, _, rfl, .inl ⟨SqL.of (s2.ef _ _ h), k F2 H1 _ (e1.trans e2) s3 (itok_list (SqL.of h) rl)⟩⟩
    | tup h rl => cases hd; exact ⟨_, _, rfl, .inr ⟨SqT.of (s2.ef _ _ h), k F2 H1 _ (e1.trans e2) s3 (itok_tup (SqT.of h) rl)⟩⟩
    | dct h rl => exact (fSeq_dct rl hd).elim
    | scr h rl => cases hd; exact ⟨_, _, rfl, .inl ⟨sqL_ext s2.ef h, k F2 H1 _ (e1.trans e2) s3 (itok_list h rl)⟩⟩
    | _ => cases hd
/-- items in new pairs -/
theorem ext_upd {F H : Hp} {p : Addr} {o : HO} (e : Ext F H) (hp : H p = none) : Ext F (L2.upd F p o) := Ext.new (e.free hp)
theorem rep_pair {p : Addr} {x y : V} {d1 d2 : D} (e : Ext F H) (hp : H p = none) (r1 : Rep K F x d1) (r2 : Rep K F y d2) : Rep K (L2.upd F p (.tup [x, y])) (.ref p) (.tuple [d1, d2]) :=
  .tup upd_same (.cons (r1.ext (ext_upd e hp)) (.cons (r2.ext (ext_upd e hp)) .nil))
def enumD (ds : List D) : List D := (List.range ds.length).zipWith (fun k d => D_pair k d) ds
where D_pair (k : Nat) (d : D) : D := .tuple [.int (k : Int), d]
theorem enumD_get {ds : List D} {i : Nat} {d : D} (h : (enumD ds)[i]? = some d) : ∃ e, ds[i]? = some e ∧ d = .tuple [.int (i : Int), e] := by
  unfold enumD at h
  rw [List.getElem?_zipWith] at h
  cases e : ds[i]? with
  | none => rw [e] at h; cases h1 : (List.range ds.length)[i]? <;> rw [h1] at h <;> cases h
  | some x =>
    have hi : i < ds.length := (List.getElem?_eq_some_iff.mp e).1
    rw [e, List.getElem?_range hi] at h
    exact ⟨x, rfl, (Option.some.inj h).symm⟩
theorem enumD_len {ds : List D} : (enumD ds).length = ds.length := by simp [enumD]
theorem itok_enumL {a : Addr} {xs : List V} {ds : List D} (h : SqL K F a xs) (r : RepL K F xs ds) : ItOk K F (Ite K a) (enumD ds) where
  stop := fun i H e hi => ⟨xs, sqL_ext e h, by rw [r.length, ← enumD_len]; exact hi⟩
  go := fun i d H e hi => by
    obtain ⟨x, hx, _⟩ := enumD_get hi
    obtain ⟨v, hv, _⟩ := r.get hx
    exact ⟨xs, v, sqL_ext e h, hv⟩
  yld := fun i d H x H' e hi y => by
    obtain ⟨T, x, rfl, hT, rfl, y⟩ := y
    obtain ⟨z, hz, rfl⟩ := enumD_get hi
    obtain ⟨v, hv, rv⟩ := r.get hz
    have := y xs (sqL_ext e h)
    rw [hv] at this; cases this
    exact .inr ⟨T, _, hT, rfl, rep_pair e hT (.int _) rv⟩
theorem itok_enumT {a : Addr} {xs : List V} {ds : List D} (h : SqT K F a xs) (r : RepL K F xs ds) : ItOk K F (IteT K a) (enumD ds) where
  stop := fun i H e hi => ⟨xs, sqT_ext e h, by rw [r.length, ← enumD_len]; exact hi⟩
  go := fun i d H e hi => by
    obtain ⟨x, hx, _⟩ := enumD_get hi
    obtain ⟨v, hv, _⟩ := r.get hx
    exact ⟨xs, v, sqT_ext e h, hv⟩
  yld := fun i d H x H' e hi y => by
    obtain ⟨T, x, rfl, hT, rfl, y⟩ := y
    obtain ⟨z, hz, rfl⟩ := enumD_get hi
    obtain ⟨v, hv, rv⟩ := r.get hz
    have := y xs (sqT_ext e h)
    rw [hv] at this; cases this
    exact .inr ⟨T, _, hT, rfl, rep_pair e hT (.int _) rv⟩
def fEnum : D → Option (List D)
  | .list ds => some (enumD ds)
  | .tuple ds => some (enumD ds)
  | _ => none
theorem i_enum {elts : List Expr} {kk : Nat} (hg : Gl X "enumerate") (hm : X.mg "enumerate" = none) (ha : SE X W Γ a ma Γ1 q) (hs : starEach [a] X.env = [(false, eval a X.env)]) : SI X W Γ (.Tuple elts kk tpos) (.Call (.Name "enumerate" p) [a] [] pos) (mI1 fEnum ma) Γ1 :=
  (pi_enumA hg hm (pa_cons ha pa_nil hs) hs).imp fun σ H R ⟨F, G, ρ, s, o⟩ => by
    refine ⟨F, G, ρ, s, Out.bind o fun d ρ1 o1 F1 H1 v e1 s1 => ?_⟩
    obtain ⟨ds, hd, k⟩ := o1.lift
    obtain ⟨F2, e2, r, s2⟩ := s1.freeze
    have s3 := s2.mono fun _ => slots_ext e2
    cases r with
    | lst h rl => cases hd; exact ⟨_, _, rfl, .inl ⟨SqL.of (s2.ef _ _ h), k F2 H1 _ (e1.trans e2) s3 (itok_enumL (SqL.of h) rl)⟩⟩
    | tup h rl => cases hd; exact ⟨_, _, rfl, .inr ⟨SqT.of (s2.ef _ _ h), k F2 H1 _ (e1.trans e2) s3 (itok_enumT (SqT.of h) rl)⟩⟩
    | _ => cases hd
def zipD (xs ys : List D) : List D := xs.zipWith (fun x y => .tuple [x, y]) ys
theorem zipD_get {xs ys : List D} {i : Nat} {d : D} (h : (zipD xs ys)[i]? = some d) : ∃ x y, xs[i]? = some x ∧ ys[i]? = some y ∧ d = .tuple [x, y] := by
  unfold zipD at h
  rw [List.getElem?_zipWith] at h
  cases e : xs[i]? with
  | none => rw [e] at h; cases h
  | some x =>
    cases e2 : ys[i]? with
    | none => rw [e, e2] at h; cases h
    | some y => rw [e, e2] at h; exact ⟨x, y, rfl, rfl, (Option.some.inj h).symm⟩
theorem zipD_len {xs ys : List D} : (zipD xs ys).length = min xs.length ys.length := by simp [zipD]
theorem itok_zipL {a b : Addr} {xs ys : List V} {ds es : List D} (h : SqL K F a xs) (r : RepL K F xs ds) (h2 : SqL K F b ys) (r2 : RepL K F ys es) : ItOk K F (Itz K a b) (zipD ds es) where
  stop := fun i H e hi => ⟨xs, ys, sqL_ext e h, sqL_ext e h2, by rw [zipD_len] at hi; rw [r.length, r2.length]; omega⟩
  go := fun i d H e hi => by
    obtain ⟨x, y, hx, hy, _⟩ := zipD_get hi
    obtain ⟨v, hv, _⟩ := r.get hx
    obtain ⟨w, hw, _⟩ := r2.get hy
    exact ⟨xs, ys, v, w, sqL_ext e h, sqL_ext e h2, hv, hw⟩
  yld := fun i d H x H' e hi y => by
    obtain ⟨T, x, z, rfl, hT, rfl, y1, y2⟩ := y
    obtain ⟨dx, dy, hx, hy, rfl⟩ := zipD_get hi
    obtain ⟨v, hv, rv⟩ := r.get hx
    obtain ⟨w, hw, rw'⟩ := r2.get hy
    have q1 := y1 xs (sqL_ext e h)
    have q2 := y2 ys (sqL_ext e h2)
    rw [hv] at q1; cases q1
    rw [hw] at q2; cases q2
    exact .inr ⟨T, _, hT, rfl, rep_pair e hT rv rw'⟩
theorem itok_zipT {a b : Addr} {xs ys : List V} {ds es : List D} (h : SqT K F a xs) (r : RepL K F xs ds) (h2 : SqT K F b ys) (r2 : RepL K F ys es) : ItOk K F (RZ.ItzT K a b) (zipD ds es) where
  stop := fun i H e hi => ⟨xs, ys, sqT_ext e h, sqT_ext e h2, by rw [zipD_len] at hi; rw [r.length, r2.length]; omega⟩
  go := fun i d H e hi => by
    obtain ⟨x, y, hx, hy, _⟩ := zipD_get hi
    obtain ⟨v, hv, _⟩ := r.get hx
    obtain ⟨w, hw, _⟩ := r2.get hy
    exact ⟨xs, ys, v, w, sqT_ext e h, sqT_ext e h2, hv, hw⟩
  yld := fun i d H x H' e hi y => by
    obtain ⟨T, x, z, rfl, hT, rfl, y1, y2⟩ := y
    obtain ⟨dx, dy, hx, hy, rfl⟩ := zipD_get hi
    obtain ⟨v, hv, rv⟩ := r.get hx
    obtain ⟨w, hw, rw'⟩ := r2.get hy
    have q1 := y1 xs (sqT_ext e h)
    have q2 := y2 ys (sqT_ext e h2)
    rw [hv] at q1; cases q1
    rw [hw] at q2; cases q2
    exact .inr ⟨T, _, hT, rfl, rep_pair e hT rv rw'⟩
def fZip : D → D → Option (List D)
  | .list xs, .list ys => some (zipD xs ys)
  | .tuple xs, .tuple ys => some (zipD xs ys)
  | _, _ => none
theorem i_zip {elts : List Expr} {kk : Nat} (hg : Gl X "zip") (hm : X.mg "zip" = none) (ha : SE X W Γ a ma Γ1 q1) (hb : SE X W Γ1 b mb Γ2 q2) (hs : starEach [a, b] X.env = (false, eval a X.env) :: starEach [b] X.env) (hs2 : starEach [b] X.env = [(false, eval b X.env)]) :
    SI X W Γ (.Tuple elts kk tpos) (.Call (.Name "zip" p) [a, b] [] pos) (mI2 fZip ma mb) Γ2 :=
  (RZ.pi_zipA hg hm (pa_cons ha (pa_cons hb pa_nil hs2) hs) hs (by rw [hs2]; rfl)).imp fun σ H R ⟨F, G, ρ, s, o⟩ => by
    refine ⟨F, G, ρ, s, Out.bind o fun d ρ1 o1 F1 H1 v e1 s1 => ?_⟩
    obtain ⟨F1', e1', r1, s1'⟩ := s1.freeze
    refine ⟨F1', G, ρ1, s1'.mono fun _ => slots_ext e1', Out.bindE (e1.trans e1') o1 fun d2 ρ2 o2 F2 H2 v2 e2 s2 => ?_⟩
    obtain ⟨ds, hd, k⟩ := o2.lift
    obtain ⟨F2', e2', r2, s2'⟩ := s2.freeze
    have s3 := s2'.mono fun _ => slots_ext e2'
    have ee := ((e1.trans e1').trans e2).trans e2'
    have r1' := r1.ext (e2.trans e2')
    cases r1' with
    | lst h rl =>
      cases r2 with
      | lst h2 rl2 => cases hd; exact ⟨_, _, _, _, rfl, .inl ⟨SqL.of (s2'.ef _ _ h), SqL.of (s2'.ef _ _ h2), k F2' H2 _ ee s3 (itok_zipL (SqL.of h) rl (SqL.of h2) rl2)⟩⟩
      | _ => cases hd
    | tup h rl =>
      cases r2 with
      | tup h2 rl2 => cases hd; exact ⟨_, _, _, _, rfl, .inr ⟨SqT.of (s2'.ef _ _ h), SqT.of (s2'.ef _ _ h2), k F2' H2 _ ee s3 (itok_zipT (SqT.of h) rl (SqT.of h2) rl2)⟩⟩
      | _ => cases hd
    | _ => cases hd
end
end Mir

set_option Elab.async false
set_option linter.all false
set_option maxRecDepth 100000
set_option maxHeartbeats 4000000
namespace Mir
open PySem PySem.Spec PyProof.Rows L2

def noX {α : Type} (r : Rs α) : Rs α := match r with
  | .exc _ _ => .stuck
  | r => r
def W0 : WX := fun _ _ _ _ => False
def wipeE (ρ : Env) : List Nat → Env
  | [] => ρ
  | v :: vs => (wipeE ρ vs).set v none
theorem wipeE_length (ρ : Env) : ∀ vs : List Nat, (wipeE ρ vs).length = ρ.length
  | [] => rfl
  | v :: vs => by unfold wipeE; rw [List.length_set, wipeE_length ρ vs]
theorem wipeE_some {ρ : Env} {i : Nat} {x : D} : ∀ {vs : List Nat}, (wipeE ρ vs)[i]? = some (some x) → ρ[i]? = some (some x) ∧ i ∉ vs
  | [], h => ⟨h, by simp⟩
  | v :: vs, h => by
    unfold wipeE at h
    by_cases hi : v = i
    · subst hi
      by_cases hv : v < (wipeE ρ vs).length
      · rw [List.getElem?_set_self hv] at h; cases h
      · rw [List.getElem?_eq_none (by simpa using hv)] at h; cases h
    · rw [List.getElem?_set_ne hi] at h
      obtain ⟨h1, h2⟩ := wipeE_some h
      exact ⟨h1, by simp only [List.mem_cons, not_or]; exact ⟨fun e => hi e.symm, h2⟩⟩
section
variable {K : PySem.W.Frag} {F G H : Hp} {P : Asr}
theorem slots_agree : ∀ {Γ : List Nat} {ρ : Env} {σ σ' : L2.St} {h : Hp}, slots K F Γ ρ σ h → σ.length = σ'.length → (∀ (i : Nat) (d : D), ρ[i]? = some (some d) → σ'[i]? = σ[i]?) → slots K F Γ ρ σ' h
  | n :: Γ, r :: ρ, s :: σ, s' :: σ', h, x, hl, ha => by
    refine star_mono x (fun _ y => ?_) fun _ y => slots_agree y (by simpa using hl) fun i d e => by simpa using ha (i + 1) d (by simpa using e)
    cases r with
    | none => exact y
    | some d =>
      have := ha 0 d rfl
      simp at this
      subst this
      exact y
  | [], [], [], [], _, x, _, _ => x
  | _, _, [], _ :: _, _, _, hl, _ => by simp at hl
  | _, _, _ :: _, [], _, _, hl, _ => by simp at hl
  | [], _ :: _, _, _, _, x, _, _ => x.elim
  | [], [], _ :: _, _, _, x, _, _ => x.elim
  | _ :: _, [], _, _, _, x, _, _ => x.elim
  | _ :: _, _ :: _, [], [], _, x, _, _ => x.elim
theorem Sat.wipeAll {Γ : List Nat} {ρ : Env} {σ : L2.St} (s : Sat F G H (slots K F Γ ρ σ)) : ∀ vs : List Nat, Sat F G H (slots K F Γ (wipeE ρ vs) σ)
  | [] => s
  | v :: vs => (Sat.wipeAll s vs).clear v
theorem Sat.agree {Γ : List Nat} {ρ : Env} {σ σ' : L2.St} (s : Sat F G H (slots K F Γ ρ σ)) (hl : σ.length = σ'.length) (ha : ∀ (i : Nat) (d : D), ρ[i]? = some (some d) → σ'[i]? = σ[i]?) : Sat F G H (slots K F Γ ρ σ') := s.mono fun _ x => slots_agree x hl ha
end
/-- in a comprehension's block: all slots but its own stay -/
def gB (n : Nat) (vs : List Nat) : Sg := ⟨(List.range n).map fun i => if vs.contains i then 0 else 1, [], 0⟩
theorem gB_get {n i : Nat} {vs : List Nat} (hi : i < n) (hv : i ∉ vs) : (gB n vs).Γp.getD i 0 ≠ 0 := by
  have hc : vs.contains i = false := by
    rw [Bool.eq_false_iff]; intro z; exact hv (by simpa using z)
  have e : ((List.range n).map fun i => if vs.contains i then 0 else 1)[i]? = some (if vs.contains i then 0 else 1) := by
    rw [List.getElem?_map, List.getElem?_range hi]; rfl
  show ((List.range n).map fun i => if vs.contains i then 0 else 1).getD i 0 ≠ 0
  rw [List.getD_eq_getElem?_getD, e, hc]
  decide
theorem wipe_eq {σ σ2 : L2.St} {vs : List Nat} (hl : σ2.length = σ.length) (h : ∀ i, i < σ.length → i ∉ vs → σ2[i]? = (wipe σ vs)[i]?) : wipe σ2 vs = wipe σ vs := by
  have key : ∀ (τ : L2.St) (ws : List Nat) (i : Nat), i < τ.length → i ∈ ws → (wipe τ ws)[i]? = some none := by
    intro τ ws
    induction ws with
    | nil => intro i _ hm; cases hm
    | cons w ws ih =>
      intro i hi hm
      unfold L2.wipe
      by_cases hw : w = i
      · subst hw; rw [List.getElem?_set_self (by rw [wipe_length]; exact hi)]
      · rw [List.getElem?_set_ne hw]
        exact ih i hi ((List.mem_cons.mp hm).resolve_left fun z => hw z.symm)
  refine List.ext_getElem? fun i => ?_
  by_cases hi : i < σ.length
  · by_cases hm : i ∈ vs
    · rw [key σ2 vs i (hl ▸ hi) hm, key σ vs i hi hm]
    · rw [wipe_out hm, h i hi hm]
  · rw [List.getElem?_eq_none (by rw [wipe_length]; omega), List.getElem?_eq_none (by rw [wipe_length]; omega)]
theorem Rs.bind_assoc {α β γ : Type} (r : Rs α) (f : α → Env → Rs β) (h : β → Env → Rs γ) : (r.bind f).bind h = r.bind fun a ρ => (f a ρ).bind h := by cases r <;> rfl
section
variable {X : Cx} {W : WX} {F F1 G H : Hp} {σ : L2.St} {α β : Type}
theorem Out.noX {r : Rs α} {f : α → Env → Rs β} {k : β → Env → Prop} {k' : α → Env → Prop} {F' G' : Hp} {σ' : L2.St} (o : Out X W F G σ ((Mir.noX r).bind f) k) (i : ∀ a ρ, Out X W F G σ (f a ρ) k → k' a ρ) : Out X W0 F' G' σ' r k' := by
  cases r with
  | stuck => exact o.elim
  | ok a ρ => exact i a ρ o
  | exc x ρ => exact o.elim
theorem OutS.noX {g : Sg} {r : Rs α} {f : α → Env → Rs β} {k : β → Env → Prop} {k' : α → Env → Prop} {F' G' : Hp} {σ' : L2.St} (o : Out X W F G σ ((Mir.noX r).bind f) k) (i : ∀ a ρ, Out X W F G σ (f a ρ) k → k' a ρ) : OutS X W0 g F' G' σ' r k' := by
  cases r with
  | stuck => exact o.elim
  | ok a ρ => exact i a ρ o
  | exc x ρ => exact o.elim
/-! ### list comprehensions -/
def mLc (vs : List Nat) (t : D → M Unit) (c : M Bool) (e : M D) : List D → M (List D)
  | [] => fun ρ => .ok [] ρ
  | d :: ds => fun ρ => (noX (t d ρ)).bind fun _ ρ => (noX (c ρ)).bind fun b ρ => if b = true then (noX (e ρ)).bind fun x ρ => (mLc vs t c e ds (wipeE ρ vs)).bind fun r ρ => .ok (x :: r) ρ
      else mLc vs t c e ds (wipeE ρ vs)
def mComp (vs : List Nat) (src : M (List D)) (t : D → M Unit) (c : M Bool) (e : M D) : M D := fun ρ => (src ρ).bind fun ds ρ => if ds.length ≤ big then (mLc vs t c e ds (wipeE ρ vs)).bind fun r ρ => .ok (.list r) ρ else .stuck
def mYes : M Bool := fun ρ => .ok true ρ
def STs (X : Cx) (W : WX) (Γ : List Nat) (ifs : List Expr) (m : M Bool) (Γ' : List Nat) : Prop := PTs X ifs (tT X W Γ m Γ')
theorem _root_.L2.PTs.imp {X : Cx} {e : List Expr} {t t' : TT} (h : PTs X e t) (i : ∀ σ H Q, t' σ H Q → t σ H Q) : PTs X e t' := ⟨fun p s σ H Q I x => h.run p s σ H Q I (i σ H Q x)⟩
variable {Γ Γ1 Γt Γc Γe Γl : List Nat} {q qe : Nat} {c e elt tg iter : Expr} {src : M (List D)} {t : D → M Unit} {mc : M Bool} {me : M D}
theorem ts_nil : STs X W Γ [] mYes Γ := pts_nil.imp fun σ H Q ⟨F, G, ρ, s, o⟩ => o F H (Ext.refl F) s
theorem ts_one (h : ST X W Γ c mc Γ1) : STs X W Γ [c] mc Γ1 := pts_one h
def lcW (X : Cx) (W : WX) (vs : List Nat) (t : D → M Unit) (mc : M Bool) (me : M D) (qe : Nat) (Γl : List Nat) (F G : Hp) (σ : L2.St) (Q : VK) (F0 : Hp) (ds : List D) (L : Addr) (i : Nat) (H' : Hp) : Prop := ∃ (F' : Hp) (ρ' : Env) (acc : List D), Ext F0 F' ∧ acc.length ≤ i ∧
  Sat F' G H' (star (Own X.K F' (qe + 1) (.list acc) (.ref L)) (slots X.K F' Γl (wipeE ρ' vs) (wipe σ vs))) ∧
  Out X W F G σ ((mLc vs t mc me (ds.drop i) (wipeE ρ' vs)).bind fun r ρ => .ok (PyData.list (acc ++ r)) ρ) fun d ρ' => ∀ F' H' v, Ext F F' → Sat F' G H' (star (Own X.K F' (qe + 1) d v) (slots X.K F' Γl ρ' σ)) → Q v H'
theorem wipeE_none {ρ : Env} {i : Nat} : ∀ {vs : List Nat}, i ∈ vs → i < ρ.length → (wipeE ρ vs)[i]? = some none
  | v :: vs, hm, hi => by
    unfold wipeE
    by_cases hv : v = i
    · subst hv; rw [List.getElem?_set_self (by rw [wipeE_length]; exact hi)]
    · rw [List.getElem?_set_ne hv]
      exact wipeE_none ((List.mem_cons.mp hm).resolve_left fun z => hv z.symm) hi
/-- the block's slots: forgotten what is its own -/
theorem Sat.toB {Γ : List Nat} {ρ : Env} {σ' : L2.St} {vs : List Nat} {K : PySem.W.Frag} (hl : σ'.length = σ.length) (ha : ∀ i, i < σ.length → i ∉ vs → σ'[i]? = (wipe σ vs)[i]?) (s : Sat F G H (slots K F1 Γ ρ σ')) : Sat F G H (slots K F1 Γ (wipeE ρ vs) (wipe σ vs)) := by
  obtain ⟨⟨h, x, a1, a2⟩, a3, a4, a5⟩ := s
  have hw : ∀ (ws : List Nat) {G0 F0 : Hp}, Sat F0 G0 H (slots K F1 Γ ρ σ') → Sat F0 G0 H (slots K F1 Γ (wipeE ρ ws) σ') := by
    intro ws
    induction ws with
    | nil => exact fun s => s
    | cons w ws ih =>
      intro G0 F0 s
      have s1 := ih s
      show Sat F0 G0 H (slots K F1 Γ ((wipeE ρ ws).set w none) σ')
      cases e : (wipeE ρ ws)[w]? with
      | none => rw [List.set_eq_of_length_le (by simpa using e)]; exact s1
      | some r =>
        cases r with
        | none => rw [set_self e]; exact s1
        | some d =>
          obtain ⟨⟨h', x', b1, b2⟩, b3, b4, b5⟩ := s1
          obtain ⟨v, _, y⟩ := slots_take x' e
          exact Sat.drop ⟨⟨h', y, b1, b2⟩, b3, b4, b5⟩
  refine (hw vs ⟨⟨h, x, a1, a2⟩, a3, a4, a5⟩).mono fun h' y => slots_agree y (by rw [wipe_length]; exact hl) fun i d hi => ?_
  obtain ⟨hi1, hi2⟩ := wipeE_some hi
  have hlt : i < σ.length := by
    rw [← hl, ← (slots_len x).2]; exact lt_of_some hi1
  exact (ha i hlt hi2).symm
theorem Sat.ofB {Γ : List Nat} {ρ : Env} {vs : List Nat} {K : PySem.W.Frag} (s : Sat F G H (slots K F1 Γ (wipeE ρ vs) (wipe σ vs))) : Sat F G H (slots K F1 Γ (wipeE ρ vs) σ) :=
  s.mono fun h y => slots_agree y (wipe_length σ vs) fun i d hi => (wipe_out (wipeE_some hi).2).symm
theorem lc_sound {vs : List Nat} (h1 : leB Γl Γ1 = true) (h2 : leB Γl Γc = true) (h3 : leB Γl Γe = true) {Q : VK} (h : tE X W Γ (mComp vs src t mc me) Γl (qe + 1) σ H Q) :
    tLc (tI X W Γ src Γ1) (tG X W0 (gB Γl.length vs) Γl 0 t Γt) (tT X W0 Γt mc Γc) (tE X W0 Γc me Γe qe) vs σ H Q := by
  obtain ⟨F, G, ρ, s, o⟩ := h
  refine ⟨F, G, ρ, s, Out.bind o fun ds ρ0 o0 F0 H0 J e0 s0 ok D hD => ?_⟩
  split at o0
  · rename_i hz
    obtain ⟨F1, e1, s1⟩ := sat_low s0 h1
    have hlen : Γl.length = σ.length := s1.slotsLen.1
    have s1' : Sat F1 G H0 (slots X.K F1 Γl (wipeE ρ0 vs) (wipe σ vs)) := s1.toB rfl (fun i _ hv => (wipe_out hv).symm)
    refine ⟨fun i m H' => m + i = ds.length ∧ lcW X W vs t mc me qe Γl F G σ Q F0 ds D i H', ⟨ds.length, rfl, F1, ρ0, [], e1, Nat.le_refl _, ?_, o0⟩, ?_⟩
    · refine ((s1'.newO (o := .lst []) hD).head (P' := Own X.K F1 (qe + 1) (.list []) (.ref D)) fun h x => ?_)
      exact ⟨D, [], rfl, h, fun _ => none, fun _ => .inr ⟨rfl, rfl⟩, x, fun _ => rfl⟩
    · rintro i m H2 ⟨hm, F2, ρ2, acc, e2, hacc, s2, o2⟩
      by_cases hlt : i < ds.length
      · obtain ⟨d, hd, hdrop⟩ := drop_cons hlt
        rw [hdrop] at o2
        have hgo := ok.go i d H2 (e2.trans s2.ef) hd
        refine .inr ⟨hgo, lcW X W vs t mc me qe Γl F G σ Q F0 ds D (i + 1), fun H' w => ⟨m - 1, by omega, by omega, w⟩, fun x H' y => ?_⟩
        obtain ⟨F3, e3, r3, s3⟩ := ok.one e2 s2 hd y
        obtain ⟨hR, hr, s4, dj⟩ := s3.comm.stash
        rw [mLc, Rs.bind_assoc] at o2
        refine ⟨F3, hjoin G hR, _, d, (s4.mono fun _ => slots_ext e3).ofRep0 r3, OutS.noX o2 fun _ ρ5 o5 F5 H5 σ5 e5 kb5 s5 => ?_⟩
        have hl5 : σ5.length = σ.length := by rw [kb5.1, wipe_length]
        have ha5 : ∀ i, i < σ.length → i ∉ vs → σ5[i]? = (wipe σ vs)[i]? := fun i hi hv => kb5.2 i (gB_get (by rw [hlen]; exact hi) hv)
        refine ⟨wipe_eq hl5 ha5, F5, hjoin G hR, ρ5, s5, ?_⟩
        rw [Rs.bind_assoc] at o5
        refine Out.noX o5 fun b ρ6 o6 F6 H6 e6 s6 => ?_
        cases b with
        | false =>
          simp only [Bool.false_eq_true, if_false] at o6 ⊢
          obtain ⟨F7, e7, s7⟩ := sat_low s6 h2
          have ee : Ext F2 F7 := ((e3.trans e5).trans e6).trans e7
          have s8 := ((s7.toB hl5 ha5).unstash dj).comm.head (P' := Own X.K F7 (qe + 1) (.list acc) (.ref D)) fun _ x => by subst x; exact hr.ext ee
          exact ⟨F7, ρ6, acc, e2.trans ee, by omega, s8, o6⟩
        | true =>
          simp only [if_true] at o6 ⊢
          rw [Rs.bind_assoc] at o6
          refine ⟨F6, hjoin G hR, ρ6, s6, Out.noX o6 fun x ρ7 o7 F7 H7 vx e7 s7 => ?_⟩
          rw [Rs.bind_assoc] at o7
          obtain ⟨hR2, hr2, s71, dj2⟩ := s7.comm.stash
          obtain ⟨F8, e8, s72⟩ := sat_low s71 h3
          have s73 := ((s72.toB hl5 ha5).unstash dj2)
          have ee : Ext F2 F8 := (((e3.trans e5).trans e6).trans e7).trans e8
          have s8 := s73.unstash dj
          have s9 : Sat F8 G H7 (star (Own X.K F8 qe x vx) (star (slots X.K F8 Γl (wipeE ρ7 vs) (wipe σ vs)) (Own X.K F8 (qe + 1) (.list acc) (.ref D)))) := by
            have a := s8.head (P' := star (Own X.K F8 qe x vx) (slots X.K F8 Γl (wipeE ρ7 vs) (wipe σ vs))) fun _ y => star_mono (star_comm y) (fun _ z => by subst z; exact hr2.ext e8) fun _ z => z
            exact (a.tail (P' := Own X.K F8 (qe + 1) (.list acc) (.ref D)) fun _ y => by subst y; exact hr.ext ee).assoc
          obtain ⟨a, wsV, ea, s10⟩ := (s9.left.comm.assoc.left).open
          cases ea
          have hl : acc.length = wsV.length := s10.left.first fun h x => OwnL.len x
          refine ⟨wsV, s10.get, by rw [← hl]; exact big_lt (by omega), F8, ρ7, acc ++ [x], e2.trans ee, by simp; omega, ?_, ?_⟩
          · have s11 : Sat F8 G H7 (star (Own X.K F8 qe x vx) (star (OwnL (Own X.K F8 qe) acc wsV) (star (slots X.K F8 Γl (wipeE ρ7 vs) (wipe σ vs)) (pts D (.lst wsV))))) := by
              have b := (s10.comm.assoc.tail fun _ y => star_assoc y)
              exact (b.tail fun _ y => y).left.tail fun _ y => y
            have s12 := OwnL.snoc s11
            have s13 := (s12.comm.assoc.comm.assoc).left
            exact (Sat.upd (o' := .lst (wsV ++ [vx])) s13.left).close
          · simpa [Rs.bind_assoc, Rs.bind, List.append_assoc] using o7
      · rw [List.drop_eq_nil_of_le (by omega)] at o2
        refine .inl ⟨ok.stop i H2 (e2.trans s2.ef) (by omega), ?_⟩
        simp only [mLc, Rs.bind, List.append_nil] at o2
        obtain ⟨hR, hr, s3, dj⟩ := s2.comm.stash
        have s4 := ((s3.ofB).unstash dj).comm.head (P' := Own X.K F2 (qe + 1) (.list acc) (.ref D)) fun _ x => by subst x; exact hr
        exact o2 F2 H2 _ (e0.trans e2) s4
  · exact o0.elim
variable {scope : Scope} {own : List (Str × Nat)} {ifs : List Expr} {pos spos : Pos} {g : Sg} {Γb Γcc : List Nat}
abbrev ixs (own : List (Str × Nat)) : List Nat := own.map (·.2)
abbrev Blk (X : Cx) (scope : Scope) (s : Shared) (H : Hp) (C : Addr) (cl : List (Str × Addr)) (fp : List Addr) : Cx := X.blk s H scope (compEnvC scope cl C X.env) fp
theorem e_lc (Γl : List Nat) (hc : X.calm = true) (hN : X.N.Nodup) (hi : SI X W Γ tg iter src Γ1) (ok : BlkOk X.N X.env.scope scope own)
    (hg : ∀ s H C cl fp, SG (Blk X scope s H C cl fp) W0 (gB Γl.length (ixs own)) Γl 0 tg t Γt) (ht : ∀ s H C cl fp, STs (Blk X scope s H C cl fp) W0 Γt ifs mc Γc) (he : ∀ s H C cl fp, SE (Blk X scope s H C cl fp) W0 Γc elt me Γe qe)
    (h1 : leB Γl Γ1 = true) (h2 : leB Γl Γc = true) (h3 : leB Γl Γe = true) (hs : ∀ x, foldedSetIterable iter X.env x = pure x := by intro _; rfl) :
    SE X W Γ (.ListComp elt [⟨tg, iter, ifs, 0⟩] scope pos) (mComp (ixs own) src t mc me) Γl (qe + 1) :=
  (pe_lc (g := tG X W0 (gB Γl.length (ixs own)) Γl 0 t Γt) (tt := tT X W0 Γt mc Γc) (te := tE X W0 Γc me Γe qe) hc hN hi ok (fun s H C cl fp => hg s H C cl fp) (fun s H C cl fp => ht s H C cl fp) (fun s H C cl fp => he s H C cl fp) hs).imp fun _ _ _ h => lc_sound h1 h2 h3 h
theorem s_setLc (i : Nat) (Γl : List Nat) {y : Str} {py : Pos} (hc : X.calm = true) (hN : X.N.Nodup) (hy : X.N[i]? = some y) (hyl : X.env.scope.names.lookup y = some .local) (hb : g.Γp.getD i 0 = 0)
    (hsw : swapsWith (.ListComp elt [⟨tg, iter, ifs, 0⟩] scope pos) (some (.Name y py)) spos.line X.env = pure true) (hi : SI X W Γ tg iter src Γ1) (ok : BlkOk X.N X.env.scope scope own)
    (hg : ∀ s H C cl fp, SG (Blk X scope s H C cl fp) W0 (gB Γl.length (ixs own)) Γl 0 tg t Γt) (ht : ∀ s H C cl fp, STs (Blk X scope s H C cl fp) W0 Γt ifs mc Γc) (he : ∀ s H C cl fp, SE (Blk X scope s H C cl fp) W0 Γc elt me Γe qe)
    (h1 : leB Γl Γ1 = true) (h2 : leB Γl Γc = true) (h3 : leB Γl Γe = true) (hs : ∀ x, foldedSetIterable iter X.env x = pure x := by intro _; rfl) :
    SS X W g Γ (.Assign [.Name y py] (.ListComp elt [⟨tg, iter, ifs, 0⟩] scope pos) spos) (mAsg (mComp (ixs own) src t mc me) (tgName i)) (Γl.set i (qe + 1)) Γb Γcc :=
  (ps_setLc (g := tG X W0 (gB Γl.length (ixs own)) Γl 0 t Γt) (tt := tT X W0 Γt mc Γc) (te := tE X W0 Γc me Γe qe) hc hN hy hyl hsw hi ok (fun s H C cl fp => hg s H C cl fp) (fun s H C cl fp => ht s H C cl fp) (fun s H C cl fp => he s H C cl fp) hs).imp fun E σ H h => by
    have a : tAsg (tE X W Γ (mComp (ixs own) src t mc me) Γl (qe + 1)) (gName i) E σ H := asg_sound (fun v σ H Q ⟨F, G, ρ, d, s, o⟩ => by
      unfold tgName at o
      split at o
      · rename_i hi
        exact o F H _ (Ext.refl F) (keepB.set hb) (s.store hi)
      · exact o.elim) h
    exact lc_sound h1 h2 h3 a
end
end Mir

set_option Elab.async false
set_option linter.all false
set_option maxRecDepth 100000
set_option maxHeartbeats 4000000
namespace Mir
open PySem PySem.Spec PyProof.Rows L2

abbrev Fn := List D → Rs D
def spM (K : PySem.W.Frag) (mg : Str → Option Value) (Γp : List Nat) (qr : Nat) (f : Fn) : Sp := fun vs H Q E => vs.length = Γp.length ∧ ∃ F G ds, Sat F G H (slots K F Γp (ds.map some) (vs.map some)) ∧ match f ds with
  | .stuck => False
  | .ok d fin => ∀ F' H' v, Ext F F' → Sat F' G H' (star (Own K F' qr d v) (slots K F' Γp fin (vs.map some))) → Q v H'
  | .exc x _ => ∀ F' H' cls dd, Ext F F' → ExR K mg F' x cls dd → Sat F' G H' emp → E cls dd H'
def mask : List Nat → Env → Env
  | g :: Γ, r :: ρ => (if g = 0 then none else r) :: mask Γ ρ
  | _, _ => []
def mFn (Γp : List Nat) (n : Nat) (m : M Fl) : Fn := fun ds => match m (ds.map some ++ List.replicate (n - ds.length) none) with
  | .ok (.ret d) ρ => .ok d (mask Γp ρ)
  | .ok .next ρ => .ok .none (mask Γp ρ)
  | .exc x _ => .exc x []
  | _ => .stuck
section
variable {K : PySem.W.Frag} {mg : Str → Option Value} {F G H : Hp} {P R : Asr}
theorem Sat.toEmp (s : Sat F G H P) : Sat F G H Mir.emp := by
  refine ⟨⟨fun _ => Option.none, fun _ => rfl, ?_, ?_⟩, s.ef, s.eg, s.fg⟩
  · intro a o z; cases z
  · intro a o z; cases z
theorem slots_pad : ∀ {Γ : List Nat} {ρ : Env} {σ : L2.St} {h : Hp} (k : Nat), slots K F Γ ρ σ h → slots K F (Γ ++ List.replicate k 9) (ρ ++ List.replicate k none) (σ ++ List.replicate k none) h
  | _ :: _, _ :: _, _ :: _, _, k, x => star_mono x (fun _ y => y) fun _ y => slots_pad k y
  | [], [], [], _, 0, x => x
  | [], [], [], h, k + 1, x => emp_star (slots_pad (Γ := []) (ρ := []) (σ := []) k x)
  | [], _ :: _, _, _, _, x => x.elim
  | [], [], _ :: _, _, _, x => x.elim
  | _ :: _, [], _, _, _, x => x.elim
  | _ :: _, _ :: _, [], _, _, x => x.elim
theorem slots_fin : ∀ {Γp Γz : List Nat} {ρ : Env} {σ : L2.St} {vs : List V} {h : Hp}, slots K F (Γp ++ Γz) ρ σ h → vs.length = Γp.length → (∀ i, Γp.getD i 0 ≠ 0 → σ[i]? = (vs.map some)[i]?) → star (slots K F Γp (mask Γp ρ) (vs.map some)) (fun _ => True) h
  | [], _, _, _, [], h, _, _, _ => by
    show star emp (fun _ => True) h
    exact emp_star trivial
  | n :: Γp, Γz, r :: ρ, s :: σ, v :: vs, h, x, hl, ha => by
    have ih : ∀ h, slots K F (Γp ++ Γz) ρ σ h → star (slots K F Γp (mask Γp ρ) (vs.map some)) (fun _ => True) h := fun h y => slots_fin y (by simpa using hl) fun i hi => by simpa using ha (i + 1) (by simpa using hi)
    have y : star (slot K F n r s) (star (slots K F Γp (mask Γp ρ) (vs.map some)) (fun _ => True)) h := star_mono x (fun _ z => z) fun h z => ih h z
    show star (star (slot K F n (if n = 0 then none else r) (some v)) (slots K F Γp (mask Γp ρ) (vs.map some))) (fun _ => True) h
    by_cases hn : n = 0
    · rw [if_pos hn]
      have z := star_comm y
      have z2 : star (slots K F Γp (mask Γp ρ) (vs.map some)) (star (fun _ => True) (slot K F n r s)) h := star_assoc z
      exact star_mono z2 (fun _ w => emp_star w) fun _ _ => trivial
    · rw [if_neg hn]
      have e := ha 0 (by simpa using hn)
      have e' : s = some v := by simpa using e
      subst e'
      exact star_assoc' y
  | [], _, _, _, _ :: _, _, _, hl, _ => by simp at hl
  | _ :: _, _, _, _, [], _, _, hl, _ => by simp at hl
  | _ :: _, _, [], _, _ :: _, _, x, _, _ => x.elim
  | _ :: _, _, _ :: _, [], _ :: _, _, x, _, _ => x.elim
end
section
variable {P : Program} {w : World} {K : PySem.W.Frag} {mg : Str → Option Value} {base : Heap}
/-- a def by its mirror -/
theorem fn_ok {x qual : Str} {st : Stmt} {f : Addr} {fd : FuncData} {N ps : List Str} {k : Nat} (Fu : Fun K x qual st f fd) (S : FnScope N ps (defScope st)) (Γp Γz : List Nat) (qr : Nat) (m : M Fl) (Γ' : List Nat) (hp : Γp.length = ps.length) (hle : leB (Γp ++ Γz) Γ' = true)
    (hN : ps.length ≤ N.length)
    (body : ∀ (cdv : Value) (A : Around) (outer : List PySem.Env) (s : Shared) (H : Hp) (E : XK), Room k (A.deeper (envOfC qual (defScope st) s.heap.objs.size f cdv)) →
      SB (cxOf (L2.CX P w) P w K mg base N qual (defScope st) f cdv A outer s H E) (fun cls d _ H => E cls d H) ⟨Γp, Γp ++ Γz, qr⟩ (Γp ++ List.replicate (N.length - Γp.length) 9) (defBody st) m Γ' [] []) :
    FnOk P w K mg base (L2.CX P w) (k + 1) f fd ps (spM K mg Γp qr (mFn Γp N.length m)) := by
  refine Fu.okX S (fun vs H Q E h => by rw [h.1, hp]) fun cdv A outer s H vs Q E hr h => ⟨_, body cdv A outer s H E hr, ?_⟩
  obtain ⟨hl, F, G, ds, s0, o⟩ := h
  have hds : ds.length = vs.length := by have := s0.slotsLen.2; simpa using this
  refine ⟨F, G, ds.map some ++ List.replicate (N.length - ds.length) none, ?_, ?_⟩
  · have s1 := s0.mono fun _ y => slots_pad (N.length - Γp.length) y
    rw [show N.length - ds.length = N.length - Γp.length by omega]
    unfold L2.start
    rw [show N.length - vs.length = N.length - Γp.length by omega]
    exact s1
  · unfold mFn at o
    have fin : ∀ {F' H' : Hp} {σ' : L2.St} {ρ' : Env} {d : D} {v : V}, keepB ⟨Γp, Γp ++ Γz, qr⟩ (L2.start N vs) σ' → Sat F' G H' (star (Own K F' qr d v) (slots K F' (Γp ++ Γz) ρ' σ')) → Sat F' G H' (star (Own K F' qr d v) (slots K F' Γp (mask Γp ρ') (vs.map some))) := by
      intro F' H' σ' ρ' d v kb s'
      have s2 := s'.tail (P' := star (slots K F' Γp (mask Γp ρ') (vs.map some)) (fun _ => True)) fun h y => slots_fin y hl fun i hi => by
        have := kb.2 i hi
        rw [this]
        unfold L2.start
        by_cases hi2 : i < vs.length
        · rw [List.getElem?_append_left (by simpa using hi2)]
        · have hge : Γp.length ≤ i := by omega
          exfalso; apply hi
          rw [List.getD_eq_getElem?_getD, List.getElem?_eq_none hge]; rfl
      exact (s2.assoc'.comm).drop
    cases hm : m (ds.map some ++ List.replicate (N.length - ds.length) none) with
    | stuck => rw [hm] at o; exact o.elim
    | ok fl ρ' =>
      rw [hm] at o
      intro F' H' σ' e kb
      cases fl with
      | next =>
        intro s'
        obtain ⟨F2, e2, s2⟩ := sat_low (X := cxOf (L2.CX P w) P w K mg base N qual (defScope st) f cdv A outer s H E) s' hle
        exact o F2 H' .non (e.trans e2) (fin kb (s2.ofRep .non qr rfl))
      | ret d => exact fun v s' => o F' H' v e (fin kb s')
      | brk => exact o.elim
      | cont => exact o.elim
    | exc x ρ' =>
      rw [hm] at o
      exact fun F' H' σ' cls dd e kb r s' => o F' H' cls dd e r s'.toEmp
end

/-! ### the call of a def -/
inductive Ar where
  | val | bor (j : Nat)
def ArA (K : PySem.W.Frag) (F : Hp) (σ : L2.St) : List Ar → List Nat → List D → List V → Asr
  | .val :: as, q :: qs, d :: ds, v :: vs => star (Own K F q d v) (ArA K F σ as qs ds vs)
  | .bor j :: as, _ :: qs, _ :: ds, v :: vs => star (pur (σ[j]? = some (some v))) (ArA K F σ as qs ds vs)
  | [], [], [], [] => emp
  | _, _, _, _ => fun _ => False
theorem ArA.ext {K : PySem.W.Frag} {F F' : Hp} {σ : L2.St} (e : Ext F F') : ∀ {as : List Ar} {qs : List Nat} {ds : List D} {vs : List V} {h : Hp}, ArA K F σ as qs ds vs h → ArA K F' σ as qs ds vs h
  | .val :: _, _ :: _, _ :: _, _ :: _, _, x => star_mono x (fun _ y => Own.ext e y) fun _ y => ArA.ext e y
  | .bor _ :: _, _ :: _, _ :: _, _ :: _, _, x => star_mono x (fun _ y => y) fun _ y => ArA.ext e y
  | [], [], [], [], _, x => x
  | .val :: _, [], _, _, _, x => x.elim
  | .bor _ :: _, [], _, _, _, x => x.elim
  | .val :: _, _ :: _, [], _, _, x => x.elim
  | .bor _ :: _, _ :: _, [], _, _, x => x.elim
  | .val :: _, _ :: _, _ :: _, [], _, x => x.elim
  | .bor _ :: _, _ :: _, _ :: _, [], _, x => x.elim
  | [], _ :: _, _, _, _, x => x.elim
  | [], [], _ :: _, _, _, x => x.elim
  | [], [], [], _ :: _, _, x => x.elim
section
variable (X : Cx) (W : WX)
def tR (Γ : List Nat) (as : List Ar) (m : M (List D)) (Γ' qs : List Nat) : TA := fun σ H Q => ∃ F G ρ, Sat F G H (slots X.K F Γ ρ σ) ∧
  Out X W F G σ (m ρ) fun ds ρ' => ∀ F' H' vs, Ext F F' → Sat F' G H' (star (ArA X.K F' σ as qs ds vs) (slots X.K F' Γ' ρ' σ)) → Q vs H'
def SR (Γ : List Nat) (es : List Expr) (as : List Ar) (m : M (List D)) (Γ' qs : List Nat) : Prop := PA X es (tR X W Γ as m Γ' qs)
end
def mBor (j : Nat) (r : M (List D)) : M (List D) := fun ρ => match ρ[j]? with
  | some (some _) => (r ρ).bind fun ds ρ => .ok (.none :: ds) ρ
  | _ => .stuck
def fill : List Ar → List D → Env → Option (List D × Env)
  | .val :: as, d :: ds, ρ => (fill as ds ρ).map fun p => (d :: p.1, p.2)
  | .bor j :: as, _ :: ds, ρ => match ρ[j]? with
    | some (some d) => (fill as ds (ρ.set j none)).map fun p => (d :: p.1, p.2)
    | _ => none
  | [], [], ρ => some ([], ρ)
  | _, _, _ => none
def unfill : List Ar → Env → Env → Option Env
  | .val :: as, _ :: fin, ρ => unfill as fin ρ
  | .bor j :: as, r :: fin, ρ => match ρ[j]? with
    | some none => unfill as fin (ρ.set j r)
    | _ => none
  | [], [], ρ => some ρ
  | _, _, _ => none
def okAr : List Ar → List Nat → List Nat → List Nat → Bool
  | .val :: as, q :: qs, p :: Γp, Γ => decide (p ≤ q) && okAr as qs Γp Γ
  | .bor j :: as, _ :: qs, p :: Γp, Γ => decide (p ≤ Γ.getD j 0) && okAr as qs Γp Γ
  | [], [], [], _ => true
  | _, _, _, _ => false
def setAr : List Ar → List Nat → List Nat → List Nat
  | .val :: as, _ :: Γp, Γ => setAr as Γp Γ
  | .bor j :: as, p :: Γp, Γ => setAr as Γp (Γ.set j p)
  | _, _, Γ => Γ
def borOk (σ : L2.St) : List Ar → List V → Prop
  | .val :: as, _ :: vs => borOk σ as vs
  | .bor j :: as, v :: vs => σ[j]? = some (some v) ∧ borOk σ as vs
  | _, _ => True
def mCall (f : Fn) (as : List Ar) (m : M (List D)) : M D := fun ρ => (m ρ).bind fun ds ρ => match fill as ds ρ with
  | some (ds', ρ') => match f ds' with
    | .ok d fin => match unfill as fin ρ' with
      | some ρ'' => .ok d ρ''
      | none => .stuck
    | .exc x _ => .exc x ρ'
    | .stuck => .stuck
  | none => .stuck
section
variable {X : Cx} {W : WX} {K : PySem.W.Frag} {F G H : Hp} {R : Asr} {σ : L2.St} {Γ Γ1 Γ2 : List Nat} {q : Nat} {e : Expr} {es : List Expr} {ma : M D} {mr : M (List D)} {as : List Ar} {qs : List Nat}
theorem r_nil : SR X W Γ [] [] mNil Γ [] := (pa_nil).imp fun σ H Q ⟨F, G, ρ, s, o⟩ => o F H [] (Ext.refl F) s.emp
theorem r_val (ha : SE X W Γ e ma Γ1 q) (hr : SR X W Γ1 es as mr Γ2 qs) (hs : starEach (e :: es) X.env = (false, eval e X.env) :: starEach es X.env) : SR X W Γ (e :: es) (.val :: as) (mCons ma mr) Γ2 (q :: qs) :=
  (pa_cons ha hr hs).imp fun σ H Q ⟨F, G, ρ, s, o⟩ => by
    refine ⟨F, G, ρ, s, Out.bind o fun d1 ρ1 o1 F1 H1 v1 e1 s1 => ?_⟩
    obtain ⟨hR, hr, s2, dj⟩ := s1.comm.stash
    refine ⟨F1, hjoin G hR, ρ1, s2, Out.bindS e1 dj o1 fun ds ρ2 o2 F2 H2 vs e2 s3 => ?_⟩
    have s4 := (s3.unstash dj).comm.head (P' := Own X.K F2 q d1 v1) fun _ x => by subst x; exact hr.ext e2
    exact o2 F2 H2 (v1 :: vs) (e1.trans e2) s4.assoc'
theorem r_bor (j : Nat) (ha : PE X e (tVar j)) (hr : SR X W Γ es as mr Γ2 qs) (hs : starEach (e :: es) X.env = (false, eval e X.env) :: starEach es X.env) : SR X W Γ (e :: es) (.bor j :: as) (mBor j mr) Γ2 (0 :: qs) :=
  (pa_cons ha hr hs).imp fun σ H Q ⟨F, G, ρ, s, o⟩ => by
    unfold mBor at o
    cases e0 : ρ[j]? with
    | none => rw [e0] at o; exact o.elim
    | some r0 =>
      cases r0 with
      | none => rw [e0] at o; exact o.elim
      | some d0 =>
        simp only [e0] at o
        obtain ⟨v, ev, _⟩ := s.take e0
        refine ⟨v, ev, F, G, ρ, s, Out.bind o fun ds ρ1 o1 F1 H1 vs e1 s1 => ?_⟩
        exact o1 F1 H1 (v :: vs) e1 (s1.head fun _ y => pur_star ev y)
theorem Sat.takeR {ρ : Env} {i : Nat} {d : D} (s : Sat F G H (star (slots K F Γ ρ σ) R)) (e : ρ[i]? = some (some d)) : ∃ v, σ[i]? = some (some v) ∧ Sat F G H (star (Own K F (Γ.getD i 0) d v) (star (slots K F Γ (ρ.set i none) σ) R)) := by
  obtain ⟨⟨h, ⟨h1, h2, j, x, y⟩, a, b⟩, c, g, f⟩ := s
  obtain ⟨v, ev, z⟩ := slots_take x e
  exact ⟨v, ev, ⟨h, star_assoc ⟨h1, h2, j, z, y⟩, a, b⟩, c, g, f⟩
theorem fill_ok : ∀ {as : List Ar} {qs Γp : List Nat} {ds ds' : List D} {vs : List V} {ρ ρ' : Env} {F : Hp} {R : Asr}, okAr as qs Γp Γ = true → fill as ds ρ = some (ds', ρ') → Sat F G H (star (ArA K F σ as qs ds vs) (star (slots K F Γ ρ σ) R)) →
    ∃ F', Ext F F' ∧ borOk σ as vs ∧ vs.length = Γp.length ∧ Sat F' G H (star (slots K F' Γp (ds'.map some) (vs.map some)) (star (slots K F' Γ ρ' σ) R))
  | .val :: as, q :: qs, p :: Γp, d :: ds, ds', v :: vs, ρ, ρ', F, R, hk, hf, s => by
    obtain ⟨h1, h2⟩ : p ≤ q ∧ okAr as qs Γp Γ = true := by simpa [okAr] using hk
    cases e : fill as ds ρ with
    | none => simp [fill, e] at hf
    | some pr =>
      simp [fill, e] at hf
      obtain ⟨rfl, rfl⟩ := hf
      obtain ⟨F1, e1, s1⟩ := s.assoc.lower h1
      have s2 : Sat F1 G H (star (ArA K F1 σ as qs ds vs) (star (slots K F1 Γ ρ σ) (star (Own K F1 p d v) R))) := by
        have a := s1.left.head (P' := ArA K F1 σ as qs ds vs) fun _ y => ArA.ext e1 y
        exact a.tail fun _ y => star_mono (star_left y) (fun _ z => slots_ext e1 z) fun _ z => z
      obtain ⟨F2, e2, b, hl, s3⟩ := fill_ok h2 e s2
      refine ⟨F2, e1.trans e2, b, by simpa using hl, ?_⟩
      have s4 : Sat F2 G H (star (Own K F2 p d v) (star (slots K F2 Γp (pr.1.map some) (vs.map some)) (star (slots K F2 Γ pr.2 σ) R))) := by
        have a := s3.tail (P' := star (Own K F1 p d v) (star (slots K F2 Γ pr.2 σ) R)) fun _ y => star_left y
        exact a.left.head fun _ y => Own.ext e2 y
      exact s4.assoc'
  | .bor j :: as, q :: qs, p :: Γp, d0 :: ds, ds', v :: vs, ρ, ρ', F, R, hk, hf, s => by
    obtain ⟨h1, h2⟩ : p ≤ Γ.getD j 0 ∧ okAr as qs Γp Γ = true := by simpa [okAr] using hk
    cases e0 : ρ[j]? with
    | none => simp [fill, e0] at hf
    | some r0 =>
      cases r0 with
      | none => simp [fill, e0] at hf
      | some d =>
        cases e : fill as ds (ρ.set j none) with
        | none => simp [fill, e0, e] at hf
        | some pr =>
          simp [fill, e0, e] at hf
          obtain ⟨rfl, rfl⟩ := hf
          obtain ⟨ev, s0⟩ := s.assoc.pure
          obtain ⟨v', ev', s1⟩ := s0.comm.assoc.takeR e0
          have : v = v' := Option.some.inj (Option.some.inj (ev.symm.trans ev'))
          subst this
          obtain ⟨F1, e1, s2⟩ := s1.lower h1
          have s3 : Sat F1 G H (star (ArA K F1 σ as qs ds vs) (star (slots K F1 Γ (ρ.set j none) σ) (star (Own K F1 p d v) R))) := by
            have a := s2.left.head (P' := slots K F1 Γ (ρ.set j none) σ) fun _ y => slots_ext e1 y
            have b : Sat F1 G H (star (slots K F1 Γ (ρ.set j none) σ) (star (ArA K F1 σ as qs ds vs) (star (Own K F1 p d v) R))) := a.tail fun _ y => by
              have y1 := star_comm y
              have y2 := star_comm (star_assoc y1)
              exact star_mono (star_assoc y2) (fun _ z => ArA.ext e1 z) fun _ z => z
            exact b.left
          obtain ⟨F2, e2, b, hl, s4⟩ := fill_ok h2 e s3
          refine ⟨F2, e1.trans e2, ⟨ev, b⟩, by simpa using hl, ?_⟩
          have s5 : Sat F2 G H (star (Own K F2 p d v) (star (slots K F2 Γp (pr.1.map some) (vs.map some)) (star (slots K F2 Γ pr.2 σ) R))) := by
            have a := s4.tail (P' := star (Own K F1 p d v) (star (slots K F2 Γ pr.2 σ) R)) fun _ y => star_left y
            exact a.left.head fun _ y => Own.ext e2 y
          exact s5.assoc'
  | [], [], [], [], ds', [], ρ, ρ', F, R, _, hf, s => by
    simp [fill] at hf
    obtain ⟨rfl, rfl⟩ := hf
    exact ⟨F, Ext.refl F, trivial, rfl, s⟩
  | [], [], [], [], _, _ :: _, _, _, F, _, _, _, s => by obtain ⟨⟨h, ⟨_, _, _, x, _⟩, _⟩, _⟩ := s; exact x.elim
  | [], [], [], _ :: _, _, _, _, _, F, _, _, hf, s => by simp [fill] at hf
  | [], [], _ :: _, _, _, _, _, _, F, _, hk, _, _ => by simp [okAr] at hk
  | [], _ :: _, _, _, _, _, _, _, F, _, hk, _, _ => by simp [okAr] at hk
  | .val :: _, [], _, _, _, _, _, _, F, _, hk, _, _ => by simp [okAr] at hk
  | .bor _ :: _, [], _, _, _, _, _, _, F, _, hk, _, _ => by simp [okAr] at hk
  | .val :: _, _ :: _, [], _, _, _, _, _, F, _, hk, _, _ => by simp [okAr] at hk
  | .bor _ :: _, _ :: _, [], _, _, _, _, _, F, _, hk, _, _ => by simp [okAr] at hk
  | .val :: _, _ :: _, _ :: _, [], _, _, _, _, F, _, _, hf, _ => by simp [fill] at hf
  | .bor _ :: _, _ :: _, _ :: _, [], _, _, _, _, F, _, _, hf, _ => by simp [fill] at hf
  | .val :: _, _ :: _, _ :: _, _ :: _, _, [], _, _, F, _, _, _, s => by obtain ⟨⟨h, ⟨_, _, _, x, _⟩, _⟩, _⟩ := s; exact x.elim
  | .bor _ :: _, _ :: _, _ :: _, _ :: _, _, [], _, _, F, _, _, _, s => by obtain ⟨⟨h, ⟨_, _, _, x, _⟩, _⟩, _⟩ := s; exact x.elim
theorem unfill_ok : ∀ {as : List Ar} {Γp : List Nat} {fin : Env} {vs : List V} {Γ : List Nat} {ρ ρ' : Env} {R : Asr}, borOk σ as vs → unfill as fin ρ = some ρ' → Sat F G H (star (slots K F Γp fin (vs.map some)) (star (slots K F Γ ρ σ) R)) → Sat F G H (star (slots K F (setAr as Γp Γ) ρ' σ) R)
  | .val :: as, p :: Γp, r :: fin, v :: vs, Γ, ρ, ρ', R, hb, hu, s => unfill_ok (as := as) hb hu s.assoc.drop
  | .bor j :: as, p :: Γp, r :: fin, v :: vs, Γ, ρ, ρ', R, ⟨ev, hb⟩, hu, s => by
    cases e0 : ρ[j]? with
    | none => simp [unfill, e0] at hu
    | some r0 =>
      cases r0 with
      | some d => simp [unfill, e0] at hu
      | none =>
        simp [unfill, e0] at hu
        refine unfill_ok (as := as) (Γ := Γ.set j p) hb hu ?_
        cases r with
        | none =>
          rw [set_self e0]
          have s1 : Sat F G H (star (slots K F Γp fin (vs.map some)) (star (slots K F Γ ρ σ) R)) := s.assoc.mono fun _ => star_emp
          refine s1.tail fun _ y => star_mono y (fun _ z => ?_) fun _ z => z
          have w := slots_any p (some v) z e0
          rw [set_self ev] at w
          exact w
        | some d =>
          have s1 : Sat F G H (star (slots K F Γp fin (vs.map some)) (star (Own K F p d v) (star (slots K F Γ ρ σ) R))) := s.assoc.left
          refine s1.tail fun _ y => star_mono (star_assoc' y) (fun _ z => ?_) fun _ z => z
          have w := slots_put z e0
          rw [set_self ev] at w
          exact w
  | [], Γp, [], vs, Γ, ρ, ρ', R, _, hu, s => by
    simp [unfill] at hu
    subst hu
    have : setAr [] Γp Γ = Γ := by cases Γp <;> rfl
    rw [this]
    exact s.drop
  | .val :: _, _, [], _, _, _, _, _, _, hu, _ => by simp [unfill] at hu
  | .bor _ :: _, _, [], _, _, _, _, _, _, hu, _ => by simp [unfill] at hu
  | [], _, _ :: _, _, _, _, _, _, _, hu, _ => by simp [unfill] at hu
  | .val :: _, [], _ :: _, [], _, _, _, _, _, _, s => by obtain ⟨⟨h, ⟨_, _, _, x, _⟩, _⟩, _⟩ := s; exact x.elim
  | .val :: _, [], _ :: _, _ :: _, _, _, _, _, _, _, s => by obtain ⟨⟨h, ⟨_, _, _, x, _⟩, _⟩, _⟩ := s; exact x.elim
  | .bor _ :: _, [], _ :: _, _, _, _, _, _, _, _, s => by obtain ⟨⟨h, ⟨_, _, _, x, _⟩, _⟩, _⟩ := s; exact x.elim
  | .val :: _, _ :: _, _ :: _, [], _, _, _, _, _, _, s => by obtain ⟨⟨h, ⟨_, _, _, x, _⟩, _⟩, _⟩ := s; exact x.elim
  | .bor _ :: _, _ :: _, _ :: _, [], _, _, _, _, _, _, s => by obtain ⟨⟨h, ⟨_, _, _, x, _⟩, _⟩, _⟩ := s; exact x.elim
theorem leB_zer : ∀ {ρ : Env} {Γ : List Nat}, Γ.length = ρ.length → leB (zer ρ) Γ = true
  | [], [], _ => rfl
  | _ :: ρ, _ :: Γ, h => by
    show (decide (0 ≤ _) && leB (zer ρ) Γ) = true
    rw [leB_zer (by simpa using h)]
    simp
  | [], _ :: _, h => by simp at h
  | _ :: _, [], h => by simp at h
theorem e_call {f : Addr} {fd : FuncData} {ps : List Str} {k : Nat} {Γp : List Nat} {qr : Nat} {fn : Fn} {x : Str} {p pos : Pos} (tk : Takes X W) (Fo : FnOk X.prog X.w X.K X.mg X.base (L2.CX X.prog X.w) k f fd ps (spM X.K X.mg Γp qr fn)) (hr : Room k X.A) (hg : Gl X x) (hm : X.mg x = some (.ref f))
    (hk : PySem.W.keepIn X.K (.ref f) = true) (hb : Binds X.K fd ps []) (ha : SR X W Γ (e :: es) as mr Γ1 qs) (ok : okAr as qs Γp Γ1 = true) (hdb : (x == ("__debug__" : Str)) = false := by decide)
    (he : starEach (e :: es) X.env = (false, eval e X.env) :: starEach es X.env := by rfl) (hpl : (backTo pos (starEach es X.env)).any (·.1) = false := by rfl) :
    SE X W Γ (.Call (.Name x p) (e :: es) [] pos) (mCall fn as mr) (setAr as Γp Γ1) qr :=
  (pe_callSD (E := fun σ cls dd H => W cls dd σ H) Fo hr hg hm hk hb .nil (fun σ => passAt tk σ) ha hdb he hpl).imp fun σ H Q ⟨F, G, ρ, s, o⟩ => by
    refine ⟨F, G, ρ, s, Out.bind o fun ds ρ1 o1 F1 H1 vs e1 s1 => ?_⟩
    cases ef : fill as ds ρ1 with
    | none => simp only [ef] at o1; exact o1.elim
    | some pr =>
      obtain ⟨ds', ρ'⟩ := pr
      simp only [ef] at o1
      obtain ⟨F2, e2, b, hl, s2⟩ := fill_ok (R := emp) ok ef (s1.tail fun _ y => star_comm (emp_star y))
      obtain ⟨hR, hr', s3, dj⟩ := s2.stash
      show spM X.K X.mg Γp qr fn (vs ++ []) H1 Q _
      rw [List.append_nil]
      refine ⟨hl, F2, hjoin G hR, ds', s3, ?_⟩
      cases hfn : fn ds' with
      | stuck => simp only [hfn] at o1; exact o1.elim
      | ok d fin =>
        simp only [hfn] at o1
        cases hu : unfill as fin ρ' with
        | none => simp only [hu] at o1; exact o1.elim
        | some ρ'' =>
          simp only [hu] at o1
          intro F' H' v e' s4
          have s5 := (s4.unstash dj).tail (P' := star (slots X.K F' Γ1 ρ' σ) emp) fun _ y => by subst y; exact star_mono hr' (fun _ z => slots_ext e' z) fun _ z => z
          have s6 : Sat F' G H' (star (slots X.K F' Γp fin (vs.map some)) (star (slots X.K F' Γ1 ρ' σ) (Own X.K F' qr d v))) := by
            have a := s5.assoc.left
            exact a.tail fun _ y => star_mono (star_comm y) (fun _ z => star_emp (star_comm z)) fun _ z => z
          exact o1 F' H' v ((e1.trans e2).trans e') (unfill_ok b hu s6).comm
      | exc x' ρx =>
        simp only [hfn] at o1
        intro F' H' cls dd e' r s4
        have s5 := (s4.unstash dj).comm.drop.mono (fun _ y => y)
        have s6 : Sat F' G H' (slots X.K F' Γ1 ρ' σ) := ((s4.unstash dj).comm.head (P' := star (slots X.K F' Γ1 ρ' σ) emp) fun _ y => by subst y; exact star_mono hr' (fun _ z => slots_ext e' z) fun _ z => z).assoc.mono fun _ y => star_emp (star_comm (star_mono y (fun _ z => z) fun _ z => star_emp z))
        obtain ⟨F3, e3, s7⟩ := sat_low s6 (leB_zer (s6.slotsLen.1.trans s6.slotsLen.2.symm))
        refine o1 F3 H' cls dd (((e1.trans e2).trans e').trans e3) ?_ s7
        obtain ⟨C, h1, h2, h3⟩ := r
        refine ⟨C, h1, h2, h3.imp id fun ⟨a, gs, ha, hg, hp⟩ => ⟨a, gs, ha, e3 _ _ hg, Paired.mapP hp fun p q z => ⟨z.1, z.2.ext e3⟩⟩⟩
end
end Mir

set_option Elab.async false
set_option linter.all false
set_option maxRecDepth 100000
set_option maxHeartbeats 4000000
namespace Mir
open PySem PySem.Spec PyProof.Rows L2
section
variable {X : Cx} {W : WX} {g : Sg} {Γ Γ1 Γ2 Γ' Γb Γc : List Nat} {q q1 q2 n m : Nat} {a b c e o : Expr} {es : List Expr} {ma mb : M D} {mt : M Bool} {pos p apos : Pos} {st : Stmt} {sts : List Stmt} {ms ms' : M Fl} {tg : Expr} {t : D → M Unit}
theorem eΓ (Γ2 : List Nat) (h : SE X W Γ e ma Γ1 q) (hh : Γ1 = Γ2) : SE X W Γ e ma Γ2 q := hh ▸ h
theorem sΓ (Γ2 : List Nat) (h : SS X W g Γ st ms Γ1 Γb Γc) (hh : Γ1 = Γ2) : SS X W g Γ st ms Γ2 Γb Γc := hh ▸ h
theorem gΓ (Γ2 : List Nat) (h : SG X W g Γ q tg t Γ1) (hh : Γ1 = Γ2) : SG X W g Γ q tg t Γ2 := hh ▸ h
/-- a name whose slot owns nothing -/
theorem v0 (i : Nat) (h : PE X e (tVar i)) (h0 : Γ.getD i 0 = 0) : SE X W Γ e (mSlot i) Γ 0 := h.imp fun σ H Q ⟨F, G, ρ, s, o⟩ => by
  obtain ⟨d, e, k⟩ := mSlot_some o
  obtain ⟨v, ev, s1⟩ := s.take e
  rw [h0] at s1
  obtain ⟨r, _⟩ := s1.flat0
  exact ⟨v, ev, k F H v (Ext.refl F) (s.ofRep0 r)⟩
theorem s_brkW (h : leB Γb Γ = true) : SS X W g Γ (.Break pos) mBrk Γ' Γb Γc := ps_break.imp fun E σ H ⟨F, G, ρ, s, o⟩ => by
  obtain ⟨F2, e2, s2⟩ := sat_low s h
  exact o F2 H σ e2 (keepB.refl g σ) s2
theorem s_contW (h : leB Γc Γ = true) : SS X W g Γ (.Continue pos) mCont Γ' Γb Γc := ps_continue.imp fun E σ H ⟨F, G, ρ, s, o⟩ => by
  obtain ⟨F2, e2, s2⟩ := sat_low s h
  exact o F2 H σ e2 (keepB.refl g σ) s2
theorem bW (Γx : List Nat) (h : SB X W g Γ sts ms Γ' Γb Γc) (h1 : leB Γx Γ' = true) : SB X W g Γ sts ms Γx Γb Γc := by
  have hb : ∀ l : List Nat, leB l l = true := by
    intro l
    induction l with
    | nil => rfl
    | cons a l ih => show (decide (a ≤ a) && leB l l) = true; rw [ih]; simp
  exact PSs.imp h fun _ _ _ x => tS.weak h1 (hb _) (hb _) x
/-- n.bit_length() -/
def bitLen (i : Int) : Int := (i.natAbs.log2 + (if i = 0 then 0 else 1) : Nat)
end
end Mir

set_option Elab.async false
set_option linter.all false
set_option maxRecDepth 100000
set_option maxHeartbeats 4000000
namespace Mir
open PySem PySem.Spec PyProof.Rows L2
/-! ### lists in an owned list -/
theorem star_up4 {A B C E Z R : Asr} {h : Hp} (y : star A (star B (star C (star E (star Z R)))) h) : star Z (star A (star B (star C (star E R)))) h :=
  star_left (star_mono y (fun _ u => u) fun _ u => star_left (star_mono u (fun _ u => u) fun _ u => star_left (star_mono u (fun _ u => u) fun _ u => star_left u)))
theorem OutS.bindES2 {X : Cx} {W : WX} {g : Sg} {F F1 G : Hp} {σ σ1 : L2.St} {α β : Type} {r : Rs α} {f : α → Env → Rs β} {k : β → Env → Prop} {k' : α → Env → Prop} {hV hR : Hp} (dv : ∀ a o, hV a = some o → G a = none) (dj : ∀ a o, hR a = some o → hjoin G hV a = none) (e : Ext F F1) (kb : keepB g σ σ1)
    (o : OutS X W g F G σ (r.bind f) k) (i : ∀ a ρ, OutS X W g F G σ (f a ρ) k → k' a ρ) : Out X W F1 (hjoin (hjoin G hV) hR) σ1 r k' := by
  cases r with
  | stuck => exact o
  | ok a ρ => exact i a ρ o
  | exc x ρ => exact excOk.stash dj (excOk.stash dv (excS.toE e kb o))
section
variable {X : Cx} {W : WX} {g : Sg} {K : PySem.W.Frag} {F F1 G H : Hp} {σ σ1 : L2.St} {Γ Γ1 Γ2 Γ' Γb Γc : List Nat} {q q1 q2 n m : Nat} {a b c e e2 o : Expr} {ma mb m1 m2' : M D} {pos p apos : Pos} {P R : Asr}
theorem OwnL.at : ∀ {ds : List D} {vs : List V} {h : Hp} {j : Nat} {es : List D}, OwnL (Own K F (n + 1)) ds vs h → ds[j]? = some (.list es) →
    ∃ b ws, vs[j]? = some (.ref b) ∧ h b = some (.lst ws) ∧ es.length = ws.length ∧ ∀ (k : Nat) (d : D), es[k]? = some d → (n = 0 ∨ notL d = true) → ∃ w, ws[k]? = some w ∧ Rep K F w d
  | d :: _, v :: _, h, 0, es, x, e => by
    have e' : d = .list es := by simpa using e
    subst e'
    obtain ⟨h1, h2, jn, ⟨b, ws, rfl, ⟨h3, h4, jn2, hp, ho⟩⟩, _⟩ := x
    have hb3 : h3 b = some (.lst ws) := by rw [hp b, if_pos rfl]
    have hb1 : h1 b = some (.lst ws) := by
      rcases jn2 b with ⟨y, _⟩ | ⟨_, y⟩
      · rw [hb3] at y; cases y
      · rw [y]; exact hb3
    have hb : h b = some (.lst ws) := by
      rcases jn b with ⟨y, _⟩ | ⟨_, y⟩
      · rw [hb1] at y; cases y
      · rw [y]; exact hb1
    exact ⟨b, ws, rfl, hb, ho.len, fun k d hk hn => OwnL.get ho hk hn⟩
  | _ :: _, _ :: _, h, j + 1, es, ⟨h1, h2, jn, _, y⟩, e => by
    obtain ⟨b, ws, e1, e2, e3, e4⟩ := OwnL.at y (by simpa using e)
    refine ⟨b, ws, by simpa using e1, ?_, e3, e4⟩
    rcases jn b with ⟨_, z⟩ | ⟨z, _⟩
    · rw [z]; exact e2
    · rw [e2] at z; cases z
  | [], [], _, _, _, _, e => by simp at e
  | [], _ :: _, _, _, _, x, _ => x.elim
  | _ :: _, [], _, _, _, x, _ => x.elim
/-- x[e1][e2], x a slot that owns its lists' lists -/
def mIxO2 (i n : Nat) (m1 m2 : M D) : M D := fun ρ => match ρ[i]? with
  | some (some _) => (m1 ρ).bind fun k ρ => match listAt ρ i, k with
    | some ds, .int k => match atI ds k with
      | some (.list es) => (m2 (ρ.set i none)).bind fun k2 ρ2 => match k2, ρ2[i]? with
        | .int k2, some none => match atI es k2 with
          | some d => if n = 0 ∨ notL d = true then .ok d (ρ2.set i (some (.list ds))) else .stuck
          | none => .stuck
        | _, _ => .stuck
      | _ => .stuck
    | _, _ => .stuck
  | _ => .stuck
theorem e_ixO2 (i n : Nat) (hn1 : Γ1.getD i 0 = n + 2) (ha : PE X a (tVar i)) (h1 : SE X W Γ b m1 Γ1 q1) (h2 : SE X W Γ1 c m2' Γ1 q2) (hs1 : PlainIx b) (hs2 : PlainIx c) {pos2 : Pos} :
    SE X W Γ (.Subscript (.Subscript a b pos) c pos2) (mIxO2 i n m1 m2') Γ1 0 :=
  (pe_ix ix_list (pe_ix ix_list ha h1 hs1) h2 hs2).imp fun σ H Q ⟨F, G, ρ, s, o⟩ => by
    unfold mIxO2 at o
    cases e0 : ρ[i]? with
    | none => rw [e0] at o; exact o.elim
    | some r0 =>
      cases r0 with
      | none => rw [e0] at o; exact o.elim
      | some d0 =>
        simp only [e0] at o
        obtain ⟨v0, ev0, _⟩ := s.take e0
        refine ⟨v0, ev0, F, G, ρ, s, Out.bind o fun dk ρ1 o1 F1 H1 v1 e1 s1 => ?_⟩
        obtain ⟨Fk, ek, rk, sk⟩ := s1.freeze
        have s2 := sk.mono fun _ => slots_ext ek
        cases el : listAt ρ1 i with
        | none => simp only [el] at o1; exact o1.elim
        | some ds =>
          cases rk with
          | int k =>
            simp only [el] at o1
            cases ea : L2.atI ds k with
            | none => simp only [ea] at o1; exact o1.elim
            | some dl =>
              cases dl with
              | list es =>
                simp only [ea] at o1
                obtain ⟨a, vs, ev, s3⟩ := s2.takeL (listAt_some el) hn1
                have ee : v0 = .ref a := Option.some.inj (Option.some.inj (ev0.symm.trans ev))
                subst ee
                have hl : ds.length = vs.length := s3.left.first fun h x => OwnL.len x
                obtain ⟨hR, hr, s4, dj⟩ := (s3.assoc'.comm).stash
                unfold L2.atI at ea
                cases ej : ixN ds.length k with
                | none => rw [ej] at ea; cases ea
                | some j =>
                  rw [ej] at ea
                  have ea' : ds[j]? = some (.list es) := ea
                  obtain ⟨h3, h4, jn, hp, ho⟩ := hr
                  obtain ⟨b, ws, hv, hb, hwl, hget⟩ := OwnL.at ho ea'
                  have hRb : hR b = some (.lst ws) := by
                    rcases jn b with ⟨_, y⟩ | ⟨y, _⟩
                    · rw [y]; exact hb
                    · rw [hb] at y; cases y
                  refine ⟨a, vs, k, .ref b, rfl, rfl, SqL.of s3.get, by unfold L2.atI; rw [← hl, ej]; exact hv, Fk, hjoin G hR, ρ1.set i none, s4, Out.bindS (e1.trans ek) dj o1 fun dk2 ρ2 o2 F2 H2 v2 e2 s5 => ?_⟩
                  obtain ⟨F3, e3, r3, s6⟩ := s5.freeze
                  cases r3 with
                  | int k2 =>
                    cases e2i : ρ2[i]? with
                    | none => simp only [e2i] at o2; exact o2.elim
                    | some r2 =>
                      cases r2 with
                      | some _ => simp only [e2i] at o2; exact o2.elim
                      | none =>
                        simp only [e2i] at o2
                        cases ea2 : L2.atI es k2 with
                        | none => simp only [ea2] at o2; exact o2.elim
                        | some d =>
                          simp only [ea2] at o2
                          split at o2
                          · rename_i hc
                            have hH : H2 b = some (.lst ws) := s6.eg b _ (by unfold hjoin; rw [hRb])
                            obtain ⟨w, hw, rw'⟩ : ∃ w, L2.atI ws k2 = some w ∧ Rep X.K Fk w d := by
                              unfold L2.atI at ea2 ⊢
                              rw [← hwl]
                              cases ej2 : ixN es.length k2 with
                              | none => rw [ej2] at ea2; cases ea2
                              | some j2 => rw [ej2] at ea2; exact hget j2 d ea2 hc
                            have s7 := (s6.unstash dj).comm.head (P' := star (pts a (.lst vs)) (OwnL (Own X.K F3 (n + 1)) ds vs)) fun _ x => by
                              subst x; exact ⟨h3, h4, jn, hp, OwnL.ext (e2.trans e3) ho⟩
                            have s8 := (s7.assoc).close.tail fun _ => slots_ext e3
                            have s9 := s8.put (i := i) e2i
                            rw [set_self ev] at s9
                            have hg : Γ1.set i (n + 1 + 1) = Γ1 := by
                              refine set_self ?_
                              have hlt : i < Γ1.length := by
                                have := s2.slotsLen
                                have := lt_of_some (listAt_some el)
                                omega
                              rw [List.getD_eq_getElem?_getD, List.getElem?_eq_getElem hlt] at hn1
                              rw [List.getElem?_eq_getElem hlt]
                              exact congrArg some hn1
                            rw [hg] at s9
                            exact ⟨b, ws, k2, w, rfl, rfl, SqL.of hH, hw, o2 F3 H2 w (((e1.trans ek).trans e2).trans e3) (s9.ofRep0 (rw'.ext (e2.trans e3)))⟩
                          · exact o2.elim
                  | _ => simp only at o2; exact o2.elim
              | _ => simp only [ea] at o1; exact o1.elim
          | _ => simp only [el] at o1; exact o1.elim
/-- one place of an owned list in the hand -/
theorem OwnL.focus {ds : List D} {vs : List V} {j : Nat} {d0 : D} {n' : Nat} (s : Sat F G H (star (OwnL (Own K F n') ds vs) R)) (hj : ds[j]? = some d0) : ∃ v0, vs[j]? = some v0 ∧
    Sat F G H (star (Own K F n' d0 v0) (star (OwnL (Own K F n') (ds.take j) (vs.take j)) (star (OwnL (Own K F n') (ds.drop (j + 1)) (vs.drop (j + 1))) R))) := by
  have hl : ds.length = vs.length := s.first fun h x => OwnL.len x
  have hlt := lt_of_some hj
  obtain ⟨a, ha0, ha⟩ := drop_cons hlt
  obtain ⟨b, hb0, hb⟩ := drop_cons (hl ▸ hlt : j < vs.length)
  have : a = d0 := Option.some.inj (ha0.symm.trans hj)
  subst this
  have s1 := s.head fun h x => OwnL.split j x
  rw [ha, hb] at s1
  have s2 : Sat F G H (star (OwnL (Own K F n') (ds.take j) (vs.take j)) (star (star (Own K F n' a b) (OwnL (Own K F n') (ds.drop (j + 1)) (vs.drop (j + 1)))) R)) := s1.assoc
  exact ⟨b, hb0, (s2.tail fun _ x => star_assoc x).left⟩
theorem OwnL.unfocus {ds : List D} {vs : List V} {j : Nat} {d1 : D} {v0 : V} {n' : Nat} (hj : j < ds.length) (hl : ds.length = vs.length) (hv : vs[j]? = some v0)
    (s : Sat F G H (star (Own K F n' d1 v0) (star (OwnL (Own K F n') (ds.take j) (vs.take j)) (star (OwnL (Own K F n') (ds.drop (j + 1)) (vs.drop (j + 1))) R)))) : Sat F G H (star (OwnL (Own K F n') (ds.set j d1) vs) R) := by
  have s1 : Sat F G H (star (OwnL (Own K F n') (ds.take j) (vs.take j)) (star (star (Own K F n' d1 v0) (OwnL (Own K F n') (ds.drop (j + 1)) (vs.drop (j + 1)))) R)) := s.left.tail fun _ x => star_assoc' x
  have s2 := s1.assoc'.head fun _ x => OwnL.join (es := d1 :: ds.drop (j + 1)) (ws := v0 :: vs.drop (j + 1)) x
  rw [set_eq hj]
  have e : vs.take j ++ v0 :: vs.drop (j + 1) = vs := by
    have := set_eq (l := vs) (j := j) (a := v0) (hl ▸ hj)
    rw [← this, set_self hv]
  rw [e] at s2
  exact s2
/-- x[e1][e2] = .. -/
def tgSub2 (i : Nat) (m1 m2 : M D) (d : D) : M Unit := fun ρ => match ρ[i]? with
  | some (some _) => (m1 ρ).bind fun k ρ => match listAt ρ i, k with
    | some ds, .int k => match ixN ds.length k with
      | some j => match ds[j]? with
        | some (.list es) => (m2 (ρ.set i none)).bind fun k2 ρ2 => match k2, ρ2[i]? with
          | .int k2, some none => match ixN es.length k2 with
            | some j2 => .ok () (ρ2.set i (some (.list (ds.set j (.list (es.set j2 d))))))
            | none => .stuck
          | _, _ => .stuck
        | _ => .stuck
      | none => .stuck
    | _, _ => .stuck
  | _ => .stuck
theorem g_sub2 (i n : Nat) (hn1 : Γ1.getD i 0 = n + 2) (hq : n ≤ q) (ho : PE X a (tVar i)) (h1 : SE X W Γ b m1 Γ1 q1) (h2 : SE X W Γ1 c m2' Γ1 q2) (hs1 : PlainIx b) {pos2 : Pos}
    (hA : ∀ v, assign (.Subscript (.Subscript a b pos) c pos2) X.env v = (do
      let ov ← holding [v] (eval (.Subscript a b pos) X.env)
      let iv ← holding [v, ov] (eval c X.env)
      standAt pos2
      holding [v, ov, iv] (setItem ov iv v)
      release [v, ov, iv] []) := by intro _; rfl) : SG X W g Γ q (.Subscript (.Subscript a b pos) c pos2) (tgSub2 i m1 m2') Γ1 :=
  (pg_sub (pe_ix ix_list ho h1 hs1) h2 set_list hA).imp fun v σ H Q ⟨F, G, ρ, d, s, o⟩ => by
    unfold tgSub2 at o
    cases e0 : ρ[i]? with
    | none => rw [e0] at o; exact o.elim
    | some r0 =>
      cases r0 with
      | none => rw [e0] at o; exact o.elim
      | some d0 =>
        simp only [e0] at o
        obtain ⟨hV, hv, s0, djv⟩ := s.comm.stash
        obtain ⟨v0, ev0, _⟩ := s0.take e0
        refine ⟨v0, ev0, F, hjoin G hV, ρ, s0, OutS.bindES djv (Ext.refl F) (keepB.refl g σ) o fun dk ρ1 o1 F1 H1 v1 e1 s1 => ?_⟩
        obtain ⟨Fk, ek, rk, sk⟩ := s1.freeze
        have s2 := sk.mono fun _ => slots_ext ek
        cases el : listAt ρ1 i with
        | none => simp only [el] at o1; exact o1.elim
        | some ds =>
          cases rk with
          | int k =>
            simp only [el] at o1
            cases ej : ixN ds.length k with
            | none => simp only [ej] at o1; exact o1.elim
            | some j =>
              simp only [ej] at o1
              cases ea : ds[j]? with
              | none => simp only [ea] at o1; exact o1.elim
              | some dl =>
                cases dl with
                | list es =>
                  simp only [ea] at o1
                  obtain ⟨a, vs, ev, s3⟩ := s2.takeL (listAt_some el) hn1
                  have ee : v0 = .ref a := Option.some.inj (Option.some.inj (ev0.symm.trans ev))
                  subst ee
                  have hl : ds.length = vs.length := s3.left.first fun h x => OwnL.len x
                  obtain ⟨hR, hr, s4, dj⟩ := (s3.assoc'.comm).stash
                  obtain ⟨h3, h4, jn, hp, ho'⟩ := hr
                  obtain ⟨b, ws, hv', hb, hwl, hget⟩ := OwnL.at ho' ea
                  refine ⟨a, vs, k, .ref b, rfl, rfl, SqL.of s3.get, by unfold L2.atI; rw [← hl, ej]; exact hv', Fk, hjoin (hjoin G hV) hR, ρ1.set i none, s4, OutS.bindES2 djv dj (e1.trans ek) (keepB.refl g σ) o1 fun dk2 ρ2 o2 F2 H2 v2 e2 s5 => ?_⟩
                  obtain ⟨F3, e3, r3, s6⟩ := s5.freeze
                  cases r3 with
                  | int k2 =>
                    cases e2i : ρ2[i]? with
                    | none => simp only [e2i] at o2; exact o2.elim
                    | some r2 =>
                      cases r2 with
                      | some _ => simp only [e2i] at o2; exact o2.elim
                      | none =>
                        simp only [e2i] at o2
                        cases ej2 : ixN es.length k2 with
                        | none => simp only [ej2] at o2; exact o2.elim
                        | some j2 =>
                          simp only [ej2] at o2
                          have hj2 := (ixN_seq ej2).2.1
                          have hj := lt_of_some ea
                          have s7 := (s6.unstash dj).comm.head (P' := star (pts a (.lst vs)) (OwnL (Own X.K F3 (n + 1)) ds vs)) fun _ x => by
                            subst x; exact ⟨h3, h4, jn, hp, OwnL.ext (e2.trans e3) ho'⟩
                          have s8 := (s7.unstash djv).comm.head (P' := Own X.K F3 q d v) fun _ x => by subst x; exact hv.ext (((e1.trans ek).trans e2).trans e3)
                          obtain ⟨F4, e4, s9⟩ := s8.lower hq
                          have s10 : Sat F4 G H2 (star (OwnL (Own X.K F4 (n + 1)) ds vs) (star (Own X.K F4 n d v) (star (pts a (.lst vs)) (slots X.K F4 Γ1 ρ2 σ)))) := by
                            have x1 : Sat F4 G H2 (star (Own X.K F4 n d v) (star (pts a (.lst vs)) (star (OwnL (Own X.K F4 (n + 1)) ds vs) (slots X.K F4 Γ1 ρ2 σ)))) :=
                              s9.tail fun _ y => star_mono (star_assoc y) (fun _ z => z) fun _ z => star_mono z (fun _ u => OwnL.ext e4 u) fun _ u => slots_ext (e3.trans e4) u
                            exact ((x1.tail fun _ y => star_left y).left)
                          obtain ⟨vj, hvj, s11⟩ := OwnL.focus s10 ea
                          obtain ⟨b', ws', eb, s12⟩ := s11.open
                          subst eb
                          have s13 : Sat F4 G H2 (star (Own X.K F4 n d v) (star (pts b' (.lst ws')) (star (OwnL (Own X.K F4 n) es ws') (star (OwnL (Own X.K F4 (n + 1)) (ds.take j) (vs.take j)) (star (OwnL (Own X.K F4 (n + 1)) (ds.drop (j + 1)) (vs.drop (j + 1))) (star (pts a (.lst vs)) (slots X.K F4 Γ1 ρ2 σ))))))) := s12.mono fun _ y => star_up4 y
                          have s14 := OwnL.set (s13.tail fun _ y => star_left y) hj2
                          have hbb : b' = b := by
                            have : V.ref b' = V.ref b := Option.some.inj (hvj.symm.trans hv')
                            cases this; rfl
                          subst hbb
                          have hl2 : es.length = ws'.length := s13.left.tail (fun _ y => star_left y) |>.left.first fun h x => OwnL.len x
                          have s15 := (Sat.upd (o' := .lst (ws'.set j2 v)) s14.left).close
                          have s16 := OwnL.unfocus hj hl hvj s15
                          have s17 := (s16.left.close).put (i := i) e2i
                          rw [set_self ev] at s17
                          have hg : Γ1.set i (n + 1 + 1) = Γ1 := by
                            refine set_self ?_
                            have hlt : i < Γ1.length := by
                              have := s2.slotsLen
                              have := lt_of_some (listAt_some el)
                              omega
                            rw [List.getD_eq_getElem?_getD, List.getElem?_eq_getElem hlt] at hn1
                            rw [List.getElem?_eq_getElem hlt]
                            exact congrArg some hn1
                          rw [hg] at s17
                          exact ⟨b', ws', k2, j2, rfl, rfl, s14.left.get, by rw [← hl2]; exact ej2, o2 F4 _ σ ((((e1.trans ek).trans e2).trans e3).trans e4) (keepB.refl g σ) s17⟩
                  | _ => simp only at o2; exact o2.elim
                | _ => simp only [ea] at o1; exact o1.elim
          | _ => simp only [el] at o1; exact o1.elim
end
end Mir

set_option Elab.async false
set_option linter.all false
set_option maxRecDepth 100000
set_option maxHeartbeats 4000000
namespace Mir
open PySem PySem.Spec PyProof.Rows L2
/-! ### bits, slices, lists and tuples of what is walked, sorted -/
section
variable {X : Cx} {W : WX} {g : Sg} {K : PySem.W.Frag} {F F1 G H : Hp} {σ σ1 : L2.St} {Γ Γ1 Γ2 Γ3 Γ' Γb Γc : List Nat} {q q1 q2 q3 n m : Nat} {a b c e e2 o : Expr} {ma mb mc : M D} {pos p p2 apos : Pos} {P R : Asr}
abbrev fBits := fU fun i => (Builtin.Int.intBits i : Nat)
theorem c_bits (ha : SE X W Γ a ma Γ1 q1) (hbase : attributeBase a "bit_length" X.env (eval a X.env) = eval a X.env := by rfl) (hline : (apos.endLine == pos.line) = true := by rfl) : SE X W Γ (.Call (.Attribute a "bit_length" apos) [] [] pos) (m1 fBits ma) Γ1 9 :=
  (pe_bits ha hbase hline).imp fun σ H Q h => t1_sound (r := rU fun i => .int (Builtin.Int.intBits i : Nat)) ops_U h
/-- parts of a slice -/
def tO (X : Cx) (W : WX) (Γ : List Nat) (m : M (Option Int)) (Γ' : List Nat) : TO := fun σ H Q => ∃ F G ρ, Sat F G H (slots X.K F Γ ρ σ) ∧
  Out X W F G σ (m ρ) fun d ρ' => ∀ F' H', Ext F F' → Sat F' G H' (slots X.K F' Γ' ρ' σ) → Q d H'
def SO (X : Cx) (W : WX) (Γ : List Nat) (e : Option Expr) (m : M (Option Int)) (Γ' : List Nat) : Prop := PO X e (tO X W Γ m Γ')
theorem _root_.L2.PO.imp {X : Cx} {e : Option Expr} {t t' : TO} (h : PO X e t) (i : ∀ σ H Q, t' σ H Q → t σ H Q) : PO X e t' := ⟨fun p s σ H Q I x => h.run p s σ H Q I (i σ H Q x)⟩
def mNoP : M (Option Int) := fun ρ => .ok none ρ
def intD : D → Option (Option Int)
  | .int i => some (some i)
  | _ => none
def mPart (m : M D) : M (Option Int) := fun ρ => (m ρ).bind fun d ρ => .lift (intD d) ρ
theorem po_noneM : SO X W Γ none mNoP Γ := po_none.imp fun σ H Q ⟨F, G, ρ, s, o⟩ => o F H (Ext.refl F) s
theorem po_someM (ha : SE X W Γ a ma Γ1 q1) : SO X W Γ (some a) (mPart ma) Γ1 := (po_some ha).imp fun σ H Q ⟨F, G, ρ, s, o⟩ => by
  refine ⟨F, G, ρ, s, Out.bind o fun d ρ1 o1 F1 H1 v1 e1 s1 => ?_⟩
  obtain ⟨i, hi, k⟩ := o1.lift
  cases d with
  | int i =>
    cases hi
    obtain ⟨r, s2⟩ := s1.flat rfl
    cases r
    exact ⟨_, rfl, k F1 H1 e1 s2⟩
  | _ => cases hi
def cutD (xs : List D) (lo hi : Option Int) : List D := (xs.drop (HT.sIx xs.length 0 lo)).take (HT.sIx xs.length xs.length hi - HT.sIx xs.length 0 lo)
theorem RepL.cut {vs : List V} {ds : List D} (r : RepL K F vs ds) (lo hi : Option Int) : RepL K F (cutV vs lo hi) (cutD ds lo hi) := by
  unfold cutV cutD
  rw [r.length]
  exact (r.drop _).take _
def fSl : D → Option Int → Option Int → Option D
  | .list ds, lo, hi => some (.list (cutD ds lo hi))
  | .tuple ds, lo, hi => some (.tuple (cutD ds lo hi))
  | _, _, _ => none
def mSl (a : M D) (l h : M (Option Int)) : M D := fun ρ => (a ρ).bind fun d ρ => (l ρ).bind fun lo ρ => (h ρ).bind fun hi ρ => .lift (fSl d lo hi) ρ
def rSl' (K : PySem.W.Frag) : V → Option Int → Option Int → Hp → VK → Prop := fun x lo hi H Q => rSlL K x lo hi H Q ∨ rSlA K x lo hi H Q
theorem sl_both : SlR X (rSl' X.K) := SlR.or sl_list sl_tupA
theorem e_sl {lo hi : Option Expr} {ml mh : M (Option Int)} (ha : SE X W Γ a ma Γ1 q1) (hl : SO X W Γ1 lo ml Γ2) (hh : SO X W Γ2 hi mh Γ3) : SE X W Γ (.Subscript a (.Slice lo hi none p2) pos) (mSl ma ml mh) Γ3 1 :=
  (pe_slice sl_both ha hl hh).imp fun σ H Q ⟨F, G, ρ, s, o⟩ => by
    refine ⟨F, G, ρ, s, Out.bind o fun d ρ1 o1 F1 H1 v1 e1 s1 => ?_⟩
    obtain ⟨F2, e2, r, s2⟩ := s1.freeze
    refine ⟨F2, G, ρ1, s2.mono fun _ => slots_ext e2, Out.bindE (e1.trans e2) o1 fun lo ρ2 o2 F3 H3 e3 s3 => ?_⟩
    have ee := (e1.trans e2).trans e3
    refine ⟨F3, G, ρ2, s3, Out.bindE ee o2 fun hi ρ3 o3 F4 H4 e4 s4 => ?_⟩
    obtain ⟨dr, hd, k⟩ := o3.lift
    have r' := r.ext (e3.trans e4)
    cases r' with
    | lst h rl =>
      cases hd
      exact .inl ⟨_, _, rfl, SqL.of (s4.ef _ _ h), fun p hp => k F4 _ _ (ee.trans e4) (s4.newList hp (rl.cut lo hi))⟩
    | tup h rl =>
      cases hd
      refine .inr ⟨_, _, rfl, SqT.of (s4.ef _ _ h), fun hc => ?_, fun _ p hp => ?_⟩
      · refine k F4 H4 _ (ee.trans e4) (s4.ofRep (.tup h ?_) 1 rfl)
        rename_i xs ds
        have : cutD ds lo hi = ds := by
          unfold cutD
          rw [← rl.length, hc.1, hc.2]
          simp [rl.length]
        rw [this]
        exact rl
      · obtain ⟨F5, e5, s5⟩ := s4.newTup hp (rl.cut lo hi) 1
        exact k F5 _ _ ((ee.trans e4).trans e5) (s5.tail fun _ => slots_ext e5)
    | _ => cases hd
/-! ### sorted -/
def lexLe (p q : Int × Int) : Bool := !SrtO.lexB q p
def insBy {α : Type} (le : α → α → Bool) (x : α) : List α → List α
  | [] => [x]
  | y :: l => if le x y = true then x :: y :: l else y :: insBy le x l
def sortBy {α : Type} (le : α → α → Bool) : List α → List α
  | [] => []
  | x :: l => insBy le x (sortBy le l)
theorem insBy_perm {α : Type} {le : α → α → Bool} {x : α} : ∀ l : List α, (insBy le x l).Perm (x :: l)
  | [] => List.Perm.refl _
  | y :: l => by
    unfold insBy
    split
    · exact List.Perm.refl _
    · exact ((insBy_perm l).cons y).trans (List.Perm.swap x y l)
theorem sortBy_perm {α : Type} {le : α → α → Bool} : ∀ l : List α, (sortBy le l).Perm l
  | [] => List.Perm.refl _
  | x :: l => (insBy_perm _).trans ((sortBy_perm l).cons x)
theorem insBy_sorted {α : Type} {le : α → α → Bool} (tot : ∀ a b, le a b = true ∨ le b a = true) (tr : ∀ a b c, le a b = true → le b c = true → le a c = true) {x : α} : ∀ l : List α, l.Pairwise (fun a b => le a b = true) → (insBy le x l).Pairwise (fun a b => le a b = true)
  | [], _ => List.pairwise_singleton _ _
  | y :: l, h => by
    obtain ⟨h1, h2⟩ := List.pairwise_cons.mp h
    unfold insBy
    split
    · rename_i hx
      refine List.pairwise_cons.mpr ⟨fun z hz => ?_, h⟩
      rcases List.mem_cons.mp hz with rfl | hz
      · exact hx
      · exact tr _ _ _ hx (h1 z hz)
    · rename_i hx
      refine List.pairwise_cons.mpr ⟨fun z hz => ?_, insBy_sorted tot tr l h2⟩
      rcases List.mem_cons.mp ((insBy_perm l).mem_iff.mp hz) with rfl | hz
      · exact (tot z y).resolve_left hx
      · exact h1 z hz
theorem sortBy_sorted {α : Type} {le : α → α → Bool} (tot : ∀ a b, le a b = true ∨ le b a = true) (tr : ∀ a b c, le a b = true → le b c = true → le a c = true) : ∀ l : List α, (sortBy le l).Pairwise (fun a b => le a b = true)
  | [] => List.Pairwise.nil
  | _ :: l => insBy_sorted tot tr _ (sortBy_sorted tot tr l)
theorem sorted_uniq {α : Type} {le : α → α → Bool} (as : ∀ a b, le a b = true → le b a = true → a = b) : ∀ {l m : List α}, l.Perm m → l.Pairwise (fun a b => le a b = true) → m.Pairwise (fun a b => le a b = true) → l = m
  | [], m, h, _, _ => (List.Perm.eq_nil h.symm).symm
  | x :: l, [], h, _, _ => absurd h.length_eq (by simp)
  | x :: l, y :: m, h, hl, hm => by
    obtain ⟨l1, l2⟩ := List.pairwise_cons.mp hl
    obtain ⟨k1, k2⟩ := List.pairwise_cons.mp hm
    have e : x = y := by
      have hx := h.mem_iff.mp (List.mem_cons_self (a := x) (l := l))
      have hy := h.symm.mem_iff.mp (List.mem_cons_self (a := y) (l := m))
      rcases List.mem_cons.mp hx with e | hx
      · exact e
      · rcases List.mem_cons.mp hy with e | hy
        · exact e.symm
        · exact as _ _ (l1 y hy) (k1 x hx)
    subst e
    rw [sorted_uniq as (List.Perm.cons_inv h) l2 k2]
def leI (a b : Int) : Bool := decide (a ≤ b)
theorem leI_tot (a b : Int) : leI a b = true ∨ leI b a = true := by unfold leI; simp only [decide_eq_true_eq]; omega
theorem leI_tr (a b c : Int) (h1 : leI a b = true) (h2 : leI b c = true) : leI a c = true := by unfold leI at *; simp only [decide_eq_true_eq] at *; omega
theorem leI_as (a b : Int) (h1 : leI a b = true) (h2 : leI b a = true) : a = b := by unfold leI at *; simp only [decide_eq_true_eq] at *; omega
theorem lexLe_iff {p q : Int × Int} : lexLe p q = true ↔ p.1 < q.1 ∨ (p.1 = q.1 ∧ p.2 ≤ q.2) := by
  unfold lexLe
  cases h : SrtO.lexB q p with
  | true => have := SrtO.lexB_iff.mp h; simp; omega
  | false => have := SrtO.lexB_no.mp h; simp; omega
theorem lexLe_tot (a b : Int × Int) : lexLe a b = true ∨ lexLe b a = true := by simp only [lexLe_iff]; omega
theorem lexLe_tr (a b c : Int × Int) (h1 : lexLe a b = true) (h2 : lexLe b c = true) : lexLe a c = true := by simp only [lexLe_iff] at *; omega
theorem lexLe_as (a b : Int × Int) (h1 : lexLe a b = true) (h2 : lexLe b a = true) : a = b := by
  simp only [lexLe_iff] at *
  obtain ⟨a1, a2⟩ := a
  obtain ⟨b1, b2⟩ := b
  have e1 : a1 = b1 := by simp at *; omega
  have e2 : a2 = b2 := by simp at *; omega
  rw [e1, e2]
def encP (p : Int × Int) : D := .tuple [.int p.1, .int p.2]
def pairD : D → Option (Int × Int)
  | .tuple [.int a, .int b] => some (a, b)
  | _ => none
def pairsD : List D → Option (List (Int × Int))
  | [] => some []
  | d :: ds => match pairD d with
    | some p => (pairsD ds).map (p :: ·)
    | none => none
theorem pairD_some {d : D} {p : Int × Int} (h : pairD d = some p) : d = encP p := by
  unfold pairD at h
  split at h
  · cases h; rfl
  · cases h
theorem pairsD_some : ∀ {ds : List D} {ps : List (Int × Int)}, pairsD ds = some ps → ds = ps.map encP
  | [], _, h => by cases h; rfl
  | d :: ds, ps, h => by
    unfold pairsD at h
    cases e : pairD d with
    | none => rw [e] at h; cases h
    | some p =>
      simp only [e] at h
      cases e2 : pairsD ds with
      | none => rw [e2] at h; cases h
      | some qs =>
        rw [e2] at h
        cases h
        rw [pairD_some e, pairsD_some e2]
        rfl
def fSorted : D → Option D
  | .list ds => match intsD ds with
    | some ns => some (.list ((sortBy leI ns).map .int))
    | none => match pairsD ds with
      | some ps => some (.list ((sortBy lexLe ps).map encP))
      | none => none
  | _ => none
def rSort' (K : PySem.W.Frag) : List V → Hp → VK → Prop := fun vs H Q => rSortedI K vs H Q ∨ rSortedPO K vs H Q
theorem cr_sort' (X : Cx) : CallR X (.builtin "sorted") (rSort' X.K) := CallR.or cr_sortedI cr_sortedPO
def kOf (H : Hp) : V → Int × Int
  | .ref t => match H t with
    | some (.tup [.int a, .int b]) => (a, b)
    | _ => (0, 0)
  | _ => (0, 0)
theorem rep_encP {v : V} {p : Int × Int} (r : Rep K F v (encP p)) (e : Ext F H) : ∃ t, v = .ref t ∧ H t = some (.tup [.int p.1, .int p.2]) ∧ kOf H v = p := by
  unfold encP at r
  cases r with
  | tup h rl =>
    cases rl with
    | cons r1 rl =>
      cases rl with
      | cons r2 rl =>
        cases rl
        cases r1
        cases r2
        have hh := e _ _ h
        exact ⟨_, rfl, hh, by simp [kOf, hh]⟩
theorem repL_encP : ∀ {vs : List V} {ps : List (Int × Int)}, RepL K F vs (ps.map encP) → Ext F H → (∀ v ∈ vs, ∃ t, v = .ref t ∧ H t = some (.tup [.int (kOf H v).1, .int (kOf H v).2])) ∧ vs.map (kOf H) = ps ∧ ∀ v ∈ vs, Rep K F v (encP (kOf H v))
  | [], [], _, _ => ⟨by simp, rfl, by simp⟩
  | v :: vs, p :: ps, .cons r rl, e => by
    obtain ⟨h1, h2, h3⟩ := repL_encP rl e
    obtain ⟨t, rfl, ht, hk⟩ := rep_encP r e
    refine ⟨fun w hw => ?_, by rw [List.map_cons, h2, hk], fun w hw => ?_⟩
    · rcases List.mem_cons.mp hw with rfl | hw
      · exact ⟨t, rfl, by rw [hk]; exact ht⟩
      · exact h1 w hw
    · rcases List.mem_cons.mp hw with rfl | hw
      · rw [hk]; exact r
      · exact h3 w hw
theorem repL_of {f : V → D} : ∀ {vs : List V}, (∀ v ∈ vs, Rep K F v (f v)) → RepL K F vs (vs.map f)
  | [], _ => .nil
  | v :: vs, h => .cons (h v (by simp)) (repL_of fun w hw => h w (by simp [hw]))
theorem opc_sorted : OpC1 K (rSort' K) fSorted q1 1 := opC1_of fun F G H R d1 d v1 Q hd r1 s k => by
  cases r1 with
  | lst h1 rl =>
    rename_i a xs ds
    simp only [fSorted] at hd
    cases e : intsD ds with
    | some ns =>
      simp only [e] at hd
      cases hd
      cases intsD_some e
      have z := rl.ints
      subst z
      refine .inl ⟨a, ns, rfl, SqL.of (s.ef _ _ h1), fun ns' p hp hs hn => ?_⟩
      have eq : ns' = sortBy leI ns := sorted_uniq leI_as (hp.trans (sortBy_perm ns).symm) (hs.imp fun h => by unfold leI; simpa using h) (sortBy_sorted leI_tot leI_tr ns)
      rw [eq]
      exact k F _ _ (Ext.refl F) (s.newList hn (RepL.of_ints _))
    | none =>
      simp only [e] at hd
      cases e2 : pairsD ds with
      | none => simp only [e2] at hd; cases hd
      | some ps =>
        simp only [e2] at hd
        cases hd
        cases pairsD_some e2
        obtain ⟨h2, h3, h4⟩ := repL_encP rl s.ef
        refine .inr ⟨a, xs, kOf H, rfl, SqL.of (s.ef _ _ h1), h2, fun ys p hs hb hn => ?_⟩
        have eq : ys.map (kOf H) = sortBy lexLe ps := by
          refine sorted_uniq lexLe_as ?_ ?_ (sortBy_sorted lexLe_tot lexLe_tr ps)
          · rw [← h3]
            exact (hb.perm.map (kOf H)).trans (sortBy_perm _).symm
          · refine List.pairwise_map.mpr (hs.imp fun {x y} h => ?_)
            show (!SrtO.lexB (kOf H y) (kOf H x)) = true
            rw [show SrtO.lexB (kOf H y) (kOf H x) = false from h]
            rfl
        have rr : RepL K F ys (ys.map fun v => encP (kOf H v)) := repL_of fun v hv => h4 v (hb.perm.mem_iff.mp hv)
        have e3 : (ys.map fun v => encP (kOf H v)) = (sortBy lexLe ps).map encP := by rw [← eq, List.map_map]; rfl
        rw [e3] at rr
        exact k F _ _ (Ext.refl F) (s.newList hn rr)
  | _ => cases hd
theorem c_sorted (hc : X.calm = true) (hg : Gl X "sorted") (hm : X.mg "sorted" = none) (ha : SE X W Γ a ma Γ1 q1) (hs : starEach [a] X.env = [(false, eval a X.env)]) : SE X W Γ (.Call (.Name "sorted" p) [a] [] pos) (m1 fSorted ma) Γ1 1 :=
  (pe_callB (cr_sort' X) hg hm PyProof.Rows.boot_sorted (pa_cons ha pa_nil hs) (by decide) (by decide) hs rfl).imp fun _ _ _ => c1_sound opc_sorted
end
end Mir

set_option Elab.async false
set_option linter.all false
set_option maxRecDepth 100000
set_option maxHeartbeats 4000000
namespace Mir
open PySem PySem.Spec PyProof.Rows L2

/-! ### list(range(..)), tuple(range(..)) -/
section
variable {X : Cx} {W : WX} {Γ Γ1 Γ2 : List Nat} {q1 q2 : Nat} {a b e : Expr} {ma mb : M D} {pos p p' pos' : Pos} {F G H : Hp} {σ : L2.St} {K : PySem.W.Frag}
theorem rgV_rep {i j : Int} : RepL K F (rgV i j) (rangeD i (j - i).toNat) := by
  unfold rgV rangeD
  generalize (List.range (j - i).toNat) = l
  induction l with
  | nil => exact .nil
  | cons x l ih => exact .cons (.int _) ih
def mLRg (m : M (List D)) : M D := fun ρ => (m ρ).bind fun ds ρ => .ok (.list ds) ρ
def mTRg (m : M (List D)) : M D := fun ρ => (m ρ).bind fun ds ρ => .ok (.tuple ds) ρ
theorem lrg1 {Q : VK} (h : tE X W Γ (mLRg (mI1 fRange1 ma)) Γ1 1 σ H Q) : tLstRg (tRg1 (tE X W Γ ma Γ1 q1)) σ H Q := by
  obtain ⟨F, G, ρ, s, o⟩ := h
  unfold mLRg mI1 at o
  rw [Rs.bind_assoc] at o
  refine ⟨F, G, ρ, s, Out.bind o fun d ρ1 o1 F1 H1 v e1 s1 => ?_⟩
  obtain ⟨F2, e2, r, s2⟩ := s1.freeze
  cases r with
  | int j =>
    simp only [fRange1] at o1
    split at o1
    · refine ⟨j, rfl, ⟨by omega, by omega, by omega, by omega, by omega⟩, fun q hq => o1 F2 _ _ (e1.trans e2) ?_⟩
      have := Sat.newList hq s2 (rgV_rep (K := X.K) (F := F2) (i := 0) (j := j))
      simp only [Int.sub_zero] at this
      exact this.tail fun _ => slots_ext e2
    · exact o1.elim
  | _ => exact o1.elim
theorem trg1 {Q : VK} (h : tE X W Γ (mTRg (mI1 fRange1 ma)) Γ1 9 σ H Q) : tTupRg (tRg1 (tE X W Γ ma Γ1 q1)) σ H Q := by
  obtain ⟨F, G, ρ, s, o⟩ := h
  unfold mTRg mI1 at o
  rw [Rs.bind_assoc] at o
  refine ⟨F, G, ρ, s, Out.bind o fun d ρ1 o1 F1 H1 v e1 s1 => ?_⟩
  obtain ⟨F2, e2, r, s2⟩ := s1.freeze
  cases r with
  | int j =>
    simp only [fRange1] at o1
    split at o1
    · refine ⟨j, rfl, ⟨by omega, by omega, by omega, by omega, by omega⟩, fun q hq => ?_⟩
      obtain ⟨F3, e3, s3⟩ := Sat.newTup hq s2 (rgV_rep (K := X.K) (F := F2) (i := 0) (j := j)) 9
      simp only [Int.sub_zero] at s3
      exact o1 F3 _ _ ((e1.trans e2).trans e3) (s3.tail fun _ => slots_ext (e2.trans e3))
    · exact o1.elim
  | _ => exact o1.elim
theorem c_listRg1 (hc : X.calm = true) (hg : Gl X "list") (hm : X.mg "list" = none) (hg' : Gl X "range") (hm' : X.mg "range" = none) (ha : SE X W Γ a ma Γ1 q1) (hs : starEach [a] X.env = (false, eval a X.env) :: starEach [] X.env := by rfl) :
    SE X W Γ (.Call (.Name "list" p) [.Call (.Name "range" p') [a] [] pos'] [] pos) (mLRg (mI1 fRange1 ma)) Γ1 1 :=
  (pe_listRg hc hg hm (prg_1 hg' hm' ha hs)).imp fun _ _ _ h => lrg1 h
theorem c_tupleRg1 (hc : X.calm = true) (hg : Gl X "tuple") (hm : X.mg "tuple" = none) (hg' : Gl X "range") (hm' : X.mg "range" = none) (ha : SE X W Γ a ma Γ1 q1) (hs : starEach [a] X.env = (false, eval a X.env) :: starEach [] X.env := by rfl) :
    SE X W Γ (.Call (.Name "tuple" p) [.Call (.Name "range" p') [a] [] pos'] [] pos) (mTRg (mI1 fRange1 ma)) Γ1 9 :=
  (pe_tupRg hc hg hm (prg_1 hg' hm' ha hs)).imp fun _ _ _ h => trg1 h
theorem lrg2 {Q : VK} (h : tE X W Γ (mLRg (mI2 fRange2 ma mb)) Γ2 1 σ H Q) : tLstRg (tRg2 (tE X W Γ ma Γ1 q1) (tE X W Γ1 mb Γ2 q2)) σ H Q := by
  obtain ⟨F, G, ρ, s, o⟩ := h
  unfold mLRg mI2 at o
  simp only [Rs.bind_assoc] at o
  refine ⟨F, G, ρ, s, Out.bind o fun d ρ1 o1 F1 H1 v e1 s1 => ?_⟩
  obtain ⟨F1', e1', r1, s1'⟩ := s1.freeze
  refine ⟨F1', G, ρ1, s1'.mono fun _ => slots_ext e1', Out.bindE (e1.trans e1') o1 fun d2 ρ2 o2 F2 H2 v2 e2 s2 => ?_⟩
  obtain ⟨F2', e2', r2, s2'⟩ := s2.freeze
  cases r1 with
  | int i =>
    cases r2 with
    | int j =>
      simp only [fRange2] at o2
      split at o2
      · refine ⟨i, j, rfl, rfl, ⟨by omega, by omega, by omega, by omega, by omega⟩, fun q hq => o2 F2' _ _ (((e1.trans e1').trans e2).trans e2') ?_⟩
        exact (Sat.newList hq s2' (rgV_rep (K := X.K) (F := F2') (i := i) (j := j))).tail fun _ => slots_ext e2'
      · exact o2.elim
    | _ => exact o2.elim
  | _ => exact o2.elim
theorem trg2 {Q : VK} (h : tE X W Γ (mTRg (mI2 fRange2 ma mb)) Γ2 9 σ H Q) : tTupRg (tRg2 (tE X W Γ ma Γ1 q1) (tE X W Γ1 mb Γ2 q2)) σ H Q := by
  obtain ⟨F, G, ρ, s, o⟩ := h
  unfold mTRg mI2 at o
  simp only [Rs.bind_assoc] at o
  refine ⟨F, G, ρ, s, Out.bind o fun d ρ1 o1 F1 H1 v e1 s1 => ?_⟩
  obtain ⟨F1', e1', r1, s1'⟩ := s1.freeze
  refine ⟨F1', G, ρ1, s1'.mono fun _ => slots_ext e1', Out.bindE (e1.trans e1') o1 fun d2 ρ2 o2 F2 H2 v2 e2 s2 => ?_⟩
  obtain ⟨F2', e2', r2, s2'⟩ := s2.freeze
  cases r1 with
  | int i =>
    cases r2 with
    | int j =>
      simp only [fRange2] at o2
      split at o2
      · refine ⟨i, j, rfl, rfl, ⟨by omega, by omega, by omega, by omega, by omega⟩, fun q hq => ?_⟩
        obtain ⟨F3, e3, s3⟩ := Sat.newTup hq s2' (rgV_rep (K := X.K) (F := F2') (i := i) (j := j)) 9
        exact o2 F3 _ _ ((((e1.trans e1').trans e2).trans e2').trans e3) (s3.tail fun _ => slots_ext (e2'.trans e3))
      · exact o2.elim
    | _ => exact o2.elim
  | _ => exact o2.elim
theorem c_listRg2 (hc : X.calm = true) (hg : Gl X "list") (hm : X.mg "list" = none) (hg' : Gl X "range") (hm' : X.mg "range" = none) (ha : SE X W Γ a ma Γ1 q1) (hb : SE X W Γ1 b mb Γ2 q2) (hs : starEach [a, b] X.env = (false, eval a X.env) :: starEach [b] X.env := by rfl)
    (hs2 : starEach [b] X.env = (false, eval b X.env) :: starEach [] X.env := by rfl) (hp : (backTo pos' (starEach [b] X.env)).any (·.1) = false := by rfl) :
    SE X W Γ (.Call (.Name "list" p) [.Call (.Name "range" p') [a, b] [] pos'] [] pos) (mLRg (mI2 fRange2 ma mb)) Γ2 1 :=
  (pe_listRg hc hg hm (prg_2 hg' hm' ha hb hs hs2 hp)).imp fun _ _ _ h => lrg2 h
theorem c_tupleRg2 (hc : X.calm = true) (hg : Gl X "tuple") (hm : X.mg "tuple" = none) (hg' : Gl X "range") (hm' : X.mg "range" = none) (ha : SE X W Γ a ma Γ1 q1) (hb : SE X W Γ1 b mb Γ2 q2) (hs : starEach [a, b] X.env = (false, eval a X.env) :: starEach [b] X.env := by rfl)
    (hs2 : starEach [b] X.env = (false, eval b X.env) :: starEach [] X.env := by rfl) (hp : (backTo pos' (starEach [b] X.env)).any (·.1) = false := by rfl) :
    SE X W Γ (.Call (.Name "tuple" p) [.Call (.Name "range" p') [a, b] [] pos'] [] pos) (mTRg (mI2 fRange2 ma mb)) Γ2 9 :=
  (pe_tupRg hc hg hm (prg_2 hg' hm' ha hb hs hs2 hp)).imp fun _ _ _ h => trg2 h
end
end Mir

set_option Elab.async false
set_option linter.all false
set_option maxRecDepth 100000
set_option maxHeartbeats 4000000
namespace Mir
open PySem PySem.Spec PyProof.Rows L2

/-! ### comprehensions of two clauses -/
section
variable {X : Cx} {W : WX} {F F1 G H : Hp} {σ : L2.St} {α β : Type}
variable {Γ Γ1 Γt Γc Γe Γl Γl1 Γ2 Γt1 Γc1 : List Nat} {q qe : Nat} {c e elt tg iter tg1 iter1 : Expr} {src src1 : M (List D)} {t t1 : D → M Unit} {mc mc1 : M Bool} {me : M D}
def inW (X : Cx) (W : WX) (vs1 : List Nat) (t1 : D → M Unit) (mc1 : M Bool) (me : M D) (qe : Nat) (Γl1 : List Nat) (F G : Hp) (σ σ2 : L2.St) (kont : List D → Env → Rs D) (kk : D → Env → Prop) (base : Nat) (F0 : Hp) (ds1 : List D) (L : Addr) (j : Nat) (H' : Hp) : Prop :=
  ∃ (F' : Hp) (ρ' : Env) (acc : List D), Ext F0 F' ∧ acc.length ≤ base + j ∧
  Sat F' G H' (star (Own X.K F' (qe + 1) (.list acc) (.ref L)) (slots X.K F' Γl1 (wipeE ρ' vs1) (wipe σ2 vs1))) ∧
  Out X W F G σ ((mLc vs1 t1 mc1 me (ds1.drop j) (wipeE ρ' vs1)).bind fun r ρ => kont (acc ++ r) ρ) kk
theorem Rs.bind_ok (a : α) (ρ : Env) (f : α → Env → Rs β) : (Rs.ok a ρ).bind f = f a ρ := rfl
theorem ext_upd2 {F F' : Hp} (e : Ext F F') (p : Addr) (o : HO) : Ext (L2.upd F p o) (L2.upd F' p o) := fun a u h => by
  by_cases ha : a = p
  · subst ha; rw [upd_same] at h ⊢; exact h
  · rw [upd_ne ha] at h ⊢; exact e a u h
theorem ItOk.ext {K : PySem.W.Frag} {F F' : Hp} {J : It} {ds : List D} (ok : ItOk K F J ds) (e8 : Ext F F') : ItOk K F' J ds := ⟨fun i H e => ok.stop i H (e8.trans e), fun i d H e => ok.go i d H (e8.trans e), fun i d H x H' e h y => by
  rcases ok.yld i d H x H' (e8.trans e) h y with ⟨a, b⟩ | ⟨p, o, h1, h2, h3⟩
  · exact .inl ⟨a, b.ext e8⟩
  · exact .inr ⟨p, o, h1, h2, h3.ext (ext_upd2 e8 p o)⟩⟩
theorem lc_in {vs1 : List Nat} {σ2 : L2.St} {kont : List D → Env → Rs D} {kk : D → Env → Prop} {base : Nat} {ds1 acc0 : List D} {L : Addr} {J1 : It} {Nx : Hp → Prop} {ρ0 : Env} {H4 : Hp}
    (h2 : leB Γl1 Γc1 = true) (h3 : leB Γl1 Γe = true) (ok : ItOk X.K F1 J1 ds1) (hb : acc0.length ≤ base) (hz : base + ds1.length ≤ big) (hlen : Γl1.length = σ2.length)
    (s : Sat F1 G H4 (star (Own X.K F1 (qe + 1) (.list acc0) (.ref L)) (slots X.K F1 Γl1 (wipeE ρ0 vs1) (wipe σ2 vs1))))
    (o : Out X W F G σ ((mLc vs1 t1 mc1 me ds1 (wipeE ρ0 vs1)).bind fun r ρ => kont (acc0 ++ r) ρ) kk)
    (hN : ∀ F' ρ' acc' H', Ext F1 F' → acc'.length ≤ base + ds1.length → Sat F' G H' (star (Own X.K F' (qe + 1) (.list acc') (.ref L)) (slots X.K F' Γl1 (wipeE ρ' vs1) (wipe σ2 vs1))) → Out X W F G σ (kont acc' (wipeE ρ' vs1)) kk → Nx H') :
    ∃ W1 : Nat → Nat → Hp → Prop, (∃ m, W1 0 m H4) ∧ ∀ j k H, W1 j k H → (J1.stop j H ∧ Nx H) ∨ (J1.go j H ∧ ∃ Nx1 : Hp → Prop, (∀ H', Nx1 H' → ∃ k', k' < k ∧ W1 (j + 1) k' H') ∧
      ∀ x H', J1.yld j H x H' → tG X W0 (gB Γl1.length vs1) Γl1 0 t1 Γt1 x (wipe σ2 vs1) H' fun σ3 H5 => wipe σ3 vs1 = wipe σ2 vs1 ∧ tT X W0 Γt1 mc1 Γc1 σ3 H5 fun b H6 =>
        if b = true then tE X W0 Γc1 me Γe qe σ3 H6 fun y H7 => ∃ acc, H7 L = some (.lst acc) ∧ acc.length < sizeLine ∧ Nx1 (L2.upd H7 L (.lst (acc ++ [y]))) else Nx1 H6) := by
  refine ⟨fun j m H' => m + j = ds1.length ∧ inW X W vs1 t1 mc1 me qe Γl1 F G σ σ2 kont kk base F1 ds1 L j H', ⟨ds1.length, rfl, F1, ρ0, acc0, Ext.refl F1, by omega, s, o⟩, ?_⟩
  rintro i m H2 ⟨hm, F2, ρ2, acc, e2, hacc, s2, o2⟩
  by_cases hlt : i < ds1.length
  · obtain ⟨d, hd, hdrop⟩ := drop_cons hlt
    rw [hdrop] at o2
    have hgo := ok.go i d H2 (e2.trans s2.ef) hd
    refine .inr ⟨hgo, inW X W vs1 t1 mc1 me qe Γl1 F G σ σ2 kont kk base F1 ds1 L (i + 1), fun H' w => ⟨m - 1, by omega, by omega, w⟩, fun x H' y => ?_⟩
    obtain ⟨F3, e3, r3, s3⟩ := ok.one e2 s2 hd y
    obtain ⟨hR, hr, s4, dj⟩ := s3.comm.stash
    rw [mLc, Rs.bind_assoc] at o2
    refine ⟨F3, hjoin G hR, _, d, (s4.mono fun _ => slots_ext e3).ofRep0 r3, OutS.noX o2 fun _ ρ5 o5 F5 H5 σ5 e5 kb5 s5 => ?_⟩
    have hl5 : σ5.length = σ2.length := by rw [kb5.1, wipe_length]
    have ha5 : ∀ i, i < σ2.length → i ∉ vs1 → σ5[i]? = (wipe σ2 vs1)[i]? := fun i hi hv => kb5.2 i (gB_get (by rw [hlen]; exact hi) hv)
    refine ⟨wipe_eq hl5 ha5, F5, hjoin G hR, ρ5, s5, ?_⟩
    rw [Rs.bind_assoc] at o5
    refine Out.noX o5 fun b ρ6 o6 F6 H6 e6 s6 => ?_
    cases b with
    | false =>
      simp only [Bool.false_eq_true, if_false] at o6 ⊢
      obtain ⟨F7, e7, s7⟩ := sat_low s6 h2
      have ee : Ext F2 F7 := ((e3.trans e5).trans e6).trans e7
      have s8 := ((s7.toB hl5 ha5).unstash dj).comm.head (P' := Own X.K F7 (qe + 1) (.list acc) (.ref L)) fun _ x => by subst x; exact hr.ext ee
      exact ⟨F7, ρ6, acc, e2.trans ee, by omega, s8, o6⟩
    | true =>
      simp only [if_true] at o6 ⊢
      rw [Rs.bind_assoc] at o6
      refine ⟨F6, hjoin G hR, ρ6, s6, Out.noX o6 fun x ρ7 o7 F7 H7 vx e7 s7 => ?_⟩
      rw [Rs.bind_assoc] at o7
      obtain ⟨hR2, hr2, s71, dj2⟩ := s7.comm.stash
      obtain ⟨F8, e8, s72⟩ := sat_low s71 h3
      have s73 := ((s72.toB hl5 ha5).unstash dj2)
      have ee : Ext F2 F8 := (((e3.trans e5).trans e6).trans e7).trans e8
      have s8 := s73.unstash dj
      have s9 : Sat F8 G H7 (star (Own X.K F8 qe x vx) (star (slots X.K F8 Γl1 (wipeE ρ7 vs1) (wipe σ2 vs1)) (Own X.K F8 (qe + 1) (.list acc) (.ref L)))) := by
        have a := s8.head (P' := star (Own X.K F8 qe x vx) (slots X.K F8 Γl1 (wipeE ρ7 vs1) (wipe σ2 vs1))) fun _ y => star_mono (star_comm y) (fun _ z => by subst z; exact hr2.ext e8) fun _ z => z
        exact (a.tail (P' := Own X.K F8 (qe + 1) (.list acc) (.ref L)) fun _ y => by subst y; exact hr.ext ee).assoc
      obtain ⟨a, wsV, ea, s10⟩ := (s9.left.comm.assoc.left).open
      cases ea
      have hl : acc.length = wsV.length := s10.left.first fun h x => OwnL.len x
      refine ⟨wsV, s10.get, by rw [← hl]; exact big_lt (by omega), F8, ρ7, acc ++ [x], e2.trans ee, by simp; omega, ?_, ?_⟩
      · have s11 : Sat F8 G H7 (star (Own X.K F8 qe x vx) (star (OwnL (Own X.K F8 qe) acc wsV) (star (slots X.K F8 Γl1 (wipeE ρ7 vs1) (wipe σ2 vs1)) (pts L (.lst wsV))))) := by
          have b := (s10.comm.assoc.tail fun _ y => star_assoc y)
          exact (b.tail fun _ y => y).left.tail fun _ y => y
        have s12 := OwnL.snoc s11
        have s13 := (s12.comm.assoc.comm.assoc).left
        exact (Sat.upd (o' := .lst (wsV ++ [vx])) s13.left).close
      · simpa [Rs.bind_assoc, Rs.bind, List.append_assoc] using o7
  · rw [List.drop_eq_nil_of_le (by omega)] at o2
    refine .inl ⟨ok.stop i H2 (e2.trans s2.ef) (by omega), ?_⟩
    simp only [mLc, Rs.bind, List.append_nil] at o2
    exact hN F2 ρ2 acc H2 e2 (by omega) s2 o2
def mLc2 (vs vs1 : List Nat) (t : D → M Unit) (c : M Bool) (src1 : M (List D)) (t1 : D → M Unit) (c1 : M Bool) (e : M D) : Nat → List D → M (List D)
  | _, [] => fun ρ => .ok [] ρ
  | k, d :: ds => fun ρ => (noX (t d ρ)).bind fun _ ρ => (noX (c ρ)).bind fun b ρ => if b = true then (noX (src1 ρ)).bind fun ds1 ρ => if ds1.length ≤ k then
        (mLc vs1 t1 c1 e ds1 (wipeE ρ vs1)).bind fun r ρ => (mLc2 vs vs1 t c src1 t1 c1 e (k - ds1.length) ds (wipeE ρ vs)).bind fun r' ρ => .ok (r ++ r') ρ
        else .stuck
      else mLc2 vs vs1 t c src1 t1 c1 e k ds (wipeE ρ vs)
def mComp2 (vs vs1 : List Nat) (src : M (List D)) (t : D → M Unit) (c : M Bool) (src1 : M (List D)) (t1 : D → M Unit) (c1 : M Bool) (e : M D) : M D := fun ρ => (src ρ).bind fun ds ρ => (mLc2 vs vs1 t c src1 t1 c1 e big ds (wipeE ρ vs)).bind fun r ρ => .ok (.list r) ρ
def lcW2 (X : Cx) (W : WX) (vs vs1 : List Nat) (t : D → M Unit) (mc : M Bool) (src1 : M (List D)) (t1 : D → M Unit) (mc1 : M Bool) (me : M D) (qe : Nat) (Γl : List Nat) (F G : Hp) (σ : L2.St) (Q : VK) (F0 : Hp) (ds : List D) (L : Addr) (i : Nat) (H' : Hp) : Prop :=
  ∃ (F' : Hp) (ρ' : Env) (acc : List D) (k : Nat), Ext F0 F' ∧ acc.length + k ≤ big ∧
  Sat F' G H' (star (Own X.K F' (qe + 1) (.list acc) (.ref L)) (slots X.K F' Γl (wipeE ρ' vs) (wipe σ vs))) ∧
  Out X W F G σ ((mLc2 vs vs1 t mc src1 t1 mc1 me k (ds.drop i) (wipeE ρ' vs)).bind fun r ρ => .ok (PyData.list (acc ++ r)) ρ) fun d ρ' => ∀ F' H' v, Ext F F' → Sat F' G H' (star (Own X.K F' (qe + 1) d v) (slots X.K F' Γl ρ' σ)) → Q v H'
theorem lc2_sound {vs vs1 : List Nat} (hv : ∀ i ∈ vs1, i ∈ vs) (h1 : leB Γl Γ1 = true) (h2 : leB Γl Γc = true) (h12 : leB Γl1 Γ2 = true) (h22 : leB Γl1 Γc1 = true) (h3 : leB Γl1 Γe = true) (h4 : leB Γl Γl1 = true) {Q : VK} (h : tE X W Γ (mComp2 vs vs1 src t mc src1 t1 mc1 me) Γl (qe + 1) σ H Q) :
    tLc2 (tI X W Γ src Γ1) (tG X W0 (gB Γl.length vs) Γl 0 t Γt) (tT X W0 Γt mc Γc) (tI X W0 Γc src1 Γ2) (tG X W0 (gB Γl1.length vs1) Γl1 0 t1 Γt1) (tT X W0 Γt1 mc1 Γc1) (tE X W0 Γc1 me Γe qe) vs vs1 σ H Q := by
  obtain ⟨F, G, ρ, s, o⟩ := h
  refine ⟨F, G, ρ, s, Out.bind o fun ds ρ0 o0 F0 H0 J e0 s0 ok D hD => ?_⟩
  obtain ⟨F1, e1, s1⟩ := sat_low s0 h1
  have hlen : Γl.length = σ.length := s1.slotsLen.1
  have s1' : Sat F1 G H0 (slots X.K F1 Γl (wipeE ρ0 vs) (wipe σ vs)) := s1.toB rfl (fun i _ hv => (wipe_out hv).symm)
  refine ⟨fun i m H' => m + i = ds.length ∧ lcW2 X W vs vs1 t mc src1 t1 mc1 me qe Γl F G σ Q F0 ds D i H', ⟨ds.length, rfl, F1, ρ0, [], big, e1, by simp, ?_, o0⟩, ?_⟩
  · refine ((s1'.newO (o := .lst []) hD).head (P' := Own X.K F1 (qe + 1) (.list []) (.ref D)) fun h x => ?_)
    exact ⟨D, [], rfl, h, fun _ => none, fun _ => .inr ⟨rfl, rfl⟩, x, fun _ => rfl⟩
  · rintro i m H2 ⟨hm, F2, ρ2, acc, k, e2, hacc, s2, o2⟩
    by_cases hlt : i < ds.length
    · obtain ⟨d, hd, hdrop⟩ := drop_cons hlt
      rw [hdrop] at o2
      have hgo := ok.go i d H2 (e2.trans s2.ef) hd
      refine .inr ⟨hgo, lcW2 X W vs vs1 t mc src1 t1 mc1 me qe Γl F G σ Q F0 ds D (i + 1), fun H' w => ⟨m - 1, by omega, by omega, w⟩, fun x H' y => ?_⟩
      obtain ⟨F3, e3, r3, s3⟩ := ok.one e2 s2 hd y
      obtain ⟨hR, hr, s4, dj⟩ := s3.comm.stash
      rw [mLc2, Rs.bind_assoc] at o2
      refine ⟨F3, hjoin G hR, _, d, (s4.mono fun _ => slots_ext e3).ofRep0 r3, OutS.noX o2 fun _ ρ5 o5 F5 H5 σ5 e5 kb5 s5 => ?_⟩
      have hl5 : σ5.length = σ.length := by rw [kb5.1, wipe_length]
      have ha5 : ∀ i, i < σ.length → i ∉ vs → σ5[i]? = (wipe σ vs)[i]? := fun i hi hv => kb5.2 i (gB_get (by rw [hlen]; exact hi) hv)
      refine ⟨wipe_eq hl5 ha5, F5, hjoin G hR, ρ5, s5, ?_⟩
      rw [Rs.bind_assoc] at o5
      refine Out.noX o5 fun b ρ6 o6 F6 H6 e6 s6 => ?_
      cases b with
      | false =>
        simp only [Bool.false_eq_true, if_false] at o6 ⊢
        obtain ⟨F7, e7, s7⟩ := sat_low s6 h2
        have ee : Ext F2 F7 := ((e3.trans e5).trans e6).trans e7
        have s8 := ((s7.toB hl5 ha5).unstash dj).comm.head (P' := Own X.K F7 (qe + 1) (.list acc) (.ref D)) fun _ x => by subst x; exact hr.ext ee
        exact ⟨F7, ρ6, acc, k, e2.trans ee, hacc, s8, o6⟩
      | true =>
        simp only [if_true] at o6 ⊢
        rw [Rs.bind_assoc] at o6
        refine ⟨F6, hjoin G hR, ρ6, s6, Out.noX o6 fun ds1 ρ7 o7 F7 H7 J1 e7 s7 ok1 => ?_⟩
        split at o7
        · rename_i hk
          obtain ⟨F8, e8, s8⟩ := sat_low s7 h12
          have hlen1 : Γl1.length = σ5.length := s8.slotsLen.1
          have ee : Ext F2 F8 := (((e3.trans e5).trans e6).trans e7).trans e8
          have s8' : Sat F8 (hjoin G hR) H7 (slots X.K F8 Γl1 (wipeE ρ7 vs1) (wipe σ5 vs1)) := s8.toB rfl (fun i _ hv => (wipe_out hv).symm)
          have s9 := (s8'.unstash dj).comm.head (P' := Own X.K F8 (qe + 1) (.list acc) (.ref D)) fun _ x => by subst x; exact hr.ext ee
          have ok1' : ItOk X.K F8 J1 ds1 := ok1.ext e8
          simp only [Rs.bind_assoc, Rs.bind_ok] at o7
          refine lc_in (W := W) (F := F) (σ := σ) (base := acc.length) (kont := fun acc' ρ => (mLc2 vs vs1 t mc src1 t1 mc1 me (k - ds1.length) (ds.drop (i + 1)) (wipeE ρ vs)).bind fun r ρ => .ok (PyData.list (acc' ++ r)) ρ)
            (kk := fun d ρ' => ∀ F' H' v, Ext F F' → Sat F' G H' (star (Own X.K F' (qe + 1) d v) (slots X.K F' Γl ρ' σ)) → Q v H') h22 h3 ok1' (Nat.le_refl _) (by omega) hlen1 s9
            (by simp only [Rs.bind_assoc, Rs.bind_ok, List.append_assoc] at o7 ⊢; exact o7) fun F9 ρ9 acc9 H9 e9 hacc9 s10 o10 => ?_
          obtain ⟨hR3, hr3, s11, dj3⟩ := s10.comm.comm.comm.stash
          obtain ⟨F10, e10, s12⟩ := sat_low s11 h4
          have hlw : (wipe σ5 vs1).length = σ.length := by rw [wipe_length]; exact hl5
          have haw : ∀ i, i < σ.length → i ∉ vs → (wipe σ5 vs1)[i]? = (wipe σ vs)[i]? := fun i hi hn => by
            rw [wipe_out (fun z => hn (hv i z))]; exact ha5 i hi hn
          have s13 := ((s12.toB hlw haw).unstash dj3).comm.head (P' := Own X.K F10 (qe + 1) (.list acc9) (.ref D)) fun _ x => by subst x; exact hr3.ext e10
          exact ⟨F10, wipeE ρ9 vs1, acc9, k - ds1.length, e2.trans ((ee.trans e9).trans e10), by omega, s13, o10⟩
        · exact o7.elim
    · rw [List.drop_eq_nil_of_le (by omega)] at o2
      refine .inl ⟨ok.stop i H2 (e2.trans s2.ef) (by omega), ?_⟩
      simp only [mLc2, Rs.bind, List.append_nil] at o2
      obtain ⟨hR, hr, s3, dj⟩ := s2.comm.stash
      have s4 := ((s3.ofB).unstash dj).comm.head (P' := Own X.K F2 (qe + 1) (.list acc) (.ref D)) fun _ x => by subst x; exact hr
      exact o2 F2 H2 _ (e0.trans e2) s4
variable {scope : Scope} {own : List (Str × Nat)} {ifs ifs1 : List Expr} {pos spos : Pos} {g : Sg} {Γb Γcc : List Nat} {vs1 : List Nat}
theorem e_lc2 (Γl Γl1 : List Nat) (hc : X.calm = true) (hN : X.N.Nodup) (hi : SI X W Γ tg iter src Γ1) (ok : BlkOk X.N X.env.scope scope own) (hv : ∀ i ∈ vs1, i ∈ own.map (·.2))
    (hg : ∀ s H C cl fp, SG (Blk X scope s H C cl fp) W0 (gB Γl.length (ixs own)) Γl 0 tg t Γt) (ht : ∀ s H C cl fp, STs (Blk X scope s H C cl fp) W0 Γt ifs mc Γc)
    (hi1 : ∀ s H C cl fp, SI (Blk X scope s H C cl fp) W0 Γc tg1 iter1 src1 Γ2)
    (hg1 : ∀ s H C cl fp, SG (Blk X scope s H C cl fp) W0 (gB Γl1.length vs1) Γl1 0 tg1 t1 Γt1) (ht1 : ∀ s H C cl fp, STs (Blk X scope s H C cl fp) W0 Γt1 ifs1 mc1 Γc1)
    (he : ∀ s H C cl fp, SE (Blk X scope s H C cl fp) W0 Γc1 elt me Γe qe)
    (h1 : leB Γl Γ1 = true) (h2 : leB Γl Γc = true) (h12 : leB Γl1 Γ2 = true) (h22 : leB Γl1 Γc1 = true) (h3 : leB Γl1 Γe = true) (h4 : leB Γl Γl1 = true) (hs : ∀ x, foldedSetIterable iter X.env x = pure x := by intro _; rfl) (hs1 : ∀ env x, foldedSetIterable iter1 env x = pure x := by intro _ _; rfl) :
    SE X W Γ (.ListComp elt [⟨tg, iter, ifs, 0⟩, ⟨tg1, iter1, ifs1, 0⟩] scope pos) (mComp2 (ixs own) vs1 src t mc src1 t1 mc1 me) Γl (qe + 1) :=
  (pe_lc2 (g := tG X W0 (gB Γl.length (ixs own)) Γl 0 t Γt) (tt := tT X W0 Γt mc Γc) (wi1 := tI X W0 Γc src1 Γ2) (g1 := tG X W0 (gB Γl1.length vs1) Γl1 0 t1 Γt1) (tt1 := tT X W0 Γt1 mc1 Γc1) (te := tE X W0 Γc1 me Γe qe) hc hN hi ok hv (fun s H C cl fp => hg s H C cl fp) (fun s H C cl fp => ht s H C cl fp)
    (fun s H C cl fp => hi1 s H C cl fp) (fun s H C cl fp => hg1 s H C cl fp) (fun s H C cl fp => ht1 s H C cl fp) (fun s H C cl fp => he s H C cl fp) hs hs1).imp fun _ _ _ h => lc2_sound hv h1 h2 h12 h22 h3 h4 h
theorem s_setLc2 (i : Nat) (Γl Γl1 : List Nat) {y : Str} {py : Pos} (hc : X.calm = true) (hN : X.N.Nodup) (hy : X.N[i]? = some y) (hyl : X.env.scope.names.lookup y = some .local) (hb : g.Γp.getD i 0 = 0)
    (hsw : swapsWith (.ListComp elt [⟨tg, iter, ifs, 0⟩, ⟨tg1, iter1, ifs1, 0⟩] scope pos) (some (.Name y py)) spos.line X.env = pure true) (hi : SI X W Γ tg iter src Γ1) (ok : BlkOk X.N X.env.scope scope own) (hv : ∀ i ∈ vs1, i ∈ own.map (·.2))
    (hg : ∀ s H C cl fp, SG (Blk X scope s H C cl fp) W0 (gB Γl.length (ixs own)) Γl 0 tg t Γt) (ht : ∀ s H C cl fp, STs (Blk X scope s H C cl fp) W0 Γt ifs mc Γc)
    (hi1 : ∀ s H C cl fp, SI (Blk X scope s H C cl fp) W0 Γc tg1 iter1 src1 Γ2)
    (hg1 : ∀ s H C cl fp, SG (Blk X scope s H C cl fp) W0 (gB Γl1.length vs1) Γl1 0 tg1 t1 Γt1) (ht1 : ∀ s H C cl fp, STs (Blk X scope s H C cl fp) W0 Γt1 ifs1 mc1 Γc1)
    (he : ∀ s H C cl fp, SE (Blk X scope s H C cl fp) W0 Γc1 elt me Γe qe)
    (h1 : leB Γl Γ1 = true) (h2 : leB Γl Γc = true) (h12 : leB Γl1 Γ2 = true) (h22 : leB Γl1 Γc1 = true) (h3 : leB Γl1 Γe = true) (h4 : leB Γl Γl1 = true) (hs : ∀ x, foldedSetIterable iter X.env x = pure x := by intro _; rfl) (hs1 : ∀ env x, foldedSetIterable iter1 env x = pure x := by intro _ _; rfl) :
    SS X W g Γ (.Assign [.Name y py] (.ListComp elt [⟨tg, iter, ifs, 0⟩, ⟨tg1, iter1, ifs1, 0⟩] scope pos) spos) (mAsg (mComp2 (ixs own) vs1 src t mc src1 t1 mc1 me) (tgName i)) (Γl.set i (qe + 1)) Γb Γcc :=
  (ps_setLc2 (g := tG X W0 (gB Γl.length (ixs own)) Γl 0 t Γt) (tt := tT X W0 Γt mc Γc) (wi1 := tI X W0 Γc src1 Γ2) (g1 := tG X W0 (gB Γl1.length vs1) Γl1 0 t1 Γt1) (tt1 := tT X W0 Γt1 mc1 Γc1) (te := tE X W0 Γc1 me Γe qe) hc hN hy hyl hsw hi ok hv (fun s H C cl fp => hg s H C cl fp) (fun s H C cl fp => ht s H C cl fp)
    (fun s H C cl fp => hi1 s H C cl fp) (fun s H C cl fp => hg1 s H C cl fp) (fun s H C cl fp => ht1 s H C cl fp) (fun s H C cl fp => he s H C cl fp) hs hs1).imp fun E σ H h => by
    have a : tAsg (tE X W Γ (mComp2 (ixs own) vs1 src t mc src1 t1 mc1 me) Γl (qe + 1)) (gName i) E σ H := asg_sound (fun v σ H Q ⟨F, G, ρ, d, s, o⟩ => by
      unfold tgName at o
      split at o
      · rename_i hi
        exact o F H _ (Ext.refl F) (keepB.set hb) (s.store hi)
      · exact o.elim) h
    exact lc2_sound hv h1 h2 h12 h22 h3 h4 a
end
end Mir

set_option Elab.async false
set_option linter.all false
set_option maxRecDepth 100000
set_option maxHeartbeats 4000000
namespace Mir
open PySem PySem.Spec PyProof.Rows L2

/-! ### dicts: reading -/
def keyOf : D → Option Key
  | .int i => some (.inl i)
  | .str x => some (.inr x)
  | _ => none
def getD (ds : List (D × D)) (k : Key) : Option D := (ds.find? fun e => decide (keyOf e.1 = some k)).map (·.2)
def putD (ds : List (D × D)) (k : Key) (kd v : D) : List (D × D) :=
  if (ds.any fun e => decide (keyOf e.1 = some k)) = true then ds.map (fun e => if keyOf e.1 = some k then (e.1, v) else e) else ds ++ [(kd, v)]
/-- every key an int or a text -/
def keyed (ds : List (D × D)) : Bool := ds.all fun e => (keyOf e.1).isSome
section
variable {K : PySem.W.Frag} {F F' G H : Hp} {R : Asr}
theorem rep_key {v : V} {d : D} {k : Key} (r : Rep K F v d) (h : keyOf d = some k) : v = kV k := by
  cases r <;> cases h <;> rfl
theorem key_rep {k : Key} {d : D} (r : Rep K F (kV k) d) : keyOf d = some k := by
  cases k with
  | inl i => cases r; rfl
  | inr x => cases r; rfl
theorem of_key {k : Key} {d : D} (h : keyOf d = some k) : Rep K F (kV k) d := by
  cases d <;> cases h
  · exact .int _
  · exact .str _
theorem RepK.len : ∀ {kvs : List (Key × V)} {ds : List (D × D)}, RepK K F kvs ds → kvs.length = ds.length
  | _, _, .nil => rfl
  | _, _, .cons _ _ r => congrArg (· + 1) r.len
theorem RepK.get {k : Key} : ∀ {kvs : List (Key × V)} {ds : List (D × D)}, RepK K F kvs ds → (valV kvs k = none ∧ getD ds k = none) ∨ ∃ v d, valV kvs k = some v ∧ getD ds k = some d ∧ Rep K F v d
  | _, _, .nil => .inl ⟨rfl, rfl⟩
  | _, _, .cons (k := k') (kd := kd) hk hv r => by
    have hk' := key_rep hk
    by_cases e : k' = k
    · subst e
      refine .inr ⟨_, _, valV_pos (p := (k', _)) rfl, ?_, hv⟩
      simp [getD, List.find?_cons, hk']
    · have hne : ¬ keyOf kd = some k := fun z => e (Option.some.inj (hk'.symm.trans z))
      have h1 := valV_neg (p := (k', ‹V›)) (r := ‹List (Key × V)›) (k := k) e
      rw [h1]
      have h2 : getD ((kd, ‹D›) :: ‹List (D × D)›) k = getD ‹List (D × D)› k := by simp [getD, List.find?_cons, hne]
      rw [h2]
      exact r.get
theorem RepK.any {k : Key} : ∀ {kvs : List (Key × V)} {ds : List (D × D)}, RepK K F kvs ds → (kvs.any fun kv => decide (kv.1 = k)) = (ds.any fun e => decide (keyOf e.1 = some k))
  | _, _, .nil => rfl
  | _, _, .cons (k := k') (kd := kd) hk hv r => by
    have hk' := key_rep hk
    simp only [List.any_cons, r.any, hk']
    congr 1
    simp
theorem RepK.map {k : Key} {v : V} {d : D} (hv : Rep K F v d) : ∀ {kvs : List (Key × V)} {ds : List (D × D)}, RepK K F kvs ds → RepK K F (kvs.map fun kv => if kv.1 = k then (kv.1, v) else kv) (ds.map fun e => if keyOf e.1 = some k then (e.1, d) else e)
  | _, _, .nil => .nil
  | _, _, .cons (k := k') (kd := kd) hk hw r => by
    have hk' := key_rep hk
    rw [List.map_cons, List.map_cons]
    by_cases e : k' = k
    · subst e
      simp only [if_true, hk']
      exact .cons hk hv (r.map hv)
    · have hne : ¬ keyOf kd = some k := fun z => e (Option.some.inj (hk'.symm.trans z))
      simp only [if_neg e, if_neg hne]
      exact .cons hk hw (r.map hv)
theorem RepK.snoc {k : Key} {kd : D} {v : V} {d : D} (hk : Rep K F (kV k) kd) (hv : Rep K F v d) : ∀ {kvs : List (Key × V)} {ds : List (D × D)}, RepK K F kvs ds → RepK K F (kvs ++ [(k, v)]) (ds ++ [(kd, d)])
  | _, _, .nil => .cons hk hv .nil
  | _, _, .cons a b r => .cons a b (r.snoc hk hv)
theorem RepK.put {k : Key} {kd : D} {v : V} {d : D} {kvs : List (Key × V)} {ds : List (D × D)} (hk : Rep K F (kV k) kd) (hv : Rep K F v d) (r : RepK K F kvs ds) : RepK K F (putK kvs k v) (putD ds k kd d) := by
  unfold putK putD
  rw [r.any]
  split
  · exact r.map hv
  · exact r.snoc hk hv
/-- x[y]: of a tuple, a list, a dict -/
def rDG : R2 := fun x y H Q => ∃ a v, x = .ref a ∧ DGet H a y (some v) ∧ Q v H
def fIxA : D → D → Option D
  | .dict ds, y => if keyed ds = true then (keyOf y).bind (getD ds) else none
  | x, y => fIx x y
theorem fIxA_ne {x y : D} (h : ∀ ds, x ≠ .dict ds) : fIxA x y = fIx x y := by
  cases x <;> first | rfl | exact absurd rfl (h _)
theorem ix_dict {X : Cx} (hu : X.A.units + 1 < cLine) : IxR X rDG := by
  intro value slice pins s σ H x y v u Q I rx ry ⟨a, z, ex, g, q⟩ hs
  subst ex
  obtain rfl : v = Value.ref a := rx
  have hT := dict_typeIs I g
  unfold subscriptTail
  refine wpAny_bind ?_
  rw [getitemInPython_of_ne hT.not_modules]
  refine wpAny_bind (wpAny_specialOf hT PySem.F.slot_dict_getitem.lookup ?_)
  have h2 : wpAny (model X.prog X.w) X.A (getItem (.ref a) u) (EP X pins σ Q) X.xe s := d_getItem hu I g ry fun w' s3 I3 rw' => ⟨z, H, I3, rw', q⟩
  have fin : wpAny (model X.prog X.w) X.A (subscripted slice false (.ref a) u) (fun r s₃ => wpAny (model X.prog X.w) X.A (letTemporaryGo value (.ref a) r >>= fun _ => pure r) (EP X pins σ Q) X.xe s₃) X.xe s := by
    rw [hs]
    exact wpAny_operating (wpAny_mono h2 (fun r s₃ h₃ => wpAny_bind (wpAny_letTemporaryGo (wpAny_pure h₃))) fun _ _ x => x)
  first
    | exact wpAny_pure (wpAny_bind fin)
    | exact wpAny_bind (wpAny_pure (wpAny_bind fin))
    | exact wpAny_bind fin
theorem ops_ixD {q1 q2 : Nat} : OpS K (fun x y H Q => rIx K x y H Q ∨ rDG x y H Q) fIxA q1 q2 0 := ⟨fun {F G H R d1 d2 d v1 v2 Q} hd s k => by
  cases d1 with
  | dict ds =>
    right
    simp only [fIxA] at hd
    split at hd
    · rename_i hk
      obtain ⟨F1, e1, r1, s1⟩ := s.freeze
      obtain ⟨F2, e2, r2, s2⟩ := (s1.head fun _ x => Own.ext e1 x).freeze
      obtain ⟨ky, hky, hg⟩ := Option.bind_eq_some_iff.mp hd
      cases r1 with
      | dct h r =>
        rcases r.get (k := ky) with ⟨h1, h2⟩ | ⟨v, d', h1, h2, h3⟩
        · rw [h2] at hg; cases hg
        · rw [h2] at hg
          cases hg
          refine ⟨_, v, rfl, ?_, k F2 H v (e1.trans e2) (s2.ofRep0 (h3.ext e2))⟩
          rw [rep_key r2 hky, ← h1]
          exact DGet.k (s2.ef _ _ (e2 _ _ h))
      | scr h r => simp [keyed, keyOf] at hk
    · cases hd
  | _ => exact .inl (ops_ix.run ((fIxA_ne (by intro ds z; cases z)).symm.trans hd) s k)⟩
theorem ixR_or {X : Cx} {r1 r2 : R2} (h1 : IxR X r1) (h2 : IxR X r2) : IxR X (fun x y H Q => r1 x y H Q ∨ r2 x y H Q) := fun value slice pins s σ H x y v u Q I rx ry h hs => h.elim (fun h => h1 value slice pins s σ H x y v u Q I rx ry h hs) fun h => h2 value slice pins s σ H x y v u Q I rx ry h hs
theorem opR_or {X : Cx} {f : Value → Value → Sem Value} {r1 r2 : R2} (h1 : OpR X f r1) (h2 : OpR X f r2) : OpR X f (fun x y H Q => r1 x y H Q ∨ r2 x y H Q) := fun pins s σ H x y v u Q I rx ry h => h.elim (fun h => h1 pins s σ H x y v u Q I rx ry h) fun h => h2 pins s σ H x y v u Q I rx ry h
/-- y in d -/
def rDIn (neg : Bool) : R2 := fun y x H Q => ∃ a o, x = .ref a ∧ DGet H a y o ∧ Q (.bl (if neg then !o.isSome else o.isSome)) H
theorem op_inD {X : Cx} (hu : X.A.units + 1 < cLine) : OpR X (compareOp .In) (rDIn false) := by
  intro pins s σ H x y v u Q I rx ry ⟨a, o, ex, g, q⟩
  subst ex
  obtain rfl : u = Value.ref a := ry
  exact d_in hu I g rx fun s3 I3 => ⟨.bl o.isSome, H, I3, rfl, q⟩
theorem op_notinD {X : Cx} (hu : X.A.units + 1 < cLine) : OpR X (compareOp .NotIn) (rDIn true) := by
  intro pins s σ H x y v u Q I rx ry ⟨a, o, ex, g, q⟩
  subst ex
  obtain rfl : u = Value.ref a := ry
  exact d_notIn hu I g rx fun s3 I3 => ⟨.bl (!o.isSome), H, I3, rfl, q⟩
def fInA (neg : Bool) : D → D → Option D
  | y, .dict ds => if keyed ds = true then (keyOf y).map fun k => .bool (if neg then !(getD ds k).isSome else (getD ds k).isSome) else none
  | x, y => fIn neg x y
theorem ops_inD {neg : Bool} {q1 q2 : Nat} : OpS K (fun x y H Q => Mir.rInS K neg x y H Q ∨ rDIn neg x y H Q) (fInA neg) q1 q2 9 := ⟨fun {F G H R d1 d2 d v1 v2 Q} hd s k => by
  cases d2 with
  | dict ds =>
    right
    simp only [fInA] at hd
    split at hd
    · rename_i hk
      obtain ⟨F1, e1, r1, s1⟩ := s.freeze
      obtain ⟨F2, e2, r2, s2⟩ := (s1.head fun _ x => Own.ext e1 x).freeze
      obtain ⟨ky, hky, hg⟩ := Option.map_eq_some_iff.mp hd
      subst hg
      cases r2 with
      | dct h r =>
        rename_i kvs
        refine ⟨_, valV kvs ky, rfl, ?_, ?_⟩
        · rw [rep_key r1 hky]
          exact DGet.k (s2.ef _ _ h)
        · have hs : (valV kvs ky).isSome = (getD ds ky).isSome := by
            rcases r.get (k := ky) with ⟨h1, h2⟩ | ⟨v, d', h1, h2, h3⟩
            · rw [h1, h2]; rfl
            · rw [h1, h2]; rfl
          rw [hs]
          exact k F2 H _ (e1.trans e2) (s2.ofRep (.bl _) 9 rfl)
      | scr h r => simp [keyed, keyOf] at hk
    · cases hd
  | _ => exact .inl (ops_in.run (by cases d1 <;> exact hd) s k)⟩
end
section
variable {X : Cx} {W : WX} {Γ Γ1 Γ2 : List Nat} {q1 q2 : Nat} {a b : Expr} {ma mb : M D} {pos : Pos}
theorem e_ixA (hu : X.A.units + 65 < cLine) (ha : SE X W Γ a ma Γ1 q1) (hb : SE X W Γ1 b mb Γ2 q2) (hs : PlainIx b) : SE X W Γ (.Subscript a b pos) (m2 fIxA ma mb) Γ2 0 := se_ix (ixR_or ix_seq (ix_dict (by omega))) ops_ixD ha hb hs
theorem e_inA (hu : X.A.units + 65 < cLine) (ha : SE X W Γ a ma Γ1 q1) (hb : SE X W Γ1 b mb Γ2 q2) (hm : behindInMarks .In b = false) : SE X W Γ (.Compare a [.In] [b] pos) (m2 (fInA false) ma mb) Γ2 9 := se_cmp (opR_or (op_inS hu) (op_inD (by omega))) ops_inD ha hb hm
theorem e_notinA (hu : X.A.units + 65 < cLine) (ha : SE X W Γ a ma Γ1 q1) (hb : SE X W Γ1 b mb Γ2 q2) (hm : behindInMarks .NotIn b = false) : SE X W Γ (.Compare a [.NotIn] [b] pos) (m2 (fInA true) ma mb) Γ2 9 := se_cmp (opR_or (op_notInS hu) (op_notinD (by omega))) ops_inD ha hb hm
theorem t_inA (hu : X.A.units + 65 < cLine) (ha : SE X W Γ a ma Γ1 q1) (hb : SE X W Γ1 b mb Γ2 q2) (hm : behindInMarks .In b = false) : ST X W Γ (.Compare a [.In] [b] pos) (mTB (m2 (fInA false) ma mb)) Γ2 := st_cmp (opR_or (op_inS hu) (op_inD (by omega))) ops_inD ha hb hm
theorem t_notinA (hu : X.A.units + 65 < cLine) (ha : SE X W Γ a ma Γ1 q1) (hb : SE X W Γ1 b mb Γ2 q2) (hm : behindInMarks .NotIn b = false) : ST X W Γ (.Compare a [.NotIn] [b] pos) (mTB (m2 (fInA true) ma mb)) Γ2 := st_cmp (opR_or (op_notInS hu) (op_notinD (by omega))) ops_inD ha hb hm
end
end Mir

set_option Elab.async false
set_option linter.all false
set_option maxRecDepth 100000
set_option maxHeartbeats 4000000
namespace Mir
open PySem PySem.Spec PyProof.Rows L2

/-! ### dict comprehensions -/
theorem putD_len {ds : List (D × D)} {k : Key} {kd v : D} : (putD ds k kd v).length ≤ ds.length + 1 := by
  unfold putD
  split
  · simp
  · simp
section
variable {X : Cx} {W : WX} {F F1 G H : Hp} {σ : L2.St} {α β : Type}
variable {Γ Γ1 Γt Γc Γk Γe Γl : List Nat} {q qk qe : Nat} {c e kx vx tg iter : Expr} {src : M (List D)} {t : D → M Unit} {mc : M Bool} {mk me : M D}
theorem Out.liftBind {o : Option α} {ρ : Env} {f : α → Env → Rs β} {k : β → Env → Prop} (h : Out X W F G σ ((Rs.lift o ρ).bind f) k) : ∃ a, o = some a ∧ Out X W F G σ (f a ρ) k := by
  cases o with
  | none => exact h.elim
  | some a => exact ⟨a, rfl, h⟩
def mDc (vs : List Nat) (t : D → M Unit) (c : M Bool) (mk me : M D) : List D → List (D × D) → M (List (D × D))
  | [], acc => fun ρ => .ok acc ρ
  | d :: ds, acc => fun ρ => (noX (t d ρ)).bind fun _ ρ => (noX (c ρ)).bind fun b ρ => if b = true then (noX (mk ρ)).bind fun y ρ => (noX (me ρ)).bind fun x ρ =>
        (Rs.lift (keyOf y) ρ).bind fun k ρ => mDc vs t c mk me ds (putD acc k y x) (wipeE ρ vs)
      else mDc vs t c mk me ds acc (wipeE ρ vs)
def mDComp (vs : List Nat) (src : M (List D)) (t : D → M Unit) (c : M Bool) (mk me : M D) : M D := fun ρ => (src ρ).bind fun ds ρ => if ds.length ≤ big then (mDc vs t c mk me ds [] (wipeE ρ vs)).bind fun r ρ => .ok (.dict r) ρ else .stuck
def OwnD (K : PySem.W.Frag) (F : Hp) (ds : List (D × D)) (a : Addr) : Asr := fun h => ∃ kvs, RepK K F kvs ds ∧ pts a (.dK kvs) h
theorem OwnD.ext {K : PySem.W.Frag} {F F' : Hp} (e : Ext F F') {ds : List (D × D)} {a : Addr} {h : Hp} (x : OwnD K F ds a h) : OwnD K F' ds a h := let ⟨kvs, r, p⟩ := x; ⟨kvs, r.ext e, p⟩
theorem Sat.openD {K : PySem.W.Frag} {R : Asr} {ds : List (D × D)} {a : Addr} (s : Sat F G H (star (OwnD K F1 ds a) R)) : ∃ kvs, RepK K F1 kvs ds ∧ Sat F G H (star (pts a (.dK kvs)) R) := by
  obtain ⟨⟨h, ⟨h1, h2, j, ⟨kvs, r, p⟩, x⟩, e, dj⟩, ef, eg, fg⟩ := s
  exact ⟨kvs, r, ⟨h, ⟨h1, h2, j, p, x⟩, e, dj⟩, ef, eg, fg⟩
theorem Sat.closeD {K : PySem.W.Frag} {R : Asr} {ds : List (D × D)} {kvs : List (Key × V)} {a : Addr} (r : RepK K F1 kvs ds) (s : Sat F G H (star (pts a (.dK kvs)) R)) : Sat F G H (star (OwnD K F1 ds a) R) := s.head fun _ x => ⟨kvs, r, x⟩
def dcW (X : Cx) (W : WX) (vs : List Nat) (t : D → M Unit) (mc : M Bool) (mk me : M D) (Γl : List Nat) (F G : Hp) (σ : L2.St) (Q : VK) (F0 : Hp) (ds : List D) (L : Addr) (i : Nat) (H' : Hp) : Prop := ∃ (F' : Hp) (ρ' : Env) (acc : List (D × D)), Ext F0 F' ∧ acc.length ≤ i ∧
  Sat F' G H' (star (OwnD X.K F' acc L) (slots X.K F' Γl (wipeE ρ' vs) (wipe σ vs))) ∧
  Out X W F G σ ((mDc vs t mc mk me (ds.drop i) acc (wipeE ρ' vs)).bind fun r ρ => .ok (PyData.dict r) ρ) fun d ρ' => ∀ F' H' v, Ext F F' → Sat F' G H' (star (Own X.K F' 9 d v) (slots X.K F' Γl ρ' σ)) → Q v H'
theorem dc_sound {vs : List Nat} (h1 : leB Γl Γ1 = true) (h2 : leB Γl Γc = true) (h3 : leB Γl Γe = true) {Q : VK} (h : tE X W Γ (mDComp vs src t mc mk me) Γl 9 σ H Q) :
    tDc (tI X W Γ src Γ1) (tG X W0 (gB Γl.length vs) Γl 0 t Γt) (tT X W0 Γt mc Γc) (tE X W0 Γc mk Γk qk) (tE X W0 Γk me Γe qe) vs σ H Q := by
  obtain ⟨F, G, ρ, s, o⟩ := h
  refine ⟨F, G, ρ, s, Out.bind o fun ds ρ0 o0 F0 H0 J e0 s0 ok D hD => ?_⟩
  split at o0
  · rename_i hz
    obtain ⟨F1, e1, s1⟩ := sat_low s0 h1
    have hlen : Γl.length = σ.length := s1.slotsLen.1
    have s1' : Sat F1 G H0 (slots X.K F1 Γl (wipeE ρ0 vs) (wipe σ vs)) := s1.toB rfl (fun i _ hv => (wipe_out hv).symm)
    refine ⟨fun i m H' => m + i = ds.length ∧ dcW X W vs t mc mk me Γl F G σ Q F0 ds D i H', ⟨ds.length, rfl, F1, ρ0, [], e1, Nat.le_refl _, (s1'.newO (o := .dK []) hD).closeD .nil, o0⟩, ?_⟩
    rintro i m H2 ⟨hm, F2, ρ2, acc, e2, hacc, s2, o2⟩
    by_cases hlt : i < ds.length
    · obtain ⟨d, hd, hdrop⟩ := drop_cons hlt
      rw [hdrop] at o2
      have hgo := ok.go i d H2 (e2.trans s2.ef) hd
      refine .inr ⟨hgo, dcW X W vs t mc mk me Γl F G σ Q F0 ds D (i + 1), fun H' w => ⟨m - 1, by omega, by omega, w⟩, fun x H' y => ?_⟩
      obtain ⟨F3, e3, r3, s3⟩ := ok.one e2 s2 hd y
      obtain ⟨hR, hr, s4, dj⟩ := s3.comm.stash
      rw [mDc, Rs.bind_assoc] at o2
      refine ⟨F3, hjoin G hR, _, d, (s4.mono fun _ => slots_ext e3).ofRep0 r3, OutS.noX o2 fun _ ρ5 o5 F5 H5 σ5 e5 kb5 s5 => ?_⟩
      have hl5 : σ5.length = σ.length := by rw [kb5.1, wipe_length]
      have ha5 : ∀ i, i < σ.length → i ∉ vs → σ5[i]? = (wipe σ vs)[i]? := fun i hi hv => kb5.2 i (gB_get (by rw [hlen]; exact hi) hv)
      refine ⟨wipe_eq hl5 ha5, F5, hjoin G hR, ρ5, s5, ?_⟩
      rw [Rs.bind_assoc] at o5
      refine Out.noX o5 fun b ρ6 o6 F6 H6 e6 s6 => ?_
      cases b with
      | false =>
        simp only [Bool.false_eq_true, if_false] at o6 ⊢
        obtain ⟨F7, e7, s7⟩ := sat_low s6 h2
        have ee : Ext F2 F7 := ((e3.trans e5).trans e6).trans e7
        have s8 := ((s7.toB hl5 ha5).unstash dj).comm.head (P' := OwnD X.K F7 acc D) fun _ x => by subst x; exact hr.ext ee
        exact ⟨F7, ρ6, acc, e2.trans ee, by omega, s8, o6⟩
      | true =>
        simp only [if_true] at o6 ⊢
        rw [Rs.bind_assoc] at o6
        refine ⟨F6, hjoin G hR, ρ6, s6, Out.noX o6 fun y ρ7 o7 F7 H7 vy e7 s7 => ?_⟩
        obtain ⟨F7', e7', ry, s7'⟩ := s7.freeze
        rw [Rs.bind_assoc] at o7
        refine ⟨F7', hjoin G hR, ρ7, s7'.mono fun _ => slots_ext e7', Out.noX o7 fun x ρ8 o8 F8 H8 vx e8 s8 => ?_⟩
        obtain ⟨F9, e9, rx, s9⟩ := s8.freeze
        obtain ⟨F10, e10, s10⟩ := sat_low (s9.mono fun _ => slots_ext e9) h3
        rw [Rs.bind_assoc] at o8
        obtain ⟨k, hk, o9⟩ := o8.liftBind
        have ee : Ext F2 F10 := ((((((e3.trans e5).trans e6).trans e7).trans e7').trans e8).trans e9).trans e10
        have s11 := ((s10.toB hl5 ha5).unstash dj).comm.head (P' := OwnD X.K F10 acc D) fun _ x => by subst x; exact hr.ext ee
        obtain ⟨kvs, rk, s12⟩ := s11.openD
        have hl : kvs.length = acc.length := rk.len
        refine ⟨kvs, k, rep_key ry hk, s12.get, by rw [hl]; exact big_lt (by omega), F10, ρ8, putD acc k y x, e2.trans ee, ?_, ?_, o9⟩
        · have := @putD_len acc k y x
          omega
        · exact (Sat.upd (o' := .dK (putK kvs k vx)) s12).closeD (rk.put (of_key hk) (rx.ext e10))
    · rw [List.drop_eq_nil_of_le (by omega)] at o2
      refine .inl ⟨ok.stop i H2 (e2.trans s2.ef) (by omega), ?_⟩
      simp only [mDc, Rs.bind] at o2
      obtain ⟨kvs, rk, s3⟩ := s2.openD
      obtain ⟨s4, e4⟩ := s3.freeze1
      have s5 : Sat (L2.upd F2 D (.dK kvs)) G H2 (slots X.K (L2.upd F2 D (.dK kvs)) Γl (wipeE ρ2 vs) σ) := (s4.mono fun _ => slots_ext e4).ofB
      exact o2 _ H2 _ ((e0.trans e2).trans e4) (s5.ofRep (.dct upd_same (rk.ext e4)) 9 rfl)
  · exact o0.elim
variable {scope : Scope} {own : List (Str × Nat)} {ifs : List Expr} {pos : Pos}
theorem e_dc (Γl : List Nat) (hc : X.calm = true) (hN : X.N.Nodup) (hi : SI X W Γ tg iter src Γ1) (ok : BlkOk X.N X.env.scope scope own)
    (hg : ∀ s H C cl fp, SG (Blk X scope s H C cl fp) W0 (gB Γl.length (ixs own)) Γl 0 tg t Γt) (ht : ∀ s H C cl fp, STs (Blk X scope s H C cl fp) W0 Γt ifs mc Γc)
    (hk : ∀ s H C cl fp, SE (Blk X scope s H C cl fp) W0 Γc kx mk Γk qk) (he : ∀ s H C cl fp, SE (Blk X scope s H C cl fp) W0 Γk vx me Γe qe)
    (h1 : leB Γl Γ1 = true) (h2 : leB Γl Γc = true) (h3 : leB Γl Γe = true) (hs : ∀ x, foldedSetIterable iter X.env x = pure x := by intro _; rfl) :
    SE X W Γ (.DictComp kx vx [⟨tg, iter, ifs, 0⟩] scope pos) (mDComp (ixs own) src t mc mk me) Γl 9 :=
  (pe_dc (g := tG X W0 (gB Γl.length (ixs own)) Γl 0 t Γt) (tt := tT X W0 Γt mc Γc) (tk := tE X W0 Γc mk Γk qk) (tv := tE X W0 Γk me Γe qe) hc hN hi ok (fun s H C cl fp => hg s H C cl fp) (fun s H C cl fp => ht s H C cl fp) (fun s H C cl fp => hk s H C cl fp) (fun s H C cl fp => he s H C cl fp) hs).imp fun _ _ _ h => dc_sound h1 h2 h3 h
end
section
variable {X : Cx} {W : WX} {Γ Γ' Γ1 : List Nat} {q : Nat} {e : Expr} {m : M D}
/-- an expression read with less rights -/
theorem ePre (Γ' : List Nat) (h : SE X W Γ' e m Γ1 q) (hl : leB Γ' Γ = true) : SE X W Γ e m Γ1 q := h.imp fun σ H Q ⟨F, G, ρ, s, o⟩ => by
  obtain ⟨F2, e2, s2⟩ := sat_low s hl
  exact ⟨F2, G, ρ, s2, Out.mv e2 o fun a ρ k F' H' v e3 s3 => k F' H' v (e2.trans e3) s3⟩
end
end Mir

set_option Elab.async false
set_option linter.all false
set_option maxRecDepth 100000
set_option maxHeartbeats 0
namespace Mir
open PySem PySem.Spec PyProof.Rows L2
theorem fn_stuck {P : Program} {w : World} {K : PySem.W.Frag} {mg : Str → Option Value} {base : Heap} {k : Nat} {f : Addr} {fd : FuncData} {ps : List Str} {Γp : List Nat} {qr : Nat} (h : Γp.length = ps.length) : FnOk P w K mg base (L2.CX P w) k f fd ps (spM K mg Γp qr fun _ => .stuck) :=
  ⟨fun vs H Q E q => by rw [q.1, h], fun A outer s H args us vs Q E hr he hb hv hs => by obtain ⟨_, F, G, ds, _, x⟩ := hs; exact x.elim⟩
def topS (i : Nat) : Stmt := PySem.Challenge.pw_chaincore_k04_parts_and_turns_of_makers.main.body.getD i (.Pass ⟨0, 0, 0, 0⟩)
abbrev s_points_in : Stmt := topS 5
abbrev s_high_masks : Stmt := topS 6
abbrev s_at_least_masks : Stmt := topS 7
abbrev s_induced : Stmt := topS 9
abbrev s_opposite : Stmt := topS 10
abbrev s__check_size : Stmt := topS 11
abbrev s_beside : Stmt := topS 12
abbrev s_on_top : Stmt := topS 13
abbrev s__at_least : Stmt := topS 14
abbrev s_product : Stmt := topS 15
abbrev s__law_mix : Stmt := topS 17
abbrev s__law_open : Stmt := topS 18
abbrev s__law_pick : Stmt := topS 19
abbrev s__law_of : Stmt := topS 20
abbrev s__law_mixed : Stmt := topS 21
abbrev s__law_same : Stmt := topS 22
abbrev s__law_closed : Stmt := topS 23
abbrev s__law_moved : Stmt := topS 24
abbrev s__law_drawn : Stmt := topS 25
abbrev s__law_turned : Stmt := topS 26
abbrev s__law_induced : Stmt := topS 27
abbrev s_law : Stmt := topS 28
structure Tx (K : PySem.W.Frag) (mg : Str → Option Value) where
  z_all : mg "all" = none
  z_bool : mg "bool" = none
  z_enumerate : mg "enumerate" = none
  z_int : mg "int" = none
  z_isinstance : mg "isinstance" = none
  z_len : mg "len" = none
  z_list : mg "list" = none
  z_min : mg "min" = none
  z_range : mg "range" = none
  z_sorted : mg "sorted" = none
  z_str : mg "str" = none
  z_tuple : mg "tuple" = none
  z_zip : mg "zip" = none
  c_MOST : ∃ t, mg "MOST" = some (.int 64 t)
  a_points_in : Addr
  d_points_in : FuncData
  u_points_in : Fun K "points_in" "points_in" s_points_in a_points_in d_points_in
  g_points_in : mg "points_in" = some (.ref a_points_in)
  k_points_in : PySem.W.keepIn K (.ref a_points_in) = true
  b_points_in : Binds K d_points_in ["mask"] []
  a_high_masks : Addr
  d_high_masks : FuncData
  u_high_masks : Fun K "high_masks" "high_masks" s_high_masks a_high_masks d_high_masks
  g_high_masks : mg "high_masks" = some (.ref a_high_masks)
  k_high_masks : PySem.W.keepIn K (.ref a_high_masks) = true
  b_high_masks : Binds K d_high_masks ["order"] []
  a_at_least_masks : Addr
  d_at_least_masks : FuncData
  u_at_least_masks : Fun K "at_least_masks" "at_least_masks" s_at_least_masks a_at_least_masks d_at_least_masks
  g_at_least_masks : mg "at_least_masks" = some (.ref a_at_least_masks)
  k_at_least_masks : PySem.W.keepIn K (.ref a_at_least_masks) = true
  b_at_least_masks : Binds K d_at_least_masks ["order"] []
  a_induced : Addr
  d_induced : FuncData
  u_induced : Fun K "induced" "induced" s_induced a_induced d_induced
  g_induced : mg "induced" = some (.ref a_induced)
  k_induced : PySem.W.keepIn K (.ref a_induced) = true
  b_induced : Binds K d_induced ["order", "points"] []
  a_opposite : Addr
  d_opposite : FuncData
  u_opposite : Fun K "opposite" "opposite" s_opposite a_opposite d_opposite
  g_opposite : mg "opposite" = some (.ref a_opposite)
  k_opposite : PySem.W.keepIn K (.ref a_opposite) = true
  b_opposite : Binds K d_opposite ["order"] []
  a__check_size : Addr
  d__check_size : FuncData
  u__check_size : Fun K "_check_size" "_check_size" s__check_size a__check_size d__check_size
  g__check_size : mg "_check_size" = some (.ref a__check_size)
  k__check_size : PySem.W.keepIn K (.ref a__check_size) = true
  b__check_size : Binds K d__check_size ["n"] []
  a_beside : Addr
  d_beside : FuncData
  u_beside : Fun K "beside" "beside" s_beside a_beside d_beside
  g_beside : mg "beside" = some (.ref a_beside)
  k_beside : PySem.W.keepIn K (.ref a_beside) = true
  b_beside : Binds K d_beside ["first", "second"] []
  a_on_top : Addr
  d_on_top : FuncData
  u_on_top : Fun K "on_top" "on_top" s_on_top a_on_top d_on_top
  g_on_top : mg "on_top" = some (.ref a_on_top)
  k_on_top : PySem.W.keepIn K (.ref a_on_top) = true
  b_on_top : Binds K d_on_top ["first", "second"] []
  a__at_least : Addr
  d__at_least : FuncData
  u__at_least : Fun K "_at_least" "_at_least" s__at_least a__at_least d__at_least
  g__at_least : mg "_at_least" = some (.ref a__at_least)
  k__at_least : PySem.W.keepIn K (.ref a__at_least) = true
  b__at_least : Binds K d__at_least ["order"] []
  a_product : Addr
  d_product : FuncData
  u_product : Fun K "product" "product" s_product a_product d_product
  g_product : mg "product" = some (.ref a_product)
  k_product : PySem.W.keepIn K (.ref a_product) = true
  b_product : Binds K d_product ["first", "second"] []
  a__law_mix : Addr
  d__law_mix : FuncData
  u__law_mix : Fun K "_law_mix" "_law_mix" s__law_mix a__law_mix d__law_mix
  g__law_mix : mg "_law_mix" = some (.ref a__law_mix)
  k__law_mix : PySem.W.keepIn K (.ref a__law_mix) = true
  b__law_mix : Binds K d__law_mix ["seed", "turn"] []
  a__law_open : Addr
  d__law_open : FuncData
  u__law_open : Fun K "_law_open" "_law_open" s__law_open a__law_open d__law_open
  g__law_open : mg "_law_open" = some (.ref a__law_open)
  k__law_open : PySem.W.keepIn K (.ref a__law_open) = true
  b__law_open : Binds K d__law_open ["script"] []
  a__law_pick : Addr
  d__law_pick : FuncData
  u__law_pick : Fun K "_law_pick" "_law_pick" s__law_pick a__law_pick d__law_pick
  g__law_pick : mg "_law_pick" = some (.ref a__law_pick)
  k__law_pick : PySem.W.keepIn K (.ref a__law_pick) = true
  b__law_pick : Binds K d__law_pick ["feed", "many"] []
  a__law_of : Addr
  d__law_of : FuncData
  u__law_of : Fun K "_law_of" "_law_of" s__law_of a__law_of d__law_of
  g__law_of : mg "_law_of" = some (.ref a__law_of)
  k__law_of : PySem.W.keepIn K (.ref a__law_of) = true
  b__law_of : Binds K d__law_of ["feed", "row"] []
  a__law_mixed : Addr
  d__law_mixed : FuncData
  u__law_mixed : Fun K "_law_mixed" "_law_mixed" s__law_mixed a__law_mixed d__law_mixed
  g__law_mixed : mg "_law_mixed" = some (.ref a__law_mixed)
  k__law_mixed : PySem.W.keepIn K (.ref a__law_mixed) = true
  b__law_mixed : Binds K d__law_mixed ["feed", "row"] []
  a__law_same : Addr
  d__law_same : FuncData
  u__law_same : Fun K "_law_same" "_law_same" s__law_same a__law_same d__law_same
  g__law_same : mg "_law_same" = some (.ref a__law_same)
  k__law_same : PySem.W.keepIn K (.ref a__law_same) = true
  b__law_same : Binds K d__law_same ["told", "due"] []
  a__law_closed : Addr
  d__law_closed : FuncData
  u__law_closed : Fun K "_law_closed" "_law_closed" s__law_closed a__law_closed d__law_closed
  g__law_closed : mg "_law_closed" = some (.ref a__law_closed)
  k__law_closed : PySem.W.keepIn K (.ref a__law_closed) = true
  b__law_closed : Binds K d__law_closed ["n", "links"] []
  a__law_moved : Addr
  d__law_moved : FuncData
  u__law_moved : Fun K "_law_moved" "_law_moved" s__law_moved a__law_moved d__law_moved
  g__law_moved : mg "_law_moved" = some (.ref a__law_moved)
  k__law_moved : PySem.W.keepIn K (.ref a__law_moved) = true
  b__law_moved : Binds K d__law_moved ["order", "to"] []
  a__law_drawn : Addr
  d__law_drawn : FuncData
  u__law_drawn : Fun K "_law_drawn" "_law_drawn" s__law_drawn a__law_drawn d__law_drawn
  g__law_drawn : mg "_law_drawn" = some (.ref a__law_drawn)
  k__law_drawn : PySem.W.keepIn K (.ref a__law_drawn) = true
  b__law_drawn : Binds K d__law_drawn ["feed", "n", "share"] []
  a__law_turned : Addr
  d__law_turned : FuncData
  u__law_turned : Fun K "_law_turned" "_law_turned" s__law_turned a__law_turned d__law_turned
  g__law_turned : mg "_law_turned" = some (.ref a__law_turned)
  k__law_turned : PySem.W.keepIn K (.ref a__law_turned) = true
  b__law_turned : Binds K d__law_turned ["order"] []
  a__law_induced : Addr
  d__law_induced : FuncData
  u__law_induced : Fun K "_law_induced" "_law_induced" s__law_induced a__law_induced d__law_induced
  g__law_induced : mg "_law_induced" = some (.ref a__law_induced)
  k__law_induced : PySem.W.keepIn K (.ref a__law_induced) = true
  b__law_induced : Binds K d__law_induced ["order", "points"] []
theorem sc_points_in : FnScope ["mask", "found", "lowest"] ["mask"] (defScope s_points_in) := ⟨rfl, rfl, rfl, by decide +kernel, rfl, by decide +kernel, by decide +kernel⟩
def m_points_in : M Fl :=
  mSeq (mAsg (mLst (mNil)) (tgName 1)) (mSeq (mWhile (mTru (mSlot 0)) (mSeq (mAsg (m2 fAnd (mSlot 0) (m1 fNeg (mSlot 0))) (tgName 2)) (mSeq (mExpr (mAppend 1 (m2 fSub (m1 fBits (mSlot 2)) (mC (.int 1))))) (mAsg (m2 fSub (mSlot 0) (mSlot 2)) (tgName 0)))) 10000) (mRet (m1 fTuple (mSlot 1))))
def F_points_in : Fn := mFn [0] 3 m_points_in
theorem sc_high_masks : FnScope ["order", "n", "pairs", "masks", "x", "y"] ["order"] (defScope s_high_masks) := ⟨rfl, rfl, rfl, by decide +kernel, rfl, by decide +kernel, by decide +kernel⟩
def m_high_masks : M Fl :=
  mSeq (mAsg (mSlot 0) (tgTup 2 (tgCons (tgName 1) (tgCons (tgName 2) (tgNil))))) (mSeq (mAsg (m2 fMul (mLst (mCons (mC (.int 0)) (mNil))) (mSlot 1)) (tgName 3)) (mSeq (mForS (mI1 fSeq (mSlot 2)) (tgTup 2 (tgCons (tgName 4) (tgCons (tgName 5) (tgNil)))) (mAsg (m2 fOr (mIxO 3 0 (mSlot 4)) (m2 fShl (mC (.int 1)) (mSlot 5))) (tgSub 3 (mSlot 4)))) (mRet (m1 fTuple (mSlot 3)))))
def F_high_masks : Fn := mFn [0] 6 m_high_masks
theorem sc_at_least_masks : FnScope ["order", "x", "mask"] ["order"] (defScope s_at_least_masks) := ⟨rfl, rfl, rfl, by decide +kernel, rfl, by decide +kernel, by decide +kernel⟩
def m_at_least_masks : M Fl :=
  mRet (m1 fTuple (mComp [1, 2] (mI1 fEnum (mCall F_high_masks [.val] (mCons (mSlot 0) (mNil)))) (tgTup 2 (tgCons (tgName 1) (tgCons (tgName 2) (tgNil)))) (mYes) (m2 fOr (mSlot 2) (m2 fShl (mC (.int 1)) (mSlot 1)))))
def F_at_least_masks : Fn := mFn [0] 3 m_at_least_masks
theorem sc_induced : FnScope ["order", "points", "places", "pairs", "place", "point", "x", "y"] ["order", "points"] (defScope s_induced) := ⟨rfl, rfl, rfl, by decide +kernel, rfl, by decide +kernel, by decide +kernel⟩
def m_induced : M Fl :=
  mSeq (mAsg (mDComp [4, 5] (mI1 fEnum (mSlot 1)) (tgTup 2 (tgCons (tgName 4) (tgCons (tgName 5) (tgNil)))) (mYes) (mSlot 5) (mSlot 4)) (tgName 2)) (mSeq (mAsg (mComp [6, 7] (mI1 fSeq (m2 fIxA (mSlot 0) (mC (.int 1)))) (tgTup 2 (tgCons (tgName 6) (tgCons (tgName 7) (tgNil)))) (mAnd (mTB (m2 (fInA false) (mSlot 6) (mSlot 2))) (mTB (m2 (fInA false) (mSlot 7) (mSlot 2)))) (mTup (mCons (m2 fIxA (mSlot 2) (mSlot 6)) (mCons (m2 fIxA (mSlot 2) (mSlot 7)) (mNil))))) (tgName 3)) (mRet (mTup (mCons (m1 fLen (mSlot 1)) (mCons (m1 fTuple (mSlot 3)) (mNil))))))
def F_induced : Fn := mFn [0, 0] 8 m_induced
theorem sc_opposite : FnScope ["order", "n", "pairs", "x", "y"] ["order"] (defScope s_opposite) := ⟨rfl, rfl, rfl, by decide +kernel, rfl, by decide +kernel, by decide +kernel⟩
def m_opposite : M Fl :=
  mSeq (mAsg (mSlot 0) (tgTup 2 (tgCons (tgName 1) (tgCons (tgName 2) (tgNil))))) (mRet (mTup (mCons (mSlot 1) (mCons (m1 fTuple (m1 fSorted (mComp [3, 4] (mI1 fSeq (mSlot 2)) (tgTup 2 (tgCons (tgName 3) (tgCons (tgName 4) (tgNil)))) (mYes) (mTup (mCons (mSlot 4) (mCons (mSlot 3) (mNil))))))) (mNil)))))
def F_opposite : Fn := mFn [0] 5 m_opposite
theorem sc__check_size : FnScope ["n"] ["n"] (defScope s__check_size) := ⟨rfl, rfl, rfl, by decide +kernel, rfl, by decide +kernel, by decide +kernel⟩
def m__check_size : M Fl :=
  mIfS (mTB (m2 fGt (mSlot 0) (mC (.int 64)))) (mNever) (mSkip)
def F__check_size : Fn := mFn [0] 1 m__check_size
theorem sc_beside : FnScope ["first", "second", "n", "pairs", "m", "others", "p", "q"] ["first", "second"] (defScope s_beside) := ⟨rfl, rfl, rfl, by decide +kernel, rfl, by decide +kernel, by decide +kernel⟩
def m_beside : M Fl :=
  mSeq (mAsg (mSlot 0) (tgTup 2 (tgCons (tgName 2) (tgCons (tgName 3) (tgNil))))) (mSeq (mAsg (mSlot 1) (tgTup 2 (tgCons (tgName 4) (tgCons (tgName 5) (tgNil))))) (mSeq (mExpr (mCall F__check_size [.val] (mCons (m2 fAdd (mSlot 2) (mSlot 4)) (mNil)))) (mRet (mTup (mCons (m2 fAdd (mSlot 2) (mSlot 4)) (mCons (m2 fAdd (mSlot 3) (m1 fTuple (mComp [6, 7] (mI1 fSeq (mSlot 5)) (tgTup 2 (tgCons (tgName 6) (tgCons (tgName 7) (tgNil)))) (mYes) (mTup (mCons (m2 fAdd (mSlot 2) (mSlot 6)) (mCons (m2 fAdd (mSlot 2) (mSlot 7)) (mNil))))))) (mNil)))))))
def F_beside : Fn := mFn [0, 0] 8 m_beside
theorem sc_on_top : FnScope ["first", "second", "n", "m", "total", "pairs", "between", "x", "q"] ["first", "second"] (defScope s_on_top) := ⟨rfl, rfl, rfl, by decide +kernel, rfl, by decide +kernel, by decide +kernel⟩
def m_on_top : M Fl :=
  mSeq (mAsg (m2 fIxA (mSlot 0) (mC (.int 0))) (tgName 2)) (mSeq (mAsg (m2 fIxA (mSlot 1) (mC (.int 0))) (tgName 3)) (mSeq (mAsg (mCall F_beside [.val, .val] (mCons (mSlot 0) (mCons (mSlot 1) (mNil)))) (tgTup 2 (tgCons (tgName 4) (tgCons (tgName 5) (tgNil))))) (mSeq (mAsg (mComp2 [7, 8] [8] (mI1 fRange1 (mSlot 2)) (tgName 7) (mYes) (mI1 fRange1 (mSlot 3)) (tgName 8) (mYes) (mTup (mCons (mSlot 7) (mCons (m2 fAdd (mSlot 2) (mSlot 8)) (mNil))))) (tgName 6)) (mRet (mTup (mCons (mSlot 4) (mCons (m1 fTuple (m1 fSorted (m2 fAdd (m1 fList (mSlot 5)) (mSlot 6)))) (mNil))))))))
def F_on_top : Fn := mFn [0, 0] 9 m_on_top
theorem sc__at_least : FnScope ["order", "mask"] ["order"] (defScope s__at_least) := ⟨rfl, rfl, rfl, by decide +kernel, rfl, by decide +kernel, by decide +kernel⟩
def m__at_least : M Fl :=
  mRet (mComp [1] (mI1 fSeq (mCall F_at_least_masks [.val] (mCons (mSlot 0) (mNil)))) (tgName 1) (mYes) (mCall F_points_in [.val] (mCons (mSlot 1) (mNil))))
def F__at_least : Fn := mFn [0] 2 m__at_least
theorem sc_product : FnScope ["first", "second", "n", "m", "outer", "inner", "pairs", "x", "q", "targets", "y", "r", "target"] ["first", "second"] (defScope s_product) := ⟨rfl, rfl, rfl, by decide +kernel, rfl, by decide +kernel, by decide +kernel⟩
def m_product : M Fl :=
  mSeq (mAsg (m2 fIxA (mSlot 0) (mC (.int 0))) (tgName 2)) (mSeq (mAsg (m2 fIxA (mSlot 1) (mC (.int 0))) (tgName 3)) (mSeq (mExpr (mCall F__check_size [.val] (mCons (m2 fMul (mSlot 2) (mSlot 3)) (mNil)))) (mSeq (mAsg (mCall F__at_least [.val] (mCons (mSlot 0) (mNil))) (tgName 4)) (mSeq (mAsg (mCall F__at_least [.val] (mCons (mSlot 1) (mNil))) (tgName 5)) (mSeq (mAsg (mLst (mNil)) (tgName 6)) (mSeq (mForS (mI1 fRange1 (mSlot 2)) (tgName 7) (mForS (mI1 fRange1 (mSlot 3)) (tgName 8) (mSeq (mAsg (mComp2 [10, 11] [11] (mI1 fSeq (m2 fIxA (mSlot 4) (mSlot 7))) (tgName 10) (mYes) (mI1 fSeq (m2 fIxA (mSlot 5) (mSlot 8))) (tgName 11) (mYes) (m2 fAdd (m2 fMul (mSlot 10) (mSlot 3)) (mSlot 11))) (tgName 9)) (mExpr (mExtend 6 (mComp [12] (mI1 fSeq (mSlot 9)) (tgName 12) (mTB (m2 fNe (mSlot 12) (m2 fAdd (m2 fMul (mSlot 7) (mSlot 3)) (mSlot 8)))) (mTup (mCons (m2 fAdd (m2 fMul (mSlot 7) (mSlot 3)) (mSlot 8)) (mCons (mSlot 12) (mNil)))))))))) (mRet (mTup (mCons (m2 fMul (mSlot 2) (mSlot 3)) (mCons (m1 fTuple (mSlot 6)) (mNil)))))))))))
def F_product : Fn := mFn [0, 0] 13 m_product
theorem sc__law_mix : FnScope ["seed", "turn", "one"] ["seed", "turn"] (defScope s__law_mix) := ⟨rfl, rfl, rfl, by decide +kernel, rfl, by decide +kernel, by decide +kernel⟩
def m__law_mix : M Fl :=
  mSeq (mAsg (m2 fMod (m1 fInt (m2 fAdd (m2 fAdd (m2 fMul (mSlot 0) (mC (.int 40503))) (m2 fMul (mSlot 1) (mC (.int 30103)))) (mC (.int 7919)))) (mC (.int 1000000007))) (tgName 2)) (mRet (m2 fMod (m1 fInt (m2 fAdd (m2 fAdd (m2 fMul (mSlot 2) (mSlot 2)) (m2 fMul (mSlot 1) (mC (.int 9973)))) (m2 fDiv (mSlot 2) (mC (.int 3))))) (mC (.int 998244353))))
def F__law_mix : Fn := mFn [0, 0] 3 m__law_mix
theorem sc__law_open : FnScope ["script", "cells", "seed", "cell"] ["script"] (defScope s__law_open) := ⟨rfl, rfl, rfl, by decide +kernel, rfl, by decide +kernel, by decide +kernel⟩
def m__law_open : M Fl :=
  mSeq (mAsg (mSl (mComp [3] (mI1 fSeq (mSlot 0)) (tgName 3) (mYes) (m1 fInt (mSlot 3))) (mNoP) (mPart (mC (.int 63)))) (tgName 1)) (mSeq (mAsg (m2 fAdd (mC (.int 17)) (mLenO 1)) (tgName 2)) (mSeq (mForS (mI1 fSeq (mSlot 1)) (tgName 3) (mAsg (m2 fMod (m1 fInt (m2 fAdd (m2 fMul (mSlot 2) (mC (.int 257))) (mSlot 3))) (mC (.int 1000000007))) (tgName 2))) (mRet (mLst (mCons (mSlot 1) (mCons (mC (.int 0)) (mCons (mC (.int 0)) (mCons (mC (.int 0)) (mCons (mC (.int 0)) (mCons (mSlot 2) (mNil)))))))))))
def F__law_open : Fn := mFn [0] 4 m__law_open
theorem sc__law_pick : FnScope ["feed", "many", "got"] ["feed", "many"] (defScope s__law_pick) := ⟨rfl, rfl, rfl, by decide +kernel, rfl, by decide +kernel, by decide +kernel⟩
def m__law_pick : M Fl :=
  mSeq (mIfS (mAnd (mTB (m2 fEq (mIxO 0 0 (mC (.int 3))) (mC (.int 0)))) (mTB (m2 fLt (mIxO 0 0 (mC (.int 1))) (m1 fLen (mIxO 0 0 (mC (.int 0))))))) (mSeq (mAsg (m2 fIxA (mIxO 0 0 (mC (.int 0))) (mIxO 0 0 (mC (.int 1)))) (tgSub 0 (mC (.int 2)))) (mSeq (mAsg (m2 fAdd (mIxO 0 0 (mC (.int 1))) (mC (.int 1))) (tgSub 0 (mC (.int 1)))) (mAsg (mIf (mTB (m2 fGe (mIxO 0 0 (mC (.int 2))) (m2 fPow (mC (.int 10)) (mC (.int 18))))) (mC (.int 60)) (mC (.int 0))) (tgSub 0 (mC (.int 3)))))) (mSkip)) (mSeq (mIfS (mTB (m2 fGt (mIxO 0 0 (mC (.int 3))) (mC (.int 0)))) (mSeq (mAsg (m2 fMod (m1 fInt (mIxO 0 0 (mC (.int 2)))) (mSlot 1)) (tgName 2)) (mSeq (mAsg (m2 fDiv (mIxO 0 0 (mC (.int 2))) (mSlot 1)) (tgSub 0 (mC (.int 2)))) (mSeq (mAsg (mIf (mTB (m2 fGt (mIxO 0 0 (mC (.int 2))) (mC (.int 0)))) (m2 fSub (mIxO 0 0 (mC (.int 3))) (mC (.int 1))) (mC (.int 0))) (tgSub 0 (mC (.int 3)))) (mRetO 2)))) (mSkip)) (mSeq (mAsg (m2 fAdd (mIxO 0 0 (mC (.int 4))) (mC (.int 1))) (tgSub 0 (mC (.int 4)))) (mRet (m2 fMod (m1 fInt (mCall F__law_mix [.val, .val] (mCons (mIxO 0 0 (mC (.int 5))) (mCons (mIxO 0 0 (mC (.int 4))) (mNil))))) (mSlot 1)))))
def F__law_pick : Fn := mFn [1, 0] 3 m__law_pick
theorem sc__law_of : FnScope ["feed", "row"] ["feed", "row"] (defScope s__law_of) := ⟨rfl, rfl, rfl, by decide +kernel, rfl, by decide +kernel, by decide +kernel⟩
def m__law_of : M Fl :=
  mRet (m2 fIxA (mSlot 1) (mCall F__law_pick [.bor 0, .val] (mBor 0 (mCons (m1 fLen (mSlot 1)) (mNil)))))
def F__law_of : Fn := mFn [1, 0] 2 m__law_of
theorem sc__law_mixed : FnScope ["feed", "row", "found", "one"] ["feed", "row"] (defScope s__law_mixed) := ⟨rfl, rfl, rfl, by decide +kernel, rfl, by decide +kernel, by decide +kernel⟩
def m__law_mixed : M Fl :=
  mSeq (mAsg (mLst (mNil)) (tgName 2)) (mSeq (mForS (mI1 fSeq (mSlot 1)) (tgName 3) (mExpr (mInsert 2 (mCall F__law_pick [.bor 0, .val] (mBor 0 (mCons (m2 fAdd (mLenO 2) (mC (.int 1))) (mNil)))) (mSlot 3)))) (mRetO 2))
def F__law_mixed : Fn := mFn [1, 0] 4 m__law_mixed
theorem sc__law_same : FnScope ["told", "due", "k"] ["told", "due"] (defScope s__law_same) := ⟨rfl, rfl, rfl, by decide +kernel, rfl, by decide +kernel, by decide +kernel⟩
def m__law_same (Fr : Fn) : M Fl :=
  mSeq (mIfS (mTru (m1 (fIs "tuple") (mSlot 1))) (mSeq (mIfS (mOr (mNot (mTru (m1 (fIs "tuple") (mSlot 0)))) (mTB (m2 fNe (m1 fLen (mSlot 0)) (m1 fLen (mSlot 1))))) (mRet (mC (.bool false))) (mSkip)) (mRet (m1 fAll (mComp [2] (mI1 fRange1 (m1 fLen (mSlot 1))) (tgName 2) (mYes) (mCall Fr [.val, .val] (mCons (m2 fIxA (mSlot 0) (mSlot 2)) (mCons (m2 fIxA (mSlot 1) (mSlot 2)) (mNil)))))))) (mSkip)) (mSeq (mIfS (mTB (m2 (fIsN false) (mSlot 1) (mC .none))) (mRet (m2 (fIsN false) (mSlot 0) (mC .none))) (mSkip)) (mSeq (mIfS (mTru (m1 (fIs "str") (mSlot 1))) (mRet (mAndV (m1 (fIs "str") (mSlot 0)) (m2 fEq (mSlot 0) (mSlot 1)))) (mSkip)) (mSeq (mIfS (mTru (m1 (fIs "bool") (mSlot 1))) (mRet (mAndV (m1 (fIs "bool") (mSlot 0)) (m2 fEq (mSlot 0) (mSlot 1)))) (mSkip)) (mRet (mAndV (m1 (fIs "int") (mSlot 0)) (mAndV (mNotV (m1 (fIs "bool") (mSlot 0))) (m2 fEq (mSlot 0) (mSlot 1))))))))
def F__law_same : Nat → Fn
  | 0 => fun _ => .stuck
  | n + 1 => mFn [0, 0] 3 (m__law_same (F__law_same n))
theorem sc__law_closed : FnScope ["n", "links", "reach", "x", "y", "z", "pairs", "a", "b"] ["n", "links"] (defScope s__law_closed) := ⟨rfl, rfl, rfl, by decide +kernel, rfl, by decide +kernel, by decide +kernel⟩
def m__law_closed : M Fl :=
  mSeq (mAsg (mComp [3] (mI1 fRange1 (mSlot 0)) (tgName 3) (mYes) (m2 fMul (mLst (mCons (mC (.bool false)) (mNil))) (mSlot 0))) (tgName 2)) (mSeq (mForS (mI1 fSeq (mSlot 1)) (tgTup 2 (tgCons (tgName 3) (tgCons (tgName 4) (tgNil)))) (mAsg (mC (.bool true)) (tgSub2 2 (mSlot 3) (mSlot 4)))) (mSeq (mForS (mI1 fRange1 (mSlot 0)) (tgName 5) (mForS (mI1 fRange1 (mSlot 0)) (tgName 3) (mIfS (mTru (m2 fIxA (mIxO 2 0 (mSlot 3)) (mSlot 5))) (mAsg (mComp [7, 8] (mI2 fZip (mIxO 2 0 (mSlot 3)) (mIxO 2 0 (mSlot 5))) (tgTup 2 (tgCons (tgName 7) (tgCons (tgName 8) (tgNil)))) (mYes) (mOrV (mSlot 7) (mSlot 8))) (tgSub 2 (mSlot 3))) (mSkip)))) (mSeq (mAsg (mLst (mNil)) (tgName 6)) (mSeq (mForS (mI1 fRange1 (mSlot 0)) (tgName 3) (mAsg (m2 fAdd (mSlot 6) (mComp [4] (mI1 fRange1 (mSlot 0)) (tgName 4) (mTru (m2 fIxA (mIxO 2 0 (mSlot 3)) (mSlot 4))) (mTup (mCons (mSlot 3) (mCons (mSlot 4) (mNil)))))) (tgName 6))) (mRet (mTup (mCons (mSlot 0) (mCons (m1 fTuple (mSlot 6)) (mNil)))))))))
def F__law_closed : Fn := mFn [0, 0] 9 m__law_closed
theorem sc__law_moved : FnScope ["order", "to", "x", "y"] ["order", "to"] (defScope s__law_moved) := ⟨rfl, rfl, rfl, by decide +kernel, rfl, by decide +kernel, by decide +kernel⟩
def m__law_moved : M Fl :=
  mRet (mTup (mCons (m2 fIxA (mSlot 0) (mC (.int 0))) (mCons (m1 fTuple (m1 fSorted (mComp [2, 3] (mI1 fSeq (m2 fIxA (mSlot 0) (mC (.int 1)))) (tgTup 2 (tgCons (tgName 2) (tgCons (tgName 3) (tgNil)))) (mYes) (mTup (mCons (m2 fIxA (mSlot 1) (mSlot 2)) (mCons (m2 fIxA (mSlot 1) (mSlot 3)) (mNil))))))) (mNil))))
def F__law_moved : Fn := mFn [0, 0] 4 m__law_moved
theorem sc__law_drawn : FnScope ["feed", "n", "share", "to", "links", "x", "y"] ["feed", "n", "share"] (defScope s__law_drawn) := ⟨rfl, rfl, rfl, by decide +kernel, rfl, by decide +kernel, by decide +kernel⟩
def m__law_drawn : M Fl :=
  mSeq (mAsg (mCall F__law_mixed [.bor 0, .val] (mBor 0 (mCons (mLRg (mI1 fRange1 (mSlot 1))) (mNil)))) (tgName 3)) (mSeq (mAsg (mLst (mNil)) (tgName 4)) (mSeq (mForS (mI1 fRange1 (mSlot 1)) (tgName 5) (mAsg (m2 fAdd (mSlot 4) (mComp [6] (mI2 fRange2 (m2 fAdd (mSlot 5) (mC (.int 1))) (mSlot 1)) (tgName 6) (mTB (m2 fEq (mCall F__law_pick [.bor 0, .val] (mBor 0 (mCons (mSlot 2) (mNil)))) (mC (.int 0)))) (mTup (mCons (mIxO 3 0 (mSlot 5)) (mCons (mIxO 3 0 (mSlot 6)) (mNil)))))) (tgName 4))) (mRet (mCall F__law_closed [.val, .val] (mCons (mSlot 1) (mCons (mSlot 4) (mNil)))))))
def F__law_drawn : Fn := mFn [1, 0, 0] 7 m__law_drawn
theorem sc__law_turned : FnScope ["order", "x", "y"] ["order"] (defScope s__law_turned) := ⟨rfl, rfl, rfl, by decide +kernel, rfl, by decide +kernel, by decide +kernel⟩
def m__law_turned : M Fl :=
  mRet (mTup (mCons (m2 fIxA (mSlot 0) (mC (.int 0))) (mCons (m1 fTuple (m1 fSorted (mComp [1, 2] (mI1 fSeq (m2 fIxA (mSlot 0) (mC (.int 1)))) (tgTup 2 (tgCons (tgName 1) (tgCons (tgName 2) (tgNil)))) (mYes) (mTup (mCons (mSlot 2) (mCons (mSlot 1) (mNil))))))) (mNil))))
def F__law_turned : Fn := mFn [0] 3 m__law_turned
theorem sc__law_induced : FnScope ["order", "points", "pairs", "i", "j"] ["order", "points"] (defScope s__law_induced) := ⟨rfl, rfl, rfl, by decide +kernel, rfl, by decide +kernel, by decide +kernel⟩
def m__law_induced : M Fl :=
  mSeq (mAsg (mLst (mNil)) (tgName 2)) (mSeq (mForS (mI1 fRange1 (m1 fLen (mSlot 1))) (tgName 3) (mAsg (m2 fAdd (mSlot 2) (mComp [4] (mI1 fRange1 (m1 fLen (mSlot 1))) (tgName 4) (mTB (m2 (fInA false) (mTup (mCons (m2 fIxA (mSlot 1) (mSlot 3)) (mCons (m2 fIxA (mSlot 1) (mSlot 4)) (mNil)))) (m2 fIxA (mSlot 0) (mC (.int 1))))) (mTup (mCons (mSlot 3) (mCons (mSlot 4) (mNil)))))) (tgName 2))) (mRet (mTup (mCons (m1 fLen (mSlot 1)) (mCons (m1 fTuple (mSlot 2)) (mNil))))))
def F__law_induced : Fn := mFn [0, 0] 5 m__law_induced
theorem sc_law : FnScope ["script", "feed", "a", "b", "n", "m", "change", "both", "halves", "cross", "x", "q", "rows", "big", "lot", "part", "inner", "to", "moved", "renamed", "k"] ["script"] (defScope s_law) := ⟨rfl, rfl, rfl, by decide +kernel, rfl, by decide +kernel, by decide +kernel⟩
def m_law : M Fl :=
  mSeq (mAsg (mCall F__law_open [.val] (mCons (mSlot 0) (mNil))) (tgName 1)) (mSeq (mPar 2 3 (mCons (mCall F__law_drawn [.bor 1, .val, .val] (mBor 1 (mCons (mCall F__law_pick [.bor 1, .val] (mBor 1 (mCons (mC (.int 7)) (mNil)))) (mCons (mC (.int 3)) (mNil))))) (mCons (mCall F__law_drawn [.bor 1, .val, .val] (mBor 1 (mCons (mCall F__law_pick [.bor 1, .val] (mBor 1 (mCons (mC (.int 7)) (mNil)))) (mCons (mC (.int 2)) (mNil))))) (mNil)))) (mSeq (mAsg (mTup (mCons (m2 fIxA (mSlot 2) (mC (.int 0))) (mCons (m2 fIxA (mSlot 3) (mC (.int 0))) (mNil)))) (tgTup 2 (tgCons (tgName 4) (tgCons (tgName 5) (tgNil))))) (mSeq (mIfS (mNot (mTru (mCall (F__law_same 8) [.val, .val] (mCons (mTup (mCons (mCall F_opposite [.val] (mCons (mSlot 2) (mNil))) (mCons (mCall F_opposite [.val] (mCons (mCall F_opposite [.val] (mCons (mSlot 2) (mNil))) (mNil))) (mCons (mCall F_opposite [.val] (mCons (mTup (mCons (mC (.int 0)) (mCons (mTup (mNil)) (mNil)))) (mNil))) (mNil))))) (mCons (mTup (mCons (mCall F__law_turned [.val] (mCons (mSlot 2) (mNil))) (mCons (mSlot 2) (mCons (mTup (mCons (mC (.int 0)) (mCons (mTup (mNil)) (mNil)))) (mNil))))) (mNil)))))) (mRet (mC (.bool false))) (mSkip)) (mSeq (mIfS (mNot (mTru (mCall (F__law_same 8) [.val, .val] (mCons (mCall F_opposite [.val] (mCons (mCall F_beside [.val, .val] (mCons (mSlot 2) (mCons (mSlot 3) (mNil)))) (mNil))) (mCons (mCall F_beside [.val, .val] (mCons (mCall F__law_turned [.val] (mCons (mSlot 2) (mNil))) (mCons (mCall F__law_turned [.val] (mCons (mSlot 3) (mNil))) (mNil)))) (mNil)))))) (mRet (mC (.bool false))) (mSkip)) (mSeq (mIfS (mNot (mTru (mCall (F__law_same 8) [.val, .val] (mCons (mCall F_opposite [.val] (mCons (mCall F_product [.val, .val] (mCons (mSlot 2) (mCons (mSlot 3) (mNil)))) (mNil))) (mCons (mCall F_product [.val, .val] (mCons (mCall F__law_turned [.val] (mCons (mSlot 2) (mNil))) (mCons (mCall F__law_turned [.val] (mCons (mSlot 3) (mNil))) (mNil)))) (mNil)))))) (mRet (mC (.bool false))) (mSkip)) (mSeq (mAsg (m2 fAdd (mComp [10] (mI1 fRange1 (mSlot 4)) (tgName 10) (mYes) (m2 fAdd (mSlot 5) (mSlot 10))) (mLRg (mI1 fRange1 (mSlot 5)))) (tgName 6)) (mSeq (mIfS (mNot (mTru (mCall (F__law_same 8) [.val, .val] (mCons (mCall F__law_moved [.val, .val] (mCons (mCall F_opposite [.val] (mCons (mCall F_on_top [.val, .val] (mCons (mSlot 2) (mCons (mSlot 3) (mNil)))) (mNil))) (mCons (mSlot 6) (mNil)))) (mCons (mCall F_on_top [.val, .val] (mCons (mCall F__law_turned [.val] (mCons (mSlot 3) (mNil))) (mCons (mCall F__law_turned [.val] (mCons (mSlot 2) (mNil))) (mNil)))) (mNil)))))) (mRet (mC (.bool false))) (mSkip)) (mSeq (mAsg (mCall F_on_top [.val, .val] (mCons (mSlot 2) (mCons (mSlot 3) (mNil)))) (tgName 7)) (mSeq (mAsg (mTup (mCons (mCall F_induced [.val, .val] (mCons (mSlot 7) (mCons (mTRg (mI1 fRange1 (mSlot 4))) (mNil)))) (mCons (mCall F_induced [.val, .val] (mCons (mSlot 7) (mCons (mTRg (mI2 fRange2 (mSlot 4) (m2 fAdd (mSlot 4) (mSlot 5)))) (mNil)))) (mNil)))) (tgName 8)) (mSeq (mIfS (mOr (mNot (mTru (mCall (F__law_same 8) [.val, .val] (mCons (mSlot 8) (mCons (mTup (mCons (mSlot 2) (mCons (mSlot 3) (mNil)))) (mNil)))))) (mNot (mTru (mCall (F__law_same 8) [.val, .val] (mCons (mTup (mCons (mCall F_induced [.val, .val] (mCons (mCall F_beside [.val, .val] (mCons (mSlot 2) (mCons (mSlot 3) (mNil)))) (mCons (mTRg (mI1 fRange1 (mSlot 4))) (mNil)))) (mCons (mCall F_induced [.val, .val] (mCons (mCall F_beside [.val, .val] (mCons (mSlot 2) (mCons (mSlot 3) (mNil)))) (mCons (mTRg (mI2 fRange2 (mSlot 4) (m2 fAdd (mSlot 4) (mSlot 5)))) (mNil)))) (mNil)))) (mCons (mTup (mCons (mSlot 2) (mCons (mSlot 3) (mNil)))) (mNil))))))) (mRet (mC (.bool false))) (mSkip)) (mSeq (mAsg (mCall F_product [.val, .val] (mCons (mSlot 2) (mCons (mSlot 3) (mNil)))) (tgName 9)) (mSeq (mIfS (mAnd (mTB (m2 fGt (mSlot 4) (mC (.int 0)))) (mTB (m2 fGt (mSlot 5) (mC (.int 0))))) (mSeq (mAsg (mTup (mCons (mCall F__law_pick [.bor 1, .val] (mBor 1 (mCons (mSlot 4) (mNil)))) (mCons (mCall F__law_pick [.bor 1, .val] (mBor 1 (mCons (mSlot 5) (mNil)))) (mNil)))) (tgTup 2 (tgCons (tgName 10) (tgCons (tgName 11) (tgNil))))) (mSeq (mAsg (mTup (mCons (mCall F_induced [.val, .val] (mCons (mSlot 9) (mCons (m1 fTuple (mComp [20] (mI1 fRange1 (mSlot 5)) (tgName 20) (mYes) (m2 fAdd (m2 fMul (mSlot 10) (mSlot 5)) (mSlot 20)))) (mNil)))) (mCons (mCall F_induced [.val, .val] (mCons (mSlot 9) (mCons (m1 fTuple (mComp [20] (mI1 fRange1 (mSlot 4)) (tgName 20) (mYes) (m2 fAdd (m2 fMul (mSlot 20) (mSlot 5)) (mSlot 11)))) (mNil)))) (mNil)))) (tgName 12)) (mIfS (mNot (mTru (mCall (F__law_same 8) [.val, .val] (mCons (mSlot 12) (mCons (mTup (mCons (mSlot 3) (mCons (mSlot 2) (mNil)))) (mNil)))))) (mRet (mC (.bool false))) (mSkip)))) (mSkip)) (mSeq (mAsg (mCall F__law_of [.bor 1, .val] (mBor 1 (mCons (mLst (mCons (mSlot 7) (mCons (mSlot 9) (mCons (mCall F_beside [.val, .val] (mCons (mSlot 2) (mCons (mSlot 3) (mNil)))) (mNil))))) (mNil)))) (tgName 13)) (mSeq (mIfS (mAnd (mTB (m2 fNe (m2 fIxA (mSlot 13) (mC (.int 0))) (m2 fMul (mSlot 4) (mSlot 5)))) (mTB (m2 fNe (m2 fIxA (mSlot 13) (mC (.int 0))) (m2 fAdd (mSlot 4) (mSlot 5))))) (mRet (mC (.bool false))) (mSkip)) (mSeq (mAsg (m1 fTuple (m1 fSorted (mSl (mCall F__law_mixed [.bor 1, .val] (mBor 1 (mCons (mLRg (mI1 fRange1 (m2 fIxA (mSlot 13) (mC (.int 0))))) (mNil)))) (mNoP) (mPart (mCall F__law_pick [.bor 1, .val] (mBor 1 (mCons (m2 fAdd (m2 fMin2 (m2 fIxA (mSlot 13) (mC (.int 0))) (mC (.int 12))) (mC (.int 1))) (mNil)))))))) (tgName 14)) (mSeq (mAsg (mCall F_induced [.val, .val] (mCons (mSlot 13) (mCons (mSlot 14) (mNil)))) (tgName 15)) (mSeq (mIfS (mNot (mTru (mCall (F__law_same 8) [.val, .val] (mCons (mSlot 15) (mCons (mCall F__law_induced [.val, .val] (mCons (mSlot 13) (mCons (mSlot 14) (mNil)))) (mNil)))))) (mRet (mC (.bool false))) (mSkip)) (mSeq (mAsg (m1 fTuple (m1 fSorted (mSl (mCall F__law_mixed [.bor 1, .val] (mBor 1 (mCons (mLRg (mI1 fRange1 (m1 fLen (mSlot 14)))) (mNil)))) (mNoP) (mPart (mCall F__law_pick [.bor 1, .val] (mBor 1 (mCons (m2 fAdd (m1 fLen (mSlot 14)) (mC (.int 1))) (mNil)))))))) (tgName 16)) (mSeq (mIfS (mNot (mTru (mCall (F__law_same 8) [.val, .val] (mCons (mTup (mCons (mCall F_induced [.val, .val] (mCons (mSlot 15) (mCons (mSlot 16) (mNil)))) (mCons (mCall F_induced [.val, .val] (mCons (mCall F_opposite [.val] (mCons (mSlot 13) (mNil))) (mCons (mSlot 14) (mNil)))) (mNil)))) (mCons (mTup (mCons (mCall F_induced [.val, .val] (mCons (mSlot 13) (mCons (m1 fTuple (mComp [20] (mI1 fSeq (mSlot 16)) (tgName 20) (mYes) (m2 fIxA (mSlot 14) (mSlot 20)))) (mNil)))) (mCons (mCall F__law_turned [.val] (mCons (mSlot 15) (mNil))) (mNil)))) (mNil)))))) (mRet (mC (.bool false))) (mSkip)) (mSeq (mAsg (mCall F__law_mixed [.bor 1, .val] (mBor 1 (mCons (mLRg (mI1 fRange1 (mSlot 4))) (mNil)))) (tgName 17)) (mSeq (mAsg (mCall F__law_moved [.val, .val] (mCons (mSlot 2) (mCons (mSlot 17) (mNil)))) (tgName 18)) (mSeq (mIfS (mNot (mTru (mCall (F__law_same 8) [.val, .val] (mCons (mTup (mCons (mCall F_induced [.val, .val] (mCons (mSlot 2) (mCons (mTRg (mI1 fRange1 (mSlot 4))) (mNil)))) (mCons (mCall F_induced [.val, .val] (mCons (mSlot 2) (mCons (mTup (mNil)) (mNil)))) (mCons (mCall F_opposite [.val] (mCons (mSlot 18) (mNil))) (mNil))))) (mCons (mTup (mCons (mSlot 2) (mCons (mTup (mCons (mC (.int 0)) (mCons (mTup (mNil)) (mNil)))) (mCons (mCall F__law_moved [.val, .val] (mCons (mCall F__law_turned [.val] (mCons (mSlot 2) (mNil))) (mCons (mSlot 17) (mNil)))) (mNil))))) (mNil)))))) (mRet (mC (.bool false))) (mSkip)) (mSeq (mAsg (mLst (mNil)) (tgName 19)) (mSeq (mForS (mI1 fRange1 (mSlot 4)) (tgName 10) (mAsg (m2 fAdd (mSlot 19) (mComp [11] (mI1 fRange1 (mSlot 5)) (tgName 11) (mYes) (m2 fAdd (m2 fMul (m2 fIxA (mSlot 17) (mSlot 10)) (mSlot 5)) (mSlot 11)))) (tgName 19))) (mRet (mCall (F__law_same 8) [.val, .val] (mCons (mCall F_product [.val, .val] (mCons (mSlot 18) (mCons (mSlot 3) (mNil)))) (mCons (mCall F__law_moved [.val, .val] (mCons (mSlot 9) (mCons (mSlot 19) (mNil)))) (mNil)))))))))))))))))))))))))))))
def F_law : Fn := mFn [0] 21 m_law
section
variable {P : Program} {w : World} {K : PySem.W.Frag} {mg : Str → Option Value} {base : Heap}
theorem ok_points_in (T : Tx K mg) : FnOk P w K mg base (L2.CX P w) 1 T.a_points_in T.d_points_in ["mask"] (spM K mg [0] 9 F_points_in) :=
  fn_ok T.u_points_in sc_points_in [0] [0, 0] 9 m_points_in [0, 0, 0] rfl rfl (by decide) fun cdv A outer s H E hr => by
    have hu65 : (A.deeper (envOfC "points_in" (defScope s_points_in) s.heap.objs.size T.a_points_in cdv)).units + 65 < cLine := by have := hr.un; omega
    exact (b_cons (sΓ [0, 8, 9] (s_set 1 sc_points_in.nd rfl (by first | exact Or.inl rfl | exact Or.inr rfl) (e_lst 7 a_nil (by decide) rfl) rfl) rfl)
      (b_cons (s_while 10000 [0, 8, 0] [0, 8, 0] (passes_of rfl) (st_tru (v0 0 (pv 0) rfl) (fun _ => rfl)) (bW [0, 8, 0] (b_cons (sΓ [0, 8, 9] (s_set 2 sc_points_in.nd rfl (by first | exact Or.inl rfl | exact Or.inr rfl) (e_and (v0 0 (pv 0) rfl) (e_neg (v0 0 (pv 0) rfl))) rfl) rfl)
      (b_cons (s_expr (eΓ [0, 8, 0] (e_append 1 7 7 7 rfl rfl (by decide) (by decide) (pv 1) (e_sub (c_bits (eΓ [0, 8, 0] (se_var 2 (pv 2)) rfl)) se_int) (fun ha => pe_bm PySem.F.plainAttrs_list PySem.F.slot_list_append PySem.F.type_list_append mt_append (pv 1) ha) rfl) rfl))
      (b_one (sΓ [9, 8, 0] (s_set 0 sc_points_in.nd rfl (by first | exact Or.inl rfl | exact Or.inr rfl) (e_sub (v0 0 (pv 0) rfl) (v0 2 (pv 2) rfl)) rfl) rfl)))) rfl) rfl rfl)
      (b_one (s_ret (c_tuple rfl T.z_tuple (eΓ [0, 0, 0] (se_var 1 (pv 1)) rfl) rfl) (by decide) rfl))))
theorem ok_high_masks (T : Tx K mg) : FnOk P w K mg base (L2.CX P w) 1 T.a_high_masks T.d_high_masks ["order"] (spM K mg [0] 9 F_high_masks) :=
  fn_ok T.u_high_masks sc_high_masks [0] [0, 0, 0, 0, 0] 9 m_high_masks [0, 0, 0, 0, 0, 0] rfl rfl (by decide) fun cdv A outer s H E hr => by
    have hu65 : (A.deeper (envOfC "high_masks" (defScope s_high_masks) s.heap.objs.size T.a_high_masks cdv)).units + 65 < cLine := by have := hr.un; omega
    exact (b_cons (s_asg (v0 0 (pv 0) rfl) (g_tup rfl (gs_cons (gΓ [0, 0, 9, 9, 9, 9] (g_name 1 (pg_name (i := 1) sc_high_masks.nd rfl (by first | exact Or.inl rfl | exact Or.inr rfl)) rfl) rfl) (gs_cons (gΓ [0, 0, 0, 9, 9, 9] (g_name 2 (pg_name (i := 2) sc_high_masks.nd rfl (by first | exact Or.inl rfl | exact Or.inr rfl)) rfl) rfl) gs_nil))))
      (b_cons (sΓ [0, 0, 0, 1, 9, 9] (s_set 3 sc_high_masks.nd rfl (by first | exact Or.inl rfl | exact Or.inr rfl) (e_mul (e_lst 7 (a_cons se_int a_nil rfl) (by decide) rfl) (v0 1 (pv 1) rfl)) rfl) rfl)
      (b_cons (s_for [0, 0, 0, 1, 0, 0] [0, 0, 0, 1, 0, 0] (passes_of rfl) rfl (i_seq (v0 2 (pv 2) rfl)) (g_tup rfl (gs_cons (gΓ [0, 0, 0, 1, 0, 0] (g_name 4 (pg_name (i := 4) sc_high_masks.nd rfl (by first | exact Or.inl rfl | exact Or.inr rfl)) rfl) rfl) (gs_cons (gΓ [0, 0, 0, 1, 0, 0] (g_name 5 (pg_name (i := 5) sc_high_masks.nd rfl (by first | exact Or.inl rfl | exact Or.inr rfl)) rfl) rfl) gs_nil))) (b_one (s_asg (e_or (e_ixO 3 0 rfl (pv 3) (v0 4 (pv 4) rfl) (fun _ _ => rfl)) (e_shl se_int (v0 5 (pv 5) rfl))) (gΓ [0, 0, 0, 1, 0, 0] (g_sub 3 0 0 rfl (by decide) (by decide) (pv 3) (v0 4 (pv 4) rfl)) rfl))) rfl rfl)
      (b_one (s_ret (c_tuple rfl T.z_tuple (eΓ [0, 0, 0, 0, 0, 0] (se_var 3 (pv 3)) rfl) rfl) (by decide) rfl)))))
theorem ok_at_least_masks (T : Tx K mg) : FnOk P w K mg base (L2.CX P w) 2 T.a_at_least_masks T.d_at_least_masks ["order"] (spM K mg [0] 9 F_at_least_masks) :=
  have G_high_masks : FnOk P w K mg base (L2.CX P w) 1 T.a_high_masks T.d_high_masks ["order"] (spM K mg [0] 9 F_high_masks) := ok_high_masks T
  fn_ok T.u_at_least_masks sc_at_least_masks [0] [0, 0] 9 m_at_least_masks [0, 0, 0] rfl rfl (by decide) fun cdv A outer s H E hr => by
    have hu65 : (A.deeper (envOfC "at_least_masks" (defScope s_at_least_masks) s.heap.objs.size T.a_at_least_masks cdv)).units + 65 < cLine := by have := hr.un; omega
    exact (b_one (s_ret (c_tuple rfl T.z_tuple (e_lc (own := [("x", 1), ("mask", 2)]) [0, 0, 0] rfl sc_at_least_masks.nd (i_enum rfl T.z_enumerate (eΓ [0, 9, 9] (e_call (takes_of rfl rfl rfl rfl) G_high_masks (hr.mono (by first | exact Nat.le_refl _ | decide | omega)) rfl T.g_high_masks T.k_high_masks T.b_high_masks (r_val (v0 0 (pv 0) rfl) r_nil rfl) rfl) rfl) rfl) (blkOk_by (by show blkC ["order", "x", "mask"] (defScope s_at_least_masks) _ _ = true; decide +kernel)) (fun _ _ _ _ _ => (g_tup rfl (gs_cons (gΓ [0, 0, 0] (g_name 1 (pg_name (i := 1) sc_at_least_masks.nd rfl (by first | exact Or.inl rfl | exact Or.inr rfl)) rfl) rfl) (gs_cons (gΓ [0, 0, 0] (g_name 2 (pg_name (i := 2) sc_at_least_masks.nd rfl (by first | exact Or.inl rfl | exact Or.inr rfl)) rfl) rfl) gs_nil)))) (fun _ _ _ _ _ => ts_nil) (fun _ _ _ _ _ => (e_or (v0 2 (pv 2) rfl) (e_shl se_int (v0 1 (pv 1) rfl)))) rfl rfl rfl) rfl) (by decide) rfl))
theorem ok_induced (T : Tx K mg) : FnOk P w K mg base (L2.CX P w) 1 T.a_induced T.d_induced ["order", "points"] (spM K mg [0, 0] 9 F_induced) :=
  fn_ok T.u_induced sc_induced [0, 0] [0, 0, 0, 0, 0, 0] 9 m_induced [0, 0, 0, 0, 0, 0, 0, 0] rfl rfl (by decide) fun cdv A outer s H E hr => by
    have hu65 : (A.deeper (envOfC "induced" (defScope s_induced) s.heap.objs.size T.a_induced cdv)).units + 65 < cLine := by have := hr.un; omega
    exact (b_cons (sΓ [0, 0, 9, 9, 0, 0, 9, 9] (s_set 2 sc_induced.nd rfl (by first | exact Or.inl rfl | exact Or.inr rfl) (e_dc (own := [("place", 4), ("point", 5)]) [0, 0, 9, 9, 0, 0, 9, 9] rfl sc_induced.nd (i_enum rfl T.z_enumerate (v0 1 (pv 1) rfl) rfl) (blkOk_by (by show blkC ["order", "points", "places", "pairs", "place", "point", "x", "y"] (defScope s_induced) _ _ = true; decide +kernel)) (fun _ _ _ _ _ => (g_tup rfl (gs_cons (gΓ [0, 0, 9, 9, 0, 0, 9, 9] (g_name 4 (pg_name (i := 4) sc_induced.nd rfl (by first | exact Or.inl rfl | exact Or.inr rfl)) rfl) rfl) (gs_cons (gΓ [0, 0, 9, 9, 0, 0, 9, 9] (g_name 5 (pg_name (i := 5) sc_induced.nd rfl (by first | exact Or.inl rfl | exact Or.inr rfl)) rfl) rfl) gs_nil)))) (fun _ _ _ _ _ => ts_nil) (fun _ _ _ _ _ => (v0 5 (pv 5) rfl)) (fun _ _ _ _ _ => (v0 4 (pv 4) rfl)) rfl rfl rfl) rfl) rfl)
      (b_cons (sΓ [0, 0, 0, 10, 0, 0, 0, 0] (s_setLc (own := [("x", 6), ("y", 7)]) 3 [0, 0, 0, 9, 0, 0, 0, 0] rfl sc_induced.nd rfl rfl rfl (sw_true rfl rfl rfl (by decide +kernel)) (i_seq (e_ixA hu65 (v0 0 (pv 0) rfl) se_int (fun _ _ => rfl))) (blkOk_by (by show blkC ["order", "points", "places", "pairs", "place", "point", "x", "y"] (defScope s_induced) _ _ = true; decide +kernel)) (fun _ _ _ _ _ => (g_tup rfl (gs_cons (gΓ [0, 0, 0, 9, 0, 0, 0, 0] (g_name 6 (pg_name (i := 6) sc_induced.nd rfl (by first | exact Or.inl rfl | exact Or.inr rfl)) rfl) rfl) (gs_cons (gΓ [0, 0, 0, 9, 0, 0, 0, 0] (g_name 7 (pg_name (i := 7) sc_induced.nd rfl (by first | exact Or.inl rfl | exact Or.inr rfl)) rfl) rfl) gs_nil)))) (fun _ _ _ _ _ => (ts_one (st_bool (sw_and (t_inA hu65 (v0 6 (pv 6) rfl) (v0 2 (pv 2) rfl) (by rfl)) (sw_and1 (t_inA hu65 (v0 7 (pv 7) rfl) (v0 2 (pv 2) rfl) (by rfl))) rfl)))) (fun _ _ _ _ _ => (e_tup (a_cons (e_ixA hu65 (v0 2 (pv 2) rfl) (v0 6 (pv 6) rfl) (fun _ _ => rfl)) (a_cons (e_ixA hu65 (v0 2 (pv 2) rfl) (v0 7 (pv 7) rfl) (fun _ _ => rfl)) a_nil rfl) rfl) (by decide))) rfl rfl rfl) rfl)
      (b_one (s_ret (e_tup (a_cons (c_len rfl T.z_len (v0 1 (pv 1) rfl) rfl) (a_cons (c_tuple rfl T.z_tuple (eΓ [0, 0, 0, 0, 0, 0, 0, 0] (se_var 3 (pv 3)) rfl) rfl) a_nil rfl) rfl) (by decide)) (by decide) rfl))))
theorem ok_opposite (T : Tx K mg) : FnOk P w K mg base (L2.CX P w) 1 T.a_opposite T.d_opposite ["order"] (spM K mg [0] 9 F_opposite) :=
  fn_ok T.u_opposite sc_opposite [0] [0, 0, 0, 0] 9 m_opposite [0, 0, 0, 0, 0] rfl rfl (by decide) fun cdv A outer s H E hr => by
    have hu65 : (A.deeper (envOfC "opposite" (defScope s_opposite) s.heap.objs.size T.a_opposite cdv)).units + 65 < cLine := by have := hr.un; omega
    exact (b_cons (s_asg (v0 0 (pv 0) rfl) (g_tup rfl (gs_cons (gΓ [0, 0, 9, 9, 9] (g_name 1 (pg_name (i := 1) sc_opposite.nd rfl (by first | exact Or.inl rfl | exact Or.inr rfl)) rfl) rfl) (gs_cons (gΓ [0, 0, 0, 9, 9] (g_name 2 (pg_name (i := 2) sc_opposite.nd rfl (by first | exact Or.inl rfl | exact Or.inr rfl)) rfl) rfl) gs_nil))))
      (b_one (s_ret (e_tup (a_cons (v0 1 (pv 1) rfl) (a_cons (c_tuple rfl T.z_tuple (c_sorted rfl rfl T.z_sorted (e_lc (own := [("x", 3), ("y", 4)]) [0, 0, 0, 0, 0] rfl sc_opposite.nd (i_seq (v0 2 (pv 2) rfl)) (blkOk_by (by show blkC ["order", "n", "pairs", "x", "y"] (defScope s_opposite) _ _ = true; decide +kernel)) (fun _ _ _ _ _ => (g_tup rfl (gs_cons (gΓ [0, 0, 0, 0, 0] (g_name 3 (pg_name (i := 3) sc_opposite.nd rfl (by first | exact Or.inl rfl | exact Or.inr rfl)) rfl) rfl) (gs_cons (gΓ [0, 0, 0, 0, 0] (g_name 4 (pg_name (i := 4) sc_opposite.nd rfl (by first | exact Or.inl rfl | exact Or.inr rfl)) rfl) rfl) gs_nil)))) (fun _ _ _ _ _ => ts_nil) (fun _ _ _ _ _ => (e_tup (a_cons (v0 4 (pv 4) rfl) (a_cons (v0 3 (pv 3) rfl) a_nil rfl) rfl) (by decide))) rfl rfl rfl) rfl) rfl) a_nil rfl) rfl) (by decide)) (by decide) rfl)))
theorem ok__check_size (T : Tx K mg) : FnOk P w K mg base (L2.CX P w) 1 T.a__check_size T.d__check_size ["n"] (spM K mg [0] 9 F__check_size) :=
  fn_ok T.u__check_size sc__check_size [0] [] 9 m__check_size [0] rfl rfl (by decide) fun cdv A outer s H E hr => by
    have hu65 : (A.deeper (envOfC "_check_size" (defScope s__check_size) s.heap.objs.size T.a__check_size cdv)).units + 65 < cLine := by have := hr.un; omega
    exact (b_one (s_if (t_gt (v0 0 (pv 0) rfl) (se_glob (pe_glob rfl T.c_MOST.choose_spec ⟨_, rfl⟩))) (b_one s_never) b_nil))
theorem ok_beside (T : Tx K mg) : FnOk P w K mg base (L2.CX P w) 2 T.a_beside T.d_beside ["first", "second"] (spM K mg [0, 0] 9 F_beside) :=
  have G__check_size : FnOk P w K mg base (L2.CX P w) 1 T.a__check_size T.d__check_size ["n"] (spM K mg [0] 9 F__check_size) := ok__check_size T
  fn_ok T.u_beside sc_beside [0, 0] [0, 0, 0, 0, 0, 0] 9 m_beside [0, 0, 0, 0, 0, 0, 0, 0] rfl rfl (by decide) fun cdv A outer s H E hr => by
    have hu65 : (A.deeper (envOfC "beside" (defScope s_beside) s.heap.objs.size T.a_beside cdv)).units + 65 < cLine := by have := hr.un; omega
    exact (b_cons (s_asg (v0 0 (pv 0) rfl) (g_tup rfl (gs_cons (gΓ [0, 0, 0, 9, 9, 9, 9, 9] (g_name 2 (pg_name (i := 2) sc_beside.nd rfl (by first | exact Or.inl rfl | exact Or.inr rfl)) rfl) rfl) (gs_cons (gΓ [0, 0, 0, 0, 9, 9, 9, 9] (g_name 3 (pg_name (i := 3) sc_beside.nd rfl (by first | exact Or.inl rfl | exact Or.inr rfl)) rfl) rfl) gs_nil))))
      (b_cons (s_asg (v0 1 (pv 1) rfl) (g_tup rfl (gs_cons (gΓ [0, 0, 0, 0, 0, 9, 9, 9] (g_name 4 (pg_name (i := 4) sc_beside.nd rfl (by first | exact Or.inl rfl | exact Or.inr rfl)) rfl) rfl) (gs_cons (gΓ [0, 0, 0, 0, 0, 0, 9, 9] (g_name 5 (pg_name (i := 5) sc_beside.nd rfl (by first | exact Or.inl rfl | exact Or.inr rfl)) rfl) rfl) gs_nil))))
      (b_cons (s_expr (eΓ [0, 0, 0, 0, 0, 0, 9, 9] (e_call (takes_of rfl rfl rfl rfl) G__check_size (hr.mono (by first | exact Nat.le_refl _ | decide | omega)) rfl T.g__check_size T.k__check_size T.b__check_size (r_val (e_add (v0 2 (pv 2) rfl) (v0 4 (pv 4) rfl)) r_nil rfl) rfl) rfl))
      (b_one (s_ret (e_tup (a_cons (e_add (v0 2 (pv 2) rfl) (v0 4 (pv 4) rfl)) (a_cons (e_add (v0 3 (pv 3) rfl) (c_tuple rfl T.z_tuple (e_lc (own := [("p", 6), ("q", 7)]) [0, 0, 0, 0, 0, 0, 0, 0] rfl sc_beside.nd (i_seq (v0 5 (pv 5) rfl)) (blkOk_by (by show blkC ["first", "second", "n", "pairs", "m", "others", "p", "q"] (defScope s_beside) _ _ = true; decide +kernel)) (fun _ _ _ _ _ => (g_tup rfl (gs_cons (gΓ [0, 0, 0, 0, 0, 0, 0, 0] (g_name 6 (pg_name (i := 6) sc_beside.nd rfl (by first | exact Or.inl rfl | exact Or.inr rfl)) rfl) rfl) (gs_cons (gΓ [0, 0, 0, 0, 0, 0, 0, 0] (g_name 7 (pg_name (i := 7) sc_beside.nd rfl (by first | exact Or.inl rfl | exact Or.inr rfl)) rfl) rfl) gs_nil)))) (fun _ _ _ _ _ => ts_nil) (fun _ _ _ _ _ => (e_tup (a_cons (e_add (v0 2 (pv 2) rfl) (v0 6 (pv 6) rfl)) (a_cons (e_add (v0 2 (pv 2) rfl) (v0 7 (pv 7) rfl)) a_nil rfl) rfl) (by decide))) rfl rfl rfl) rfl)) a_nil rfl) rfl) (by decide)) (by decide) rfl)))))
theorem ok_on_top (T : Tx K mg) : FnOk P w K mg base (L2.CX P w) 3 T.a_on_top T.d_on_top ["first", "second"] (spM K mg [0, 0] 9 F_on_top) :=
  have G_beside : FnOk P w K mg base (L2.CX P w) 2 T.a_beside T.d_beside ["first", "second"] (spM K mg [0, 0] 9 F_beside) := ok_beside T
  fn_ok T.u_on_top sc_on_top [0, 0] [0, 0, 0, 0, 0, 0, 0] 9 m_on_top [0, 0, 0, 0, 0, 0, 0, 0, 0] rfl rfl (by decide) fun cdv A outer s H E hr => by
    have hu65 : (A.deeper (envOfC "on_top" (defScope s_on_top) s.heap.objs.size T.a_on_top cdv)).units + 65 < cLine := by have := hr.un; omega
    exact (b_cons (sΓ [0, 0, 0, 9, 9, 9, 9, 9, 9] (s_set 2 sc_on_top.nd rfl (by first | exact Or.inl rfl | exact Or.inr rfl) (e_ixA hu65 (v0 0 (pv 0) rfl) se_int (fun _ _ => rfl)) rfl) rfl)
      (b_cons (sΓ [0, 0, 0, 0, 9, 9, 9, 9, 9] (s_set 3 sc_on_top.nd rfl (by first | exact Or.inl rfl | exact Or.inr rfl) (e_ixA hu65 (v0 1 (pv 1) rfl) se_int (fun _ _ => rfl)) rfl) rfl)
      (b_cons (s_asg (eΓ [0, 0, 0, 0, 9, 9, 9, 9, 9] (e_call (takes_of rfl rfl rfl rfl) G_beside (hr.mono (by first | exact Nat.le_refl _ | decide | omega)) rfl T.g_beside T.k_beside T.b_beside (r_val (v0 0 (pv 0) rfl) (r_val (v0 1 (pv 1) rfl) r_nil rfl) rfl) rfl) rfl) (g_tup rfl (gs_cons (gΓ [0, 0, 0, 0, 0, 9, 9, 9, 9] (g_name 4 (pg_name (i := 4) sc_on_top.nd rfl (by first | exact Or.inl rfl | exact Or.inr rfl)) rfl) rfl) (gs_cons (gΓ [0, 0, 0, 0, 0, 0, 9, 9, 9] (g_name 5 (pg_name (i := 5) sc_on_top.nd rfl (by first | exact Or.inl rfl | exact Or.inr rfl)) rfl) rfl) gs_nil))))
      (b_cons (sΓ [0, 0, 0, 0, 0, 0, 10, 0, 0] (s_setLc2 (own := [("x", 7), ("q", 8)]) (vs1 := [8]) 6 [0, 0, 0, 0, 0, 0, 9, 0, 0] [0, 0, 0, 0, 0, 0, 9, 0, 0] rfl sc_on_top.nd rfl rfl rfl (sw_true rfl rfl rfl (by decide +kernel)) (i_range1 rfl T.z_range (v0 2 (pv 2) rfl) rfl) (blkOk_by (by show blkC ["first", "second", "n", "m", "total", "pairs", "between", "x", "q"] (defScope s_on_top) _ _ = true; decide +kernel)) (by decide) (fun _ _ _ _ _ => (gΓ [0, 0, 0, 0, 0, 0, 9, 0, 0] (g_name 7 (pg_name (i := 7) sc_on_top.nd rfl (by first | exact Or.inl rfl | exact Or.inr rfl)) rfl) rfl)) (fun _ _ _ _ _ => ts_nil) (fun _ _ _ _ _ => (i_range1 rfl T.z_range (v0 3 (pv 3) rfl) rfl)) (fun _ _ _ _ _ => (gΓ [0, 0, 0, 0, 0, 0, 9, 0, 0] (g_name 8 (pg_name (i := 8) sc_on_top.nd rfl (by first | exact Or.inl rfl | exact Or.inr rfl)) rfl) rfl)) (fun _ _ _ _ _ => ts_nil) (fun _ _ _ _ _ => (e_tup (a_cons (v0 7 (pv 7) rfl) (a_cons (e_add (v0 2 (pv 2) rfl) (v0 8 (pv 8) rfl)) a_nil rfl) rfl) (by decide))) rfl rfl rfl rfl rfl rfl) rfl)
      (b_one (s_ret (e_tup (a_cons (v0 4 (pv 4) rfl) (a_cons (c_tuple rfl T.z_tuple (c_sorted rfl rfl T.z_sorted (e_add (c_list rfl T.z_list (v0 5 (pv 5) rfl) rfl) (eΓ [0, 0, 0, 0, 0, 0, 0, 0, 0] (se_var 6 (pv 6)) rfl)) rfl) rfl) a_nil rfl) rfl) (by decide)) (by decide) rfl))))))
theorem ok__at_least (T : Tx K mg) : FnOk P w K mg base (L2.CX P w) 3 T.a__at_least T.d__at_least ["order"] (spM K mg [0] 9 F__at_least) :=
  have G_at_least_masks : FnOk P w K mg base (L2.CX P w) 2 T.a_at_least_masks T.d_at_least_masks ["order"] (spM K mg [0] 9 F_at_least_masks) := ok_at_least_masks T
  have G_points_in : FnOk P w K mg base (L2.CX P w) 1 T.a_points_in T.d_points_in ["mask"] (spM K mg [0] 9 F_points_in) := ok_points_in T
  fn_ok T.u__at_least sc__at_least [0] [0] 9 m__at_least [0, 0] rfl rfl (by decide) fun cdv A outer s H E hr => by
    have hu65 : (A.deeper (envOfC "_at_least" (defScope s__at_least) s.heap.objs.size T.a__at_least cdv)).units + 65 < cLine := by have := hr.un; omega
    exact (b_one (s_ret (e_lc (own := [("mask", 1)]) [0, 0] rfl sc__at_least.nd (i_seq (eΓ [0, 9] (e_call (takes_of rfl rfl rfl rfl) G_at_least_masks (hr.mono (by first | exact Nat.le_refl _ | decide | omega)) rfl T.g_at_least_masks T.k_at_least_masks T.b_at_least_masks (r_val (v0 0 (pv 0) rfl) r_nil rfl) rfl) rfl)) (blkOk_by (by show blkC ["order", "mask"] (defScope s__at_least) _ _ = true; decide +kernel)) (fun _ _ _ _ _ => (gΓ [0, 0] (g_name 1 (pg_name (i := 1) sc__at_least.nd rfl (by first | exact Or.inl rfl | exact Or.inr rfl)) rfl) rfl)) (fun _ _ _ _ _ => ts_nil) (fun _ _ _ _ _ => (eΓ [0, 0] (e_call takes0 G_points_in (hr.mono (by first | exact Nat.le_refl _ | decide | omega)) rfl T.g_points_in T.k_points_in T.b_points_in (r_val (v0 1 (pv 1) rfl) r_nil rfl) rfl) rfl)) rfl rfl rfl) (by decide) rfl))
theorem ok_product (T : Tx K mg) : FnOk P w K mg base (L2.CX P w) 4 T.a_product T.d_product ["first", "second"] (spM K mg [0, 0] 9 F_product) :=
  have G__check_size : FnOk P w K mg base (L2.CX P w) 1 T.a__check_size T.d__check_size ["n"] (spM K mg [0] 9 F__check_size) := ok__check_size T
  have G__at_least : FnOk P w K mg base (L2.CX P w) 3 T.a__at_least T.d__at_least ["order"] (spM K mg [0] 9 F__at_least) := ok__at_least T
  fn_ok T.u_product sc_product [0, 0] [0, 0, 0, 0, 0, 0, 0, 0, 0, 0, 0] 9 m_product [0, 0, 0, 0, 0, 0, 0, 0, 0, 0, 0, 0, 0] rfl rfl (by decide) fun cdv A outer s H E hr => by
    have hu65 : (A.deeper (envOfC "product" (defScope s_product) s.heap.objs.size T.a_product cdv)).units + 65 < cLine := by have := hr.un; omega
    exact (b_cons (sΓ [0, 0, 0, 9, 9, 9, 9, 9, 9, 9, 9, 9, 9] (s_set 2 sc_product.nd rfl (by first | exact Or.inl rfl | exact Or.inr rfl) (e_ixA hu65 (v0 0 (pv 0) rfl) se_int (fun _ _ => rfl)) rfl) rfl)
      (b_cons (sΓ [0, 0, 0, 0, 9, 9, 9, 9, 9, 9, 9, 9, 9] (s_set 3 sc_product.nd rfl (by first | exact Or.inl rfl | exact Or.inr rfl) (e_ixA hu65 (v0 1 (pv 1) rfl) se_int (fun _ _ => rfl)) rfl) rfl)
      (b_cons (s_expr (eΓ [0, 0, 0, 0, 9, 9, 9, 9, 9, 9, 9, 9, 9] (e_call (takes_of rfl rfl rfl rfl) G__check_size (hr.mono (by first | exact Nat.le_refl _ | decide | omega)) rfl T.g__check_size T.k__check_size T.b__check_size (r_val (e_mul (v0 2 (pv 2) rfl) (v0 3 (pv 3) rfl)) r_nil rfl) rfl) rfl))
      (b_cons (sΓ [0, 0, 0, 0, 9, 9, 9, 9, 9, 9, 9, 9, 9] (s_set 4 sc_product.nd rfl (by first | exact Or.inl rfl | exact Or.inr rfl) (eΓ [0, 0, 0, 0, 9, 9, 9, 9, 9, 9, 9, 9, 9] (e_call (takes_of rfl rfl rfl rfl) G__at_least (hr.mono (by first | exact Nat.le_refl _ | decide | omega)) rfl T.g__at_least T.k__at_least T.b__at_least (r_val (v0 0 (pv 0) rfl) r_nil rfl) rfl) rfl) rfl) rfl)
      (b_cons (sΓ [0, 0, 0, 0, 9, 9, 9, 9, 9, 9, 9, 9, 9] (s_set 5 sc_product.nd rfl (by first | exact Or.inl rfl | exact Or.inr rfl) (eΓ [0, 0, 0, 0, 9, 9, 9, 9, 9, 9, 9, 9, 9] (e_call (takes_of rfl rfl rfl rfl) G__at_least (hr.mono (by first | exact Nat.le_refl _ | decide | omega)) rfl T.g__at_least T.k__at_least T.b__at_least (r_val (v0 1 (pv 1) rfl) r_nil rfl) rfl) rfl) rfl) rfl)
      (b_cons (sΓ [0, 0, 0, 0, 9, 9, 8, 9, 9, 9, 9, 9, 9] (s_set 6 sc_product.nd rfl (by first | exact Or.inl rfl | exact Or.inr rfl) (e_lst 7 a_nil (by decide) rfl) rfl) rfl)
      (b_cons (s_for [0, 0, 0, 0, 0, 0, 1, 0, 0, 0, 0, 0, 0] [0, 0, 0, 0, 0, 0, 1, 0, 0, 0, 0, 0, 0] (passes_of rfl) rfl (i_range1 rfl T.z_range (v0 2 (pv 2) rfl) rfl) (gΓ [0, 0, 0, 0, 0, 0, 1, 0, 0, 0, 0, 0, 0] (g_name 7 (pg_name (i := 7) sc_product.nd rfl (by first | exact Or.inl rfl | exact Or.inr rfl)) rfl) rfl) (b_one (s_for [0, 0, 0, 0, 0, 0, 1, 0, 0, 0, 0, 0, 0] [0, 0, 0, 0, 0, 0, 1, 0, 0, 0, 0, 0, 0] (passes_of rfl) rfl (i_range1 rfl T.z_range (v0 3 (pv 3) rfl) rfl) (gΓ [0, 0, 0, 0, 0, 0, 1, 0, 0, 0, 0, 0, 0] (g_name 8 (pg_name (i := 8) sc_product.nd rfl (by first | exact Or.inl rfl | exact Or.inr rfl)) rfl) rfl) (b_cons (sΓ [0, 0, 0, 0, 0, 0, 1, 0, 0, 2, 0, 0, 0] (s_setLc2 (own := [("y", 10), ("r", 11)]) (vs1 := [11]) 9 [0, 0, 0, 0, 0, 0, 1, 0, 0, 0, 0, 0, 0] [0, 0, 0, 0, 0, 0, 1, 0, 0, 0, 0, 0, 0] rfl sc_product.nd rfl rfl rfl (sw_true rfl rfl rfl (by decide +kernel)) (i_seq (e_ixA hu65 (v0 4 (pv 4) rfl) (v0 7 (pv 7) rfl) (fun _ _ => rfl))) (blkOk_by (by show blkC ["first", "second", "n", "m", "outer", "inner", "pairs", "x", "q", "targets", "y", "r", "target"] (defScope s_product) _ _ = true; decide +kernel)) (by decide) (fun _ _ _ _ _ => (gΓ [0, 0, 0, 0, 0, 0, 1, 0, 0, 0, 0, 0, 0] (g_name 10 (pg_name (i := 10) sc_product.nd rfl (by first | exact Or.inl rfl | exact Or.inr rfl)) rfl) rfl)) (fun _ _ _ _ _ => ts_nil) (fun _ _ _ _ _ => (i_seq (e_ixA hu65 (v0 5 (pv 5) rfl) (v0 8 (pv 8) rfl) (fun _ _ => rfl)))) (fun _ _ _ _ _ => (gΓ [0, 0, 0, 0, 0, 0, 1, 0, 0, 0, 0, 0, 0] (g_name 11 (pg_name (i := 11) sc_product.nd rfl (by first | exact Or.inl rfl | exact Or.inr rfl)) rfl) rfl)) (fun _ _ _ _ _ => ts_nil) (fun _ _ _ _ _ => (e_add (e_mul (v0 10 (pv 10) rfl) (v0 3 (pv 3) rfl)) (v0 11 (pv 11) rfl))) rfl rfl rfl rfl rfl rfl) rfl)
      (b_one (s_expr (eΓ [0, 0, 0, 0, 0, 0, 1, 0, 0, 0, 0, 0, 0] (e_extend 6 0 0 rfl rfl (pv 6) (e_lc (own := [("target", 12)]) [0, 0, 0, 0, 0, 0, 1, 0, 0, 0, 0, 0, 0] rfl sc_product.nd (i_seq (eΓ [0, 0, 0, 0, 0, 0, 1, 0, 0, 0, 0, 0, 0] (se_var 9 (pv 9)) rfl)) (blkOk_by (by show blkC ["first", "second", "n", "m", "outer", "inner", "pairs", "x", "q", "targets", "y", "r", "target"] (defScope s_product) _ _ = true; decide +kernel)) (fun _ _ _ _ _ => (gΓ [0, 0, 0, 0, 0, 0, 1, 0, 0, 0, 0, 0, 0] (g_name 12 (pg_name (i := 12) sc_product.nd rfl (by first | exact Or.inl rfl | exact Or.inr rfl)) rfl) rfl)) (fun _ _ _ _ _ => (ts_one (t_ne hr.units (v0 12 (pv 12) rfl) (e_add (e_mul (v0 7 (pv 7) rfl) (v0 3 (pv 3) rfl)) (v0 8 (pv 8) rfl))))) (fun _ _ _ _ _ => (e_tup (a_cons (e_add (e_mul (v0 7 (pv 7) rfl) (v0 3 (pv 3) rfl)) (v0 8 (pv 8) rfl)) (a_cons (v0 12 (pv 12) rfl) a_nil rfl) rfl) (by decide))) rfl rfl rfl) (fun ha => pe_bm PySem.F.plainAttrs_list PySem.F.slot_list_extend PySem.F.type_list_extend mt_extend (pv 6) ha) rfl) rfl)))) rfl rfl)) rfl rfl)
      (b_one (s_ret (e_tup (a_cons (e_mul (v0 2 (pv 2) rfl) (v0 3 (pv 3) rfl)) (a_cons (c_tuple rfl T.z_tuple (eΓ [0, 0, 0, 0, 0, 0, 0, 0, 0, 0, 0, 0, 0] (se_var 6 (pv 6)) rfl) rfl) a_nil rfl) rfl) (by decide)) (by decide) rfl)))))))))
theorem ok__law_mix (T : Tx K mg) : FnOk P w K mg base (L2.CX P w) 1 T.a__law_mix T.d__law_mix ["seed", "turn"] (spM K mg [0, 0] 9 F__law_mix) :=
  fn_ok T.u__law_mix sc__law_mix [0, 0] [0] 9 m__law_mix [0, 0, 0] rfl rfl (by decide) fun cdv A outer s H E hr => by
    have hu65 : (A.deeper (envOfC "_law_mix" (defScope s__law_mix) s.heap.objs.size T.a__law_mix cdv)).units + 65 < cLine := by have := hr.un; omega
    exact (b_cons (sΓ [0, 0, 9] (s_set 2 sc__law_mix.nd rfl (by first | exact Or.inl rfl | exact Or.inr rfl) (e_mod (c_int rfl T.z_int (e_add (e_add (e_mul (v0 0 (pv 0) rfl) se_int) (e_mul (v0 1 (pv 1) rfl) se_int)) se_int) rfl) se_int) rfl) rfl)
      (b_one (s_ret (e_mod (c_int rfl T.z_int (e_add (e_add (e_mul (eΓ [0, 0, 0] (se_var 2 (pv 2)) rfl) (v0 2 (pv 2) rfl)) (e_mul (v0 1 (pv 1) rfl) se_int)) (e_div (v0 2 (pv 2) rfl) se_int)) rfl) se_int) (by decide) rfl)))
theorem ok__law_open (T : Tx K mg) : FnOk P w K mg base (L2.CX P w) 1 T.a__law_open T.d__law_open ["script"] (spM K mg [0] 1 F__law_open) :=
  fn_ok T.u__law_open sc__law_open [0] [0, 0, 0] 1 m__law_open [0, 0, 0, 0] rfl rfl (by decide) fun cdv A outer s H E hr => by
    have hu65 : (A.deeper (envOfC "_law_open" (defScope s__law_open) s.heap.objs.size T.a__law_open cdv)).units + 65 < cLine := by have := hr.un; omega
    exact (b_cons (sΓ [0, 1, 9, 0] (s_set 1 sc__law_open.nd rfl (by first | exact Or.inl rfl | exact Or.inr rfl) (e_sl (e_lc (own := [("cell", 3)]) [0, 9, 9, 0] rfl sc__law_open.nd (i_seq (v0 0 (pv 0) rfl)) (blkOk_by (by show blkC ["script", "cells", "seed", "cell"] (defScope s__law_open) _ _ = true; decide +kernel)) (fun _ _ _ _ _ => (gΓ [0, 9, 9, 0] (g_name 3 (pg_name (i := 3) sc__law_open.nd rfl (by first | exact Or.inl rfl | exact Or.inr rfl)) rfl) rfl)) (fun _ _ _ _ _ => ts_nil) (fun _ _ _ _ _ => (c_int rfl T.z_int (v0 3 (pv 3) rfl) rfl)) rfl rfl rfl) po_noneM (po_someM se_int)) rfl) rfl)
      (b_cons (sΓ [0, 1, 1, 0] (s_set 2 sc__law_open.nd rfl (by first | exact Or.inl rfl | exact Or.inr rfl) (e_add se_int (c_lenO (i := 1) (n := 0) rfl rfl T.z_len (pv 1) rfl)) rfl) rfl)
      (b_cons (s_for [0, 0, 1, 0] [0, 0, 1, 0] (passes_of rfl) rfl (i_seq (eΓ [0, 0, 1, 0] (se_var 1 (pv 1)) rfl)) (gΓ [0, 0, 1, 0] (g_name 3 (pg_name (i := 3) sc__law_open.nd rfl (by first | exact Or.inl rfl | exact Or.inr rfl)) rfl) rfl) (bW [0, 0, 1, 0] (b_one (sΓ [0, 0, 9, 0] (s_set 2 sc__law_open.nd rfl (by first | exact Or.inl rfl | exact Or.inr rfl) (e_mod (c_int rfl T.z_int (e_add (e_mul (eΓ [0, 0, 0, 0] (se_var 2 (pv 2)) rfl) se_int) (v0 3 (pv 3) rfl)) rfl) se_int) rfl) rfl)) rfl) rfl rfl)
      (b_one (s_ret (e_lst 0 (a_cons (v0 1 (pv 1) rfl) (a_cons se_int (a_cons se_int (a_cons se_int (a_cons se_int (a_cons (eΓ [0, 0, 0, 0] (se_var 2 (pv 2)) rfl) a_nil rfl) rfl) rfl) rfl) rfl) rfl) (by decide) rfl) (by decide) rfl)))))
theorem ok__law_pick (T : Tx K mg) : FnOk P w K mg base (L2.CX P w) 2 T.a__law_pick T.d__law_pick ["feed", "many"] (spM K mg [1, 0] 9 F__law_pick) :=
  have G__law_mix : FnOk P w K mg base (L2.CX P w) 1 T.a__law_mix T.d__law_mix ["seed", "turn"] (spM K mg [0, 0] 9 F__law_mix) := ok__law_mix T
  fn_ok T.u__law_pick sc__law_pick [1, 0] [0] 9 m__law_pick [1, 0, 0] rfl rfl (by decide) fun cdv A outer s H E hr => by
    have hu65 : (A.deeper (envOfC "_law_pick" (defScope s__law_pick) s.heap.objs.size T.a__law_pick cdv)).units + 65 < cLine := by have := hr.un; omega
    exact (b_cons (s_if (st_bool (sw_and (t_eq hr.units (e_ixO 0 0 rfl (pv 0) se_int (fun _ _ => rfl)) se_int) (sw_and1 (t_lt (e_ixO 0 0 rfl (pv 0) se_int (fun _ _ => rfl)) (c_len rfl T.z_len (e_ixO 0 0 rfl (pv 0) se_int (fun _ _ => rfl)) rfl))) rfl)) (b_cons (s_asg (e_ixA hu65 (e_ixO 0 0 rfl (pv 0) se_int (fun _ _ => rfl)) (e_ixO 0 0 rfl (pv 0) se_int (fun _ _ => rfl)) (fun _ _ => rfl)) (gΓ [1, 0, 9] (g_sub 0 0 0 rfl (by decide) (by decide) (pv 0) se_int) rfl))
      (b_cons (s_asg (e_add (e_ixO 0 0 rfl (pv 0) se_int (fun _ _ => rfl)) se_int) (gΓ [1, 0, 9] (g_sub 0 0 0 rfl (by decide) (by decide) (pv 0) se_int) rfl))
      (b_one (s_asg (e_if (t_ge (e_ixO 0 0 rfl (pv 0) se_int (fun _ _ => rfl)) (e_pow se_int se_int)) se_int se_int [1, 0, 9] 9 rfl rfl (by decide) (by decide)) (gΓ [1, 0, 9] (g_sub 0 0 0 rfl (by decide) (by decide) (pv 0) se_int) rfl))))) b_nil)
      (b_cons (s_if (t_gt (e_ixO 0 0 rfl (pv 0) se_int (fun _ _ => rfl)) se_int) (b_cons (sΓ [1, 0, 9] (s_set 2 sc__law_pick.nd rfl (by first | exact Or.inl rfl | exact Or.inr rfl) (e_mod (c_int rfl T.z_int (e_ixO 0 0 rfl (pv 0) se_int (fun _ _ => rfl)) rfl) (v0 1 (pv 1) rfl)) rfl) rfl)
      (b_cons (s_asg (e_div (e_ixO 0 0 rfl (pv 0) se_int (fun _ _ => rfl)) (v0 1 (pv 1) rfl)) (gΓ [1, 0, 9] (g_sub 0 0 0 rfl (by decide) (by decide) (pv 0) se_int) rfl))
      (b_cons (s_asg (e_if (t_gt (e_ixO 0 0 rfl (pv 0) se_int (fun _ _ => rfl)) se_int) (e_sub (e_ixO 0 0 rfl (pv 0) se_int (fun _ _ => rfl)) se_int) se_int [1, 0, 9] 9 rfl rfl (by decide) (by decide)) (gΓ [1, 0, 9] (g_sub 0 0 0 rfl (by decide) (by decide) (pv 0) se_int) rfl))
      (b_one (s_retO 2 (pv 2) (by decide) rfl rfl))))) b_nil)
      (b_cons (s_asg (e_add (e_ixO 0 0 rfl (pv 0) se_int (fun _ _ => rfl)) se_int) (gΓ [1, 0, 9] (g_sub 0 0 0 rfl (by decide) (by decide) (pv 0) se_int) rfl))
      (b_one (s_ret (e_mod (c_int rfl T.z_int (eΓ [1, 0, 9] (e_call (takes_of rfl rfl rfl rfl) G__law_mix (hr.mono (by first | exact Nat.le_refl _ | decide | omega)) rfl T.g__law_mix T.k__law_mix T.b__law_mix (r_val (e_ixO 0 0 rfl (pv 0) se_int (fun _ _ => rfl)) (r_val (e_ixO 0 0 rfl (pv 0) se_int (fun _ _ => rfl)) r_nil rfl) rfl) rfl) rfl) rfl) (v0 1 (pv 1) rfl)) (by decide) rfl)))))
theorem ok__law_of (T : Tx K mg) : FnOk P w K mg base (L2.CX P w) 3 T.a__law_of T.d__law_of ["feed", "row"] (spM K mg [1, 0] 0 F__law_of) :=
  have G__law_pick : FnOk P w K mg base (L2.CX P w) 2 T.a__law_pick T.d__law_pick ["feed", "many"] (spM K mg [1, 0] 9 F__law_pick) := ok__law_pick T
  fn_ok T.u__law_of sc__law_of [1, 0] [] 0 m__law_of [1, 0] rfl rfl (by decide) fun cdv A outer s H E hr => by
    have hu65 : (A.deeper (envOfC "_law_of" (defScope s__law_of) s.heap.objs.size T.a__law_of cdv)).units + 65 < cLine := by have := hr.un; omega
    exact (b_one (s_ret (e_ixA hu65 (v0 1 (pv 1) rfl) (eΓ [1, 0] (e_call (takes_of rfl rfl rfl rfl) G__law_pick (hr.mono (by first | exact Nat.le_refl _ | decide | omega)) rfl T.g__law_pick T.k__law_pick T.b__law_pick (r_bor 0 (pv 0) (r_val (c_len rfl T.z_len (v0 1 (pv 1) rfl) rfl) r_nil rfl) rfl) rfl) rfl) (fun _ _ => rfl)) (by decide) rfl))
theorem ok__law_mixed (T : Tx K mg) : FnOk P w K mg base (L2.CX P w) 3 T.a__law_mixed T.d__law_mixed ["feed", "row"] (spM K mg [1, 0] 1 F__law_mixed) :=
  have G__law_pick : FnOk P w K mg base (L2.CX P w) 2 T.a__law_pick T.d__law_pick ["feed", "many"] (spM K mg [1, 0] 9 F__law_pick) := ok__law_pick T
  fn_ok T.u__law_mixed sc__law_mixed [1, 0] [0, 0] 1 m__law_mixed [1, 0, 0, 0] rfl rfl (by decide) fun cdv A outer s H E hr => by
    have hu65 : (A.deeper (envOfC "_law_mixed" (defScope s__law_mixed) s.heap.objs.size T.a__law_mixed cdv)).units + 65 < cLine := by have := hr.un; omega
    exact (b_cons (sΓ [1, 0, 8, 9] (s_set 2 sc__law_mixed.nd rfl (by first | exact Or.inl rfl | exact Or.inr rfl) (e_lst 7 a_nil (by decide) rfl) rfl) rfl)
      (b_cons (s_for [1, 0, 1, 0] [1, 0, 1, 0] (passes_of rfl) rfl (i_seq (v0 1 (pv 1) rfl)) (gΓ [1, 0, 1, 0] (g_name 3 (pg_name (i := 3) sc__law_mixed.nd rfl (by first | exact Or.inl rfl | exact Or.inr rfl)) rfl) rfl) (b_one (s_expr (eΓ [1, 0, 1, 0] (e_insert 2 0 0 0 rfl rfl (by decide) (by decide) (pv 2) (eΓ [1, 0, 1, 0] (e_call (takes_of rfl rfl rfl rfl) G__law_pick (hr.mono (by first | exact Nat.le_refl _ | decide | omega)) rfl T.g__law_pick T.k__law_pick T.b__law_pick (r_bor 0 (pv 0) (r_val (e_add (c_lenO (i := 2) (n := 0) rfl rfl T.z_len (pv 2) rfl) se_int) r_nil rfl) rfl) rfl) rfl) (v0 3 (pv 3) rfl) (fun ha => pe_bm PySem.F.plainAttrs_list PySem.F.slot_list_insert PySem.F.type_list_insert mt_insert (pv 2) ha) rfl rfl) rfl))) rfl rfl)
      (b_one (s_retO 2 (pv 2) (by decide) rfl rfl))))
theorem ok__law_same (T : Tx K mg) : ∀ n : Nat, FnOk P w K mg base (L2.CX P w) (0 + n) T.a__law_same T.d__law_same ["told", "due"] (spM K mg [0, 0] 9 (F__law_same n))
  | 0 => fn_stuck rfl
  | n + 1 =>
  have G__law_same := ok__law_same T n
  fn_ok T.u__law_same sc__law_same [0, 0] [0] 9 (m__law_same (F__law_same n)) [0, 0, 0] rfl rfl (by decide) fun cdv A outer s H E hr => by
    have hu65 : (A.deeper (envOfC "_law_same" (defScope s__law_same) s.heap.objs.size T.a__law_same cdv)).units + 65 < cLine := by have := hr.un; omega
    exact (b_cons (s_if (st_tru (c_isi "tuple" rfl T.z_isinstance (v0 1 (pv 1) rfl) rfl T.z_tuple PyProof.Rows.boot_tuple rfl) (fun _ => rfl)) (b_cons (s_if (st_bool (sw_or (st_not (st_tru (c_isi "tuple" rfl T.z_isinstance (v0 0 (pv 0) rfl) rfl T.z_tuple PyProof.Rows.boot_tuple rfl) (fun _ => rfl))) (sw_or1 (t_ne hr.units (c_len rfl T.z_len (v0 0 (pv 0) rfl) rfl) (c_len rfl T.z_len (v0 1 (pv 1) rfl) rfl))) rfl)) (b_one (s_ret se_bl (by decide) rfl)) b_nil)
      (b_one (s_ret (c_all rfl rfl T.z_all (e_lc (own := [("k", 2)]) [0, 0, 0] rfl sc__law_same.nd (i_range1 rfl T.z_range (c_len rfl T.z_len (v0 1 (pv 1) rfl) rfl) rfl) (blkOk_by (by show blkC ["told", "due", "k"] (defScope s__law_same) _ _ = true; decide +kernel)) (fun _ _ _ _ _ => (gΓ [0, 0, 0] (g_name 2 (pg_name (i := 2) sc__law_same.nd rfl (by first | exact Or.inl rfl | exact Or.inr rfl)) rfl) rfl)) (fun _ _ _ _ _ => ts_nil) (fun _ _ _ _ _ => (eΓ [0, 0, 0] (e_call takes0 G__law_same (hr.mono (by first | exact Nat.le_refl _ | decide | omega)) rfl T.g__law_same T.k__law_same T.b__law_same (r_val (e_ixA hu65 (v0 0 (pv 0) rfl) (v0 2 (pv 2) rfl) (fun _ _ => rfl)) (r_val (e_ixA hu65 (v0 1 (pv 1) rfl) (v0 2 (pv 2) rfl) (fun _ _ => rfl)) r_nil rfl) rfl) rfl) rfl)) rfl rfl rfl) rfl) (by decide) rfl))) b_nil)
      (b_cons (s_if (t_isN (v0 1 (pv 1) rfl) se_non) (b_one (s_ret (e_isN (v0 0 (pv 0) rfl) se_non) (by decide) rfl)) b_nil)
      (b_cons (s_if (st_tru (c_isi "str" rfl T.z_isinstance (v0 1 (pv 1) rfl) rfl T.z_str PyProof.Rows.boot_str rfl) (fun _ => rfl)) (b_one (s_ret (v_and (c_isi "str" rfl T.z_isinstance (v0 0 (pv 0) rfl) rfl T.z_str PyProof.Rows.boot_str rfl) (v_one (e_eq hr.units (v0 0 (pv 0) rfl) (v0 1 (pv 1) rfl))) rfl) (by decide) rfl)) b_nil)
      (b_cons (s_if (st_tru (c_isi "bool" rfl T.z_isinstance (v0 1 (pv 1) rfl) rfl T.z_bool PyProof.Rows.boot_bool rfl) (fun _ => rfl)) (b_one (s_ret (v_and (c_isi "bool" rfl T.z_isinstance (v0 0 (pv 0) rfl) rfl T.z_bool PyProof.Rows.boot_bool rfl) (v_one (e_eq hr.units (v0 0 (pv 0) rfl) (v0 1 (pv 1) rfl))) rfl) (by decide) rfl)) b_nil)
      (b_one (s_ret (v_and (c_isi "int" rfl T.z_isinstance (v0 0 (pv 0) rfl) rfl T.z_int PyProof.Rows.boot_int rfl) (v_and (v_not (c_isi "bool" rfl T.z_isinstance (v0 0 (pv 0) rfl) rfl T.z_bool PyProof.Rows.boot_bool rfl)) (v_one (e_eq hr.units (v0 0 (pv 0) rfl) (v0 1 (pv 1) rfl))) rfl) rfl) (by decide) rfl))))))
theorem ok__law_closed (T : Tx K mg) : FnOk P w K mg base (L2.CX P w) 1 T.a__law_closed T.d__law_closed ["n", "links"] (spM K mg [0, 0] 9 F__law_closed) :=
  fn_ok T.u__law_closed sc__law_closed [0, 0] [0, 0, 0, 0, 0, 0, 0] 9 m__law_closed [0, 0, 0, 0, 0, 0, 0, 0, 0] rfl rfl (by decide) fun cdv A outer s H E hr => by
    have hu65 : (A.deeper (envOfC "_law_closed" (defScope s__law_closed) s.heap.objs.size T.a__law_closed cdv)).units + 65 < cLine := by have := hr.un; omega
    exact (b_cons (sΓ [0, 0, 2, 0, 9, 9, 9, 9, 9] (s_set 2 sc__law_closed.nd rfl (by first | exact Or.inl rfl | exact Or.inr rfl) (e_lc (own := [("x", 3)]) [0, 0, 9, 0, 9, 9, 9, 9, 9] rfl sc__law_closed.nd (i_range1 rfl T.z_range (v0 0 (pv 0) rfl) rfl) (blkOk_by (by show blkC ["n", "links", "reach", "x", "y", "z", "pairs", "a", "b"] (defScope s__law_closed) _ _ = true; decide +kernel)) (fun _ _ _ _ _ => (gΓ [0, 0, 9, 0, 9, 9, 9, 9, 9] (g_name 3 (pg_name (i := 3) sc__law_closed.nd rfl (by first | exact Or.inl rfl | exact Or.inr rfl)) rfl) rfl)) (fun _ _ _ _ _ => ts_nil) (fun _ _ _ _ _ => (e_mul (e_lst 7 (a_cons se_bl a_nil rfl) (by decide) rfl) (v0 0 (pv 0) rfl))) rfl rfl rfl) rfl) rfl)
      (b_cons (s_for [0, 0, 2, 0, 0, 9, 9, 9, 9] [0, 0, 2, 0, 0, 9, 9, 9, 9] (passes_of rfl) rfl (i_seq (v0 1 (pv 1) rfl)) (g_tup rfl (gs_cons (gΓ [0, 0, 2, 0, 0, 9, 9, 9, 9] (g_name 3 (pg_name (i := 3) sc__law_closed.nd rfl (by first | exact Or.inl rfl | exact Or.inr rfl)) rfl) rfl) (gs_cons (gΓ [0, 0, 2, 0, 0, 9, 9, 9, 9] (g_name 4 (pg_name (i := 4) sc__law_closed.nd rfl (by first | exact Or.inl rfl | exact Or.inr rfl)) rfl) rfl) gs_nil))) (b_one (s_asg se_bl (gΓ [0, 0, 2, 0, 0, 9, 9, 9, 9] (g_sub2 2 0 rfl (by decide) (pv 2) (v0 3 (pv 3) rfl) (v0 4 (pv 4) rfl) (fun _ _ => rfl)) rfl))) rfl rfl)
      (b_cons (s_for [0, 0, 1, 0, 0, 0, 9, 0, 0] [0, 0, 1, 0, 0, 0, 9, 0, 0] (passes_of rfl) rfl (i_range1 rfl T.z_range (v0 0 (pv 0) rfl) rfl) (gΓ [0, 0, 1, 0, 0, 0, 9, 0, 0] (g_name 5 (pg_name (i := 5) sc__law_closed.nd rfl (by first | exact Or.inl rfl | exact Or.inr rfl)) rfl) rfl) (b_one (s_for [0, 0, 1, 0, 0, 0, 9, 0, 0] [0, 0, 1, 0, 0, 0, 9, 0, 0] (passes_of rfl) rfl (i_range1 rfl T.z_range (v0 0 (pv 0) rfl) rfl) (gΓ [0, 0, 1, 0, 0, 0, 9, 0, 0] (g_name 3 (pg_name (i := 3) sc__law_closed.nd rfl (by first | exact Or.inl rfl | exact Or.inr rfl)) rfl) rfl) (b_one (s_if (st_tru (e_ixA hu65 (e_ixO 2 0 rfl (pv 2) (v0 3 (pv 3) rfl) (fun _ _ => rfl)) (v0 5 (pv 5) rfl) (fun _ _ => rfl)) (fun _ => rfl)) (b_one (s_asg (e_lc (own := [("a", 7), ("b", 8)]) [0, 0, 1, 0, 0, 0, 9, 0, 0] rfl sc__law_closed.nd (i_zip rfl T.z_zip (e_ixO 2 0 rfl (pv 2) (v0 3 (pv 3) rfl) (fun _ _ => rfl)) (e_ixO 2 0 rfl (pv 2) (v0 5 (pv 5) rfl) (fun _ _ => rfl)) rfl rfl) (blkOk_by (by show blkC ["n", "links", "reach", "x", "y", "z", "pairs", "a", "b"] (defScope s__law_closed) _ _ = true; decide +kernel)) (fun _ _ _ _ _ => (g_tup rfl (gs_cons (gΓ [0, 0, 1, 0, 0, 0, 9, 0, 0] (g_name 7 (pg_name (i := 7) sc__law_closed.nd rfl (by first | exact Or.inl rfl | exact Or.inr rfl)) rfl) rfl) (gs_cons (gΓ [0, 0, 1, 0, 0, 0, 9, 0, 0] (g_name 8 (pg_name (i := 8) sc__law_closed.nd rfl (by first | exact Or.inl rfl | exact Or.inr rfl)) rfl) rfl) gs_nil)))) (fun _ _ _ _ _ => ts_nil) (fun _ _ _ _ _ => (v_or (v0 7 (pv 7) rfl) (v_one (v0 8 (pv 8) rfl)) rfl)) rfl rfl rfl) (gΓ [0, 0, 1, 0, 0, 0, 9, 0, 0] (g_sub 2 0 0 rfl (by decide) (by decide) (pv 2) (v0 3 (pv 3) rfl)) rfl))) b_nil)) rfl rfl)) rfl rfl)
      (b_cons (sΓ [0, 0, 1, 0, 0, 0, 8, 0, 0] (s_set 6 sc__law_closed.nd rfl (by first | exact Or.inl rfl | exact Or.inr rfl) (e_lst 7 a_nil (by decide) rfl) rfl) rfl)
      (b_cons (s_for [0, 0, 1, 0, 0, 0, 1, 0, 0] [0, 0, 1, 0, 0, 0, 1, 0, 0] (passes_of rfl) rfl (i_range1 rfl T.z_range (v0 0 (pv 0) rfl) rfl) (gΓ [0, 0, 1, 0, 0, 0, 1, 0, 0] (g_name 3 (pg_name (i := 3) sc__law_closed.nd rfl (by first | exact Or.inl rfl | exact Or.inr rfl)) rfl) rfl) (b_one (sΓ [0, 0, 1, 0, 0, 0, 1, 0, 0] (s_set 6 sc__law_closed.nd rfl (by first | exact Or.inl rfl | exact Or.inr rfl) (e_add (eΓ [0, 0, 1, 0, 0, 0, 0, 0, 0] (se_var 6 (pv 6)) rfl) (e_lc (own := [("y", 4)]) [0, 0, 1, 0, 0, 0, 0, 0, 0] rfl sc__law_closed.nd (i_range1 rfl T.z_range (v0 0 (pv 0) rfl) rfl) (blkOk_by (by show blkC ["n", "links", "reach", "x", "y", "z", "pairs", "a", "b"] (defScope s__law_closed) _ _ = true; decide +kernel)) (fun _ _ _ _ _ => (gΓ [0, 0, 1, 0, 0, 0, 0, 0, 0] (g_name 4 (pg_name (i := 4) sc__law_closed.nd rfl (by first | exact Or.inl rfl | exact Or.inr rfl)) rfl) rfl)) (fun _ _ _ _ _ => (ts_one (st_tru (e_ixA hu65 (e_ixO 2 0 rfl (pv 2) (v0 3 (pv 3) rfl) (fun _ _ => rfl)) (v0 4 (pv 4) rfl) (fun _ _ => rfl)) (fun _ => rfl)))) (fun _ _ _ _ _ => (e_tup (a_cons (v0 3 (pv 3) rfl) (a_cons (v0 4 (pv 4) rfl) a_nil rfl) rfl) (by decide))) rfl rfl rfl)) rfl) rfl)) rfl rfl)
      (b_one (s_ret (e_tup (a_cons (v0 0 (pv 0) rfl) (a_cons (c_tuple rfl T.z_tuple (eΓ [0, 0, 1, 0, 0, 0, 0, 0, 0] (se_var 6 (pv 6)) rfl) rfl) a_nil rfl) rfl) (by decide)) (by decide) rfl)))))))
theorem ok__law_moved (T : Tx K mg) : FnOk P w K mg base (L2.CX P w) 1 T.a__law_moved T.d__law_moved ["order", "to"] (spM K mg [0, 0] 9 F__law_moved) :=
  fn_ok T.u__law_moved sc__law_moved [0, 0] [0, 0] 9 m__law_moved [0, 0, 0, 0] rfl rfl (by decide) fun cdv A outer s H E hr => by
    have hu65 : (A.deeper (envOfC "_law_moved" (defScope s__law_moved) s.heap.objs.size T.a__law_moved cdv)).units + 65 < cLine := by have := hr.un; omega
    exact (b_one (s_ret (e_tup (a_cons (e_ixA hu65 (v0 0 (pv 0) rfl) se_int (fun _ _ => rfl)) (a_cons (c_tuple rfl T.z_tuple (c_sorted rfl rfl T.z_sorted (e_lc (own := [("x", 2), ("y", 3)]) [0, 0, 0, 0] rfl sc__law_moved.nd (i_seq (e_ixA hu65 (v0 0 (pv 0) rfl) se_int (fun _ _ => rfl))) (blkOk_by (by show blkC ["order", "to", "x", "y"] (defScope s__law_moved) _ _ = true; decide +kernel)) (fun _ _ _ _ _ => (g_tup rfl (gs_cons (gΓ [0, 0, 0, 0] (g_name 2 (pg_name (i := 2) sc__law_moved.nd rfl (by first | exact Or.inl rfl | exact Or.inr rfl)) rfl) rfl) (gs_cons (gΓ [0, 0, 0, 0] (g_name 3 (pg_name (i := 3) sc__law_moved.nd rfl (by first | exact Or.inl rfl | exact Or.inr rfl)) rfl) rfl) gs_nil)))) (fun _ _ _ _ _ => ts_nil) (fun _ _ _ _ _ => (e_tup (a_cons (e_ixA hu65 (v0 1 (pv 1) rfl) (v0 2 (pv 2) rfl) (fun _ _ => rfl)) (a_cons (e_ixA hu65 (v0 1 (pv 1) rfl) (v0 3 (pv 3) rfl) (fun _ _ => rfl)) a_nil rfl) rfl) (by decide))) rfl rfl rfl) rfl) rfl) a_nil rfl) rfl) (by decide)) (by decide) rfl))
theorem ok__law_drawn (T : Tx K mg) : FnOk P w K mg base (L2.CX P w) 4 T.a__law_drawn T.d__law_drawn ["feed", "n", "share"] (spM K mg [1, 0, 0] 9 F__law_drawn) :=
  have G__law_mixed : FnOk P w K mg base (L2.CX P w) 3 T.a__law_mixed T.d__law_mixed ["feed", "row"] (spM K mg [1, 0] 1 F__law_mixed) := ok__law_mixed T
  have G__law_pick : FnOk P w K mg base (L2.CX P w) 2 T.a__law_pick T.d__law_pick ["feed", "many"] (spM K mg [1, 0] 9 F__law_pick) := ok__law_pick T
  have G__law_closed : FnOk P w K mg base (L2.CX P w) 1 T.a__law_closed T.d__law_closed ["n", "links"] (spM K mg [0, 0] 9 F__law_closed) := ok__law_closed T
  fn_ok T.u__law_drawn sc__law_drawn [1, 0, 0] [0, 0, 0, 0] 9 m__law_drawn [1, 0, 0, 0, 0, 0, 0] rfl rfl (by decide) fun cdv A outer s H E hr => by
    have hu65 : (A.deeper (envOfC "_law_drawn" (defScope s__law_drawn) s.heap.objs.size T.a__law_drawn cdv)).units + 65 < cLine := by have := hr.un; omega
    exact (b_cons (sΓ [1, 0, 0, 1, 9, 9, 9] (s_set 3 sc__law_drawn.nd rfl (by first | exact Or.inl rfl | exact Or.inr rfl) (eΓ [1, 0, 0, 9, 9, 9, 9] (e_call (takes_of rfl rfl rfl rfl) G__law_mixed (hr.mono (by first | exact Nat.le_refl _ | decide | omega)) rfl T.g__law_mixed T.k__law_mixed T.b__law_mixed (r_bor 0 (pv 0) (r_val (c_listRg1 rfl rfl T.z_list rfl T.z_range (v0 1 (pv 1) rfl)) r_nil rfl) rfl) rfl) rfl) rfl) rfl)
      (b_cons (sΓ [1, 0, 0, 1, 8, 9, 9] (s_set 4 sc__law_drawn.nd rfl (by first | exact Or.inl rfl | exact Or.inr rfl) (e_lst 7 a_nil (by decide) rfl) rfl) rfl)
      (b_cons (s_for [1, 0, 0, 1, 1, 0, 0] [1, 0, 0, 1, 1, 0, 0] (passes_of rfl) rfl (i_range1 rfl T.z_range (v0 1 (pv 1) rfl) rfl) (gΓ [1, 0, 0, 1, 1, 0, 0] (g_name 5 (pg_name (i := 5) sc__law_drawn.nd rfl (by first | exact Or.inl rfl | exact Or.inr rfl)) rfl) rfl) (b_one (sΓ [1, 0, 0, 1, 1, 0, 0] (s_set 4 sc__law_drawn.nd rfl (by first | exact Or.inl rfl | exact Or.inr rfl) (e_add (eΓ [1, 0, 0, 1, 0, 0, 0] (se_var 4 (pv 4)) rfl) (e_lc (own := [("y", 6)]) [1, 0, 0, 1, 0, 0, 0] rfl sc__law_drawn.nd (i_range2 rfl T.z_range (e_add (v0 5 (pv 5) rfl) se_int) (v0 1 (pv 1) rfl) rfl rfl) (blkOk_by (by show blkC ["feed", "n", "share", "to", "links", "x", "y"] (defScope s__law_drawn) _ _ = true; decide +kernel)) (fun _ _ _ _ _ => (gΓ [1, 0, 0, 1, 0, 0, 0] (g_name 6 (pg_name (i := 6) sc__law_drawn.nd rfl (by first | exact Or.inl rfl | exact Or.inr rfl)) rfl) rfl)) (fun _ _ _ _ _ => (ts_one (t_eq hr.units (eΓ [1, 0, 0, 1, 0, 0, 0] (e_call takes0 G__law_pick (hr.mono (by first | exact Nat.le_refl _ | decide | omega)) rfl T.g__law_pick T.k__law_pick T.b__law_pick (r_bor 0 (pv 0) (r_val (v0 2 (pv 2) rfl) r_nil rfl) rfl) rfl) rfl) se_int))) (fun _ _ _ _ _ => (e_tup (a_cons (e_ixO 3 0 rfl (pv 3) (v0 5 (pv 5) rfl) (fun _ _ => rfl)) (a_cons (e_ixO 3 0 rfl (pv 3) (v0 6 (pv 6) rfl) (fun _ _ => rfl)) a_nil rfl) rfl) (by decide))) rfl rfl rfl)) rfl) rfl)) rfl rfl)
      (b_one (s_ret (eΓ [1, 0, 0, 1, 0, 0, 0] (e_call (takes_of rfl rfl rfl rfl) G__law_closed (hr.mono (by first | exact Nat.le_refl _ | decide | omega)) rfl T.g__law_closed T.k__law_closed T.b__law_closed (r_val (v0 1 (pv 1) rfl) (r_val (eΓ [1, 0, 0, 1, 0, 0, 0] (se_var 4 (pv 4)) rfl) r_nil rfl) rfl) rfl) rfl) (by decide) rfl)))))
theorem ok__law_turned (T : Tx K mg) : FnOk P w K mg base (L2.CX P w) 1 T.a__law_turned T.d__law_turned ["order"] (spM K mg [0] 9 F__law_turned) :=
  fn_ok T.u__law_turned sc__law_turned [0] [0, 0] 9 m__law_turned [0, 0, 0] rfl rfl (by decide) fun cdv A outer s H E hr => by
    have hu65 : (A.deeper (envOfC "_law_turned" (defScope s__law_turned) s.heap.objs.size T.a__law_turned cdv)).units + 65 < cLine := by have := hr.un; omega
    exact (b_one (s_ret (e_tup (a_cons (e_ixA hu65 (v0 0 (pv 0) rfl) se_int (fun _ _ => rfl)) (a_cons (c_tuple rfl T.z_tuple (c_sorted rfl rfl T.z_sorted (e_lc (own := [("x", 1), ("y", 2)]) [0, 0, 0] rfl sc__law_turned.nd (i_seq (e_ixA hu65 (v0 0 (pv 0) rfl) se_int (fun _ _ => rfl))) (blkOk_by (by show blkC ["order", "x", "y"] (defScope s__law_turned) _ _ = true; decide +kernel)) (fun _ _ _ _ _ => (g_tup rfl (gs_cons (gΓ [0, 0, 0] (g_name 1 (pg_name (i := 1) sc__law_turned.nd rfl (by first | exact Or.inl rfl | exact Or.inr rfl)) rfl) rfl) (gs_cons (gΓ [0, 0, 0] (g_name 2 (pg_name (i := 2) sc__law_turned.nd rfl (by first | exact Or.inl rfl | exact Or.inr rfl)) rfl) rfl) gs_nil)))) (fun _ _ _ _ _ => ts_nil) (fun _ _ _ _ _ => (e_tup (a_cons (v0 2 (pv 2) rfl) (a_cons (v0 1 (pv 1) rfl) a_nil rfl) rfl) (by decide))) rfl rfl rfl) rfl) rfl) a_nil rfl) rfl) (by decide)) (by decide) rfl))
theorem ok__law_induced (T : Tx K mg) : FnOk P w K mg base (L2.CX P w) 1 T.a__law_induced T.d__law_induced ["order", "points"] (spM K mg [0, 0] 9 F__law_induced) :=
  fn_ok T.u__law_induced sc__law_induced [0, 0] [0, 0, 0] 9 m__law_induced [0, 0, 0, 0, 0] rfl rfl (by decide) fun cdv A outer s H E hr => by
    have hu65 : (A.deeper (envOfC "_law_induced" (defScope s__law_induced) s.heap.objs.size T.a__law_induced cdv)).units + 65 < cLine := by have := hr.un; omega
    exact (b_cons (sΓ [0, 0, 8, 9, 9] (s_set 2 sc__law_induced.nd rfl (by first | exact Or.inl rfl | exact Or.inr rfl) (e_lst 7 a_nil (by decide) rfl) rfl) rfl)
      (b_cons (s_for [0, 0, 1, 0, 0] [0, 0, 1, 0, 0] (passes_of rfl) rfl (i_range1 rfl T.z_range (c_len rfl T.z_len (v0 1 (pv 1) rfl) rfl) rfl) (gΓ [0, 0, 1, 0, 0] (g_name 3 (pg_name (i := 3) sc__law_induced.nd rfl (by first | exact Or.inl rfl | exact Or.inr rfl)) rfl) rfl) (b_one (sΓ [0, 0, 1, 0, 0] (s_set 2 sc__law_induced.nd rfl (by first | exact Or.inl rfl | exact Or.inr rfl) (e_add (eΓ [0, 0, 0, 0, 0] (se_var 2 (pv 2)) rfl) (e_lc (own := [("j", 4)]) [0, 0, 0, 0, 0] rfl sc__law_induced.nd (i_range1 rfl T.z_range (c_len rfl T.z_len (v0 1 (pv 1) rfl) rfl) rfl) (blkOk_by (by show blkC ["order", "points", "pairs", "i", "j"] (defScope s__law_induced) _ _ = true; decide +kernel)) (fun _ _ _ _ _ => (gΓ [0, 0, 0, 0, 0] (g_name 4 (pg_name (i := 4) sc__law_induced.nd rfl (by first | exact Or.inl rfl | exact Or.inr rfl)) rfl) rfl)) (fun _ _ _ _ _ => (ts_one (t_inA hu65 (e_tup (a_cons (e_ixA hu65 (v0 1 (pv 1) rfl) (v0 3 (pv 3) rfl) (fun _ _ => rfl)) (a_cons (e_ixA hu65 (v0 1 (pv 1) rfl) (v0 4 (pv 4) rfl) (fun _ _ => rfl)) a_nil rfl) rfl) (by decide)) (e_ixA hu65 (v0 0 (pv 0) rfl) se_int (fun _ _ => rfl)) (by rfl)))) (fun _ _ _ _ _ => (e_tup (a_cons (v0 3 (pv 3) rfl) (a_cons (v0 4 (pv 4) rfl) a_nil rfl) rfl) (by decide))) rfl rfl rfl)) rfl) rfl)) rfl rfl)
      (b_one (s_ret (e_tup (a_cons (c_len rfl T.z_len (v0 1 (pv 1) rfl) rfl) (a_cons (c_tuple rfl T.z_tuple (eΓ [0, 0, 0, 0, 0] (se_var 2 (pv 2)) rfl) rfl) a_nil rfl) rfl) (by decide)) (by decide) rfl))))
theorem ok_law {f : Addr} {fd : FuncData} (Fl : Fun K "law" "law" s_law f fd) (T : Tx K mg) : FnOk P w K mg base (L2.CX P w) 9 f fd ["script"] (spM K mg [0] 9 F_law) :=
  have G__law_open : FnOk P w K mg base (L2.CX P w) 1 T.a__law_open T.d__law_open ["script"] (spM K mg [0] 1 F__law_open) := ok__law_open T
  have G__law_drawn : FnOk P w K mg base (L2.CX P w) 4 T.a__law_drawn T.d__law_drawn ["feed", "n", "share"] (spM K mg [1, 0, 0] 9 F__law_drawn) := ok__law_drawn T
  have G__law_pick : FnOk P w K mg base (L2.CX P w) 2 T.a__law_pick T.d__law_pick ["feed", "many"] (spM K mg [1, 0] 9 F__law_pick) := ok__law_pick T
  have G__law_same : FnOk P w K mg base (L2.CX P w) 8 T.a__law_same T.d__law_same ["told", "due"] (spM K mg [0, 0] 9 (F__law_same 8)) := ok__law_same T 8
  have G_opposite : FnOk P w K mg base (L2.CX P w) 1 T.a_opposite T.d_opposite ["order"] (spM K mg [0] 9 F_opposite) := ok_opposite T
  have G__law_turned : FnOk P w K mg base (L2.CX P w) 1 T.a__law_turned T.d__law_turned ["order"] (spM K mg [0] 9 F__law_turned) := ok__law_turned T
  have G_beside : FnOk P w K mg base (L2.CX P w) 2 T.a_beside T.d_beside ["first", "second"] (spM K mg [0, 0] 9 F_beside) := ok_beside T
  have G_product : FnOk P w K mg base (L2.CX P w) 4 T.a_product T.d_product ["first", "second"] (spM K mg [0, 0] 9 F_product) := ok_product T
  have G__law_moved : FnOk P w K mg base (L2.CX P w) 1 T.a__law_moved T.d__law_moved ["order", "to"] (spM K mg [0, 0] 9 F__law_moved) := ok__law_moved T
  have G_on_top : FnOk P w K mg base (L2.CX P w) 3 T.a_on_top T.d_on_top ["first", "second"] (spM K mg [0, 0] 9 F_on_top) := ok_on_top T
  have G_induced : FnOk P w K mg base (L2.CX P w) 1 T.a_induced T.d_induced ["order", "points"] (spM K mg [0, 0] 9 F_induced) := ok_induced T
  have G__law_of : FnOk P w K mg base (L2.CX P w) 3 T.a__law_of T.d__law_of ["feed", "row"] (spM K mg [1, 0] 0 F__law_of) := ok__law_of T
  have G__law_mixed : FnOk P w K mg base (L2.CX P w) 3 T.a__law_mixed T.d__law_mixed ["feed", "row"] (spM K mg [1, 0] 1 F__law_mixed) := ok__law_mixed T
  have G__law_induced : FnOk P w K mg base (L2.CX P w) 1 T.a__law_induced T.d__law_induced ["order", "points"] (spM K mg [0, 0] 9 F__law_induced) := ok__law_induced T
  fn_ok Fl sc_law [0] [0, 0, 0, 0, 0, 0, 0, 0, 0, 0, 0, 0, 0, 0, 0, 0, 0, 0, 0, 0] 9 m_law [0, 0, 0, 0, 0, 0, 0, 0, 0, 0, 0, 0, 0, 0, 0, 0, 0, 0, 0, 0, 0] rfl rfl (by decide) fun cdv A outer s H E hr => by
    have hu65 : (A.deeper (envOfC "law" (defScope s_law) s.heap.objs.size f cdv)).units + 65 < cLine := by have := hr.un; omega
    exact (b_cons (sΓ [0, 1, 9, 9, 9, 9, 9, 9, 9, 9, 9, 9, 9, 9, 9, 9, 9, 9, 9, 9, 9] (s_set 1 sc_law.nd rfl (by first | exact Or.inl rfl | exact Or.inr rfl) (eΓ [0, 9, 9, 9, 9, 9, 9, 9, 9, 9, 9, 9, 9, 9, 9, 9, 9, 9, 9, 9, 9] (e_call (takes_of rfl rfl rfl rfl) G__law_open (hr.mono (by first | exact Nat.le_refl _ | decide | omega)) rfl T.g__law_open T.k__law_open T.b__law_open (r_val (v0 0 (pv 0) rfl) r_nil rfl) rfl) rfl) rfl) rfl)
      (b_cons (sΓ [0, 1, 9, 9, 9, 9, 9, 9, 9, 9, 9, 9, 9, 9, 9, 9, 9, 9, 9, 9, 9] (s_par 2 3 rfl sc_law.nd rfl rfl (by decide) rfl rfl (a_cons (eΓ [0, 1, 9, 9, 9, 9, 9, 9, 9, 9, 9, 9, 9, 9, 9, 9, 9, 9, 9, 9, 9] (e_call (takes_of rfl rfl rfl rfl) G__law_drawn (hr.mono (by first | exact Nat.le_refl _ | decide | omega)) rfl T.g__law_drawn T.k__law_drawn T.b__law_drawn (r_bor 1 (pv 1) (r_val (eΓ [0, 1, 9, 9, 9, 9, 9, 9, 9, 9, 9, 9, 9, 9, 9, 9, 9, 9, 9, 9, 9] (e_call (takes_of rfl rfl rfl rfl) G__law_pick (hr.mono (by first | exact Nat.le_refl _ | decide | omega)) rfl T.g__law_pick T.k__law_pick T.b__law_pick (r_bor 1 (pv 1) (r_val se_int r_nil rfl) rfl) rfl) rfl) (r_val se_int r_nil rfl) rfl) rfl) rfl) rfl) (a_cons (eΓ [0, 1, 9, 9, 9, 9, 9, 9, 9, 9, 9, 9, 9, 9, 9, 9, 9, 9, 9, 9, 9] (e_call (takes_of rfl rfl rfl rfl) G__law_drawn (hr.mono (by first | exact Nat.le_refl _ | decide | omega)) rfl T.g__law_drawn T.k__law_drawn T.b__law_drawn (r_bor 1 (pv 1) (r_val (eΓ [0, 1, 9, 9, 9, 9, 9, 9, 9, 9, 9, 9, 9, 9, 9, 9, 9, 9, 9, 9, 9] (e_call (takes_of rfl rfl rfl rfl) G__law_pick (hr.mono (by first | exact Nat.le_refl _ | decide | omega)) rfl T.g__law_pick T.k__law_pick T.b__law_pick (r_bor 1 (pv 1) (r_val se_int r_nil rfl) rfl) rfl) rfl) (r_val se_int r_nil rfl) rfl) rfl) rfl) rfl) a_nil rfl) rfl) rfl rfl rfl) rfl)
      (b_cons (s_asg (e_tup (a_cons (e_ixA hu65 (eΓ [0, 1, 0, 9, 9, 9, 9, 9, 9, 9, 9, 9, 9, 9, 9, 9, 9, 9, 9, 9, 9] (se_var 2 (pv 2)) rfl) se_int (fun _ _ => rfl)) (a_cons (e_ixA hu65 (eΓ [0, 1, 0, 0, 9, 9, 9, 9, 9, 9, 9, 9, 9, 9, 9, 9, 9, 9, 9, 9, 9] (se_var 3 (pv 3)) rfl) se_int (fun _ _ => rfl)) a_nil rfl) rfl) (by decide)) (g_tup rfl (gs_cons (gΓ [0, 1, 0, 0, 0, 9, 9, 9, 9, 9, 9, 9, 9, 9, 9, 9, 9, 9, 9, 9, 9] (g_name 4 (pg_name (i := 4) sc_law.nd rfl (by first | exact Or.inl rfl | exact Or.inr rfl)) rfl) rfl) (gs_cons (gΓ [0, 1, 0, 0, 0, 0, 9, 9, 9, 9, 9, 9, 9, 9, 9, 9, 9, 9, 9, 9, 9] (g_name 5 (pg_name (i := 5) sc_law.nd rfl (by first | exact Or.inl rfl | exact Or.inr rfl)) rfl) rfl) gs_nil))))
      (b_cons (s_if (st_not (st_tru (eΓ [0, 1, 0, 0, 0, 0, 9, 9, 9, 9, 9, 9, 9, 9, 9, 9, 9, 9, 9, 9, 9] (e_call (takes_of rfl rfl rfl rfl) G__law_same (hr.mono (by first | exact Nat.le_refl _ | decide | omega)) rfl T.g__law_same T.k__law_same T.b__law_same (r_val (e_tup (a_cons (eΓ [0, 1, 0, 0, 0, 0, 9, 9, 9, 9, 9, 9, 9, 9, 9, 9, 9, 9, 9, 9, 9] (e_call (takes_of rfl rfl rfl rfl) G_opposite (hr.mono (by first | exact Nat.le_refl _ | decide | omega)) rfl T.g_opposite T.k_opposite T.b_opposite (r_val (v0 2 (pv 2) rfl) r_nil rfl) rfl) rfl) (a_cons (eΓ [0, 1, 0, 0, 0, 0, 9, 9, 9, 9, 9, 9, 9, 9, 9, 9, 9, 9, 9, 9, 9] (e_call (takes_of rfl rfl rfl rfl) G_opposite (hr.mono (by first | exact Nat.le_refl _ | decide | omega)) rfl T.g_opposite T.k_opposite T.b_opposite (r_val (eΓ [0, 1, 0, 0, 0, 0, 9, 9, 9, 9, 9, 9, 9, 9, 9, 9, 9, 9, 9, 9, 9] (e_call (takes_of rfl rfl rfl rfl) G_opposite (hr.mono (by first | exact Nat.le_refl _ | decide | omega)) rfl T.g_opposite T.k_opposite T.b_opposite (r_val (v0 2 (pv 2) rfl) r_nil rfl) rfl) rfl) r_nil rfl) rfl) rfl) (a_cons (eΓ [0, 1, 0, 0, 0, 0, 9, 9, 9, 9, 9, 9, 9, 9, 9, 9, 9, 9, 9, 9, 9] (e_call (takes_of rfl rfl rfl rfl) G_opposite (hr.mono (by first | exact Nat.le_refl _ | decide | omega)) rfl T.g_opposite T.k_opposite T.b_opposite (r_val (e_tup (a_cons se_int (a_cons (e_tup a_nil (by decide)) a_nil rfl) rfl) (by decide)) r_nil rfl) rfl) rfl) a_nil rfl) rfl) rfl) (by decide)) (r_val (e_tup (a_cons (eΓ [0, 1, 0, 0, 0, 0, 9, 9, 9, 9, 9, 9, 9, 9, 9, 9, 9, 9, 9, 9, 9] (e_call (takes_of rfl rfl rfl rfl) G__law_turned (hr.mono (by first | exact Nat.le_refl _ | decide | omega)) rfl T.g__law_turned T.k__law_turned T.b__law_turned (r_val (v0 2 (pv 2) rfl) r_nil rfl) rfl) rfl) (a_cons (v0 2 (pv 2) rfl) (a_cons (e_tup (a_cons se_int (a_cons (e_tup a_nil (by decide)) a_nil rfl) rfl) (by decide)) a_nil rfl) rfl) rfl) (by decide)) r_nil rfl) rfl) rfl) rfl) (fun _ => rfl))) (b_one (s_ret se_bl (by decide) rfl)) b_nil)
      (b_cons (s_if (st_not (st_tru (eΓ [0, 1, 0, 0, 0, 0, 9, 9, 9, 9, 9, 9, 9, 9, 9, 9, 9, 9, 9, 9, 9] (e_call (takes_of rfl rfl rfl rfl) G__law_same (hr.mono (by first | exact Nat.le_refl _ | decide | omega)) rfl T.g__law_same T.k__law_same T.b__law_same (r_val (eΓ [0, 1, 0, 0, 0, 0, 9, 9, 9, 9, 9, 9, 9, 9, 9, 9, 9, 9, 9, 9, 9] (e_call (takes_of rfl rfl rfl rfl) G_opposite (hr.mono (by first | exact Nat.le_refl _ | decide | omega)) rfl T.g_opposite T.k_opposite T.b_opposite (r_val (eΓ [0, 1, 0, 0, 0, 0, 9, 9, 9, 9, 9, 9, 9, 9, 9, 9, 9, 9, 9, 9, 9] (e_call (takes_of rfl rfl rfl rfl) G_beside (hr.mono (by first | exact Nat.le_refl _ | decide | omega)) rfl T.g_beside T.k_beside T.b_beside (r_val (v0 2 (pv 2) rfl) (r_val (v0 3 (pv 3) rfl) r_nil rfl) rfl) rfl) rfl) r_nil rfl) rfl) rfl) (r_val (eΓ [0, 1, 0, 0, 0, 0, 9, 9, 9, 9, 9, 9, 9, 9, 9, 9, 9, 9, 9, 9, 9] (e_call (takes_of rfl rfl rfl rfl) G_beside (hr.mono (by first | exact Nat.le_refl _ | decide | omega)) rfl T.g_beside T.k_beside T.b_beside (r_val (eΓ [0, 1, 0, 0, 0, 0, 9, 9, 9, 9, 9, 9, 9, 9, 9, 9, 9, 9, 9, 9, 9] (e_call (takes_of rfl rfl rfl rfl) G__law_turned (hr.mono (by first | exact Nat.le_refl _ | decide | omega)) rfl T.g__law_turned T.k__law_turned T.b__law_turned (r_val (v0 2 (pv 2) rfl) r_nil rfl) rfl) rfl) (r_val (eΓ [0, 1, 0, 0, 0, 0, 9, 9, 9, 9, 9, 9, 9, 9, 9, 9, 9, 9, 9, 9, 9] (e_call (takes_of rfl rfl rfl rfl) G__law_turned (hr.mono (by first | exact Nat.le_refl _ | decide | omega)) rfl T.g__law_turned T.k__law_turned T.b__law_turned (r_val (v0 3 (pv 3) rfl) r_nil rfl) rfl) rfl) r_nil rfl) rfl) rfl) rfl) r_nil rfl) rfl) rfl) rfl) (fun _ => rfl))) (b_one (s_ret se_bl (by decide) rfl)) b_nil)
      (b_cons (s_if (st_not (st_tru (eΓ [0, 1, 0, 0, 0, 0, 9, 9, 9, 9, 9, 9, 9, 9, 9, 9, 9, 9, 9, 9, 9] (e_call (takes_of rfl rfl rfl rfl) G__law_same (hr.mono (by first | exact Nat.le_refl _ | decide | omega)) rfl T.g__law_same T.k__law_same T.b__law_same (r_val (eΓ [0, 1, 0, 0, 0, 0, 9, 9, 9, 9, 9, 9, 9, 9, 9, 9, 9, 9, 9, 9, 9] (e_call (takes_of rfl rfl rfl rfl) G_opposite (hr.mono (by first | exact Nat.le_refl _ | decide | omega)) rfl T.g_opposite T.k_opposite T.b_opposite (r_val (eΓ [0, 1, 0, 0, 0, 0, 9, 9, 9, 9, 9, 9, 9, 9, 9, 9, 9, 9, 9, 9, 9] (e_call (takes_of rfl rfl rfl rfl) G_product (hr.mono (by first | exact Nat.le_refl _ | decide | omega)) rfl T.g_product T.k_product T.b_product (r_val (v0 2 (pv 2) rfl) (r_val (v0 3 (pv 3) rfl) r_nil rfl) rfl) rfl) rfl) r_nil rfl) rfl) rfl) (r_val (eΓ [0, 1, 0, 0, 0, 0, 9, 9, 9, 9, 9, 9, 9, 9, 9, 9, 9, 9, 9, 9, 9] (e_call (takes_of rfl rfl rfl rfl) G_product (hr.mono (by first | exact Nat.le_refl _ | decide | omega)) rfl T.g_product T.k_product T.b_product (r_val (eΓ [0, 1, 0, 0, 0, 0, 9, 9, 9, 9, 9, 9, 9, 9, 9, 9, 9, 9, 9, 9, 9] (e_call (takes_of rfl rfl rfl rfl) G__law_turned (hr.mono (by first | exact Nat.le_refl _ | decide | omega)) rfl T.g__law_turned T.k__law_turned T.b__law_turned (r_val (v0 2 (pv 2) rfl) r_nil rfl) rfl) rfl) (r_val (eΓ [0, 1, 0, 0, 0, 0, 9, 9, 9, 9, 9, 9, 9, 9, 9, 9, 9, 9, 9, 9, 9] (e_call (takes_of rfl rfl rfl rfl) G__law_turned (hr.mono (by first | exact Nat.le_refl _ | decide | omega)) rfl T.g__law_turned T.k__law_turned T.b__law_turned (r_val (v0 3 (pv 3) rfl) r_nil rfl) rfl) rfl) r_nil rfl) rfl) rfl) rfl) r_nil rfl) rfl) rfl) rfl) (fun _ => rfl))) (b_one (s_ret se_bl (by decide) rfl)) b_nil)
      (b_cons (sΓ [0, 1, 0, 0, 0, 0, 1, 9, 9, 9, 0, 9, 9, 9, 9, 9, 9, 9, 9, 9, 9] (s_set 6 sc_law.nd rfl (by first | exact Or.inl rfl | exact Or.inr rfl) (e_add (e_lc (own := [("x", 10)]) [0, 1, 0, 0, 0, 0, 9, 9, 9, 9, 0, 9, 9, 9, 9, 9, 9, 9, 9, 9, 9] rfl sc_law.nd (i_range1 rfl T.z_range (v0 4 (pv 4) rfl) rfl) (blkOk_by (by show blkC ["script", "feed", "a", "b", "n", "m", "change", "both", "halves", "cross", "x", "q", "rows", "big", "lot", "part", "inner", "to", "moved", "renamed", "k"] (defScope s_law) _ _ = true; decide +kernel)) (fun _ _ _ _ _ => (gΓ [0, 1, 0, 0, 0, 0, 9, 9, 9, 9, 0, 9, 9, 9, 9, 9, 9, 9, 9, 9, 9] (g_name 10 (pg_name (i := 10) sc_law.nd rfl (by first | exact Or.inl rfl | exact Or.inr rfl)) rfl) rfl)) (fun _ _ _ _ _ => ts_nil) (fun _ _ _ _ _ => (e_add (v0 5 (pv 5) rfl) (v0 10 (pv 10) rfl))) rfl rfl rfl) (c_listRg1 rfl rfl T.z_list rfl T.z_range (v0 5 (pv 5) rfl))) rfl) rfl)
      (b_cons (s_if (st_not (st_tru (eΓ [0, 1, 0, 0, 0, 0, 0, 9, 9, 9, 0, 9, 9, 9, 9, 9, 9, 9, 9, 9, 9] (e_call (takes_of rfl rfl rfl rfl) G__law_same (hr.mono (by first | exact Nat.le_refl _ | decide | omega)) rfl T.g__law_same T.k__law_same T.b__law_same (r_val (eΓ [0, 1, 0, 0, 0, 0, 0, 9, 9, 9, 0, 9, 9, 9, 9, 9, 9, 9, 9, 9, 9] (e_call (takes_of rfl rfl rfl rfl) G__law_moved (hr.mono (by first | exact Nat.le_refl _ | decide | omega)) rfl T.g__law_moved T.k__law_moved T.b__law_moved (r_val (eΓ [0, 1, 0, 0, 0, 0, 1, 9, 9, 9, 0, 9, 9, 9, 9, 9, 9, 9, 9, 9, 9] (e_call (takes_of rfl rfl rfl rfl) G_opposite (hr.mono (by first | exact Nat.le_refl _ | decide | omega)) rfl T.g_opposite T.k_opposite T.b_opposite (r_val (eΓ [0, 1, 0, 0, 0, 0, 1, 9, 9, 9, 0, 9, 9, 9, 9, 9, 9, 9, 9, 9, 9] (e_call (takes_of rfl rfl rfl rfl) G_on_top (hr.mono (by first | exact Nat.le_refl _ | decide | omega)) rfl T.g_on_top T.k_on_top T.b_on_top (r_val (v0 2 (pv 2) rfl) (r_val (v0 3 (pv 3) rfl) r_nil rfl) rfl) rfl) rfl) r_nil rfl) rfl) rfl) (r_val (eΓ [0, 1, 0, 0, 0, 0, 0, 9, 9, 9, 0, 9, 9, 9, 9, 9, 9, 9, 9, 9, 9] (se_var 6 (pv 6)) rfl) r_nil rfl) rfl) rfl) rfl) (r_val (eΓ [0, 1, 0, 0, 0, 0, 0, 9, 9, 9, 0, 9, 9, 9, 9, 9, 9, 9, 9, 9, 9] (e_call (takes_of rfl rfl rfl rfl) G_on_top (hr.mono (by first | exact Nat.le_refl _ | decide | omega)) rfl T.g_on_top T.k_on_top T.b_on_top (r_val (eΓ [0, 1, 0, 0, 0, 0, 0, 9, 9, 9, 0, 9, 9, 9, 9, 9, 9, 9, 9, 9, 9] (e_call (takes_of rfl rfl rfl rfl) G__law_turned (hr.mono (by first | exact Nat.le_refl _ | decide | omega)) rfl T.g__law_turned T.k__law_turned T.b__law_turned (r_val (v0 3 (pv 3) rfl) r_nil rfl) rfl) rfl) (r_val (eΓ [0, 1, 0, 0, 0, 0, 0, 9, 9, 9, 0, 9, 9, 9, 9, 9, 9, 9, 9, 9, 9] (e_call (takes_of rfl rfl rfl rfl) G__law_turned (hr.mono (by first | exact Nat.le_refl _ | decide | omega)) rfl T.g__law_turned T.k__law_turned T.b__law_turned (r_val (v0 2 (pv 2) rfl) r_nil rfl) rfl) rfl) r_nil rfl) rfl) rfl) rfl) r_nil rfl) rfl) rfl) rfl) (fun _ => rfl))) (b_one (s_ret se_bl (by decide) rfl)) b_nil)
      (b_cons (sΓ [0, 1, 0, 0, 0, 0, 0, 9, 9, 9, 0, 9, 9, 9, 9, 9, 9, 9, 9, 9, 9] (s_set 7 sc_law.nd rfl (by first | exact Or.inl rfl | exact Or.inr rfl) (eΓ [0, 1, 0, 0, 0, 0, 0, 9, 9, 9, 0, 9, 9, 9, 9, 9, 9, 9, 9, 9, 9] (e_call (takes_of rfl rfl rfl rfl) G_on_top (hr.mono (by first | exact Nat.le_refl _ | decide | omega)) rfl T.g_on_top T.k_on_top T.b_on_top (r_val (v0 2 (pv 2) rfl) (r_val (v0 3 (pv 3) rfl) r_nil rfl) rfl) rfl) rfl) rfl) rfl)
      (b_cons (sΓ [0, 1, 0, 0, 0, 0, 0, 0, 9, 9, 0, 9, 9, 9, 9, 9, 9, 9, 9, 9, 9] (s_set 8 sc_law.nd rfl (by first | exact Or.inl rfl | exact Or.inr rfl) (e_tup (a_cons (eΓ [0, 1, 0, 0, 0, 0, 0, 0, 9, 9, 0, 9, 9, 9, 9, 9, 9, 9, 9, 9, 9] (e_call (takes_of rfl rfl rfl rfl) G_induced (hr.mono (by first | exact Nat.le_refl _ | decide | omega)) rfl T.g_induced T.k_induced T.b_induced (r_val (eΓ [0, 1, 0, 0, 0, 0, 0, 0, 9, 9, 0, 9, 9, 9, 9, 9, 9, 9, 9, 9, 9] (se_var 7 (pv 7)) rfl) (r_val (c_tupleRg1 rfl rfl T.z_tuple rfl T.z_range (v0 4 (pv 4) rfl)) r_nil rfl) rfl) rfl) rfl) (a_cons (eΓ [0, 1, 0, 0, 0, 0, 0, 0, 9, 9, 0, 9, 9, 9, 9, 9, 9, 9, 9, 9, 9] (e_call (takes_of rfl rfl rfl rfl) G_induced (hr.mono (by first | exact Nat.le_refl _ | decide | omega)) rfl T.g_induced T.k_induced T.b_induced (r_val (v0 7 (pv 7) rfl) (r_val (c_tupleRg2 rfl rfl T.z_tuple rfl T.z_range (v0 4 (pv 4) rfl) (e_add (v0 4 (pv 4) rfl) (v0 5 (pv 5) rfl))) r_nil rfl) rfl) rfl) rfl) a_nil rfl) rfl) (by decide)) rfl) rfl)
      (b_cons (s_if (st_bool (sw_or (st_not (st_tru (eΓ [0, 1, 0, 0, 0, 0, 0, 0, 0, 9, 0, 9, 9, 9, 9, 9, 9, 9, 9, 9, 9] (e_call (takes_of rfl rfl rfl rfl) G__law_same (hr.mono (by first | exact Nat.le_refl _ | decide | omega)) rfl T.g__law_same T.k__law_same T.b__law_same (r_val (eΓ [0, 1, 0, 0, 0, 0, 0, 0, 0, 9, 0, 9, 9, 9, 9, 9, 9, 9, 9, 9, 9] (se_var 8 (pv 8)) rfl) (r_val (e_tup (a_cons (v0 2 (pv 2) rfl) (a_cons (v0 3 (pv 3) rfl) a_nil rfl) rfl) (by decide)) r_nil rfl) rfl) rfl) rfl) (fun _ => rfl))) (sw_or1 (st_not (st_tru (eΓ [0, 1, 0, 0, 0, 0, 0, 0, 0, 9, 0, 9, 9, 9, 9, 9, 9, 9, 9, 9, 9] (e_call (takes_of rfl rfl rfl rfl) G__law_same (hr.mono (by first | exact Nat.le_refl _ | decide | omega)) rfl T.g__law_same T.k__law_same T.b__law_same (r_val (e_tup (a_cons (eΓ [0, 1, 0, 0, 0, 0, 0, 0, 0, 9, 0, 9, 9, 9, 9, 9, 9, 9, 9, 9, 9] (e_call (takes_of rfl rfl rfl rfl) G_induced (hr.mono (by first | exact Nat.le_refl _ | decide | omega)) rfl T.g_induced T.k_induced T.b_induced (r_val (eΓ [0, 1, 0, 0, 0, 0, 0, 0, 0, 9, 0, 9, 9, 9, 9, 9, 9, 9, 9, 9, 9] (e_call (takes_of rfl rfl rfl rfl) G_beside (hr.mono (by first | exact Nat.le_refl _ | decide | omega)) rfl T.g_beside T.k_beside T.b_beside (r_val (v0 2 (pv 2) rfl) (r_val (v0 3 (pv 3) rfl) r_nil rfl) rfl) rfl) rfl) (r_val (c_tupleRg1 rfl rfl T.z_tuple rfl T.z_range (v0 4 (pv 4) rfl)) r_nil rfl) rfl) rfl) rfl) (a_cons (eΓ [0, 1, 0, 0, 0, 0, 0, 0, 0, 9, 0, 9, 9, 9, 9, 9, 9, 9, 9, 9, 9] (e_call (takes_of rfl rfl rfl rfl) G_induced (hr.mono (by first | exact Nat.le_refl _ | decide | omega)) rfl T.g_induced T.k_induced T.b_induced (r_val (eΓ [0, 1, 0, 0, 0, 0, 0, 0, 0, 9, 0, 9, 9, 9, 9, 9, 9, 9, 9, 9, 9] (e_call (takes_of rfl rfl rfl rfl) G_beside (hr.mono (by first | exact Nat.le_refl _ | decide | omega)) rfl T.g_beside T.k_beside T.b_beside (r_val (v0 2 (pv 2) rfl) (r_val (v0 3 (pv 3) rfl) r_nil rfl) rfl) rfl) rfl) (r_val (c_tupleRg2 rfl rfl T.z_tuple rfl T.z_range (v0 4 (pv 4) rfl) (e_add (v0 4 (pv 4) rfl) (v0 5 (pv 5) rfl))) r_nil rfl) rfl) rfl) rfl) a_nil rfl) rfl) (by decide)) (r_val (e_tup (a_cons (v0 2 (pv 2) rfl) (a_cons (v0 3 (pv 3) rfl) a_nil rfl) rfl) (by decide)) r_nil rfl) rfl) rfl) rfl) (fun _ => rfl)))) rfl)) (b_one (s_ret se_bl (by decide) rfl)) b_nil)
      (b_cons (sΓ [0, 1, 0, 0, 0, 0, 0, 0, 0, 9, 0, 9, 9, 9, 9, 9, 9, 9, 9, 9, 9] (s_set 9 sc_law.nd rfl (by first | exact Or.inl rfl | exact Or.inr rfl) (eΓ [0, 1, 0, 0, 0, 0, 0, 0, 0, 9, 0, 9, 9, 9, 9, 9, 9, 9, 9, 9, 9] (e_call (takes_of rfl rfl rfl rfl) G_product (hr.mono (by first | exact Nat.le_refl _ | decide | omega)) rfl T.g_product T.k_product T.b_product (r_val (v0 2 (pv 2) rfl) (r_val (v0 3 (pv 3) rfl) r_nil rfl) rfl) rfl) rfl) rfl) rfl)
      (b_cons (s_if (st_bool (sw_and (t_gt (v0 4 (pv 4) rfl) se_int) (sw_and1 (t_gt (v0 5 (pv 5) rfl) se_int)) rfl)) (b_cons (s_asg (e_tup (a_cons (eΓ [0, 1, 0, 0, 0, 0, 0, 0, 0, 9, 0, 9, 9, 9, 9, 9, 9, 9, 9, 9, 9] (e_call (takes_of rfl rfl rfl rfl) G__law_pick (hr.mono (by first | exact Nat.le_refl _ | decide | omega)) rfl T.g__law_pick T.k__law_pick T.b__law_pick (r_bor 1 (pv 1) (r_val (v0 4 (pv 4) rfl) r_nil rfl) rfl) rfl) rfl) (a_cons (eΓ [0, 1, 0, 0, 0, 0, 0, 0, 0, 9, 0, 9, 9, 9, 9, 9, 9, 9, 9, 9, 9] (e_call (takes_of rfl rfl rfl rfl) G__law_pick (hr.mono (by first | exact Nat.le_refl _ | decide | omega)) rfl T.g__law_pick T.k__law_pick T.b__law_pick (r_bor 1 (pv 1) (r_val (v0 5 (pv 5) rfl) r_nil rfl) rfl) rfl) rfl) a_nil rfl) rfl) (by decide)) (g_tup rfl (gs_cons (gΓ [0, 1, 0, 0, 0, 0, 0, 0, 0, 9, 0, 9, 9, 9, 9, 9, 9, 9, 9, 9, 9] (g_name 10 (pg_name (i := 10) sc_law.nd rfl (by first | exact Or.inl rfl | exact Or.inr rfl)) rfl) rfl) (gs_cons (gΓ [0, 1, 0, 0, 0, 0, 0, 0, 0, 9, 0, 0, 9, 9, 9, 9, 9, 9, 9, 9, 9] (g_name 11 (pg_name (i := 11) sc_law.nd rfl (by first | exact Or.inl rfl | exact Or.inr rfl)) rfl) rfl) gs_nil))))
      (b_cons (sΓ [0, 1, 0, 0, 0, 0, 0, 0, 0, 0, 0, 0, 9, 9, 9, 9, 9, 9, 9, 9, 0] (s_set 12 sc_law.nd rfl (by first | exact Or.inl rfl | exact Or.inr rfl) (e_tup (a_cons (eΓ [0, 1, 0, 0, 0, 0, 0, 0, 0, 0, 0, 0, 9, 9, 9, 9, 9, 9, 9, 9, 0] (e_call (takes_of rfl rfl rfl rfl) G_induced (hr.mono (by first | exact Nat.le_refl _ | decide | omega)) rfl T.g_induced T.k_induced T.b_induced (r_val (eΓ [0, 1, 0, 0, 0, 0, 0, 0, 0, 0, 0, 0, 9, 9, 9, 9, 9, 9, 9, 9, 9] (se_var 9 (pv 9)) rfl) (r_val (c_tuple rfl T.z_tuple (e_lc (own := [("k", 20)]) [0, 1, 0, 0, 0, 0, 0, 0, 0, 0, 0, 0, 9, 9, 9, 9, 9, 9, 9, 9, 0] rfl sc_law.nd (i_range1 rfl T.z_range (v0 5 (pv 5) rfl) rfl) (blkOk_by (by show blkC ["script", "feed", "a", "b", "n", "m", "change", "both", "halves", "cross", "x", "q", "rows", "big", "lot", "part", "inner", "to", "moved", "renamed", "k"] (defScope s_law) _ _ = true; decide +kernel)) (fun _ _ _ _ _ => (gΓ [0, 1, 0, 0, 0, 0, 0, 0, 0, 0, 0, 0, 9, 9, 9, 9, 9, 9, 9, 9, 0] (g_name 20 (pg_name (i := 20) sc_law.nd rfl (by first | exact Or.inl rfl | exact Or.inr rfl)) rfl) rfl)) (fun _ _ _ _ _ => ts_nil) (fun _ _ _ _ _ => (e_add (e_mul (v0 10 (pv 10) rfl) (v0 5 (pv 5) rfl)) (v0 20 (pv 20) rfl))) rfl rfl rfl) rfl) r_nil rfl) rfl) rfl) rfl) (a_cons (eΓ [0, 1, 0, 0, 0, 0, 0, 0, 0, 0, 0, 0, 9, 9, 9, 9, 9, 9, 9, 9, 0] (e_call (takes_of rfl rfl rfl rfl) G_induced (hr.mono (by first | exact Nat.le_refl _ | decide | omega)) rfl T.g_induced T.k_induced T.b_induced (r_val (v0 9 (pv 9) rfl) (r_val (c_tuple rfl T.z_tuple (e_lc (own := [("k", 20)]) [0, 1, 0, 0, 0, 0, 0, 0, 0, 0, 0, 0, 9, 9, 9, 9, 9, 9, 9, 9, 0] rfl sc_law.nd (i_range1 rfl T.z_range (v0 4 (pv 4) rfl) rfl) (blkOk_by (by show blkC ["script", "feed", "a", "b", "n", "m", "change", "both", "halves", "cross", "x", "q", "rows", "big", "lot", "part", "inner", "to", "moved", "renamed", "k"] (defScope s_law) _ _ = true; decide +kernel)) (fun _ _ _ _ _ => (gΓ [0, 1, 0, 0, 0, 0, 0, 0, 0, 0, 0, 0, 9, 9, 9, 9, 9, 9, 9, 9, 0] (g_name 20 (pg_name (i := 20) sc_law.nd rfl (by first | exact Or.inl rfl | exact Or.inr rfl)) rfl) rfl)) (fun _ _ _ _ _ => ts_nil) (fun _ _ _ _ _ => (e_add (e_mul (v0 20 (pv 20) rfl) (v0 5 (pv 5) rfl)) (v0 11 (pv 11) rfl))) rfl rfl rfl) rfl) r_nil rfl) rfl) rfl) rfl) a_nil rfl) rfl) (by decide)) rfl) rfl)
      (b_one (s_if (st_not (st_tru (eΓ [0, 1, 0, 0, 0, 0, 0, 0, 0, 0, 0, 0, 0, 9, 9, 9, 9, 9, 9, 9, 0] (e_call (takes_of rfl rfl rfl rfl) G__law_same (hr.mono (by first | exact Nat.le_refl _ | decide | omega)) rfl T.g__law_same T.k__law_same T.b__law_same (r_val (eΓ [0, 1, 0, 0, 0, 0, 0, 0, 0, 0, 0, 0, 0, 9, 9, 9, 9, 9, 9, 9, 0] (se_var 12 (pv 12)) rfl) (r_val (e_tup (a_cons (v0 3 (pv 3) rfl) (a_cons (v0 2 (pv 2) rfl) a_nil rfl) rfl) (by decide)) r_nil rfl) rfl) rfl) rfl) (fun _ => rfl))) (b_one (s_ret se_bl (by decide) rfl)) b_nil)))) (bW [0, 1, 0, 0, 0, 0, 0, 0, 0, 0, 0, 0, 0, 9, 9, 9, 9, 9, 9, 9, 0] b_nil rfl))
      (b_cons (sΓ [0, 1, 0, 0, 0, 0, 0, 0, 0, 0, 0, 0, 0, 0, 9, 9, 9, 9, 9, 9, 0] (s_set 13 sc_law.nd rfl (by first | exact Or.inl rfl | exact Or.inr rfl) (eΓ [0, 1, 0, 0, 0, 0, 0, 0, 0, 0, 0, 0, 0, 9, 9, 9, 9, 9, 9, 9, 0] (e_call (takes_of rfl rfl rfl rfl) G__law_of (hr.mono (by first | exact Nat.le_refl _ | decide | omega)) rfl T.g__law_of T.k__law_of T.b__law_of (r_bor 1 (pv 1) (r_val (e_lst 0 (a_cons (v0 7 (pv 7) rfl) (a_cons (v0 9 (pv 9) rfl) (a_cons (eΓ [0, 1, 0, 0, 0, 0, 0, 0, 0, 0, 0, 0, 0, 9, 9, 9, 9, 9, 9, 9, 0] (e_call (takes_of rfl rfl rfl rfl) G_beside (hr.mono (by first | exact Nat.le_refl _ | decide | omega)) rfl T.g_beside T.k_beside T.b_beside (r_val (v0 2 (pv 2) rfl) (r_val (v0 3 (pv 3) rfl) r_nil rfl) rfl) rfl) rfl) a_nil rfl) rfl) rfl) (by decide) rfl) r_nil rfl) rfl) rfl) rfl) rfl) rfl)
      (b_cons (s_if (st_bool (sw_and (t_ne hr.units (e_ixA hu65 (v0 13 (pv 13) rfl) se_int (fun _ _ => rfl)) (e_mul (v0 4 (pv 4) rfl) (v0 5 (pv 5) rfl))) (sw_and1 (t_ne hr.units (e_ixA hu65 (v0 13 (pv 13) rfl) se_int (fun _ _ => rfl)) (e_add (v0 4 (pv 4) rfl) (v0 5 (pv 5) rfl)))) rfl)) (b_one (s_ret se_bl (by decide) rfl)) b_nil)
      (b_cons (sΓ [0, 1, 0, 0, 0, 0, 0, 0, 0, 0, 0, 0, 0, 0, 9, 9, 9, 9, 9, 9, 0] (s_set 14 sc_law.nd rfl (by first | exact Or.inl rfl | exact Or.inr rfl) (c_tuple rfl T.z_tuple (c_sorted rfl rfl T.z_sorted (e_sl (eΓ [0, 1, 0, 0, 0, 0, 0, 0, 0, 0, 0, 0, 0, 0, 9, 9, 9, 9, 9, 9, 0] (e_call (takes_of rfl rfl rfl rfl) G__law_mixed (hr.mono (by first | exact Nat.le_refl _ | decide | omega)) rfl T.g__law_mixed T.k__law_mixed T.b__law_mixed (r_bor 1 (pv 1) (r_val (c_listRg1 rfl rfl T.z_list rfl T.z_range (e_ixA hu65 (v0 13 (pv 13) rfl) se_int (fun _ _ => rfl))) r_nil rfl) rfl) rfl) rfl) po_noneM (po_someM (eΓ [0, 1, 0, 0, 0, 0, 0, 0, 0, 0, 0, 0, 0, 0, 9, 9, 9, 9, 9, 9, 0] (e_call (takes_of rfl rfl rfl rfl) G__law_pick (hr.mono (by first | exact Nat.le_refl _ | decide | omega)) rfl T.g__law_pick T.k__law_pick T.b__law_pick (r_bor 1 (pv 1) (r_val (e_add (c_min2 rfl rfl T.z_min (e_ixA hu65 (v0 13 (pv 13) rfl) se_int (fun _ _ => rfl)) se_int rfl rfl) se_int) r_nil rfl) rfl) rfl) rfl))) rfl) rfl) rfl) rfl)
      (b_cons (sΓ [0, 1, 0, 0, 0, 0, 0, 0, 0, 0, 0, 0, 0, 0, 0, 9, 9, 9, 9, 9, 0] (s_set 15 sc_law.nd rfl (by first | exact Or.inl rfl | exact Or.inr rfl) (eΓ [0, 1, 0, 0, 0, 0, 0, 0, 0, 0, 0, 0, 0, 0, 0, 9, 9, 9, 9, 9, 0] (e_call (takes_of rfl rfl rfl rfl) G_induced (hr.mono (by first | exact Nat.le_refl _ | decide | omega)) rfl T.g_induced T.k_induced T.b_induced (r_val (v0 13 (pv 13) rfl) (r_val (eΓ [0, 1, 0, 0, 0, 0, 0, 0, 0, 0, 0, 0, 0, 0, 0, 9, 9, 9, 9, 9, 0] (se_var 14 (pv 14)) rfl) r_nil rfl) rfl) rfl) rfl) rfl) rfl)
      (b_cons (s_if (st_not (st_tru (eΓ [0, 1, 0, 0, 0, 0, 0, 0, 0, 0, 0, 0, 0, 0, 0, 0, 9, 9, 9, 9, 0] (e_call (takes_of rfl rfl rfl rfl) G__law_same (hr.mono (by first | exact Nat.le_refl _ | decide | omega)) rfl T.g__law_same T.k__law_same T.b__law_same (r_val (eΓ [0, 1, 0, 0, 0, 0, 0, 0, 0, 0, 0, 0, 0, 0, 0, 0, 9, 9, 9, 9, 0] (se_var 15 (pv 15)) rfl) (r_val (eΓ [0, 1, 0, 0, 0, 0, 0, 0, 0, 0, 0, 0, 0, 0, 0, 0, 9, 9, 9, 9, 0] (e_call (takes_of rfl rfl rfl rfl) G__law_induced (hr.mono (by first | exact Nat.le_refl _ | decide | omega)) rfl T.g__law_induced T.k__law_induced T.b__law_induced (r_val (v0 13 (pv 13) rfl) (r_val (v0 14 (pv 14) rfl) r_nil rfl) rfl) rfl) rfl) r_nil rfl) rfl) rfl) rfl) (fun _ => rfl))) (b_one (s_ret se_bl (by decide) rfl)) b_nil)
      (b_cons (sΓ [0, 1, 0, 0, 0, 0, 0, 0, 0, 0, 0, 0, 0, 0, 0, 0, 9, 9, 9, 9, 0] (s_set 16 sc_law.nd rfl (by first | exact Or.inl rfl | exact Or.inr rfl) (c_tuple rfl T.z_tuple (c_sorted rfl rfl T.z_sorted (e_sl (eΓ [0, 1, 0, 0, 0, 0, 0, 0, 0, 0, 0, 0, 0, 0, 0, 0, 9, 9, 9, 9, 0] (e_call (takes_of rfl rfl rfl rfl) G__law_mixed (hr.mono (by first | exact Nat.le_refl _ | decide | omega)) rfl T.g__law_mixed T.k__law_mixed T.b__law_mixed (r_bor 1 (pv 1) (r_val (c_listRg1 rfl rfl T.z_list rfl T.z_range (c_len rfl T.z_len (v0 14 (pv 14) rfl) rfl)) r_nil rfl) rfl) rfl) rfl) po_noneM (po_someM (eΓ [0, 1, 0, 0, 0, 0, 0, 0, 0, 0, 0, 0, 0, 0, 0, 0, 9, 9, 9, 9, 0] (e_call (takes_of rfl rfl rfl rfl) G__law_pick (hr.mono (by first | exact Nat.le_refl _ | decide | omega)) rfl T.g__law_pick T.k__law_pick T.b__law_pick (r_bor 1 (pv 1) (r_val (e_add (c_len rfl T.z_len (v0 14 (pv 14) rfl) rfl) se_int) r_nil rfl) rfl) rfl) rfl))) rfl) rfl) rfl) rfl)
      (b_cons (s_if (st_not (st_tru (eΓ [0, 1, 0, 0, 0, 0, 0, 0, 0, 0, 0, 0, 0, 0, 0, 0, 0, 9, 9, 9, 0] (e_call (takes_of rfl rfl rfl rfl) G__law_same (hr.mono (by first | exact Nat.le_refl _ | decide | omega)) rfl T.g__law_same T.k__law_same T.b__law_same (r_val (e_tup (a_cons (eΓ [0, 1, 0, 0, 0, 0, 0, 0, 0, 0, 0, 0, 0, 0, 0, 0, 0, 9, 9, 9, 0] (e_call (takes_of rfl rfl rfl rfl) G_induced (hr.mono (by first | exact Nat.le_refl _ | decide | omega)) rfl T.g_induced T.k_induced T.b_induced (r_val (v0 15 (pv 15) rfl) (r_val (eΓ [0, 1, 0, 0, 0, 0, 0, 0, 0, 0, 0, 0, 0, 0, 0, 0, 0, 9, 9, 9, 0] (se_var 16 (pv 16)) rfl) r_nil rfl) rfl) rfl) rfl) (a_cons (eΓ [0, 1, 0, 0, 0, 0, 0, 0, 0, 0, 0, 0, 0, 0, 0, 0, 0, 9, 9, 9, 0] (e_call (takes_of rfl rfl rfl rfl) G_induced (hr.mono (by first | exact Nat.le_refl _ | decide | omega)) rfl T.g_induced T.k_induced T.b_induced (r_val (eΓ [0, 1, 0, 0, 0, 0, 0, 0, 0, 0, 0, 0, 0, 0, 0, 0, 0, 9, 9, 9, 0] (e_call (takes_of rfl rfl rfl rfl) G_opposite (hr.mono (by first | exact Nat.le_refl _ | decide | omega)) rfl T.g_opposite T.k_opposite T.b_opposite (r_val (v0 13 (pv 13) rfl) r_nil rfl) rfl) rfl) (r_val (v0 14 (pv 14) rfl) r_nil rfl) rfl) rfl) rfl) a_nil rfl) rfl) (by decide)) (r_val (e_tup (a_cons (eΓ [0, 1, 0, 0, 0, 0, 0, 0, 0, 0, 0, 0, 0, 0, 0, 0, 0, 9, 9, 9, 0] (e_call (takes_of rfl rfl rfl rfl) G_induced (hr.mono (by first | exact Nat.le_refl _ | decide | omega)) rfl T.g_induced T.k_induced T.b_induced (r_val (v0 13 (pv 13) rfl) (r_val (c_tuple rfl T.z_tuple (e_lc (own := [("k", 20)]) [0, 1, 0, 0, 0, 0, 0, 0, 0, 0, 0, 0, 0, 0, 0, 0, 0, 9, 9, 9, 0] rfl sc_law.nd (i_seq (v0 16 (pv 16) rfl)) (blkOk_by (by show blkC ["script", "feed", "a", "b", "n", "m", "change", "both", "halves", "cross", "x", "q", "rows", "big", "lot", "part", "inner", "to", "moved", "renamed", "k"] (defScope s_law) _ _ = true; decide +kernel)) (fun _ _ _ _ _ => (gΓ [0, 1, 0, 0, 0, 0, 0, 0, 0, 0, 0, 0, 0, 0, 0, 0, 0, 9, 9, 9, 0] (g_name 20 (pg_name (i := 20) sc_law.nd rfl (by first | exact Or.inl rfl | exact Or.inr rfl)) rfl) rfl)) (fun _ _ _ _ _ => ts_nil) (fun _ _ _ _ _ => (e_ixA hu65 (v0 14 (pv 14) rfl) (v0 20 (pv 20) rfl) (fun _ _ => rfl))) rfl rfl rfl) rfl) r_nil rfl) rfl) rfl) rfl) (a_cons (eΓ [0, 1, 0, 0, 0, 0, 0, 0, 0, 0, 0, 0, 0, 0, 0, 0, 0, 9, 9, 9, 0] (e_call (takes_of rfl rfl rfl rfl) G__law_turned (hr.mono (by first | exact Nat.le_refl _ | decide | omega)) rfl T.g__law_turned T.k__law_turned T.b__law_turned (r_val (v0 15 (pv 15) rfl) r_nil rfl) rfl) rfl) a_nil rfl) rfl) (by decide)) r_nil rfl) rfl) rfl) rfl) (fun _ => rfl))) (b_one (s_ret se_bl (by decide) rfl)) b_nil)
      (b_cons (sΓ [0, 1, 0, 0, 0, 0, 0, 0, 0, 0, 0, 0, 0, 0, 0, 0, 0, 1, 9, 9, 0] (s_set 17 sc_law.nd rfl (by first | exact Or.inl rfl | exact Or.inr rfl) (eΓ [0, 1, 0, 0, 0, 0, 0, 0, 0, 0, 0, 0, 0, 0, 0, 0, 0, 9, 9, 9, 0] (e_call (takes_of rfl rfl rfl rfl) G__law_mixed (hr.mono (by first | exact Nat.le_refl _ | decide | omega)) rfl T.g__law_mixed T.k__law_mixed T.b__law_mixed (r_bor 1 (pv 1) (r_val (c_listRg1 rfl rfl T.z_list rfl T.z_range (v0 4 (pv 4) rfl)) r_nil rfl) rfl) rfl) rfl) rfl) rfl)
      (b_cons (sΓ [0, 1, 0, 0, 0, 0, 0, 0, 0, 0, 0, 0, 0, 0, 0, 0, 0, 0, 9, 9, 0] (s_set 18 sc_law.nd rfl (by first | exact Or.inl rfl | exact Or.inr rfl) (eΓ [0, 1, 0, 0, 0, 0, 0, 0, 0, 0, 0, 0, 0, 0, 0, 0, 0, 0, 9, 9, 0] (e_call (takes_of rfl rfl rfl rfl) G__law_moved (hr.mono (by first | exact Nat.le_refl _ | decide | omega)) rfl T.g__law_moved T.k__law_moved T.b__law_moved (r_val (v0 2 (pv 2) rfl) (r_val (eΓ [0, 1, 0, 0, 0, 0, 0, 0, 0, 0, 0, 0, 0, 0, 0, 0, 0, 0, 9, 9, 0] (se_var 17 (pv 17)) rfl) r_nil rfl) rfl) rfl) rfl) rfl) rfl)
      (b_cons (s_if (st_not (st_tru (eΓ [0, 1, 0, 0, 0, 0, 0, 0, 0, 0, 0, 0, 0, 0, 0, 0, 0, 0, 0, 9, 0] (e_call (takes_of rfl rfl rfl rfl) G__law_same (hr.mono (by first | exact Nat.le_refl _ | decide | omega)) rfl T.g__law_same T.k__law_same T.b__law_same (r_val (e_tup (a_cons (eΓ [0, 1, 0, 0, 0, 0, 0, 0, 0, 0, 0, 0, 0, 0, 0, 0, 0, 0, 9, 9, 0] (e_call (takes_of rfl rfl rfl rfl) G_induced (hr.mono (by first | exact Nat.le_refl _ | decide | omega)) rfl T.g_induced T.k_induced T.b_induced (r_val (v0 2 (pv 2) rfl) (r_val (c_tupleRg1 rfl rfl T.z_tuple rfl T.z_range (v0 4 (pv 4) rfl)) r_nil rfl) rfl) rfl) rfl) (a_cons (eΓ [0, 1, 0, 0, 0, 0, 0, 0, 0, 0, 0, 0, 0, 0, 0, 0, 0, 0, 9, 9, 0] (e_call (takes_of rfl rfl rfl rfl) G_induced (hr.mono (by first | exact Nat.le_refl _ | decide | omega)) rfl T.g_induced T.k_induced T.b_induced (r_val (v0 2 (pv 2) rfl) (r_val (e_tup a_nil (by decide)) r_nil rfl) rfl) rfl) rfl) (a_cons (eΓ [0, 1, 0, 0, 0, 0, 0, 0, 0, 0, 0, 0, 0, 0, 0, 0, 0, 0, 0, 9, 0] (e_call (takes_of rfl rfl rfl rfl) G_opposite (hr.mono (by first | exact Nat.le_refl _ | decide | omega)) rfl T.g_opposite T.k_opposite T.b_opposite (r_val (eΓ [0, 1, 0, 0, 0, 0, 0, 0, 0, 0, 0, 0, 0, 0, 0, 0, 0, 0, 0, 9, 0] (se_var 18 (pv 18)) rfl) r_nil rfl) rfl) rfl) a_nil rfl) rfl) rfl) (by decide)) (r_val (e_tup (a_cons (v0 2 (pv 2) rfl) (a_cons (e_tup (a_cons se_int (a_cons (e_tup a_nil (by decide)) a_nil rfl) rfl) (by decide)) (a_cons (eΓ [0, 1, 0, 0, 0, 0, 0, 0, 0, 0, 0, 0, 0, 0, 0, 0, 0, 0, 0, 9, 0] (e_call (takes_of rfl rfl rfl rfl) G__law_moved (hr.mono (by first | exact Nat.le_refl _ | decide | omega)) rfl T.g__law_moved T.k__law_moved T.b__law_moved (r_val (eΓ [0, 1, 0, 0, 0, 0, 0, 0, 0, 0, 0, 0, 0, 0, 0, 0, 0, 0, 0, 9, 0] (e_call (takes_of rfl rfl rfl rfl) G__law_turned (hr.mono (by first | exact Nat.le_refl _ | decide | omega)) rfl T.g__law_turned T.k__law_turned T.b__law_turned (r_val (v0 2 (pv 2) rfl) r_nil rfl) rfl) rfl) (r_val (v0 17 (pv 17) rfl) r_nil rfl) rfl) rfl) rfl) a_nil rfl) rfl) rfl) (by decide)) r_nil rfl) rfl) rfl) rfl) (fun _ => rfl))) (b_one (s_ret se_bl (by decide) rfl)) b_nil)
      (b_cons (sΓ [0, 1, 0, 0, 0, 0, 0, 0, 0, 0, 0, 0, 0, 0, 0, 0, 0, 0, 0, 8, 0] (s_set 19 sc_law.nd rfl (by first | exact Or.inl rfl | exact Or.inr rfl) (e_lst 7 a_nil (by decide) rfl) rfl) rfl)
      (b_cons (s_for [0, 1, 0, 0, 0, 0, 0, 0, 0, 0, 0, 0, 0, 0, 0, 0, 0, 0, 0, 1, 0] [0, 1, 0, 0, 0, 0, 0, 0, 0, 0, 0, 0, 0, 0, 0, 0, 0, 0, 0, 1, 0] (passes_of rfl) rfl (i_range1 rfl T.z_range (v0 4 (pv 4) rfl) rfl) (gΓ [0, 1, 0, 0, 0, 0, 0, 0, 0, 0, 0, 0, 0, 0, 0, 0, 0, 0, 0, 1, 0] (g_name 10 (pg_name (i := 10) sc_law.nd rfl (by first | exact Or.inl rfl | exact Or.inr rfl)) rfl) rfl) (b_one (sΓ [0, 1, 0, 0, 0, 0, 0, 0, 0, 0, 0, 0, 0, 0, 0, 0, 0, 0, 0, 1, 0] (s_set 19 sc_law.nd rfl (by first | exact Or.inl rfl | exact Or.inr rfl) (e_add (eΓ [0, 1, 0, 0, 0, 0, 0, 0, 0, 0, 0, 0, 0, 0, 0, 0, 0, 0, 0, 0, 0] (se_var 19 (pv 19)) rfl) (e_lc (own := [("q", 11)]) [0, 1, 0, 0, 0, 0, 0, 0, 0, 0, 0, 0, 0, 0, 0, 0, 0, 0, 0, 0, 0] rfl sc_law.nd (i_range1 rfl T.z_range (v0 5 (pv 5) rfl) rfl) (blkOk_by (by show blkC ["script", "feed", "a", "b", "n", "m", "change", "both", "halves", "cross", "x", "q", "rows", "big", "lot", "part", "inner", "to", "moved", "renamed", "k"] (defScope s_law) _ _ = true; decide +kernel)) (fun _ _ _ _ _ => (gΓ [0, 1, 0, 0, 0, 0, 0, 0, 0, 0, 0, 0, 0, 0, 0, 0, 0, 0, 0, 0, 0] (g_name 11 (pg_name (i := 11) sc_law.nd rfl (by first | exact Or.inl rfl | exact Or.inr rfl)) rfl) rfl)) (fun _ _ _ _ _ => ts_nil) (fun _ _ _ _ _ => (e_add (e_mul (e_ixA hu65 (v0 17 (pv 17) rfl) (v0 10 (pv 10) rfl) (fun _ _ => rfl)) (v0 5 (pv 5) rfl)) (v0 11 (pv 11) rfl))) rfl rfl rfl)) rfl) rfl)) rfl rfl)
      (b_one (s_ret (eΓ [0, 1, 0, 0, 0, 0, 0, 0, 0, 0, 0, 0, 0, 0, 0, 0, 0, 0, 0, 0, 0] (e_call (takes_of rfl rfl rfl rfl) G__law_same (hr.mono (by first | exact Nat.le_refl _ | decide | omega)) rfl T.g__law_same T.k__law_same T.b__law_same (r_val (eΓ [0, 1, 0, 0, 0, 0, 0, 0, 0, 0, 0, 0, 0, 0, 0, 0, 0, 0, 0, 1, 0] (e_call (takes_of rfl rfl rfl rfl) G_product (hr.mono (by first | exact Nat.le_refl _ | decide | omega)) rfl T.g_product T.k_product T.b_product (r_val (v0 18 (pv 18) rfl) (r_val (v0 3 (pv 3) rfl) r_nil rfl) rfl) rfl) rfl) (r_val (eΓ [0, 1, 0, 0, 0, 0, 0, 0, 0, 0, 0, 0, 0, 0, 0, 0, 0, 0, 0, 0, 0] (e_call (takes_of rfl rfl rfl rfl) G__law_moved (hr.mono (by first | exact Nat.le_refl _ | decide | omega)) rfl T.g__law_moved T.k__law_moved T.b__law_moved (r_val (v0 9 (pv 9) rfl) (r_val (eΓ [0, 1, 0, 0, 0, 0, 0, 0, 0, 0, 0, 0, 0, 0, 0, 0, 0, 0, 0, 0, 0] (se_var 19 (pv 19)) rfl) r_nil rfl) rfl) rfl) rfl) r_nil rfl) rfl) rfl) rfl) (by decide) rfl)))))))))))))))))))))))))))
end
end Mir

set_option Elab.async false
set_option linter.all false
set_option maxRecDepth 100000
set_option maxHeartbeats 4000000
namespace Mir
open PySem PySem.Spec PyProof.Rows L2

/-! ### the mirrors, evaluated: each part's next step as a constant, so that a rewriter goes in by need -/
section
variable {α β γ : Type}
theorem bind_ok (a : α) (ρ : Env) (f : α → Env → Rs β) : (Rs.ok a ρ).bind f = f a ρ := rfl
theorem lift_some (a : α) (ρ : Env) : Rs.lift (some a) ρ = .ok a ρ := rfl
def okK (f : α → β) (a : α) : M β := fun ρ => .ok (f a) ρ
theorem okK_eq (f : α → β) (a : α) (ρ : Env) : okK f a ρ = .ok (f a) ρ := rfl
def liftK (f : α → Option β) (a : α) : M β := fun ρ => .lift (f a) ρ
theorem liftK_eq (f : α → Option β) (a : α) (ρ : Env) : liftK f a ρ = .lift (f a) ρ := rfl
def seqK (b : M Fl) : Fl → M Fl
  | .next => b
  | fl => fun ρ => .ok fl ρ
theorem ev_seq (a b : M Fl) (ρ : Env) : mSeq a b ρ = (a ρ).bind (seqK b) := by
  show (a ρ).bind _ = _
  cases a ρ with
  | ok fl ρ => cases fl <;> rfl
  | _ => rfl
theorem seqK_next (b : M Fl) (ρ : Env) : seqK b .next ρ = b ρ := rfl
theorem seqK_ret (b : M Fl) (d : D) (ρ : Env) : seqK b (.ret d) ρ = .ok (.ret d) ρ := rfl
def asgK (t : D → M Unit) (d : D) : M Fl := fun ρ => (t d ρ).bind (okK fun _ => .next)
theorem ev_asg (m : M D) (t : D → M Unit) (ρ : Env) : mAsg m t ρ = (m ρ).bind (asgK t) := rfl
theorem asgK_eq (t : D → M Unit) (d : D) (ρ : Env) : asgK t d ρ = (t d ρ).bind (okK fun _ => .next) := rfl
theorem ev_ret (m : M D) (ρ : Env) : mRet m ρ = (m ρ).bind (okK .ret) := rfl
theorem ev_expr (m : M D) (ρ : Env) : mExpr m ρ = (m ρ).bind (okK fun _ => .next) := rfl
theorem ev_skip (ρ : Env) : mSkip ρ = .ok .next ρ := rfl
theorem ev_brk (ρ : Env) : mBrk ρ = .ok .brk ρ := rfl
theorem ev_cont (ρ : Env) : mCont ρ = .ok .cont ρ := rfl
def ifK (a b : M β) : Bool → M β
  | true => a
  | false => b
theorem ifK_t (a b : M β) (ρ : Env) : ifK a b true ρ = a ρ := rfl
theorem ifK_f (a b : M β) (ρ : Env) : ifK a b false ρ = b ρ := rfl
theorem ev_ifS (t : M Bool) (a b : M Fl) (ρ : Env) : mIfS t a b ρ = (t ρ).bind (ifK a b) := by
  show (t ρ).bind _ = _
  cases t ρ with
  | ok c ρ => cases c <;> rfl
  | _ => rfl
theorem ev_if (t : M Bool) (a b : M D) (ρ : Env) : mIf t a b ρ = (t ρ).bind (ifK a b) := by
  show (t ρ).bind _ = _
  cases t ρ with
  | ok c ρ => cases c <;> rfl
  | _ => rfl
theorem ev_c (d : D) (ρ : Env) : mC d ρ = .ok d ρ := rfl
theorem ev_yes (ρ : Env) : mYes ρ = .ok true ρ := rfl
theorem ev_no (a b : M Bool) (ρ : Env) : mNot a ρ = (a ρ).bind (okK not) := rfl
def cK (c : Bool) : M Bool := fun ρ => .ok c ρ
theorem cK_eq (c : Bool) (ρ : Env) : cK c ρ = .ok c ρ := rfl
theorem ev_and (a b : M Bool) (ρ : Env) : mAnd a b ρ = (a ρ).bind (ifK b (cK false)) := by
  show (a ρ).bind _ = _
  cases a ρ with
  | ok c ρ => cases c <;> rfl
  | _ => rfl
theorem ev_or (a b : M Bool) (ρ : Env) : mOr a b ρ = (a ρ).bind (ifK (cK true) b) := by
  show (a ρ).bind _ = _
  cases a ρ with
  | ok c ρ => cases c <;> rfl
  | _ => rfl
theorem ev_tb (m : M D) (ρ : Env) : mTB m ρ = (m ρ).bind (liftK boolD) := rfl
theorem ev_tru (m : M D) (ρ : Env) : mTru m ρ = (m ρ).bind (liftK truD) := rfl
theorem ev_not (a : M Bool) (ρ : Env) : mNot a ρ = (a ρ).bind (okK not) := rfl
def bK (f : M D) (g : M D) (d : D) : M D := fun ρ => (Rs.lift (boolD d) ρ).bind (ifK f g)
theorem bK_bool (f g : M D) (b : Bool) (ρ : Env) : bK f g (.bool b) ρ = ifK f g b ρ := rfl
theorem ev_andV (a b : M D) (ρ : Env) : mAndV a b ρ = (a ρ).bind (bK b (mC (.bool false))) := by
  show (a ρ).bind _ = _
  cases a ρ with
  | ok c ρ =>
    show (Rs.lift (boolD c) ρ).bind _ = (Rs.lift (boolD c) ρ).bind _
    cases boolD c with
    | none => rfl
    | some b => cases b <;> rfl
  | _ => rfl
theorem ev_orV (a b : M D) (ρ : Env) : mOrV a b ρ = (a ρ).bind (bK (mC (.bool true)) b) := by
  show (a ρ).bind _ = _
  cases a ρ with
  | ok c ρ =>
    show (Rs.lift (boolD c) ρ).bind _ = (Rs.lift (boolD c) ρ).bind _
    cases boolD c with
    | none => rfl
    | some b => cases b <;> rfl
  | _ => rfl
def notK (d : D) : M D := fun ρ => (Rs.lift (boolD d) ρ).bind (okK fun c => .bool (!c))
theorem ev_notV (a : M D) (ρ : Env) : mNotV a ρ = (a ρ).bind notK := rfl
theorem notK_bool (b : Bool) (ρ : Env) : notK (.bool b) ρ = .ok (.bool (!b)) ρ := rfl
def m2K (f : D → D → Option D) (b : M D) (x : D) : M D := fun ρ => (b ρ).bind (liftK (f x))
theorem ev_m2 (f : D → D → Option D) (a b : M D) (ρ : Env) : m2 f a b ρ = (a ρ).bind (m2K f b) := rfl
theorem m2K_eq (f : D → D → Option D) (b : M D) (x : D) (ρ : Env) : m2K f b x ρ = (b ρ).bind (liftK (f x)) := rfl
theorem ev_m1 (f : D → Option D) (a : M D) (ρ : Env) : m1 f a ρ = (a ρ).bind (liftK f) := rfl
theorem ev_nil (ρ : Env) : mNil ρ = .ok [] ρ := rfl
def consK (r : M (List D)) (d : D) : M (List D) := fun ρ => (r ρ).bind (okK (d :: ·))
theorem ev_cons (a : M D) (r : M (List D)) (ρ : Env) : mCons a r ρ = (a ρ).bind (consK r) := rfl
theorem consK_eq (r : M (List D)) (d : D) (ρ : Env) : consK r d ρ = (r ρ).bind (okK (d :: ·)) := rfl
theorem ev_tup (m : M (List D)) (ρ : Env) : mTup m ρ = (m ρ).bind (okK .tuple) := rfl
theorem ev_lst (m : M (List D)) (ρ : Env) : mLst m ρ = (m ρ).bind (okK .list) := rfl
def slotK (o : Option (Option D)) (ρ : Env) : Rs D := match o with
  | some (some d) => .ok d ρ
  | _ => .stuck
theorem ev_slot (i : Nat) (ρ : Env) : mSlot i ρ = slotK ρ[i]? ρ := rfl
theorem slotK_eq (d : D) (ρ : Env) : slotK (some (some d)) ρ = .ok d ρ := rfl
def retOK (i : Nat) (o : Option (Option D)) (ρ : Env) : Rs Fl := match o with
  | some (some d) => .ok (.ret d) (ρ.set i none)
  | _ => .stuck
theorem ev_retO (i : Nat) (ρ : Env) : mRetO i ρ = retOK i ρ[i]? ρ := rfl
theorem retOK_eq (i : Nat) (d : D) (ρ : Env) : retOK i (some (some d)) ρ = .ok (.ret d) (ρ.set i none) := rfl
theorem ev_name (i : Nat) (d : D) (ρ : Env) : tgName i d ρ = if i < ρ.length then .ok () (ρ.set i (some d)) else .stuck := rfl
theorem ev_tup2 (u : List D → M Unit) (x y : D) (ρ : Env) : tgTup 2 u (.tuple [x, y]) ρ = u [x, y] ρ := rfl
theorem ev_tup3 (u : List D → M Unit) (x y z : D) (ρ : Env) : tgTup 3 u (.tuple [x, y, z]) ρ = u [x, y, z] ρ := rfl
def tgK (u : List D → M Unit) (ds : List D) (_ : Unit) : M Unit := u ds
theorem ev_tgc (t : D → M Unit) (u : List D → M Unit) (d : D) (ds : List D) (ρ : Env) : tgCons t u (d :: ds) ρ = (t d ρ).bind (tgK u ds) := rfl
theorem tgK_eq (u : List D → M Unit) (ds : List D) (x : Unit) (ρ : Env) : tgK u ds x ρ = u ds ρ := rfl
theorem ev_tgn (ρ : Env) : tgNil [] ρ = .ok () ρ := rfl
def callK2 (as : List Ar) (ρ : Env) : Rs D → Rs D
  | .ok d fin => match unfill as fin ρ with
    | some ρ'' => .ok d ρ''
    | none => .stuck
  | .exc x _ => .exc x ρ
  | .stuck => .stuck
def callK1 (f : Fn) (as : List Ar) : Option (List D × Env) → Rs D
  | some p => callK2 as p.2 (f p.1)
  | none => .stuck
def callK (f : Fn) (as : List Ar) (ds : List D) : M D := fun ρ => callK1 f as (fill as ds ρ)
theorem ev_call (f : Fn) (as : List Ar) (m : M (List D)) (ρ : Env) : mCall f as m ρ = (m ρ).bind (callK f as) := by
  show (m ρ).bind _ = _
  cases m ρ with
  | ok ds ρ =>
    show (match fill as ds ρ with | some (ds', ρ') => _ | none => _) = callK1 f as (fill as ds ρ)
    cases fill as ds ρ with
    | none => rfl
    | some p =>
      obtain ⟨ds', ρ'⟩ := p
      show (match f ds' with | .ok d fin => _ | .exc x _ => _ | .stuck => _) = callK2 as ρ' (f ds')
      cases f ds' <;> rfl
  | _ => rfl
theorem callK_v1 (f : Fn) (x : D) (ρ : Env) : callK f [.val] [x] ρ = callK2 [.val] ρ (f [x]) := rfl
theorem callK_v2 (f : Fn) (x y : D) (ρ : Env) : callK f [.val, .val] [x, y] ρ = callK2 [.val, .val] ρ (f [x, y]) := rfl
theorem callK_v3 (f : Fn) (x y z : D) (ρ : Env) : callK f [.val, .val, .val] [x, y, z] ρ = callK2 [.val, .val, .val] ρ (f [x, y, z]) := rfl
theorem callK2_v1 (d : D) (r : Option D) (ρ : Env) : callK2 [.val] ρ (.ok d [r]) = .ok d ρ := rfl
theorem callK2_v2 (d : D) (r s : Option D) (ρ : Env) : callK2 [.val, .val] ρ (.ok d [r, s]) = .ok d ρ := rfl
theorem callK2_v3 (d : D) (r s t : Option D) (ρ : Env) : callK2 [.val, .val, .val] ρ (.ok d [r, s, t]) = .ok d ρ := rfl
/-- a first argument borrowed from the slot j -/
def borK (f : Fn) (as : List Ar) (j : Nat) (ds : List D) (o : Option (Option D)) (ρ : Env) : Rs D := match o with
  | some (some d) => callK2 (.bor j :: as) (ρ.set j none) (f (d :: ds))
  | _ => .stuck
theorem callK_b1 (f : Fn) (j : Nat) (x y : D) (ρ : Env) : callK f [.bor j, .val] [x, y] ρ = borK f [.val] j [y] ρ[j]? ρ := by
  show callK1 f _ (match ρ[j]? with | some (some d) => _ | _ => _) = _
  cases ρ[j]? with
  | none => rfl
  | some r => cases r <;> rfl
theorem callK_b2 (f : Fn) (j : Nat) (x y z : D) (ρ : Env) : callK f [.bor j, .val, .val] [x, y, z] ρ = borK f [.val, .val] j [y, z] ρ[j]? ρ := by
  show callK1 f _ (match ρ[j]? with | some (some d) => _ | _ => _) = _
  cases ρ[j]? with
  | none => rfl
  | some r => cases r <;> rfl
theorem borK_eq (f : Fn) (as : List Ar) (j : Nat) (ds : List D) (d : D) (ρ : Env) : borK f as j ds (some (some d)) ρ = callK2 (.bor j :: as) (ρ.set j none) (f (d :: ds)) := rfl
def unK (d : D) (j : Nat) (r : Option D) (o : Option (Option D)) (ρ : Env) : Rs D := match o with
  | some none => .ok d (ρ.set j r)
  | _ => .stuck
theorem callK2_b1 (j : Nat) (d : D) (r s : Option D) (ρ : Env) : callK2 [.bor j, .val] ρ (.ok d [r, s]) = unK d j r ρ[j]? ρ := by
  show (match (match ρ[j]? with | some none => unfill [.val] [s] (ρ.set j r) | _ => none) with | some ρ'' => Rs.ok d ρ'' | none => Rs.stuck) = _
  cases ρ[j]? with
  | none => rfl
  | some r => cases r <;> rfl
theorem callK2_b2 (j : Nat) (d : D) (r s t : Option D) (ρ : Env) : callK2 [.bor j, .val, .val] ρ (.ok d [r, s, t]) = unK d j r ρ[j]? ρ := by
  show (match (match ρ[j]? with | some none => unfill [.val, .val] [s, t] (ρ.set j r) | _ => none) with | some ρ'' => Rs.ok d ρ'' | none => Rs.stuck) = _
  cases ρ[j]? with
  | none => rfl
  | some r => cases r <;> rfl
theorem unK_eq (d : D) (j : Nat) (r : Option D) (ρ : Env) : unK d j r (some none) ρ = .ok d (ρ.set j r) := rfl
def bor1K (j : Nat) (r : M (List D)) (o : Option (Option D)) (ρ : Env) : Rs (List D) := match o with
  | some (some _) => (r ρ).bind (okK (PyData.none :: ·))
  | _ => .stuck
end
end Mir

set_option Elab.async false
set_option linter.all false
set_option maxRecDepth 100000
set_option maxHeartbeats 4000000
namespace Mir
open PySem PySem.Spec PyProof.Rows L2
section
variable {α β γ : Type}
theorem ev_bor (j : Nat) (r : M (List D)) (ρ : Env) : mBor j r ρ = bor1K j r ρ[j]? ρ := by
  show (match ρ[j]? with | some (some _) => _ | _ => _) = _
  cases ρ[j]? with
  | none => rfl
  | some r => cases r <;> rfl
theorem bor1K_eq (j : Nat) (r : M (List D)) (d : D) (ρ : Env) : bor1K j r (some (some d)) ρ = (r ρ).bind (okK (PyData.none :: ·)) := rfl
def lenOK (o : Option (List D)) (ρ : Env) : Rs D := match o with
  | some ds => .ok (.int ds.length) ρ
  | none => .stuck
theorem ev_lenO (i : Nat) (ρ : Env) : mLenO i ρ = lenOK (listAt ρ i) ρ := by
  show (match listAt ρ i with | some ds => _ | none => _) = _
  cases listAt ρ i <;> rfl
theorem lenOK_eq (ds : List D) (ρ : Env) : lenOK (some ds) ρ = .ok (.int ds.length) ρ := rfl
def listK (o : Option (Option D)) : Option (List D) := match o with
  | some (some (.list ds)) => some ds
  | _ => none
theorem listAt_eq (ρ : Env) (i : Nat) : listAt ρ i = listK ρ[i]? := rfl
theorem listK_eq (ds : List D) : listK (some (some (.list ds))) = some ds := rfl
/-- x[k], x a slot that owns a list of scalars or tuples -/
def ixO2 (n : Nat) (o : Option D) (ρ : Env) : Rs D := match o with
  | some d => if n = 0 ∨ notL d = true then .ok d ρ else .stuck
  | none => .stuck
def ixO1 (i n : Nat) (k : D) : M D := fun ρ => match listAt ρ i, k with
  | some ds, .int k => ixO2 n (atI ds k) ρ
  | _, _ => .stuck
def ixO0 (i n : Nat) (mb : M D) (o : Option (Option D)) (ρ : Env) : Rs D := match o with
  | some (some _) => (mb ρ).bind (ixO1 i n)
  | _ => .stuck
theorem ev_ixO (i n : Nat) (mb : M D) (ρ : Env) : mIxO i n mb ρ = ixO0 i n mb ρ[i]? ρ := by
  unfold mIxO
  cases ρ[i]? with
  | none => rfl
  | some r =>
    cases r with
    | none => rfl
    | some d =>
      show (mb ρ).bind _ = (mb ρ).bind _
      cases mb ρ with
      | ok k ρ =>
        show (match listAt ρ i, k with | some ds, .int k => _ | _, _ => _) = ixO1 i n k ρ
        unfold ixO1
        cases listAt ρ i with
        | none => rfl
        | some ds =>
          cases k with
          | int k =>
            show (match atI ds k with | some d => _ | none => _) = ixO2 n (atI ds k) ρ
            cases atI ds k <;> rfl
          | _ => rfl
      | _ => rfl
theorem ixO0_eq (i n : Nat) (mb : M D) (d : D) (ρ : Env) : ixO0 i n mb (some (some d)) ρ = (mb ρ).bind (ixO1 i n) := rfl
def ixO1' (n : Nat) (k : Int) (o : Option (List D)) (ρ : Env) : Rs D := match o with
  | some ds => ixO2 n (atI ds k) ρ
  | none => .stuck
theorem ixO1_eq (i n : Nat) (k : Int) (ρ : Env) : ixO1 i n (.int k) ρ = ixO1' n k (listAt ρ i) ρ := by
  unfold ixO1
  cases listAt ρ i <;> rfl
theorem ixO1'_eq (n : Nat) (k : Int) (ds : List D) (ρ : Env) : ixO1' n k (some ds) ρ = ixO2 n (atI ds k) ρ := rfl
theorem ixO2_0 (d : D) (ρ : Env) : ixO2 0 (some d) ρ = .ok d ρ := rfl
theorem ixO2_n (n : Nat) (d : D) (ρ : Env) (h : notL d = true) : ixO2 n (some d) ρ = .ok d ρ := by
  show (if n = 0 ∨ notL d = true then _ else _) = _
  rw [if_pos (Or.inr h)]
/-- x[k] = d -/
def subK2 (i : Nat) (ds : List D) (d : D) (o : Option Nat) (ρ : Env) : Rs Unit := match o with
  | some j => .ok () (ρ.set i (some (.list (ds.set j d))))
  | none => .stuck
def subK1 (i : Nat) (d : D) (k : Int) (o : Option (List D)) (ρ : Env) : Rs Unit := match o with
  | some ds => subK2 i ds d (ixN ds.length k) ρ
  | none => .stuck
def subK (i : Nat) (d : D) (k : D) : M Unit := fun ρ => match k with
  | .int k => subK1 i d k (listAt ρ i) ρ
  | _ => .stuck
def subK0 (i : Nat) (mi : M D) (d : D) (o : Option (Option D)) (ρ : Env) : Rs Unit := match o with
  | some (some _) => (mi ρ).bind (subK i d)
  | _ => .stuck
theorem ev_sub (i : Nat) (mi : M D) (d : D) (ρ : Env) : tgSub i mi d ρ = subK0 i mi d ρ[i]? ρ := by
  unfold tgSub
  cases ρ[i]? with
  | none => rfl
  | some r =>
    cases r with
    | none => rfl
    | some d0 =>
      show (mi ρ).bind _ = (mi ρ).bind _
      cases mi ρ with
      | ok k ρ =>
        show (match listAt ρ i, k with | some ds, .int k => _ | _, _ => _) = subK i d k ρ
        unfold subK
        cases k with
        | int k =>
          show _ = subK1 i d k (listAt ρ i) ρ
          cases listAt ρ i with
          | none => rfl
          | some ds =>
            show (match ixN ds.length k with | some j => _ | none => _) = subK2 i ds d (ixN ds.length k) ρ
            cases ixN ds.length k <;> rfl
        | _ => cases listAt ρ i <;> rfl
      | _ => rfl
theorem subK0_eq (i : Nat) (mi : M D) (d d0 : D) (ρ : Env) : subK0 i mi d (some (some d0)) ρ = (mi ρ).bind (subK i d) := rfl
theorem subK_eq (i : Nat) (d : D) (k : Int) (ρ : Env) : subK i d (.int k) ρ = subK1 i d k (listAt ρ i) ρ := rfl
theorem subK1_eq (i : Nat) (d : D) (k : Int) (ds : List D) (ρ : Env) : subK1 i d k (some ds) ρ = subK2 i ds d (ixN ds.length k) ρ := rfl
theorem subK2_eq (i : Nat) (ds : List D) (d : D) (j : Nat) (ρ : Env) : subK2 i ds d (some j) ρ = .ok () (ρ.set i (some (.list (ds.set j d)))) := rfl
/-- appends -/
def appK1 (i : Nat) (d : D) (o : Option (List D)) (ρ : Env) : Rs D := match o with
  | some ds => if ds.length < big then .ok .none (ρ.set i (some (.list (ds ++ [d])))) else .stuck
  | none => .stuck
def appK (i : Nat) (d : D) : M D := fun ρ => appK1 i d (listAt ρ i) ρ
def appK0 (i : Nat) (me : M D) (o : Option (List D)) (ρ : Env) : Rs D := match o with
  | none => .stuck
  | some _ => (me ρ).bind (appK i)
theorem ev_app (i : Nat) (me : M D) (ρ : Env) : mAppend i me ρ = appK0 i me (listAt ρ i) ρ := by
  unfold mAppend
  cases listAt ρ i with
  | none => rfl
  | some ds =>
    show (me ρ).bind _ = (me ρ).bind _
    cases me ρ with
    | ok d ρ =>
      show (match listAt ρ i with | some ds => _ | none => _) = appK1 i d (listAt ρ i) ρ
      cases listAt ρ i <;> rfl
    | _ => rfl
theorem appK0_eq (i : Nat) (me : M D) (ds : List D) (ρ : Env) : appK0 i me (some ds) ρ = (me ρ).bind (appK i) := rfl
theorem appK_eq (i : Nat) (d : D) (ρ : Env) : appK i d ρ = appK1 i d (listAt ρ i) ρ := rfl
theorem appK1_eq (i : Nat) (d : D) (ds : List D) (ρ : Env) (h : ds.length < big) : appK1 i d (some ds) ρ = .ok .none (ρ.set i (some (.list (ds ++ [d])))) := by
  show (if _ then _ else _) = _
  rw [if_pos h]
def insK1 (i : Nat) (j : Int) (d : D) (o : Option (List D)) (ρ : Env) : Rs D := match o with
  | some ds => if ds.length < big ∧ 0 ≤ j ∧ j < 1000000000 then .ok .none (ρ.set i (some (.list (ds.take j.toNat ++ d :: ds.drop j.toNat)))) else .stuck
  | none => .stuck
def insK (i : Nat) (k d : D) : M D := fun ρ => match k with
  | .int j => insK1 i j d (listAt ρ i) ρ
  | _ => .stuck
def insK' (i : Nat) (me : M D) (k : D) : M D := fun ρ => (me ρ).bind (insK i k)
def insK0 (i : Nat) (mi me : M D) (o : Option (List D)) (ρ : Env) : Rs D := match o with
  | none => .stuck
  | some _ => (mi ρ).bind (insK' i me)
theorem ev_ins (i : Nat) (mi me : M D) (ρ : Env) : mInsert i mi me ρ = insK0 i mi me (listAt ρ i) ρ := by
  unfold mInsert
  cases listAt ρ i with
  | none => rfl
  | some ds =>
    show (mi ρ).bind _ = (mi ρ).bind _
    cases mi ρ with
    | ok k ρ =>
      show (me ρ).bind _ = (me ρ).bind _
      cases me ρ with
      | ok d ρ =>
        show (match listAt ρ i, k with | some ds, .int j => _ | _, _ => _) = insK i k d ρ
        unfold insK
        cases k with
        | int j =>
          show _ = insK1 i j d (listAt ρ i) ρ
          cases listAt ρ i <;> rfl
        | _ => cases listAt ρ i <;> rfl
      | _ => rfl
    | _ => rfl
theorem insK0_eq (i : Nat) (mi me : M D) (ds : List D) (ρ : Env) : insK0 i mi me (some ds) ρ = (mi ρ).bind (insK' i me) := rfl
theorem insK'_eq (i : Nat) (me : M D) (k : D) (ρ : Env) : insK' i me k ρ = (me ρ).bind (insK i k) := rfl
theorem insK_eq (i : Nat) (j : Int) (d : D) (ρ : Env) : insK i (.int j) d ρ = insK1 i j d (listAt ρ i) ρ := rfl
theorem insK1_eq (i : Nat) (j : Int) (d : D) (ds : List D) (ρ : Env) (h : ds.length < big) (h1 : 0 ≤ j) (h2 : j < 1000000000) : insK1 i j d (some ds) ρ = .ok .none (ρ.set i (some (.list (ds.take j.toNat ++ d :: ds.drop j.toNat)))) := by
  show (if _ then _ else _) = _
  rw [if_pos ⟨h, h1, h2⟩]
def extK1 (i : Nat) (es : List D) (o : Option (List D)) (ρ : Env) : Rs D := match o with
  | some ds => if ds.length + es.length ≤ big then .ok .none (ρ.set i (some (.list (ds ++ es)))) else .stuck
  | none => .stuck
def extK (i : Nat) (d : D) : M D := fun ρ => match d with
  | .list es => extK1 i es (listAt ρ i) ρ
  | _ => .stuck
def extK0 (i : Nat) (me : M D) (o : Option (List D)) (ρ : Env) : Rs D := match o with
  | none => .stuck
  | some _ => (me ρ).bind (extK i)
theorem ev_ext (i : Nat) (me : M D) (ρ : Env) : mExtend i me ρ = extK0 i me (listAt ρ i) ρ := by
  unfold mExtend
  cases listAt ρ i with
  | none => rfl
  | some ds =>
    show (me ρ).bind _ = (me ρ).bind _
    cases me ρ with
    | ok d ρ =>
      show (match listAt ρ i, d with | some ds, .list es => _ | _, _ => _) = extK i d ρ
      unfold extK
      cases d with
      | list es =>
        show _ = extK1 i es (listAt ρ i) ρ
        cases listAt ρ i <;> rfl
      | _ => cases listAt ρ i <;> rfl
    | _ => rfl
theorem extK0_eq (i : Nat) (me : M D) (ds : List D) (ρ : Env) : extK0 i me (some ds) ρ = (me ρ).bind (extK i) := rfl
theorem extK_eq (i : Nat) (es : List D) (ρ : Env) : extK i (.list es) ρ = extK1 i es (listAt ρ i) ρ := rfl
theorem extK1_eq (i : Nat) (es : List D) (ds : List D) (ρ : Env) (h : ds.length + es.length ≤ big) : extK1 i es (some ds) ρ = .ok .none (ρ.set i (some (.list (ds ++ es)))) := by
  show (if _ then _ else _) = _
  rw [if_pos h]
/-! sources, loops -/
theorem ev_i1 (f : D → Option (List D)) (a : M D) (ρ : Env) : mI1 f a ρ = (a ρ).bind (liftK f) := rfl
def i2K (f : D → D → Option (List D)) (b : M D) (x : D) : M (List D) := fun ρ => (b ρ).bind (liftK (f x))
theorem ev_i2 (f : D → D → Option (List D)) (a b : M D) (ρ : Env) : mI2 f a b ρ = (a ρ).bind (i2K f b) := rfl
theorem i2K_eq (f : D → D → Option (List D)) (b : M D) (x : D) (ρ : Env) : i2K f b x ρ = (b ρ).bind (liftK (f x)) := rfl
theorem ev_lrg (m : M (List D)) (ρ : Env) : mLRg m ρ = (m ρ).bind (okK .list) := rfl
theorem ev_trg (m : M (List D)) (ρ : Env) : mTRg m ρ = (m ρ).bind (okK .tuple) := rfl
theorem ev_forS (s : M (List D)) (t : D → M Unit) (b : M Fl) (ρ : Env) : mForS s t b ρ = (s ρ).bind (mFor t b) := rfl
def bodyK (b : M Fl) (_ : Unit) : M Fl := b
theorem bodyK_eq (b : M Fl) (u : Unit) (ρ : Env) : bodyK b u ρ = b ρ := rfl
/-- rounds that all go on: over a list of things, with an invariant -/
theorem for_ev {α : Type} (f : α → D) (t : D → M Unit) (b : M Fl) (I : List α → Env → Prop) : ∀ (xs done : List α) (ρ : Env), I done ρ →
    (∀ (done : List α) (a : α) (rest : List α) (ρ : Env), I done ρ → ∃ ρ1, (t (f a) ρ).bind (bodyK b) = .ok .next ρ1 ∧ I (done ++ [a]) ρ1) → ∃ ρ', mFor t b (xs.map f) ρ = .ok .next ρ' ∧ I (done ++ xs) ρ'
  | [], done, ρ, h, _ => ⟨ρ, rfl, by simpa using h⟩
  | a :: xs, done, ρ, h, hs => by
    obtain ⟨ρ1, e, h1⟩ := hs done a xs ρ h
    obtain ⟨ρ', e', h'⟩ := for_ev f t b I xs (done ++ [a]) ρ1 h1 hs
    refine ⟨ρ', ?_, by simpa [List.append_assoc] using h'⟩
    rw [List.map_cons]
    show (t (f a) ρ).bind _ = _
    cases ht : t (f a) ρ with
    | ok u ρ0 =>
      rw [ht] at e
      have e0 : b ρ0 = .ok .next ρ1 := e
      show (b ρ0).bind _ = _
      rw [e0]
      exact e'
    | stuck => rw [ht] at e; cases e
    | exc x ρ0 => rw [ht] at e; cases e
/-- the same by positions -/
theorem for_ix {α : Type} (f : α → D) (t : D → M Unit) (b : M Fl) (I : Nat → Env → Prop) (xs : List α) (ρ : Env) (h0 : I 0 ρ)
    (hs : ∀ (i : Nat) (a : α) (ρ : Env), xs[i]? = some a → I i ρ → ∃ ρ1, (t (f a) ρ).bind (bodyK b) = .ok .next ρ1 ∧ I (i + 1) ρ1) : ∃ ρ', mFor t b (xs.map f) ρ = .ok .next ρ' ∧ I xs.length ρ' := by
  have key : ∀ (k : Nat) (ρ : Env), k ≤ xs.length → I k ρ → ∃ ρ', mFor t b ((xs.drop k).map f) ρ = .ok .next ρ' ∧ I xs.length ρ' := by
    intro k
    induction hk : xs.length - k generalizing k with
    | zero =>
      intro ρ hle h
      have : k = xs.length := by omega
      subst this
      rw [List.drop_length]
      exact ⟨ρ, rfl, h⟩
    | succ m ih =>
      intro ρ hle h
      have hlt : k < xs.length := by omega
      obtain ⟨ρ1, e, h1⟩ := hs k xs[k] ρ (List.getElem?_eq_getElem hlt) h
      obtain ⟨ρ', e', h'⟩ := ih (k + 1) (by omega) ρ1 (by omega) h1
      refine ⟨ρ', ?_, h'⟩
      rw [List.drop_eq_getElem_cons hlt, List.map_cons]
      show (t (f xs[k]) ρ).bind _ = _
      cases ht : t (f xs[k]) ρ with
      | ok u ρ0 =>
        rw [ht] at e
        have e0 : b ρ0 = .ok .next ρ1 := e
        show (b ρ0).bind _ = _
        rw [e0]
        exact e'
      | stuck => rw [ht] at e; cases e
      | exc x ρ0 => rw [ht] at e; cases e
  exact key 0 ρ (Nat.zero_le _) h0
/-! comprehensions -/
def oneE (vs : List Nat) (e : M D) : Bool → M (Option D)
  | true => fun ρ => (e ρ).bind fun x ρ => .ok (some x) (wipeE ρ vs)
  | false => fun ρ => .ok none (wipeE ρ vs)
def oneC (vs : List Nat) (c : M Bool) (e : M D) (_ : Unit) : M (Option D) := fun ρ => (c ρ).bind (oneE vs e)
/-- one item of a comprehension -/
def one (vs : List Nat) (t : D → M Unit) (c : M Bool) (e : M D) (d : D) : M (Option D) := fun ρ => (t d ρ).bind (oneC vs c e)
theorem one_eq (vs : List Nat) (t : D → M Unit) (c : M Bool) (e : M D) (d : D) (ρ : Env) : one vs t c e d ρ = (t d ρ).bind (oneC vs c e) := rfl
theorem oneC_eq (vs : List Nat) (c : M Bool) (e : M D) (u : Unit) (ρ : Env) : oneC vs c e u ρ = (c ρ).bind (oneE vs e) := rfl
def oneX (vs : List Nat) (x : D) : M (Option D) := fun ρ => .ok (some x) (wipeE ρ vs)
theorem oneE_t (vs : List Nat) (e : M D) (ρ : Env) : oneE vs e true ρ = (e ρ).bind (oneX vs) := rfl
theorem oneE_f (vs : List Nat) (e : M D) (ρ : Env) : oneE vs e false ρ = .ok none (wipeE ρ vs) := rfl
theorem oneX_eq (vs : List Nat) (x : D) (ρ : Env) : oneX vs x ρ = .ok (some x) (wipeE ρ vs) := rfl
theorem wipeE_nil (ρ : Env) : wipeE ρ [] = ρ := rfl
theorem wipeE_cons (ρ : Env) (v : Nat) (vs : List Nat) : wipeE ρ (v :: vs) = (wipeE ρ vs).set v none := rfl
theorem mLc_step {vs : List Nat} {t : D → M Unit} {c : M Bool} {e : M D} {d : D} {ds : List D} {ρ ρ1 : Env} {o : Option D} (h : one vs t c e d ρ = .ok o ρ1) :
    mLc vs t c e (d :: ds) ρ = (mLc vs t c e ds ρ1).bind fun r ρ => .ok (o.toList ++ r) ρ := by
  unfold one oneC at h
  show ((noX (t d ρ)).bind fun _ ρ => (noX (c ρ)).bind fun b ρ => if b = true then (noX (e ρ)).bind fun x ρ => (mLc vs t c e ds (wipeE ρ vs)).bind fun r ρ => .ok (x :: r) ρ else mLc vs t c e ds (wipeE ρ vs)) = _
  cases ht : t d ρ with
  | stuck => rw [ht] at h; cases h
  | exc x ρ0 => rw [ht] at h; cases h
  | ok u ρ0 =>
    rw [ht] at h
    have h : (c ρ0).bind (oneE vs e) = .ok o ρ1 := h
    show ((noX (c ρ0)).bind fun b ρ => if b = true then (noX (e ρ)).bind fun x ρ => (mLc vs t c e ds (wipeE ρ vs)).bind fun r ρ => .ok (x :: r) ρ else mLc vs t c e ds (wipeE ρ vs)) = _
    cases hc : c ρ0 with
    | stuck => rw [hc] at h; cases h
    | exc x ρ2 => rw [hc] at h; cases h
    | ok b ρ2 =>
      rw [hc] at h
      have h : oneE vs e b ρ2 = .ok o ρ1 := h
      cases b with
      | false =>
        cases h
        show mLc vs t c e ds (wipeE ρ2 vs) = (mLc vs t c e ds (wipeE ρ2 vs)).bind fun r ρ => .ok r ρ
        cases mLc vs t c e ds (wipeE ρ2 vs) <;> rfl
      | true =>
        have h : (e ρ2).bind (oneX vs) = .ok o ρ1 := h
        show ((noX (e ρ2)).bind fun x ρ => (mLc vs t c e ds (wipeE ρ vs)).bind fun r ρ => .ok (x :: r) ρ) = _
        cases he : e ρ2 with
        | stuck => rw [he] at h; cases h
        | exc x ρ3 => rw [he] at h; cases h
        | ok x ρ3 => rw [he] at h; cases h; rfl
/-- items that leave all as it was -/
theorem mLc_pure {α : Type} (xs : List α) (f : α → D) (g : α → Option D) {vs : List Nat} {t : D → M Unit} {c : M Bool} {e : M D} {ρ : Env} (h : ∀ a ∈ xs, one vs t c e (f a) ρ = .ok (g a) ρ) :
    mLc vs t c e (xs.map f) ρ = .ok (xs.filterMap g) ρ := by
  induction xs with
  | nil => rfl
  | cons a xs ih =>
    rw [List.map_cons, mLc_step (h a (by simp)), ih fun b hb => h b (by simp [hb])]
    show Rs.ok _ ρ = _
    rw [List.filterMap_cons]
    cases g a <;> rfl
/-- the same with a state -/
theorem mLc_st {α : Type} (xs : List α) (f : α → D) {vs : List Nat} {t : D → M Unit} {c : M Bool} {e : M D} (I : List α → List D → Env → Prop) {ρ : Env} (h0 : I [] [] ρ)
    (h : ∀ (done : List α) (a : α) (acc : List D) (ρ : Env), a ∈ xs → I done acc ρ → ∃ o ρ1, one vs t c e (f a) ρ = .ok o ρ1 ∧ I (done ++ [a]) (acc ++ o.toList) ρ1) : ∃ r ρ', mLc vs t c e (xs.map f) ρ = .ok r ρ' ∧ I xs r ρ' := by
  have key : ∀ (ys done : List α) (acc : List D) (ρ : Env), (∀ a ∈ ys, a ∈ xs) → I done acc ρ → ∃ r ρ', mLc vs t c e (ys.map f) ρ = .ok r ρ' ∧ I (done ++ ys) (acc ++ r) ρ' := by
    intro ys
    induction ys with
    | nil => intro done acc ρ _ h; exact ⟨[], ρ, rfl, by simpa using h⟩
    | cons a ys ih =>
      intro done acc ρ hm hI
      obtain ⟨o, ρ1, e1, h1⟩ := h done a acc ρ (hm a (by simp)) hI
      obtain ⟨r, ρ', e2, h2⟩ := ih (done ++ [a]) (acc ++ o.toList) ρ1 (fun b hb => hm b (by simp [hb])) h1
      refine ⟨o.toList ++ r, ρ', ?_, by simpa [List.append_assoc] using h2⟩
      rw [List.map_cons, mLc_step e1, e2]
      rfl
  obtain ⟨r, ρ', e1, e2⟩ := key xs [] [] ρ (fun _ h => h) h0
  exact ⟨r, ρ', e1, by simpa using e2⟩
def compK (vs : List Nat) (t : D → M Unit) (c : M Bool) (e : M D) (ds : List D) : M D := fun ρ => if ds.length ≤ big then (mLc vs t c e ds (wipeE ρ vs)).bind (okK .list) else .stuck
theorem ev_comp (vs : List Nat) (s : M (List D)) (t : D → M Unit) (c : M Bool) (e : M D) (ρ : Env) : mComp vs s t c e ρ = (s ρ).bind (compK vs t c e) := rfl
theorem compK_pure {α : Type} (xs : List α) (f : α → D) (g : α → Option D) {vs : List Nat} {t : D → M Unit} {c : M Bool} {e : M D} {ρ : Env} (hl : xs.length ≤ big) (h : ∀ a ∈ xs, one vs t c e (f a) (wipeE ρ vs) = .ok (g a) (wipeE ρ vs)) :
    compK vs t c e (xs.map f) ρ = .ok (.list (xs.filterMap g)) (wipeE ρ vs) := by
  show (if (xs.map f).length ≤ big then _ else _) = _
  rw [List.length_map, if_pos hl, mLc_pure xs f g h]
  rfl
theorem compK_map {α : Type} (xs : List α) (f : α → D) (g : α → D) {vs : List Nat} {t : D → M Unit} {c : M Bool} {e : M D} {ρ : Env} (hl : xs.length ≤ big) (h : ∀ a ∈ xs, one vs t c e (f a) (wipeE ρ vs) = .ok (some (g a)) (wipeE ρ vs)) :
    compK vs t c e (xs.map f) ρ = .ok (.list (xs.map g)) (wipeE ρ vs) := by
  rw [compK_pure xs f (fun a => some (g a)) hl h, ← List.filterMap_eq_map]
  rfl
theorem compK_filter {α : Type} (xs : List α) (f : α → D) (p : α → Bool) (g : α → D) {vs : List Nat} {t : D → M Unit} {c : M Bool} {e : M D} {ρ : Env} (hl : xs.length ≤ big)
    (h : ∀ a ∈ xs, one vs t c e (f a) (wipeE ρ vs) = .ok (if p a = true then some (g a) else none) (wipeE ρ vs)) : compK vs t c e (xs.map f) ρ = .ok (.list ((xs.filter p).map g)) (wipeE ρ vs) := by
  rw [compK_pure xs f _ hl h]
  congr 2
  clear h hl
  induction xs with
  | nil => rfl
  | cons a xs ih =>
    rw [List.filterMap_cons, List.filter_cons]
    cases p a <;> simp [ih]
end
end Mir

set_option Elab.async false
set_option linter.all false
set_option maxRecDepth 100000
set_option maxHeartbeats 4000000
namespace Mir
open PySem PySem.Spec PyProof.Rows L2
/-! ### pairs in order -/
def lt2 (p q : Nat × Nat) : Prop := p.1 < q.1 ∨ (p.1 = q.1 ∧ p.2 < q.2)
theorem lt2_irr (p : Nat × Nat) : ¬ lt2 p p := by unfold lt2; omega
theorem lt2_tr {p q r : Nat × Nat} (h : lt2 p q) (k : lt2 q r) : lt2 p r := by unfold lt2 at *; omega
theorem lt2_as {p q : Nat × Nat} (h : lt2 p q) (k : lt2 q p) : False := by unfold lt2 at *; omega
theorem lt2_tri (p q : Nat × Nat) : lt2 p q ∨ p = q ∨ lt2 q p := by
  obtain ⟨a, b⟩ := p
  obtain ⟨c, d⟩ := q
  unfold lt2
  simp only [Prod.mk.injEq]
  omega
def lexL (n : Nat) (R : Nat → Nat → Bool) : List (Nat × Nat) := (List.range n).flatMap fun x => ((List.range n).filter (R x)).map fun y => (x, y)
theorem mem_lexL {n : Nat} {R : Nat → Nat → Bool} {p : Nat × Nat} : p ∈ lexL n R ↔ p.1 < n ∧ p.2 < n ∧ R p.1 p.2 = true := by
  unfold lexL
  simp only [List.mem_flatMap, List.mem_map, List.mem_filter, List.mem_range]
  constructor
  · rintro ⟨x, hx, y, ⟨hy, hr⟩, rfl⟩
    exact ⟨hx, hy, hr⟩
  · rintro ⟨h1, h2, h3⟩
    exact ⟨p.1, h1, p.2, ⟨h2, h3⟩, rfl⟩
theorem range_lt : ∀ n : Nat, (List.range n).Pairwise (· < ·) := fun n => List.pairwise_lt_range
theorem lexL_sorted (n : Nat) (R : Nat → Nat → Bool) : (lexL n R).Pairwise lt2 := by
  unfold lexL
  rw [List.pairwise_flatMap]
  constructor
  · intro x hx
    rw [List.pairwise_map]
    exact ((range_lt n).filter _).imp fun h => Or.inr ⟨rfl, h⟩
  · refine (range_lt n).imp fun {x y} h => ?_
    intro p hp q hq
    obtain ⟨a, _, rfl⟩ := List.mem_map.mp hp
    obtain ⟨b, _, rfl⟩ := List.mem_map.mp hq
    exact Or.inl h
/-- two lists in strict order with the same members -/
theorem strict_ext : ∀ {ps qs : List (Nat × Nat)}, ps.Pairwise lt2 → qs.Pairwise lt2 → (∀ p, p ∈ ps ↔ p ∈ qs) → ps = qs
  | [], [], _, _, _ => rfl
  | [], q :: qs, _, _, h => absurd ((h q).mpr (by simp)) (by simp)
  | p :: ps, [], _, _, h => absurd ((h p).mp (by simp)) (by simp)
  | p :: ps, q :: qs, h1, h2, h => by
    obtain ⟨a1, a2⟩ := List.pairwise_cons.mp h1
    obtain ⟨b1, b2⟩ := List.pairwise_cons.mp h2
    have e : p = q := by
      rcases List.mem_cons.mp ((h p).mp (by simp)) with e | m1
      · exact e
      · rcases List.mem_cons.mp ((h q).mpr (by simp)) with e | m2
        · exact e.symm
        · exact (lt2_as (a1 q m2) (b1 p m1)).elim
    subst e
    rw [strict_ext a2 b2 fun r => ?_]
    constructor
    · intro hr
      rcases List.mem_cons.mp ((h r).mp (by simp [hr])) with e | m
      · subst e; exact (lt2_irr _ (a1 _ hr)).elim
      · exact m
    · intro hr
      rcases List.mem_cons.mp ((h r).mpr (by simp [hr])) with e | m
      · subst e; exact (lt2_irr _ (b1 _ hr)).elim
      · exact m
theorem lexL_uniq {n : Nat} {R : Nat → Nat → Bool} {ps : List (Nat × Nat)} (h : ps.Pairwise lt2) (m : ∀ p, p ∈ ps ↔ p.1 < n ∧ p.2 < n ∧ R p.1 p.2 = true) : ps = lexL n R :=
  strict_ext h (lexL_sorted n R) fun p => (m p).trans mem_lexL.symm
theorem lexL_congr {n : Nat} {R S : Nat → Nat → Bool} (h : ∀ x y, x < n → y < n → R x y = S x y) : lexL n R = lexL n S :=
  lexL_uniq (lexL_sorted n R) fun p => mem_lexL.trans ⟨fun ⟨a, b, c⟩ => ⟨a, b, by rw [← h _ _ a b]; exact c⟩, fun ⟨a, b, c⟩ => ⟨a, b, by rw [h _ _ a b]; exact c⟩⟩
theorem lexL_nodup (n : Nat) (R : Nat → Nat → Bool) : (lexL n R).Nodup := (lexL_sorted n R).imp fun h e => by subst e; exact lt2_irr _ h
/-! ### as data -/
def prN (p : Nat × Nat) : D := .tuple [.int (p.1 : Int), .int (p.2 : Int)]
def ordP (n : Nat) (ps : List (Nat × Nat)) : D := .tuple [.int (n : Int), .tuple (ps.map prN)]
def ordD (n : Nat) (R : Nat → Nat → Bool) : D := ordP n (lexL n R)
def zz (p : Nat × Nat) : Int × Int := ((p.1 : Int), (p.2 : Int))
theorem pairsD_prN : ∀ ps : List (Nat × Nat), pairsD (ps.map prN) = some (ps.map zz)
  | [] => rfl
  | p :: ps => by
    rw [List.map_cons, pairsD]
    show (match pairD (prN p) with | some q => (pairsD (ps.map prN)).map (q :: ·) | none => none) = _
    rw [pairsD_prN ps]
    rfl
theorem intsD_prN : ∀ ps : List (Nat × Nat), ps ≠ [] → intsD (ps.map prN) = none
  | [], h => absurd rfl h
  | p :: ps, _ => rfl
theorem zz_inj {p q : Nat × Nat} (h : zz p = zz q) : p = q := by
  obtain ⟨a, b⟩ := p
  obtain ⟨c, d⟩ := q
  simp only [zz, Prod.mk.injEq] at h
  simp only [Prod.mk.injEq]
  omega
theorem lexLe_zz {p q : Nat × Nat} : lexLe (zz p) (zz q) = true ↔ lt2 p q ∨ p = q := by
  obtain ⟨a, b⟩ := p
  obtain ⟨c, d⟩ := q
  rw [lexLe_iff]
  unfold lt2 zz
  simp only [Prod.mk.injEq]
  omega
/-- sorted(..) of pairs that are all different -/
theorem sort_lex {n : Nat} {R : Nat → Nat → Bool} {ps : List (Nat × Nat)} (hd : ps.Nodup) (m : ∀ p, p ∈ ps ↔ p.1 < n ∧ p.2 < n ∧ R p.1 p.2 = true) : fSorted (.list (ps.map prN)) = some (.list ((lexL n R).map prN)) := by
  have perm : (lexL n R).Perm ps := by
    refine (List.perm_ext_iff_of_nodup (lexL_nodup n R) hd).mpr fun p => ?_
    rw [mem_lexL, m]
  have hs : (lexL n R).map zz = sortBy lexLe (ps.map zz) := by
    refine sorted_uniq lexLe_as ((perm.map zz).trans (sortBy_perm _).symm) ?_ (sortBy_sorted lexLe_tot lexLe_tr _)
    rw [List.pairwise_map]
    exact (lexL_sorted n R).imp fun h => lexLe_zz.mpr (Or.inl h)
  by_cases he : ps = []
  · subst he
    have : lexL n R = [] := perm.eq_nil
    rw [this]
    rfl
  · simp only [fSorted, intsD_prN ps he, pairsD_prN]
    rw [← hs, List.map_map]
    rfl
end Mir

set_option Elab.async false
set_option linter.all false
set_option maxRecDepth 100000
set_option maxHeartbeats 4000000
namespace Mir
open PySem PySem.Spec PyProof.Rows L2
def fnK (Γp : List Nat) : Rs Fl → Rs D
  | .ok (.ret d) ρ => .ok d (mask Γp ρ)
  | .ok .next ρ => .ok .none (mask Γp ρ)
  | .exc x _ => .exc x []
  | _ => .stuck
theorem ev_fn (Γp : List Nat) (n : Nat) (m : M Fl) (ds : List D) : mFn Γp n m ds = fnK Γp (m (ds.map some ++ List.replicate (n - ds.length) none)) := by
  show (match m _ with | .ok (.ret d) ρ => _ | .ok .next ρ => _ | .exc x _ => _ | _ => _) = _
  cases m (ds.map some ++ List.replicate (n - ds.length) none) with
  | ok fl ρ => cases fl <;> rfl
  | _ => rfl
theorem fnK_ret (Γp : List Nat) (d : D) (ρ : Env) : fnK Γp (.ok (.ret d) ρ) = .ok d (mask Γp ρ) := rfl
theorem fnK_next (Γp : List Nat) (ρ : Env) : fnK Γp (.ok .next ρ) = .ok .none (mask Γp ρ) := rfl
theorem mask_nil (ρ : Env) : mask [] ρ = [] := by cases ρ <;> rfl
theorem mask_0 (Γ : List Nat) (r : Option D) (ρ : Env) : mask (0 :: Γ) (r :: ρ) = none :: mask Γ ρ := rfl
theorem mask_1 (Γ : List Nat) (r : Option D) (ρ : Env) : mask (1 :: Γ) (r :: ρ) = r :: mask Γ ρ := rfl
/-! values -/
theorem v_addI (i j : Int) : fAdd (.int i) (.int j) = some (.int (i + j)) := rfl
theorem v_addT (xs ys : List D) (h : xs.length + ys.length ≤ big) : fAdd (.tuple xs) (.tuple ys) = some (.tuple (xs ++ ys)) := by show (if _ then _ else _) = _; rw [if_pos h]
theorem v_addL (xs ys : List D) (h : xs.length + ys.length ≤ big) : fAdd (.list xs) (.list ys) = some (.list (xs ++ ys)) := by show (if _ then _ else _) = _; rw [if_pos h]
theorem v_mulI (i j : Int) (h : CMul i j) : fMul (.int i) (.int j) = some (.int (i * j)) := by show (if _ then _ else _) = _; rw [if_pos h]
theorem v_tupL (ds : List D) : fTuple (.list ds) = some (.tuple ds) := rfl
theorem v_tupT (ds : List D) : fTuple (.tuple ds) = some (.tuple ds) := rfl
theorem v_lstL (ds : List D) : fList (.list ds) = some (.list ds) := rfl
theorem v_lstT (ds : List D) : fList (.tuple ds) = some (.list ds) := rfl
theorem v_lenL (ds : List D) : fLen (.list ds) = some (.int ds.length) := rfl
theorem v_lenT (ds : List D) : fLen (.tuple ds) = some (.int ds.length) := rfl
theorem v_int (i : Int) : fInt (.int i) = some (.int i) := rfl
theorem v_seqL (ds : List D) : fSeq (.list ds) = some ds := rfl
theorem v_seqT (ds : List D) : fSeq (.tuple ds) = some ds := rfl
theorem v_bool (b : Bool) : boolD (.bool b) = some b := rfl
theorem v_truB (b : Bool) : truD (.bool b) = some b := rfl
theorem v_truI (i : Int) : truD (.int i) = some (i != 0) := rfl
theorem v_eqI (i j : Int) : fEq (.int i) (.int j) = some (.bool (i == j)) := rfl
theorem v_eqB (i j : Bool) : fEq (.bool i) (.bool j) = some (.bool (i == j)) := rfl
theorem v_neI (i j : Int) : fNe (.int i) (.int j) = some (.bool (!(i == j))) := rfl
theorem v_ixT (ds : List D) (i : Int) : fIxA (.tuple ds) (.int i) = atI ds i := rfl
theorem v_ixL (ds : List D) (i : Int) : fIxA (.list ds) (.int i) = atI ds i := rfl
theorem v_at0 (x : D) (xs : List D) : atI (x :: xs) 0 = some x := atI_nat (j := 0) rfl
theorem v_at1 (x y : D) (xs : List D) : atI (x :: y :: xs) 1 = some y := atI_nat (j := 1) rfl
theorem v_at2 (x y z : D) (xs : List D) : atI (x :: y :: z :: xs) 2 = some z := atI_nat (j := 2) rfl
theorem v_at3 (x y z u : D) (xs : List D) : atI (x :: y :: z :: u :: xs) 3 = some u := atI_nat (j := 3) rfl
theorem v_at4 (x y z u v : D) (xs : List D) : atI (x :: y :: z :: u :: v :: xs) 4 = some v := atI_nat (j := 4) rfl
theorem v_at5 (x y z u v w : D) (xs : List D) : atI (x :: y :: z :: u :: v :: w :: xs) 5 = some w := atI_nat (j := 5) rfl
theorem v_rg1 (n : Nat) (h : n ≤ 1000000) : fRange1 (.int (n : Int)) = some ((List.range n).map fun k : Nat => .int (k : Int)) := by
  show (if _ then _ else _) = _
  rw [if_pos (by omega)]
  unfold rangeD
  simp
theorem v_rg2 (m n : Nat) (h1 : m ≤ 1000000) (h : n ≤ 1000000) : fRange2 (.int (m : Int)) (.int (n : Int)) = some ((List.range (n - m)).map fun k : Nat => .int ((m + k : Nat) : Int)) := by
  show (if _ then _ else _) = _
  rw [if_pos (by omega)]
  unfold rangeD
  rw [show ((n : Int) - (m : Int)).toNat = n - m by omega]
  simp
end Mir

set_option Elab.async false
set_option linter.all false
set_option maxRecDepth 100000
set_option maxHeartbeats 4000000
namespace Mir
open PySem PySem.Spec PyProof.Rows L2
theorem lexL_len (n : Nat) (R : Nat → Nat → Bool) : (lexL n R).length ≤ n * n := by
  have h : ∀ l : List Nat, (l.flatMap fun x => ((List.range n).filter (R x)).map fun y => (x, y)).length ≤ l.length * n := by
    intro l
    induction l with
    | nil => simp
    | cons x l ih =>
      rw [List.flatMap_cons, List.length_append, List.length_map, List.length_cons, Nat.succ_mul]
      have := List.length_filter_le (R x) (List.range n)
      rw [List.length_range] at this
      omega
  have := h (List.range n)
  rw [List.length_range] at this
  exact this
theorem lexL_big {n : Nat} (R : Nat → Nat → Bool) (h : n ≤ 400) : (lexL n R).length ≤ 160000 := by
  have h1 := lexL_len n R
  have h2 : n * n ≤ 400 * 400 := Nat.mul_le_mul h h
  omega
def swp (p : Nat × Nat) : Nat × Nat := (p.2, p.1)
theorem swp_nodup {ps : List (Nat × Nat)} (h : ps.Nodup) : (ps.map swp).Nodup := by
  rw [List.Nodup, List.pairwise_map]
  refine List.Pairwise.imp (fun {a b} hab e => hab ?_) h
  obtain ⟨a1, a2⟩ := a
  obtain ⟨b1, b2⟩ := b
  simp only [swp, Prod.mk.injEq] at e ⊢
  exact ⟨e.2, e.1⟩
theorem mem_swp {n : Nat} {R : Nat → Nat → Bool} {p : Nat × Nat} : p ∈ (lexL n R).map swp ↔ p.1 < n ∧ p.2 < n ∧ R p.2 p.1 = true := by
  rw [List.mem_map]
  constructor
  · rintro ⟨q, hq, rfl⟩
    obtain ⟨a, b, c⟩ := mem_lexL.mp hq
    exact ⟨b, a, c⟩
  · rintro ⟨a, b, c⟩
    exact ⟨(p.2, p.1), mem_lexL.mpr ⟨b, a, c⟩, rfl⟩
abbrev tr (R : Nat → Nat → Bool) : Nat → Nat → Bool := fun x y => R y x
theorem opposite_ev (n : Nat) (R : Nat → Nat → Bool) (hn : n ≤ 400) : F_opposite [ordD n R] = .ok (ordD n (tr R)) [none] := by
  unfold F_opposite
  rw [ev_fn]
  unfold m_opposite
  simp -implicitDefEqProofs only [bind_ok, lift_some, okK_eq, liftK_eq, ev_seq, seqK_next, seqK_ret, ev_asg, asgK_eq, ev_ret, ev_expr, ev_skip, ev_ifS, ev_if, ifK_t, ifK_f, ev_c, ev_yes, ev_and, ev_or, ev_not, cK_eq, ev_tb, ev_tru, ev_andV, ev_orV, ev_notV, bK_bool, notK_bool, ev_m2, m2K_eq, ev_m1, ev_nil, ev_cons, consK_eq, ev_tup, ev_lst, ev_slot, slotK_eq, ev_retO, retOK_eq, ev_name, ev_tup2, ev_tup3, ev_tgc, tgK_eq, ev_tgn, ev_call, callK_v1, callK_v2, callK_v3, callK2_v1, callK2_v2, callK2_v3, callK_b1, callK_b2, borK_eq, callK2_b1, callK2_b2, unK_eq, ev_bor, bor1K_eq, ev_lenO, lenOK_eq, listAt_eq, listK_eq, ev_ixO, ixO0_eq, ixO1_eq, ixO1'_eq, ixO2_0, ev_sub, subK0_eq, subK_eq, subK1_eq, subK2_eq, ev_app, appK0_eq, appK_eq, ev_ins, insK0_eq, insK'_eq, insK_eq, ev_ext, extK0_eq, extK_eq, ev_i1, ev_i2, i2K_eq, ev_lrg, ev_trg, ev_forS, one_eq, oneC_eq, oneE_t, oneE_f, oneX_eq, wipeE_nil, wipeE_cons, ev_comp, fnK_ret, fnK_next, mask_nil, mask_0, mask_1, v_addI, v_tupL, v_tupT, v_lstL, v_lstT, v_lenL, v_lenT, v_int, v_seqL, v_seqT, v_bool, v_truB, v_truI, v_eqI, v_eqB, v_neI, v_ixT, v_ixL, v_at0, v_at1, v_at2, v_at3, v_at4, v_at5, List.getElem?_cons_zero, List.getElem?_cons_succ, List.set_cons_zero, List.set_cons_succ, List.length_cons, List.length_nil, Nat.reduceAdd, Nat.reduceLT, Nat.reduceSub, if_true, List.map_cons, List.map_nil, List.cons_append, List.nil_append, List.replicate_succ, List.replicate_zero, Nat.zero_add, Nat.lt_add_left_iff_pos, Nat.zero_lt_succ, bodyK_eq, ordD, ordP]
  rw [compK_map (lexL n R) prN (prN ∘ swp) (by have := lexL_big R hn; unfold big; omega) (fun p _ => by simp -implicitDefEqProofs only [bind_ok, lift_some, okK_eq, liftK_eq, ev_seq, seqK_next, seqK_ret, ev_asg, asgK_eq, ev_ret, ev_expr, ev_skip, ev_ifS, ev_if, ifK_t, ifK_f, ev_c, ev_yes, ev_and, ev_or, ev_not, cK_eq, ev_tb, ev_tru, ev_andV, ev_orV, ev_notV, bK_bool, notK_bool, ev_m2, m2K_eq, ev_m1, ev_nil, ev_cons, consK_eq, ev_tup, ev_lst, ev_slot, slotK_eq, ev_retO, retOK_eq, ev_name, ev_tup2, ev_tup3, ev_tgc, tgK_eq, ev_tgn, ev_call, callK_v1, callK_v2, callK_v3, callK2_v1, callK2_v2, callK2_v3, callK_b1, callK_b2, borK_eq, callK2_b1, callK2_b2, unK_eq, ev_bor, bor1K_eq, ev_lenO, lenOK_eq, listAt_eq, listK_eq, ev_ixO, ixO0_eq, ixO1_eq, ixO1'_eq, ixO2_0, ev_sub, subK0_eq, subK_eq, subK1_eq, subK2_eq, ev_app, appK0_eq, appK_eq, ev_ins, insK0_eq, insK'_eq, insK_eq, ev_ext, extK0_eq, extK_eq, ev_i1, ev_i2, i2K_eq, ev_lrg, ev_trg, ev_forS, one_eq, oneC_eq, oneE_t, oneE_f, oneX_eq, wipeE_nil, wipeE_cons, ev_comp, fnK_ret, fnK_next, mask_nil, mask_0, mask_1, v_addI, v_tupL, v_tupT, v_lstL, v_lstT, v_lenL, v_lenT, v_int, v_seqL, v_seqT, v_bool, v_truB, v_truI, v_eqI, v_eqB, v_neI, v_ixT, v_ixL, v_at0, v_at1, v_at2, v_at3, v_at4, v_at5, List.getElem?_cons_zero, List.getElem?_cons_succ, List.set_cons_zero, List.set_cons_succ, List.length_cons, List.length_nil, Nat.reduceAdd, Nat.reduceLT, Nat.reduceSub, if_true, List.map_cons, List.map_nil, List.cons_append, List.nil_append, List.replicate_succ, List.replicate_zero, Nat.zero_add, Nat.lt_add_left_iff_pos, Nat.zero_lt_succ, bodyK_eq, prN, swp, Function.comp])]
  simp -implicitDefEqProofs only [bind_ok, lift_some, okK_eq, liftK_eq, ev_seq, seqK_next, seqK_ret, ev_asg, asgK_eq, ev_ret, ev_expr, ev_skip, ev_ifS, ev_if, ifK_t, ifK_f, ev_c, ev_yes, ev_and, ev_or, ev_not, cK_eq, ev_tb, ev_tru, ev_andV, ev_orV, ev_notV, bK_bool, notK_bool, ev_m2, m2K_eq, ev_m1, ev_nil, ev_cons, consK_eq, ev_tup, ev_lst, ev_slot, slotK_eq, ev_retO, retOK_eq, ev_name, ev_tup2, ev_tup3, ev_tgc, tgK_eq, ev_tgn, ev_call, callK_v1, callK_v2, callK_v3, callK2_v1, callK2_v2, callK2_v3, callK_b1, callK_b2, borK_eq, callK2_b1, callK2_b2, unK_eq, ev_bor, bor1K_eq, ev_lenO, lenOK_eq, listAt_eq, listK_eq, ev_ixO, ixO0_eq, ixO1_eq, ixO1'_eq, ixO2_0, ev_sub, subK0_eq, subK_eq, subK1_eq, subK2_eq, ev_app, appK0_eq, appK_eq, ev_ins, insK0_eq, insK'_eq, insK_eq, ev_ext, extK0_eq, extK_eq, ev_i1, ev_i2, i2K_eq, ev_lrg, ev_trg, ev_forS, one_eq, oneC_eq, oneE_t, oneE_f, oneX_eq, wipeE_nil, wipeE_cons, ev_comp, fnK_ret, fnK_next, mask_nil, mask_0, mask_1, v_addI, v_tupL, v_tupT, v_lstL, v_lstT, v_lenL, v_lenT, v_int, v_seqL, v_seqT, v_bool, v_truB, v_truI, v_eqI, v_eqB, v_neI, v_ixT, v_ixL, v_at0, v_at1, v_at2, v_at3, v_at4, v_at5, List.getElem?_cons_zero, List.getElem?_cons_succ, List.set_cons_zero, List.set_cons_succ, List.length_cons, List.length_nil, Nat.reduceAdd, Nat.reduceLT, Nat.reduceSub, if_true, List.map_cons, List.map_nil, List.cons_append, List.nil_append, List.replicate_succ, List.replicate_zero, Nat.zero_add, Nat.lt_add_left_iff_pos, Nat.zero_lt_succ, bodyK_eq, ← List.map_map, sort_lex (n := n) (R := tr R) (swp_nodup (lexL_nodup n R)) (fun p => mem_swp)]
theorem turned_ev (n : Nat) (R : Nat → Nat → Bool) (hn : n ≤ 400) : F__law_turned [ordD n R] = .ok (ordD n (tr R)) [none] := by
  unfold F__law_turned
  rw [ev_fn]
  unfold m__law_turned
  simp -implicitDefEqProofs only [bind_ok, lift_some, okK_eq, liftK_eq, ev_seq, seqK_next, seqK_ret, ev_asg, asgK_eq, ev_ret, ev_expr, ev_skip, ev_ifS, ev_if, ifK_t, ifK_f, ev_c, ev_yes, ev_and, ev_or, ev_not, cK_eq, ev_tb, ev_tru, ev_andV, ev_orV, ev_notV, bK_bool, notK_bool, ev_m2, m2K_eq, ev_m1, ev_nil, ev_cons, consK_eq, ev_tup, ev_lst, ev_slot, slotK_eq, ev_retO, retOK_eq, ev_name, ev_tup2, ev_tup3, ev_tgc, tgK_eq, ev_tgn, ev_call, callK_v1, callK_v2, callK_v3, callK2_v1, callK2_v2, callK2_v3, callK_b1, callK_b2, borK_eq, callK2_b1, callK2_b2, unK_eq, ev_bor, bor1K_eq, ev_lenO, lenOK_eq, listAt_eq, listK_eq, ev_ixO, ixO0_eq, ixO1_eq, ixO1'_eq, ixO2_0, ev_sub, subK0_eq, subK_eq, subK1_eq, subK2_eq, ev_app, appK0_eq, appK_eq, ev_ins, insK0_eq, insK'_eq, insK_eq, ev_ext, extK0_eq, extK_eq, ev_i1, ev_i2, i2K_eq, ev_lrg, ev_trg, ev_forS, one_eq, oneC_eq, oneE_t, oneE_f, oneX_eq, wipeE_nil, wipeE_cons, ev_comp, fnK_ret, fnK_next, mask_nil, mask_0, mask_1, v_addI, v_tupL, v_tupT, v_lstL, v_lstT, v_lenL, v_lenT, v_int, v_seqL, v_seqT, v_bool, v_truB, v_truI, v_eqI, v_eqB, v_neI, v_ixT, v_ixL, v_at0, v_at1, v_at2, v_at3, v_at4, v_at5, List.getElem?_cons_zero, List.getElem?_cons_succ, List.set_cons_zero, List.set_cons_succ, List.length_cons, List.length_nil, Nat.reduceAdd, Nat.reduceLT, Nat.reduceSub, if_true, List.map_cons, List.map_nil, List.cons_append, List.nil_append, List.replicate_succ, List.replicate_zero, Nat.zero_add, Nat.lt_add_left_iff_pos, Nat.zero_lt_succ, bodyK_eq, ordD, ordP]
  rw [compK_map (lexL n R) prN (prN ∘ swp) (by have := lexL_big R hn; unfold big; omega) (fun p _ => by simp -implicitDefEqProofs only [bind_ok, lift_some, okK_eq, liftK_eq, ev_seq, seqK_next, seqK_ret, ev_asg, asgK_eq, ev_ret, ev_expr, ev_skip, ev_ifS, ev_if, ifK_t, ifK_f, ev_c, ev_yes, ev_and, ev_or, ev_not, cK_eq, ev_tb, ev_tru, ev_andV, ev_orV, ev_notV, bK_bool, notK_bool, ev_m2, m2K_eq, ev_m1, ev_nil, ev_cons, consK_eq, ev_tup, ev_lst, ev_slot, slotK_eq, ev_retO, retOK_eq, ev_name, ev_tup2, ev_tup3, ev_tgc, tgK_eq, ev_tgn, ev_call, callK_v1, callK_v2, callK_v3, callK2_v1, callK2_v2, callK2_v3, callK_b1, callK_b2, borK_eq, callK2_b1, callK2_b2, unK_eq, ev_bor, bor1K_eq, ev_lenO, lenOK_eq, listAt_eq, listK_eq, ev_ixO, ixO0_eq, ixO1_eq, ixO1'_eq, ixO2_0, ev_sub, subK0_eq, subK_eq, subK1_eq, subK2_eq, ev_app, appK0_eq, appK_eq, ev_ins, insK0_eq, insK'_eq, insK_eq, ev_ext, extK0_eq, extK_eq, ev_i1, ev_i2, i2K_eq, ev_lrg, ev_trg, ev_forS, one_eq, oneC_eq, oneE_t, oneE_f, oneX_eq, wipeE_nil, wipeE_cons, ev_comp, fnK_ret, fnK_next, mask_nil, mask_0, mask_1, v_addI, v_tupL, v_tupT, v_lstL, v_lstT, v_lenL, v_lenT, v_int, v_seqL, v_seqT, v_bool, v_truB, v_truI, v_eqI, v_eqB, v_neI, v_ixT, v_ixL, v_at0, v_at1, v_at2, v_at3, v_at4, v_at5, List.getElem?_cons_zero, List.getElem?_cons_succ, List.set_cons_zero, List.set_cons_succ, List.length_cons, List.length_nil, Nat.reduceAdd, Nat.reduceLT, Nat.reduceSub, if_true, List.map_cons, List.map_nil, List.cons_append, List.nil_append, List.replicate_succ, List.replicate_zero, Nat.zero_add, Nat.lt_add_left_iff_pos, Nat.zero_lt_succ, bodyK_eq, prN, swp, Function.comp])]
  simp -implicitDefEqProofs only [bind_ok, lift_some, okK_eq, liftK_eq, ev_seq, seqK_next, seqK_ret, ev_asg, asgK_eq, ev_ret, ev_expr, ev_skip, ev_ifS, ev_if, ifK_t, ifK_f, ev_c, ev_yes, ev_and, ev_or, ev_not, cK_eq, ev_tb, ev_tru, ev_andV, ev_orV, ev_notV, bK_bool, notK_bool, ev_m2, m2K_eq, ev_m1, ev_nil, ev_cons, consK_eq, ev_tup, ev_lst, ev_slot, slotK_eq, ev_retO, retOK_eq, ev_name, ev_tup2, ev_tup3, ev_tgc, tgK_eq, ev_tgn, ev_call, callK_v1, callK_v2, callK_v3, callK2_v1, callK2_v2, callK2_v3, callK_b1, callK_b2, borK_eq, callK2_b1, callK2_b2, unK_eq, ev_bor, bor1K_eq, ev_lenO, lenOK_eq, listAt_eq, listK_eq, ev_ixO, ixO0_eq, ixO1_eq, ixO1'_eq, ixO2_0, ev_sub, subK0_eq, subK_eq, subK1_eq, subK2_eq, ev_app, appK0_eq, appK_eq, ev_ins, insK0_eq, insK'_eq, insK_eq, ev_ext, extK0_eq, extK_eq, ev_i1, ev_i2, i2K_eq, ev_lrg, ev_trg, ev_forS, one_eq, oneC_eq, oneE_t, oneE_f, oneX_eq, wipeE_nil, wipeE_cons, ev_comp, fnK_ret, fnK_next, mask_nil, mask_0, mask_1, v_addI, v_tupL, v_tupT, v_lstL, v_lstT, v_lenL, v_lenT, v_int, v_seqL, v_seqT, v_bool, v_truB, v_truI, v_eqI, v_eqB, v_neI, v_ixT, v_ixL, v_at0, v_at1, v_at2, v_at3, v_at4, v_at5, List.getElem?_cons_zero, List.getElem?_cons_succ, List.set_cons_zero, List.set_cons_succ, List.length_cons, List.length_nil, Nat.reduceAdd, Nat.reduceLT, Nat.reduceSub, if_true, List.map_cons, List.map_nil, List.cons_append, List.nil_append, List.replicate_succ, List.replicate_zero, Nat.zero_add, Nat.lt_add_left_iff_pos, Nat.zero_lt_succ, bodyK_eq, ← List.map_map, sort_lex (n := n) (R := tr R) (swp_nodup (lexL_nodup n R)) (fun p => mem_swp)]
theorem size_ev (n : Nat) (hn : n ≤ 64) : F__check_size [.int (n : Int)] = .ok .none [none] := by
  unfold F__check_size
  rw [ev_fn]
  unfold m__check_size
  have e : fGt (.int (n : Int)) (.int 64) = some (.bool false) := by
    show some (PyData.bool (decide ((n : Int) > 64))) = _
    rw [decide_eq_false (by omega)]
  simp -implicitDefEqProofs only [bind_ok, lift_some, okK_eq, liftK_eq, ev_seq, seqK_next, seqK_ret, ev_asg, asgK_eq, ev_ret, ev_expr, ev_skip, ev_ifS, ev_if, ifK_t, ifK_f, ev_c, ev_yes, ev_and, ev_or, ev_not, cK_eq, ev_tb, ev_tru, ev_andV, ev_orV, ev_notV, bK_bool, notK_bool, ev_m2, m2K_eq, ev_m1, ev_nil, ev_cons, consK_eq, ev_tup, ev_lst, ev_slot, slotK_eq, ev_retO, retOK_eq, ev_name, ev_tup2, ev_tup3, ev_tgc, tgK_eq, ev_tgn, ev_call, callK_v1, callK_v2, callK_v3, callK2_v1, callK2_v2, callK2_v3, callK_b1, callK_b2, borK_eq, callK2_b1, callK2_b2, unK_eq, ev_bor, bor1K_eq, ev_lenO, lenOK_eq, listAt_eq, listK_eq, ev_ixO, ixO0_eq, ixO1_eq, ixO1'_eq, ixO2_0, ev_sub, subK0_eq, subK_eq, subK1_eq, subK2_eq, ev_app, appK0_eq, appK_eq, ev_ins, insK0_eq, insK'_eq, insK_eq, ev_ext, extK0_eq, extK_eq, ev_i1, ev_i2, i2K_eq, ev_lrg, ev_trg, ev_forS, one_eq, oneC_eq, oneE_t, oneE_f, oneX_eq, wipeE_nil, wipeE_cons, ev_comp, fnK_ret, fnK_next, mask_nil, mask_0, mask_1, v_addI, v_tupL, v_tupT, v_lstL, v_lstT, v_lenL, v_lenT, v_int, v_seqL, v_seqT, v_bool, v_truB, v_truI, v_eqI, v_eqB, v_neI, v_ixT, v_ixL, v_at0, v_at1, v_at2, v_at3, v_at4, v_at5, List.getElem?_cons_zero, List.getElem?_cons_succ, List.set_cons_zero, List.set_cons_succ, List.length_cons, List.length_nil, Nat.reduceAdd, Nat.reduceLT, Nat.reduceSub, if_true, List.map_cons, List.map_nil, List.cons_append, List.nil_append, List.replicate_succ, List.replicate_zero, Nat.zero_add, Nat.lt_add_left_iff_pos, Nat.zero_lt_succ, bodyK_eq, e]
def shf (n : Nat) (p : Nat × Nat) : Nat × Nat := (n + p.1, n + p.2)
theorem besideP_ev (n m : Nat) (ps qs : List (Nat × Nat)) (hn : n + m ≤ 64) (hp : ps.length ≤ 160000) (hq : qs.length ≤ 160000) : F_beside [ordP n ps, ordP m qs] = .ok (ordP (n + m) (ps ++ qs.map (shf n))) [none, none] := by
  unfold F_beside
  rw [ev_fn]
  unfold m_beside
  have e : (n : Int) + (m : Int) = ((n + m : Nat) : Int) := by omega
  simp -implicitDefEqProofs only [bind_ok, lift_some, okK_eq, liftK_eq, ev_seq, seqK_next, seqK_ret, ev_asg, asgK_eq, ev_ret, ev_expr, ev_skip, ev_ifS, ev_if, ifK_t, ifK_f, ev_c, ev_yes, ev_and, ev_or, ev_not, cK_eq, ev_tb, ev_tru, ev_andV, ev_orV, ev_notV, bK_bool, notK_bool, ev_m2, m2K_eq, ev_m1, ev_nil, ev_cons, consK_eq, ev_tup, ev_lst, ev_slot, slotK_eq, ev_retO, retOK_eq, ev_name, ev_tup2, ev_tup3, ev_tgc, tgK_eq, ev_tgn, ev_call, callK_v1, callK_v2, callK_v3, callK2_v1, callK2_v2, callK2_v3, callK_b1, callK_b2, borK_eq, callK2_b1, callK2_b2, unK_eq, ev_bor, bor1K_eq, ev_lenO, lenOK_eq, listAt_eq, listK_eq, ev_ixO, ixO0_eq, ixO1_eq, ixO1'_eq, ixO2_0, ev_sub, subK0_eq, subK_eq, subK1_eq, subK2_eq, ev_app, appK0_eq, appK_eq, ev_ins, insK0_eq, insK'_eq, insK_eq, ev_ext, extK0_eq, extK_eq, ev_i1, ev_i2, i2K_eq, ev_lrg, ev_trg, ev_forS, one_eq, oneC_eq, oneE_t, oneE_f, oneX_eq, wipeE_nil, wipeE_cons, ev_comp, fnK_ret, fnK_next, mask_nil, mask_0, mask_1, v_addI, v_tupL, v_tupT, v_lstL, v_lstT, v_lenL, v_lenT, v_int, v_seqL, v_seqT, v_bool, v_truB, v_truI, v_eqI, v_eqB, v_neI, v_ixT, v_ixL, v_at0, v_at1, v_at2, v_at3, v_at4, v_at5, List.getElem?_cons_zero, List.getElem?_cons_succ, List.set_cons_zero, List.set_cons_succ, List.length_cons, List.length_nil, Nat.reduceAdd, Nat.reduceLT, Nat.reduceSub, if_true, List.map_cons, List.map_nil, List.cons_append, List.nil_append, List.replicate_succ, List.replicate_zero, Nat.zero_add, Nat.lt_add_left_iff_pos, Nat.zero_lt_succ, bodyK_eq, ordP, e, size_ev (n + m) hn]
  rw [compK_map qs prN (prN ∘ shf n) (by unfold big; omega) (fun p _ => by
    simp -implicitDefEqProofs only [bind_ok, lift_some, okK_eq, liftK_eq, ev_seq, seqK_next, seqK_ret, ev_asg, asgK_eq, ev_ret, ev_expr, ev_skip, ev_ifS, ev_if, ifK_t, ifK_f, ev_c, ev_yes, ev_and, ev_or, ev_not, cK_eq, ev_tb, ev_tru, ev_andV, ev_orV, ev_notV, bK_bool, notK_bool, ev_m2, m2K_eq, ev_m1, ev_nil, ev_cons, consK_eq, ev_tup, ev_lst, ev_slot, slotK_eq, ev_retO, retOK_eq, ev_name, ev_tup2, ev_tup3, ev_tgc, tgK_eq, ev_tgn, ev_call, callK_v1, callK_v2, callK_v3, callK2_v1, callK2_v2, callK2_v3, callK_b1, callK_b2, borK_eq, callK2_b1, callK2_b2, unK_eq, ev_bor, bor1K_eq, ev_lenO, lenOK_eq, listAt_eq, listK_eq, ev_ixO, ixO0_eq, ixO1_eq, ixO1'_eq, ixO2_0, ev_sub, subK0_eq, subK_eq, subK1_eq, subK2_eq, ev_app, appK0_eq, appK_eq, ev_ins, insK0_eq, insK'_eq, insK_eq, ev_ext, extK0_eq, extK_eq, ev_i1, ev_i2, i2K_eq, ev_lrg, ev_trg, ev_forS, one_eq, oneC_eq, oneE_t, oneE_f, oneX_eq, wipeE_nil, wipeE_cons, ev_comp, fnK_ret, fnK_next, mask_nil, mask_0, mask_1, v_addI, v_tupL, v_tupT, v_lstL, v_lstT, v_lenL, v_lenT, v_int, v_seqL, v_seqT, v_bool, v_truB, v_truI, v_eqI, v_eqB, v_neI, v_ixT, v_ixL, v_at0, v_at1, v_at2, v_at3, v_at4, v_at5, List.getElem?_cons_zero, List.getElem?_cons_succ, List.set_cons_zero, List.set_cons_succ, List.length_cons, List.length_nil, Nat.reduceAdd, Nat.reduceLT, Nat.reduceSub, if_true, List.map_cons, List.map_nil, List.cons_append, List.nil_append, List.replicate_succ, List.replicate_zero, Nat.zero_add, Nat.lt_add_left_iff_pos, Nat.zero_lt_succ, bodyK_eq, prN, shf, Function.comp]
    rw [show (n : Int) + (p.1 : Int) = ((n + p.1 : Nat) : Int) by omega, show (n : Int) + (p.2 : Int) = ((n + p.2 : Nat) : Int) by omega])]
  simp -implicitDefEqProofs only [bind_ok, lift_some, okK_eq, liftK_eq, ev_seq, seqK_next, seqK_ret, ev_asg, asgK_eq, ev_ret, ev_expr, ev_skip, ev_ifS, ev_if, ifK_t, ifK_f, ev_c, ev_yes, ev_and, ev_or, ev_not, cK_eq, ev_tb, ev_tru, ev_andV, ev_orV, ev_notV, bK_bool, notK_bool, ev_m2, m2K_eq, ev_m1, ev_nil, ev_cons, consK_eq, ev_tup, ev_lst, ev_slot, slotK_eq, ev_retO, retOK_eq, ev_name, ev_tup2, ev_tup3, ev_tgc, tgK_eq, ev_tgn, ev_call, callK_v1, callK_v2, callK_v3, callK2_v1, callK2_v2, callK2_v3, callK_b1, callK_b2, borK_eq, callK2_b1, callK2_b2, unK_eq, ev_bor, bor1K_eq, ev_lenO, lenOK_eq, listAt_eq, listK_eq, ev_ixO, ixO0_eq, ixO1_eq, ixO1'_eq, ixO2_0, ev_sub, subK0_eq, subK_eq, subK1_eq, subK2_eq, ev_app, appK0_eq, appK_eq, ev_ins, insK0_eq, insK'_eq, insK_eq, ev_ext, extK0_eq, extK_eq, ev_i1, ev_i2, i2K_eq, ev_lrg, ev_trg, ev_forS, one_eq, oneC_eq, oneE_t, oneE_f, oneX_eq, wipeE_nil, wipeE_cons, ev_comp, fnK_ret, fnK_next, mask_nil, mask_0, mask_1, v_addI, v_tupL, v_tupT, v_lstL, v_lstT, v_lenL, v_lenT, v_int, v_seqL, v_seqT, v_bool, v_truB, v_truI, v_eqI, v_eqB, v_neI, v_ixT, v_ixL, v_at0, v_at1, v_at2, v_at3, v_at4, v_at5, List.getElem?_cons_zero, List.getElem?_cons_succ, List.set_cons_zero, List.set_cons_succ, List.length_cons, List.length_nil, Nat.reduceAdd, Nat.reduceLT, Nat.reduceSub, if_true, List.map_cons, List.map_nil, List.cons_append, List.nil_append, List.replicate_succ, List.replicate_zero, Nat.zero_add, Nat.lt_add_left_iff_pos, Nat.zero_lt_succ, bodyK_eq, e]
  rw [v_addT _ _ (by simp only [List.length_map]; unfold big; omega)]
  simp -implicitDefEqProofs only [bind_ok, lift_some, okK_eq, liftK_eq, ev_seq, seqK_next, seqK_ret, ev_asg, asgK_eq, ev_ret, ev_expr, ev_skip, ev_ifS, ev_if, ifK_t, ifK_f, ev_c, ev_yes, ev_and, ev_or, ev_not, cK_eq, ev_tb, ev_tru, ev_andV, ev_orV, ev_notV, bK_bool, notK_bool, ev_m2, m2K_eq, ev_m1, ev_nil, ev_cons, consK_eq, ev_tup, ev_lst, ev_slot, slotK_eq, ev_retO, retOK_eq, ev_name, ev_tup2, ev_tup3, ev_tgc, tgK_eq, ev_tgn, ev_call, callK_v1, callK_v2, callK_v3, callK2_v1, callK2_v2, callK2_v3, callK_b1, callK_b2, borK_eq, callK2_b1, callK2_b2, unK_eq, ev_bor, bor1K_eq, ev_lenO, lenOK_eq, listAt_eq, listK_eq, ev_ixO, ixO0_eq, ixO1_eq, ixO1'_eq, ixO2_0, ev_sub, subK0_eq, subK_eq, subK1_eq, subK2_eq, ev_app, appK0_eq, appK_eq, ev_ins, insK0_eq, insK'_eq, insK_eq, ev_ext, extK0_eq, extK_eq, ev_i1, ev_i2, i2K_eq, ev_lrg, ev_trg, ev_forS, one_eq, oneC_eq, oneE_t, oneE_f, oneX_eq, wipeE_nil, wipeE_cons, ev_comp, fnK_ret, fnK_next, mask_nil, mask_0, mask_1, v_addI, v_tupL, v_tupT, v_lstL, v_lstT, v_lenL, v_lenT, v_int, v_seqL, v_seqT, v_bool, v_truB, v_truI, v_eqI, v_eqB, v_neI, v_ixT, v_ixL, v_at0, v_at1, v_at2, v_at3, v_at4, v_at5, List.getElem?_cons_zero, List.getElem?_cons_succ, List.set_cons_zero, List.set_cons_succ, List.length_cons, List.length_nil, Nat.reduceAdd, Nat.reduceLT, Nat.reduceSub, if_true, List.map_cons, List.map_nil, List.cons_append, List.nil_append, List.replicate_succ, List.replicate_zero, Nat.zero_add, Nat.lt_add_left_iff_pos, Nat.zero_lt_succ, bodyK_eq, List.map_append, List.map_map]
def besR (n : Nat) (R S : Nat → Nat → Bool) : Nat → Nat → Bool := fun x y => if x < n ∧ y < n then R x y else if n ≤ x ∧ n ≤ y then S (x - n) (y - n) else false
theorem mem_shf {n m : Nat} {S : Nat → Nat → Bool} {p : Nat × Nat} : p ∈ (lexL m S).map (shf n) ↔ n ≤ p.1 ∧ n ≤ p.2 ∧ p.1 < n + m ∧ p.2 < n + m ∧ S (p.1 - n) (p.2 - n) = true := by
  rw [List.mem_map]
  constructor
  · rintro ⟨q, hq, rfl⟩
    obtain ⟨a, b, c⟩ := mem_lexL.mp hq
    refine ⟨by simp only [shf]; omega, by simp only [shf]; omega, by simp only [shf]; omega, by simp only [shf]; omega, ?_⟩
    simp only [shf, Nat.add_sub_cancel_left]
    exact c
  · rintro ⟨a, b, c, d, e⟩
    refine ⟨(p.1 - n, p.2 - n), mem_lexL.mpr ⟨by show p.1 - n < m; omega, by show p.2 - n < m; omega, e⟩, ?_⟩
    obtain ⟨p1, p2⟩ := p
    simp only [shf, Prod.mk.injEq] at *
    omega
theorem shf_sorted {n : Nat} {ps : List (Nat × Nat)} (h : ps.Pairwise lt2) : (ps.map (shf n)).Pairwise lt2 := by
  rw [List.pairwise_map]
  refine h.imp fun {a b} hab => ?_
  unfold lt2 shf at *
  simp only
  omega
theorem beside_lex (n m : Nat) (R S : Nat → Nat → Bool) : lexL n R ++ (lexL m S).map (shf n) = lexL (n + m) (besR n R S) := by
  refine lexL_uniq ?_ fun p => ?_
  · rw [List.pairwise_append]
    refine ⟨lexL_sorted n R, shf_sorted (lexL_sorted m S), fun a ha b hb => ?_⟩
    have h1 := mem_lexL.mp ha
    have h2 := mem_shf.mp hb
    unfold lt2
    omega
  · rw [List.mem_append, mem_lexL, mem_shf]
    unfold besR
    constructor
    · rintro (⟨a, b, c⟩ | ⟨a, b, c, d, e⟩)
      · refine ⟨by omega, by omega, ?_⟩
        rw [if_pos ⟨a, b⟩]; exact c
      · refine ⟨by omega, by omega, ?_⟩
        rw [if_neg (by omega), if_pos ⟨a, b⟩]; exact e
    · rintro ⟨a, b, c⟩
      split at c
      · rename_i h; exact Or.inl ⟨h.1, h.2, c⟩
      · split at c
        · rename_i h; exact Or.inr ⟨h.1, h.2, a, b, c⟩
        · cases c
theorem beside_ev (n m : Nat) (R S : Nat → Nat → Bool) (hn : n + m ≤ 64) : F_beside [ordD n R, ordD m S] = .ok (ordD (n + m) (besR n R S)) [none, none] := by
  unfold ordD
  rw [besideP_ev n m _ _ hn (lexL_big R (by omega)) (lexL_big S (by omega)), beside_lex]
end Mir

set_option Elab.async false
set_option linter.all false
set_option maxRecDepth 100000
set_option maxHeartbeats 4000000
namespace Mir
open PySem PySem.Spec PyProof.Rows L2
/-! ### two clauses -/
def comp2K (vs vs1 : List Nat) (t : D → M Unit) (c : M Bool) (src1 : M (List D)) (t1 : D → M Unit) (c1 : M Bool) (e : M D) (ds : List D) : M D := fun ρ => (mLc2 vs vs1 t c src1 t1 c1 e big ds (wipeE ρ vs)).bind (okK .list)
theorem ev_comp2 (vs vs1 : List Nat) (src : M (List D)) (t : D → M Unit) (c : M Bool) (src1 : M (List D)) (t1 : D → M Unit) (c1 : M Bool) (e : M D) (ρ : Env) : mComp2 vs vs1 src t c src1 t1 c1 e ρ = (src ρ).bind (comp2K vs vs1 t c src1 t1 c1 e) := rfl
def srcK (src1 : M (List D)) (_ : Unit) : M (List D) := src1
theorem srcK_eq (src1 : M (List D)) (u : Unit) (ρ : Env) : srcK src1 u ρ = src1 ρ := rfl
theorem mLc2_pure {α β : Type} {vs vs1 : List Nat} {t : D → M Unit} {src1 : M (List D)} {t1 : D → M Unit} {c1 : M Bool} {e : M D} {ρ : Env} (f : α → D) (ys : α → List β) (f1 : β → D) (g : α → β → D) (ra : α → Env) :
    ∀ (xs : List α) (k : Nat), (xs.flatMap ys).length ≤ k → (∀ a ∈ xs, (t (f a) ρ).bind (srcK src1) = .ok ((ys a).map f1) (ra a)) → (∀ a ∈ xs, ∀ b ∈ ys a, one vs1 t1 c1 e (f1 b) (wipeE (ra a) vs1) = .ok (some (g a b)) (wipeE (ra a) vs1)) →
    (∀ a ∈ xs, wipeE (wipeE (ra a) vs1) vs = ρ) → mLc2 vs vs1 t mYes src1 t1 c1 e k (xs.map f) ρ = .ok (xs.flatMap fun a => (ys a).map (g a)) ρ
  | [], k, _, _, _, _ => rfl
  | a :: xs, k, hk, h1, h2, h3 => by
    rw [List.flatMap_cons, List.length_append] at hk
    have ih := mLc2_pure f ys f1 g ra xs (k - (ys a).length) (by omega) (fun b hb => h1 b (by simp [hb])) (fun b hb => h2 b (by simp [hb])) (fun b hb => h3 b (by simp [hb]))
    have e1 := h1 a (by simp)
    rw [List.map_cons]
    show ((noX (t (f a) ρ)).bind fun _ ρ => (noX (mYes ρ)).bind fun b ρ => if b = true then (noX (src1 ρ)).bind fun ds1 ρ => if ds1.length ≤ k then
        (mLc vs1 t1 c1 e ds1 (wipeE ρ vs1)).bind fun r ρ => (mLc2 vs vs1 t mYes src1 t1 c1 e (k - ds1.length) (xs.map f) (wipeE ρ vs)).bind fun r' ρ => .ok (r ++ r') ρ
        else .stuck
      else mLc2 vs vs1 t mYes src1 t1 c1 e k (xs.map f) (wipeE ρ vs)) = _
    cases ht : t (f a) ρ with
    | stuck => rw [ht] at e1; cases e1
    | exc x ρ0 => rw [ht] at e1; cases e1
    | ok u ρ0 =>
      rw [ht] at e1
      have e1 : src1 ρ0 = .ok ((ys a).map f1) (ra a) := e1
      show ((noX (src1 ρ0)).bind fun ds1 ρ => if ds1.length ≤ k then
        (mLc vs1 t1 c1 e ds1 (wipeE ρ vs1)).bind fun r ρ => (mLc2 vs vs1 t mYes src1 t1 c1 e (k - ds1.length) (xs.map f) (wipeE ρ vs)).bind fun r' ρ => .ok (r ++ r') ρ
        else .stuck) = _
      rw [e1]
      show (if ((ys a).map f1).length ≤ k then
        (mLc vs1 t1 c1 e ((ys a).map f1) (wipeE (ra a) vs1)).bind fun r ρ => (mLc2 vs vs1 t mYes src1 t1 c1 e (k - ((ys a).map f1).length) (xs.map f) (wipeE ρ vs)).bind fun r' ρ => .ok (r ++ r') ρ
        else .stuck) = _
      rw [List.length_map, if_pos (by omega), mLc_pure (ys a) f1 (fun b => some (g a b)) (h2 a (by simp))]
      show ((mLc2 vs vs1 t mYes src1 t1 c1 e (k - (ys a).length) (xs.map f) (wipeE (wipeE (ra a) vs1) vs)).bind fun r' ρ => .ok (_ ++ r') ρ) = _
      rw [h3 a (by simp), ih]
      show Rs.ok _ ρ = _
      rw [List.flatMap_cons, ← List.filterMap_eq_map]
      rfl
theorem comp2K_pure {α β : Type} {vs vs1 : List Nat} {t : D → M Unit} {src1 : M (List D)} {t1 : D → M Unit} {c1 : M Bool} {e : M D} {ρ : Env} (f : α → D) (ys : α → List β) (f1 : β → D) (g : α → β → D) (ra : α → Env)
    (xs : List α) (hk : (xs.flatMap ys).length ≤ big) (h1 : ∀ a ∈ xs, (t (f a) (wipeE ρ vs)).bind (srcK src1) = .ok ((ys a).map f1) (ra a)) (h2 : ∀ a ∈ xs, ∀ b ∈ ys a, one vs1 t1 c1 e (f1 b) (wipeE (ra a) vs1) = .ok (some (g a b)) (wipeE (ra a) vs1))
    (h3 : ∀ a ∈ xs, wipeE (wipeE (ra a) vs1) vs = wipeE ρ vs) : comp2K vs vs1 t mYes src1 t1 c1 e (xs.map f) ρ = .ok (.list (xs.flatMap fun a => (ys a).map (g a))) (wipeE ρ vs) := by
  show (mLc2 vs vs1 t mYes src1 t1 c1 e big (xs.map f) (wipeE ρ vs)).bind _ = _
  rw [mLc2_pure f ys f1 g ra xs big hk h1 h2 h3]
  rfl
/-! ### on_top -/
def topR (n : Nat) (R S : Nat → Nat → Bool) : Nat → Nat → Bool := fun x y => if x < n ∧ y < n then R x y else if n ≤ x ∧ n ≤ y then S (x - n) (y - n) else decide (x < n)
def natD (k : Nat) : D := .int (k : Int)
theorem flat_len {α : Type} (n m : Nat) (f : Nat → List α) (h : ∀ x, (f x).length = m) : ∀ l : List Nat, (l.flatMap f).length = l.length * m
  | [] => by simp
  | x :: l => by rw [List.flatMap_cons, List.length_append, h, flat_len n m f h l, List.length_cons, Nat.succ_mul]; omega
theorem bet_nodup (n m : Nat) : (((List.range n).flatMap fun x => (List.range m).map fun q => (x, n + q)) : List (Nat × Nat)).Pairwise lt2 := by
  rw [List.pairwise_flatMap]
  constructor
  · intro x hx
    rw [List.pairwise_map]
    exact (range_lt m).imp fun h => Or.inr ⟨rfl, by simp only; omega⟩
  · refine (range_lt n).imp fun {x y} h => ?_
    intro p hp q hq
    obtain ⟨a, _, rfl⟩ := List.mem_map.mp hp
    obtain ⟨b, _, rfl⟩ := List.mem_map.mp hq
    exact Or.inl h
theorem mem_bet {n m : Nat} {p : Nat × Nat} : p ∈ ((List.range n).flatMap fun x => (List.range m).map fun q => (x, n + q)) ↔ p.1 < n ∧ n ≤ p.2 ∧ p.2 < n + m := by
  simp only [List.mem_flatMap, List.mem_map, List.mem_range]
  constructor
  · rintro ⟨x, hx, q, hq, rfl⟩
    simp only
    omega
  · rintro ⟨a, b, c⟩
    obtain ⟨p1, p2⟩ := p
    exact ⟨p1, a, p2 - n, by simp only at *; omega, by show (p1, n + (p2 - n)) = (p1, p2); rw [Nat.add_sub_cancel' b]⟩
theorem on_top_ev (n m : Nat) (R S : Nat → Nat → Bool) (hn : n + m ≤ 64) : F_on_top [ordD n R, ordD m S] = .ok (ordD (n + m) (topR n R S)) [none, none] := by
  have hb := beside_ev n m R S hn
  unfold ordD ordP at hb
  unfold F_on_top
  rw [ev_fn]
  unfold m_on_top
  simp -implicitDefEqProofs only [bind_ok, lift_some, okK_eq, liftK_eq, ev_seq, seqK_next, seqK_ret, ev_asg, asgK_eq, ev_ret, ev_expr, ev_skip, ev_ifS, ev_if, ifK_t, ifK_f, ev_c, ev_yes, ev_and, ev_or, ev_not, cK_eq, ev_tb, ev_tru, ev_andV, ev_orV, ev_notV, bK_bool, notK_bool, ev_m2, m2K_eq, ev_m1, ev_nil, ev_cons, consK_eq, ev_tup, ev_lst, ev_slot, slotK_eq, ev_retO, retOK_eq, ev_name, ev_tup2, ev_tup3, ev_tgc, tgK_eq, ev_tgn, ev_call, callK_v1, callK_v2, callK_v3, callK2_v1, callK2_v2, callK2_v3, callK_b1, callK_b2, borK_eq, callK2_b1, callK2_b2, unK_eq, ev_bor, bor1K_eq, ev_lenO, lenOK_eq, listAt_eq, listK_eq, ev_ixO, ixO0_eq, ixO1_eq, ixO1'_eq, ixO2_0, ev_sub, subK0_eq, subK_eq, subK1_eq, subK2_eq, ev_app, appK0_eq, appK_eq, ev_ins, insK0_eq, insK'_eq, insK_eq, ev_ext, extK0_eq, extK_eq, ev_i1, ev_i2, i2K_eq, ev_lrg, ev_trg, ev_forS, one_eq, oneC_eq, oneE_t, oneE_f, oneX_eq, wipeE_nil, wipeE_cons, ev_comp, fnK_ret, fnK_next, mask_nil, mask_0, mask_1, v_addI, v_tupL, v_tupT, v_lstL, v_lstT, v_lenL, v_lenT, v_int, v_seqL, v_seqT, v_bool, v_truB, v_truI, v_eqI, v_eqB, v_neI, v_ixT, v_ixL, v_at0, v_at1, v_at2, v_at3, v_at4, v_at5, List.getElem?_cons_zero, List.getElem?_cons_succ, List.set_cons_zero, List.set_cons_succ, List.length_cons, List.length_nil, Nat.reduceAdd, Nat.reduceLT, Nat.reduceSub, if_true, List.map_cons, List.map_nil, List.cons_append, List.nil_append, List.replicate_succ, List.replicate_zero, Nat.zero_add, Nat.lt_add_left_iff_pos, Nat.zero_lt_succ, bodyK_eq, ordD, ordP, hb, ev_comp2, v_rg1 n (by omega)]
  rw [comp2K_pure (fun k : Nat => PyData.int (k : Int)) (fun _ => List.range m) (fun k : Nat => PyData.int (k : Int)) (fun x q => prN (x, n + q)) (fun x => [some (.tuple [.int (n : Int), .tuple ((lexL n R).map prN)]), some (.tuple [.int (m : Int), .tuple ((lexL m S).map prN)]), some (.int (n : Int)), some (.int (m : Int)), some (.int ((n + m : Nat) : Int)), some (.tuple ((lexL (n + m) (besR n R S)).map prN)), none, some (.int (x : Int)), none])
    (List.range n) (by rw [flat_len n m _ (fun _ => List.length_range)]; rw [List.length_range]; have : n * m ≤ 64 * 64 := Nat.mul_le_mul (by omega) (by omega); unfold big; omega)
    (fun a _ => by simp -implicitDefEqProofs only [bind_ok, lift_some, okK_eq, liftK_eq, ev_seq, seqK_next, seqK_ret, ev_asg, asgK_eq, ev_ret, ev_expr, ev_skip, ev_ifS, ev_if, ifK_t, ifK_f, ev_c, ev_yes, ev_and, ev_or, ev_not, cK_eq, ev_tb, ev_tru, ev_andV, ev_orV, ev_notV, bK_bool, notK_bool, ev_m2, m2K_eq, ev_m1, ev_nil, ev_cons, consK_eq, ev_tup, ev_lst, ev_slot, slotK_eq, ev_retO, retOK_eq, ev_name, ev_tup2, ev_tup3, ev_tgc, tgK_eq, ev_tgn, ev_call, callK_v1, callK_v2, callK_v3, callK2_v1, callK2_v2, callK2_v3, callK_b1, callK_b2, borK_eq, callK2_b1, callK2_b2, unK_eq, ev_bor, bor1K_eq, ev_lenO, lenOK_eq, listAt_eq, listK_eq, ev_ixO, ixO0_eq, ixO1_eq, ixO1'_eq, ixO2_0, ev_sub, subK0_eq, subK_eq, subK1_eq, subK2_eq, ev_app, appK0_eq, appK_eq, ev_ins, insK0_eq, insK'_eq, insK_eq, ev_ext, extK0_eq, extK_eq, ev_i1, ev_i2, i2K_eq, ev_lrg, ev_trg, ev_forS, one_eq, oneC_eq, oneE_t, oneE_f, oneX_eq, wipeE_nil, wipeE_cons, ev_comp, fnK_ret, fnK_next, mask_nil, mask_0, mask_1, v_addI, v_tupL, v_tupT, v_lstL, v_lstT, v_lenL, v_lenT, v_int, v_seqL, v_seqT, v_bool, v_truB, v_truI, v_eqI, v_eqB, v_neI, v_ixT, v_ixL, v_at0, v_at1, v_at2, v_at3, v_at4, v_at5, List.getElem?_cons_zero, List.getElem?_cons_succ, List.set_cons_zero, List.set_cons_succ, List.length_cons, List.length_nil, Nat.reduceAdd, Nat.reduceLT, Nat.reduceSub, if_true, List.map_cons, List.map_nil, List.cons_append, List.nil_append, List.replicate_succ, List.replicate_zero, Nat.zero_add, Nat.lt_add_left_iff_pos, Nat.zero_lt_succ, bodyK_eq, srcK_eq, v_rg1 m (by omega)])
    (fun a _ b _ => by
      simp -implicitDefEqProofs only [bind_ok, lift_some, okK_eq, liftK_eq, ev_seq, seqK_next, seqK_ret, ev_asg, asgK_eq, ev_ret, ev_expr, ev_skip, ev_ifS, ev_if, ifK_t, ifK_f, ev_c, ev_yes, ev_and, ev_or, ev_not, cK_eq, ev_tb, ev_tru, ev_andV, ev_orV, ev_notV, bK_bool, notK_bool, ev_m2, m2K_eq, ev_m1, ev_nil, ev_cons, consK_eq, ev_tup, ev_lst, ev_slot, slotK_eq, ev_retO, retOK_eq, ev_name, ev_tup2, ev_tup3, ev_tgc, tgK_eq, ev_tgn, ev_call, callK_v1, callK_v2, callK_v3, callK2_v1, callK2_v2, callK2_v3, callK_b1, callK_b2, borK_eq, callK2_b1, callK2_b2, unK_eq, ev_bor, bor1K_eq, ev_lenO, lenOK_eq, listAt_eq, listK_eq, ev_ixO, ixO0_eq, ixO1_eq, ixO1'_eq, ixO2_0, ev_sub, subK0_eq, subK_eq, subK1_eq, subK2_eq, ev_app, appK0_eq, appK_eq, ev_ins, insK0_eq, insK'_eq, insK_eq, ev_ext, extK0_eq, extK_eq, ev_i1, ev_i2, i2K_eq, ev_lrg, ev_trg, ev_forS, one_eq, oneC_eq, oneE_t, oneE_f, oneX_eq, wipeE_nil, wipeE_cons, ev_comp, fnK_ret, fnK_next, mask_nil, mask_0, mask_1, v_addI, v_tupL, v_tupT, v_lstL, v_lstT, v_lenL, v_lenT, v_int, v_seqL, v_seqT, v_bool, v_truB, v_truI, v_eqI, v_eqB, v_neI, v_ixT, v_ixL, v_at0, v_at1, v_at2, v_at3, v_at4, v_at5, List.getElem?_cons_zero, List.getElem?_cons_succ, List.set_cons_zero, List.set_cons_succ, List.length_cons, List.length_nil, Nat.reduceAdd, Nat.reduceLT, Nat.reduceSub, if_true, List.map_cons, List.map_nil, List.cons_append, List.nil_append, List.replicate_succ, List.replicate_zero, Nat.zero_add, Nat.lt_add_left_iff_pos, Nat.zero_lt_succ, bodyK_eq, prN]
      rw [show (n : Int) + (b : Int) = ((n + b : Nat) : Int) by omega])
    (fun a _ => by simp -implicitDefEqProofs only [bind_ok, lift_some, okK_eq, liftK_eq, ev_seq, seqK_next, seqK_ret, ev_asg, asgK_eq, ev_ret, ev_expr, ev_skip, ev_ifS, ev_if, ifK_t, ifK_f, ev_c, ev_yes, ev_and, ev_or, ev_not, cK_eq, ev_tb, ev_tru, ev_andV, ev_orV, ev_notV, bK_bool, notK_bool, ev_m2, m2K_eq, ev_m1, ev_nil, ev_cons, consK_eq, ev_tup, ev_lst, ev_slot, slotK_eq, ev_retO, retOK_eq, ev_name, ev_tup2, ev_tup3, ev_tgc, tgK_eq, ev_tgn, ev_call, callK_v1, callK_v2, callK_v3, callK2_v1, callK2_v2, callK2_v3, callK_b1, callK_b2, borK_eq, callK2_b1, callK2_b2, unK_eq, ev_bor, bor1K_eq, ev_lenO, lenOK_eq, listAt_eq, listK_eq, ev_ixO, ixO0_eq, ixO1_eq, ixO1'_eq, ixO2_0, ev_sub, subK0_eq, subK_eq, subK1_eq, subK2_eq, ev_app, appK0_eq, appK_eq, ev_ins, insK0_eq, insK'_eq, insK_eq, ev_ext, extK0_eq, extK_eq, ev_i1, ev_i2, i2K_eq, ev_lrg, ev_trg, ev_forS, one_eq, oneC_eq, oneE_t, oneE_f, oneX_eq, wipeE_nil, wipeE_cons, ev_comp, fnK_ret, fnK_next, mask_nil, mask_0, mask_1, v_addI, v_tupL, v_tupT, v_lstL, v_lstT, v_lenL, v_lenT, v_int, v_seqL, v_seqT, v_bool, v_truB, v_truI, v_eqI, v_eqB, v_neI, v_ixT, v_ixL, v_at0, v_at1, v_at2, v_at3, v_at4, v_at5, List.getElem?_cons_zero, List.getElem?_cons_succ, List.set_cons_zero, List.set_cons_succ, List.length_cons, List.length_nil, Nat.reduceAdd, Nat.reduceLT, Nat.reduceSub, if_true, List.map_cons, List.map_nil, List.cons_append, List.nil_append, List.replicate_succ, List.replicate_zero, Nat.zero_add, Nat.lt_add_left_iff_pos, Nat.zero_lt_succ, bodyK_eq])]
  simp -implicitDefEqProofs only [bind_ok, lift_some, okK_eq, liftK_eq, ev_seq, seqK_next, seqK_ret, ev_asg, asgK_eq, ev_ret, ev_expr, ev_skip, ev_ifS, ev_if, ifK_t, ifK_f, ev_c, ev_yes, ev_and, ev_or, ev_not, cK_eq, ev_tb, ev_tru, ev_andV, ev_orV, ev_notV, bK_bool, notK_bool, ev_m2, m2K_eq, ev_m1, ev_nil, ev_cons, consK_eq, ev_tup, ev_lst, ev_slot, slotK_eq, ev_retO, retOK_eq, ev_name, ev_tup2, ev_tup3, ev_tgc, tgK_eq, ev_tgn, ev_call, callK_v1, callK_v2, callK_v3, callK2_v1, callK2_v2, callK2_v3, callK_b1, callK_b2, borK_eq, callK2_b1, callK2_b2, unK_eq, ev_bor, bor1K_eq, ev_lenO, lenOK_eq, listAt_eq, listK_eq, ev_ixO, ixO0_eq, ixO1_eq, ixO1'_eq, ixO2_0, ev_sub, subK0_eq, subK_eq, subK1_eq, subK2_eq, ev_app, appK0_eq, appK_eq, ev_ins, insK0_eq, insK'_eq, insK_eq, ev_ext, extK0_eq, extK_eq, ev_i1, ev_i2, i2K_eq, ev_lrg, ev_trg, ev_forS, one_eq, oneC_eq, oneE_t, oneE_f, oneX_eq, wipeE_nil, wipeE_cons, ev_comp, fnK_ret, fnK_next, mask_nil, mask_0, mask_1, v_addI, v_tupL, v_tupT, v_lstL, v_lstT, v_lenL, v_lenT, v_int, v_seqL, v_seqT, v_bool, v_truB, v_truI, v_eqI, v_eqB, v_neI, v_ixT, v_ixL, v_at0, v_at1, v_at2, v_at3, v_at4, v_at5, List.getElem?_cons_zero, List.getElem?_cons_succ, List.set_cons_zero, List.set_cons_succ, List.length_cons, List.length_nil, Nat.reduceAdd, Nat.reduceLT, Nat.reduceSub, if_true, List.map_cons, List.map_nil, List.cons_append, List.nil_append, List.replicate_succ, List.replicate_zero, Nat.zero_add, Nat.lt_add_left_iff_pos, Nat.zero_lt_succ, bodyK_eq]
  have hl := lexL_big (besR n R S) (n := n + m) (by omega)
  rw [v_addL _ _ (by
    rw [List.length_map, flat_len n m _ (fun _ => by rw [List.length_map, List.length_range]), List.length_range]
    have : n * m ≤ 64 * 64 := Nat.mul_le_mul (by omega) (by omega)
    unfold big; omega)]
  have e1 : (lexL (n + m) (besR n R S)).map prN ++ ((List.range n).flatMap fun x => (List.range m).map fun q => prN (x, n + q)) = (lexL (n + m) (besR n R S) ++ (List.range n).flatMap fun x => (List.range m).map fun q => (x, n + q)).map prN := by
    rw [List.map_append, List.map_flatMap]
    simp only [List.map_map]
    rfl
  rw [e1]
  simp -implicitDefEqProofs only [bind_ok, lift_some, okK_eq, liftK_eq, ev_seq, seqK_next, seqK_ret, ev_asg, asgK_eq, ev_ret, ev_expr, ev_skip, ev_ifS, ev_if, ifK_t, ifK_f, ev_c, ev_yes, ev_and, ev_or, ev_not, cK_eq, ev_tb, ev_tru, ev_andV, ev_orV, ev_notV, bK_bool, notK_bool, ev_m2, m2K_eq, ev_m1, ev_nil, ev_cons, consK_eq, ev_tup, ev_lst, ev_slot, slotK_eq, ev_retO, retOK_eq, ev_name, ev_tup2, ev_tup3, ev_tgc, tgK_eq, ev_tgn, ev_call, callK_v1, callK_v2, callK_v3, callK2_v1, callK2_v2, callK2_v3, callK_b1, callK_b2, borK_eq, callK2_b1, callK2_b2, unK_eq, ev_bor, bor1K_eq, ev_lenO, lenOK_eq, listAt_eq, listK_eq, ev_ixO, ixO0_eq, ixO1_eq, ixO1'_eq, ixO2_0, ev_sub, subK0_eq, subK_eq, subK1_eq, subK2_eq, ev_app, appK0_eq, appK_eq, ev_ins, insK0_eq, insK'_eq, insK_eq, ev_ext, extK0_eq, extK_eq, ev_i1, ev_i2, i2K_eq, ev_lrg, ev_trg, ev_forS, one_eq, oneC_eq, oneE_t, oneE_f, oneX_eq, wipeE_nil, wipeE_cons, ev_comp, fnK_ret, fnK_next, mask_nil, mask_0, mask_1, v_addI, v_tupL, v_tupT, v_lstL, v_lstT, v_lenL, v_lenT, v_int, v_seqL, v_seqT, v_bool, v_truB, v_truI, v_eqI, v_eqB, v_neI, v_ixT, v_ixL, v_at0, v_at1, v_at2, v_at3, v_at4, v_at5, List.getElem?_cons_zero, List.getElem?_cons_succ, List.set_cons_zero, List.set_cons_succ, List.length_cons, List.length_nil, Nat.reduceAdd, Nat.reduceLT, Nat.reduceSub, if_true, List.map_cons, List.map_nil, List.cons_append, List.nil_append, List.replicate_succ, List.replicate_zero, Nat.zero_add, Nat.lt_add_left_iff_pos, Nat.zero_lt_succ, bodyK_eq]
  rw [sort_lex (n := n + m) (R := topR n R S) ?_ ?_]
  · simp -implicitDefEqProofs only [bind_ok, lift_some, okK_eq, liftK_eq, ev_seq, seqK_next, seqK_ret, ev_asg, asgK_eq, ev_ret, ev_expr, ev_skip, ev_ifS, ev_if, ifK_t, ifK_f, ev_c, ev_yes, ev_and, ev_or, ev_not, cK_eq, ev_tb, ev_tru, ev_andV, ev_orV, ev_notV, bK_bool, notK_bool, ev_m2, m2K_eq, ev_m1, ev_nil, ev_cons, consK_eq, ev_tup, ev_lst, ev_slot, slotK_eq, ev_retO, retOK_eq, ev_name, ev_tup2, ev_tup3, ev_tgc, tgK_eq, ev_tgn, ev_call, callK_v1, callK_v2, callK_v3, callK2_v1, callK2_v2, callK2_v3, callK_b1, callK_b2, borK_eq, callK2_b1, callK2_b2, unK_eq, ev_bor, bor1K_eq, ev_lenO, lenOK_eq, listAt_eq, listK_eq, ev_ixO, ixO0_eq, ixO1_eq, ixO1'_eq, ixO2_0, ev_sub, subK0_eq, subK_eq, subK1_eq, subK2_eq, ev_app, appK0_eq, appK_eq, ev_ins, insK0_eq, insK'_eq, insK_eq, ev_ext, extK0_eq, extK_eq, ev_i1, ev_i2, i2K_eq, ev_lrg, ev_trg, ev_forS, one_eq, oneC_eq, oneE_t, oneE_f, oneX_eq, wipeE_nil, wipeE_cons, ev_comp, fnK_ret, fnK_next, mask_nil, mask_0, mask_1, v_addI, v_tupL, v_tupT, v_lstL, v_lstT, v_lenL, v_lenT, v_int, v_seqL, v_seqT, v_bool, v_truB, v_truI, v_eqI, v_eqB, v_neI, v_ixT, v_ixL, v_at0, v_at1, v_at2, v_at3, v_at4, v_at5, List.getElem?_cons_zero, List.getElem?_cons_succ, List.set_cons_zero, List.set_cons_succ, List.length_cons, List.length_nil, Nat.reduceAdd, Nat.reduceLT, Nat.reduceSub, if_true, List.map_cons, List.map_nil, List.cons_append, List.nil_append, List.replicate_succ, List.replicate_zero, Nat.zero_add, Nat.lt_add_left_iff_pos, Nat.zero_lt_succ, bodyK_eq]
  · rw [List.nodup_append]
    refine ⟨lexL_nodup _ _, (bet_nodup n m).imp fun h e => by subst e; exact lt2_irr _ h, fun a ha b hb => ?_⟩
    rintro rfl
    obtain ⟨_, _, c⟩ := mem_lexL.mp ha
    have := mem_bet.mp hb
    unfold besR at c
    rw [if_neg (by omega), if_neg (by omega)] at c
    cases c
  · intro p
    rw [List.mem_append, mem_lexL, mem_bet]
    unfold besR topR
    by_cases h1 : p.1 < n ∧ p.2 < n
    · simp only [if_pos h1]
      constructor
      · rintro (h | h)
        · exact h
        · omega
      · exact Or.inl
    · simp only [if_neg h1]
      by_cases h2 : n ≤ p.1 ∧ n ≤ p.2
      · simp only [if_pos h2]
        constructor
        · rintro (h | h)
          · exact h
          · omega
        · exact Or.inl
      · simp only [if_neg h2, decide_eq_true_eq]
        constructor
        · rintro (⟨_, _, h⟩ | h)
          · cases h
          · omega
        · intro h; right; omega
end Mir

set_option Elab.async false
set_option linter.all false
set_option maxRecDepth 100000
set_option maxHeartbeats 4000000
namespace Mir
open PySem PySem.Spec PyProof.Rows L2
/-! ### masks -/
def msum : List Nat → Nat
  | [] => 0
  | p :: ps => 2 ^ p + msum ps
def pmask (n : Nat) (P : Nat → Bool) : Nat := msum ((List.range n).filter P)
theorem msum_append : ∀ l m : List Nat, msum (l ++ m) = msum l + msum m
  | [], m => by simp [msum]
  | p :: l, m => by simp only [List.cons_append, msum, msum_append l m]; omega
theorem pmask_succ (n : Nat) (P : Nat → Bool) : pmask (n + 1) P = (if P n = true then 2 ^ n else 0) + pmask n P := by
  unfold pmask
  rw [List.range_succ, List.filter_append, msum_append, List.filter_cons]
  split
  · simp [msum]; omega
  · simp [msum]
theorem pmask_lt : ∀ (n : Nat) (P : Nat → Bool), pmask n P < 2 ^ n
  | 0, P => by simp [pmask, msum]
  | n + 1, P => by
    rw [pmask_succ]
    have := pmask_lt n P
    have e : (2 : Nat) ^ (n + 1) = 2 * 2 ^ n := by rw [Nat.pow_succ]; omega
    split <;> omega
theorem testBit_pmask : ∀ (n : Nat) (P : Nat → Bool) (i : Nat), (pmask n P).testBit i = (decide (i < n) && P i)
  | 0, P, i => by simp [pmask, msum]
  | n + 1, P, i => by
    rw [pmask_succ]
    have h := pmask_lt n P
    by_cases hP : P n = true
    · rw [if_pos hP]
      have hor : 2 ^ n + pmask n P = 2 ^ n * 1 ||| pmask n P := by rw [← nat_parts 1 h, Nat.mul_one]
      rw [hor, Nat.testBit_or, Nat.mul_one, testBit_pmask n P i, Nat.testBit_two_pow]
      by_cases e : n = i
      · subst e
        simp [hP]
      · by_cases h2 : i < n
        · have : i < n + 1 := by omega
          simp [e, h2, this]
        · have : ¬ i < n + 1 := by omega
          simp [e, h2, this]
    · rw [if_neg hP, Nat.zero_add, testBit_pmask n P i]
      by_cases e : n = i
      · subst e
        simp [hP]
      · by_cases h2 : i < n
        · have : i < n + 1 := by omega
          simp [h2, this]
        · have : ¬ i < n + 1 := by omega
          simp [h2, this]
theorem bitOr_nat (a b : Nat) : Builtin.bitOr (a : Int) (b : Int) = ((a ||| b : Nat) : Int) := by
  rw [bitOr_nn (Int.natCast_nonneg a) (Int.natCast_nonneg b)]
  rfl
theorem v_orN (a b : Nat) : fOr (.int (a : Int)) (.int (b : Int)) = some (.int ((a ||| b : Nat) : Int)) := by
  show some (PyData.int (Builtin.bitOr (a : Int) (b : Int))) = _
  rw [bitOr_nat]
theorem cPow_ok (k : Nat) (h : k ≤ 100000) : CPow 1 (k : Int) := by
  refine ⟨by omega, by omega, by decide⟩
theorem v_shl1 (k : Nat) (h : k ≤ 1000) : fShl (.int 1) (.int (k : Int)) = some (.int ((2 ^ k : Nat) : Int)) := by
  show (if _ then some (PyData.int (1 * 2 ^ ((k : Int).toNat))) else none) = _
  rw [if_pos ⟨by omega, by omega, by decide⟩, Int.one_mul, Int.toNat_natCast]
  first | rfl | (congr 2; exact (Int.natCast_pow 2 k).symm)
/-- the pairs' marks at x -/
def markOf : List (Nat × Nat) → Nat → Nat
  | [], _ => 0
  | p :: ps, x => if p.1 = x then 2 ^ p.2 ||| markOf ps x else markOf ps x
theorem markOf_snoc (p : Nat × Nat) (x : Nat) : ∀ ps : List (Nat × Nat), markOf (ps ++ [p]) x = if p.1 = x then markOf ps x ||| 2 ^ p.2 else markOf ps x
  | [] => by
    show (if p.1 = x then 2 ^ p.2 ||| 0 else 0) = _
    split
    · simp [markOf]
    · rfl
  | q :: ps => by
    show (if q.1 = x then 2 ^ q.2 ||| markOf (ps ++ [p]) x else markOf (ps ++ [p]) x) = _
    rw [markOf_snoc p x ps]
    show _ = if p.1 = x then (if q.1 = x then 2 ^ q.2 ||| markOf ps x else markOf ps x) ||| 2 ^ p.2 else (if q.1 = x then 2 ^ q.2 ||| markOf ps x else markOf ps x)
    by_cases h1 : p.1 = x <;> by_cases h2 : q.1 = x <;> simp [h1, h2, Nat.or_assoc]
theorem markOf_bit (x i : Nat) : ∀ ps : List (Nat × Nat), (markOf ps x).testBit i = true ↔ (x, i) ∈ ps
  | [] => by simp [markOf]
  | p :: ps => by
    obtain ⟨a, b⟩ := p
    show (if a = x then 2 ^ b ||| markOf ps x else markOf ps x).testBit i = true ↔ _
    rw [List.mem_cons, ← markOf_bit x i ps]
    by_cases h : a = x
    · rw [if_pos h, Nat.testBit_or, Nat.testBit_two_pow]
      subst h
      simp only [Bool.or_eq_true, decide_eq_true_eq, Prod.mk.injEq, true_and]
      constructor
      · rintro (rfl | h)
        · exact Or.inl rfl
        · exact Or.inr h
      · rintro (rfl | h)
        · exact Or.inl rfl
        · exact Or.inr h
    · rw [if_neg h]
      simp only [Prod.mk.injEq]
      constructor
      · exact Or.inr
      · rintro (h2 | h2)
        · exact absurd h2.1.symm h
        · exact h2
theorem markOf_lex {n : Nat} {R : Nat → Nat → Bool} {x : Nat} (hx : x < n) : markOf (lexL n R) x = pmask n (R x) := by
  refine Nat.eq_of_testBit_eq fun i => ?_
  rw [testBit_pmask, Bool.eq_iff_iff, markOf_bit, mem_lexL]
  simp only [Bool.and_eq_true, decide_eq_true_eq]
  exact ⟨fun h => ⟨h.2.1, h.2.2⟩, fun h => ⟨hx, h.1, h.2⟩⟩
theorem ixN_nat {n i : Nat} (h : i < n) : ixN n (i : Int) = some i := by
  unfold ixN
  simp [h]
theorem atI_rng (n : Nat) (f : Nat → D) {x : Nat} (h : x < n) : atI ((List.range n).map f) (x : Int) = some (f x) := by
  refine atI_nat ?_
  rw [List.getElem?_map, List.getElem?_range h]
  rfl
theorem set_rng (n : Nat) (f g : Nat → D) {x : Nat} (h : x < n) (hg : ∀ y, y < n → y ≠ x → g y = f y) : ((List.range n).map f).set x (g x) = (List.range n).map g := by
  refine List.ext_getElem? fun i => ?_
  by_cases hi : i < n
  · by_cases e : x = i
    · subst e
      rw [List.getElem?_set_self (by simpa using h), List.getElem?_map, List.getElem?_range hi]
      rfl
    · rw [List.getElem?_set_ne e, List.getElem?_map, List.getElem?_map, List.getElem?_range hi]
      simp only [Option.map_some]
      rw [hg i hi (fun z => e z.symm)]
  · rw [List.getElem?_eq_none (by simp; omega), List.getElem?_eq_none (by simp; omega)]
theorem rep0 (n : Nat) (d : D) : (List.replicate n [d]).flatten = (List.range n).map fun _ => d := by
  induction n with
  | zero => rfl
  | succ n ih => rw [List.replicate_succ', List.flatten_append, ih, List.range_succ, List.map_append]; rfl
theorem v_mulL (d : D) (n : Nat) (h : n ≤ 1000) : fMul (.list [d]) (.int (n : Int)) = some (.list ((List.range n).map fun _ => d)) := by
  show (if _ then some (PyData.list (List.replicate ((n : Int).toNat) [d]).flatten) else none) = _
  rw [if_pos ⟨by omega, by omega, by simp only [List.length_cons, List.length_nil, Int.toNat_natCast]; unfold big; omega⟩, Int.toNat_natCast, rep0]
theorem high_masks_ev (n : Nat) (R : Nat → Nat → Bool) (hn : n ≤ 64) : F_high_masks [ordD n R] = .ok (.tuple ((List.range n).map fun x => natD (pmask n (R x)))) [none] := by
  unfold F_high_masks
  rw [ev_fn]
  unfold m_high_masks
  simp -implicitDefEqProofs only [bind_ok, lift_some, okK_eq, liftK_eq, ev_seq, seqK_next, seqK_ret, ev_asg, asgK_eq, ev_ret, ev_expr, ev_skip, ev_ifS, ev_if, ifK_t, ifK_f, ev_c, ev_yes, ev_and, ev_or, ev_not, cK_eq, ev_tb, ev_tru, ev_andV, ev_orV, ev_notV, bK_bool, notK_bool, ev_m2, m2K_eq, ev_m1, ev_nil, ev_cons, consK_eq, ev_tup, ev_lst, ev_slot, slotK_eq, ev_retO, retOK_eq, ev_name, ev_tup2, ev_tup3, ev_tgc, tgK_eq, ev_tgn, ev_call, callK_v1, callK_v2, callK_v3, callK2_v1, callK2_v2, callK2_v3, callK_b1, callK_b2, borK_eq, callK2_b1, callK2_b2, unK_eq, ev_bor, bor1K_eq, ev_lenO, lenOK_eq, listAt_eq, listK_eq, ev_ixO, ixO0_eq, ixO1_eq, ixO1'_eq, ixO2_0, ev_sub, subK0_eq, subK_eq, subK1_eq, subK2_eq, ev_app, appK0_eq, appK_eq, ev_ins, insK0_eq, insK'_eq, insK_eq, ev_ext, extK0_eq, extK_eq, ev_i1, ev_i2, i2K_eq, ev_lrg, ev_trg, ev_forS, one_eq, oneC_eq, oneE_t, oneE_f, oneX_eq, wipeE_nil, wipeE_cons, ev_comp, fnK_ret, fnK_next, mask_nil, mask_0, mask_1, v_addI, v_tupL, v_tupT, v_lstL, v_lstT, v_lenL, v_lenT, v_int, v_seqL, v_seqT, v_bool, v_truB, v_truI, v_eqI, v_eqB, v_neI, v_ixT, v_ixL, v_at0, v_at1, v_at2, v_at3, v_at4, v_at5, List.getElem?_cons_zero, List.getElem?_cons_succ, List.set_cons_zero, List.set_cons_succ, List.length_cons, List.length_nil, Nat.reduceAdd, Nat.reduceLT, Nat.reduceSub, if_true, List.map_cons, List.map_nil, List.cons_append, List.nil_append, List.replicate_succ, List.replicate_zero, Nat.zero_add, Nat.lt_add_left_iff_pos, Nat.zero_lt_succ, bodyK_eq, ordD, ordP, v_mulL _ _ (show n ≤ 1000 by omega)]
  obtain ⟨ρ', e, y1, y2, hI⟩ := for_ix prN (tgTup 2 (tgCons (tgName 4) (tgCons (tgName 5) tgNil)))
    (mAsg (m2 fOr (mIxO 3 0 (mSlot 4)) (m2 fShl (mC (.int 1)) (mSlot 5))) (tgSub 3 (mSlot 4)))
    (fun i ρ => ∃ y1 y2, ρ = [some (.tuple [.int (n : Int), .tuple ((lexL n R).map prN)]), some (.int (n : Int)), some (.tuple ((lexL n R).map prN)), some (.list ((List.range n).map fun x => natD (markOf ((lexL n R).take i) x))), y1, y2])
    (lexL n R) [some (.tuple [.int (n : Int), .tuple ((lexL n R).map prN)]), some (.int (n : Int)), some (.tuple ((lexL n R).map prN)), some (.list ((List.range n).map fun _ => .int 0)), none, none] ⟨none, none, rfl⟩ (by
      rintro i p ρ hp ⟨y1, y2, rfl⟩
      obtain ⟨h1, h2, h3⟩ := mem_lexL.mp (List.mem_of_getElem? hp)
      refine ⟨[some (.tuple [.int (n : Int), .tuple ((lexL n R).map prN)]), some (.int (n : Int)), some (.tuple ((lexL n R).map prN)), some (.list ((List.range n).map fun x => natD (markOf ((lexL n R).take (i + 1)) x))), some (natD p.1), some (natD p.2)], ?_, _, _, rfl⟩
      simp -implicitDefEqProofs only [bind_ok, lift_some, okK_eq, liftK_eq, ev_seq, seqK_next, seqK_ret, ev_asg, asgK_eq, ev_ret, ev_expr, ev_skip, ev_ifS, ev_if, ifK_t, ifK_f, ev_c, ev_yes, ev_and, ev_or, ev_not, cK_eq, ev_tb, ev_tru, ev_andV, ev_orV, ev_notV, bK_bool, notK_bool, ev_m2, m2K_eq, ev_m1, ev_nil, ev_cons, consK_eq, ev_tup, ev_lst, ev_slot, slotK_eq, ev_retO, retOK_eq, ev_name, ev_tup2, ev_tup3, ev_tgc, tgK_eq, ev_tgn, ev_call, callK_v1, callK_v2, callK_v3, callK2_v1, callK2_v2, callK2_v3, callK_b1, callK_b2, borK_eq, callK2_b1, callK2_b2, unK_eq, ev_bor, bor1K_eq, ev_lenO, lenOK_eq, listAt_eq, listK_eq, ev_ixO, ixO0_eq, ixO1_eq, ixO1'_eq, ixO2_0, ev_sub, subK0_eq, subK_eq, subK1_eq, subK2_eq, ev_app, appK0_eq, appK_eq, ev_ins, insK0_eq, insK'_eq, insK_eq, ev_ext, extK0_eq, extK_eq, ev_i1, ev_i2, i2K_eq, ev_lrg, ev_trg, ev_forS, one_eq, oneC_eq, oneE_t, oneE_f, oneX_eq, wipeE_nil, wipeE_cons, ev_comp, fnK_ret, fnK_next, mask_nil, mask_0, mask_1, v_addI, v_tupL, v_tupT, v_lstL, v_lstT, v_lenL, v_lenT, v_int, v_seqL, v_seqT, v_bool, v_truB, v_truI, v_eqI, v_eqB, v_neI, v_ixT, v_ixL, v_at0, v_at1, v_at2, v_at3, v_at4, v_at5, List.getElem?_cons_zero, List.getElem?_cons_succ, List.set_cons_zero, List.set_cons_succ, List.length_cons, List.length_nil, Nat.reduceAdd, Nat.reduceLT, Nat.reduceSub, if_true, List.map_cons, List.map_nil, List.cons_append, List.nil_append, List.replicate_succ, List.replicate_zero, Nat.zero_add, Nat.lt_add_left_iff_pos, Nat.zero_lt_succ, bodyK_eq, prN, natD, atI_rng n (fun x => PyData.int ((markOf ((lexL n R).take i) x : Nat) : Int)) h1, v_shl1 p.2 (by omega), v_orN, List.length_map, List.length_range, ixN_nat h1]
      have et : (lexL n R).take (i + 1) = (lexL n R).take i ++ [p] := by rw [List.take_add_one, hp]; rfl
      have es := set_rng n (fun x => PyData.int ((markOf ((lexL n R).take i) x : Nat) : Int)) (fun x => PyData.int ((markOf ((lexL n R).take (i + 1)) x : Nat) : Int)) h1 (fun y _ hy => by
        simp only [et, markOf_snoc]
        rw [if_neg (fun z => hy z.symm)])
      rw [← es]
      simp only [et, markOf_snoc, if_true])
  rw [e]
  simp -implicitDefEqProofs only [bind_ok, lift_some, okK_eq, liftK_eq, ev_seq, seqK_next, seqK_ret, ev_asg, asgK_eq, ev_ret, ev_expr, ev_skip, ev_ifS, ev_if, ifK_t, ifK_f, ev_c, ev_yes, ev_and, ev_or, ev_not, cK_eq, ev_tb, ev_tru, ev_andV, ev_orV, ev_notV, bK_bool, notK_bool, ev_m2, m2K_eq, ev_m1, ev_nil, ev_cons, consK_eq, ev_tup, ev_lst, ev_slot, slotK_eq, ev_retO, retOK_eq, ev_name, ev_tup2, ev_tup3, ev_tgc, tgK_eq, ev_tgn, ev_call, callK_v1, callK_v2, callK_v3, callK2_v1, callK2_v2, callK2_v3, callK_b1, callK_b2, borK_eq, callK2_b1, callK2_b2, unK_eq, ev_bor, bor1K_eq, ev_lenO, lenOK_eq, listAt_eq, listK_eq, ev_ixO, ixO0_eq, ixO1_eq, ixO1'_eq, ixO2_0, ev_sub, subK0_eq, subK_eq, subK1_eq, subK2_eq, ev_app, appK0_eq, appK_eq, ev_ins, insK0_eq, insK'_eq, insK_eq, ev_ext, extK0_eq, extK_eq, ev_i1, ev_i2, i2K_eq, ev_lrg, ev_trg, ev_forS, one_eq, oneC_eq, oneE_t, oneE_f, oneX_eq, wipeE_nil, wipeE_cons, ev_comp, fnK_ret, fnK_next, mask_nil, mask_0, mask_1, v_addI, v_tupL, v_tupT, v_lstL, v_lstT, v_lenL, v_lenT, v_int, v_seqL, v_seqT, v_bool, v_truB, v_truI, v_eqI, v_eqB, v_neI, v_ixT, v_ixL, v_at0, v_at1, v_at2, v_at3, v_at4, v_at5, List.getElem?_cons_zero, List.getElem?_cons_succ, List.set_cons_zero, List.set_cons_succ, List.length_cons, List.length_nil, Nat.reduceAdd, Nat.reduceLT, Nat.reduceSub, if_true, List.map_cons, List.map_nil, List.cons_append, List.nil_append, List.replicate_succ, List.replicate_zero, Nat.zero_add, Nat.lt_add_left_iff_pos, Nat.zero_lt_succ, bodyK_eq]
  rw [hI]
  simp -implicitDefEqProofs only [bind_ok, lift_some, okK_eq, liftK_eq, ev_seq, seqK_next, seqK_ret, ev_asg, asgK_eq, ev_ret, ev_expr, ev_skip, ev_ifS, ev_if, ifK_t, ifK_f, ev_c, ev_yes, ev_and, ev_or, ev_not, cK_eq, ev_tb, ev_tru, ev_andV, ev_orV, ev_notV, bK_bool, notK_bool, ev_m2, m2K_eq, ev_m1, ev_nil, ev_cons, consK_eq, ev_tup, ev_lst, ev_slot, slotK_eq, ev_retO, retOK_eq, ev_name, ev_tup2, ev_tup3, ev_tgc, tgK_eq, ev_tgn, ev_call, callK_v1, callK_v2, callK_v3, callK2_v1, callK2_v2, callK2_v3, callK_b1, callK_b2, borK_eq, callK2_b1, callK2_b2, unK_eq, ev_bor, bor1K_eq, ev_lenO, lenOK_eq, listAt_eq, listK_eq, ev_ixO, ixO0_eq, ixO1_eq, ixO1'_eq, ixO2_0, ev_sub, subK0_eq, subK_eq, subK1_eq, subK2_eq, ev_app, appK0_eq, appK_eq, ev_ins, insK0_eq, insK'_eq, insK_eq, ev_ext, extK0_eq, extK_eq, ev_i1, ev_i2, i2K_eq, ev_lrg, ev_trg, ev_forS, one_eq, oneC_eq, oneE_t, oneE_f, oneX_eq, wipeE_nil, wipeE_cons, ev_comp, fnK_ret, fnK_next, mask_nil, mask_0, mask_1, v_addI, v_tupL, v_tupT, v_lstL, v_lstT, v_lenL, v_lenT, v_int, v_seqL, v_seqT, v_bool, v_truB, v_truI, v_eqI, v_eqB, v_neI, v_ixT, v_ixL, v_at0, v_at1, v_at2, v_at3, v_at4, v_at5, List.getElem?_cons_zero, List.getElem?_cons_succ, List.set_cons_zero, List.set_cons_succ, List.length_cons, List.length_nil, Nat.reduceAdd, Nat.reduceLT, Nat.reduceSub, if_true, List.map_cons, List.map_nil, List.cons_append, List.nil_append, List.replicate_succ, List.replicate_zero, Nat.zero_add, Nat.lt_add_left_iff_pos, Nat.zero_lt_succ, bodyK_eq, List.take_length]
  congr 2
  refine List.map_congr_left fun x hx => ?_
  rw [markOf_lex (List.mem_range.mp hx)]
theorem enum_rng (n : Nat) (f : Nat → D) : enumD ((List.range n).map f) = (List.range n).map fun x : Nat => PyData.tuple [.int (x : Int), f x] := by
  unfold enumD
  rw [List.length_map, List.length_range, List.zipWith_map_right]
  have h : ∀ l : List Nat, List.zipWith (fun a b => enumD.D_pair a (f b)) l l = l.map fun x : Nat => PyData.tuple [.int (x : Int), f x] := by
    intro l
    induction l with
    | nil => rfl
    | cons a l ih => rw [List.zipWith_cons_cons, List.map_cons, ih]; rfl
  exact h _
theorem v_enT (ds : List D) : fEnum (.tuple ds) = some (enumD ds) := rfl
theorem pmask_or (n : Nat) (P : Nat → Bool) {x : Nat} (hx : x < n) : pmask n P ||| 2 ^ x = pmask n fun y => decide (y = x) || P y := by
  refine Nat.eq_of_testBit_eq fun i => ?_
  rw [Nat.testBit_or, testBit_pmask, testBit_pmask, Nat.testBit_two_pow, Bool.eq_iff_iff]
  simp only [Bool.and_eq_true, Bool.or_eq_true, decide_eq_true_eq]
  constructor
  · rintro (h | rfl)
    · exact ⟨h.1, Or.inr h.2⟩
    · exact ⟨hx, Or.inl rfl⟩
  · rintro ⟨h1, h2 | h2⟩
    · exact Or.inr h2.symm
    · exact Or.inl ⟨h1, h2⟩
def refl (R : Nat → Nat → Bool) (x y : Nat) : Bool := decide (y = x) || R x y
theorem at_least_masks_ev (n : Nat) (R : Nat → Nat → Bool) (hn : n ≤ 64) : F_at_least_masks [ordD n R] = .ok (.tuple ((List.range n).map fun x => natD (pmask n (refl R x)))) [none] := by
  unfold F_at_least_masks
  rw [ev_fn]
  unfold m_at_least_masks
  simp -implicitDefEqProofs only [bind_ok, lift_some, okK_eq, liftK_eq, ev_seq, seqK_next, seqK_ret, ev_asg, asgK_eq, ev_ret, ev_expr, ev_skip, ev_ifS, ev_if, ifK_t, ifK_f, ev_c, ev_yes, ev_and, ev_or, ev_not, cK_eq, ev_tb, ev_tru, ev_andV, ev_orV, ev_notV, bK_bool, notK_bool, ev_m2, m2K_eq, ev_m1, ev_nil, ev_cons, consK_eq, ev_tup, ev_lst, ev_slot, slotK_eq, ev_retO, retOK_eq, ev_name, ev_tup2, ev_tup3, ev_tgc, tgK_eq, ev_tgn, ev_call, callK_v1, callK_v2, callK_v3, callK2_v1, callK2_v2, callK2_v3, callK_b1, callK_b2, borK_eq, callK2_b1, callK2_b2, unK_eq, ev_bor, bor1K_eq, ev_lenO, lenOK_eq, listAt_eq, listK_eq, ev_ixO, ixO0_eq, ixO1_eq, ixO1'_eq, ixO2_0, ev_sub, subK0_eq, subK_eq, subK1_eq, subK2_eq, ev_app, appK0_eq, appK_eq, ev_ins, insK0_eq, insK'_eq, insK_eq, ev_ext, extK0_eq, extK_eq, ev_i1, ev_i2, i2K_eq, ev_lrg, ev_trg, ev_forS, one_eq, oneC_eq, oneE_t, oneE_f, oneX_eq, wipeE_nil, wipeE_cons, ev_comp, fnK_ret, fnK_next, mask_nil, mask_0, mask_1, v_addI, v_tupL, v_tupT, v_lstL, v_lstT, v_lenL, v_lenT, v_int, v_seqL, v_seqT, v_bool, v_truB, v_truI, v_eqI, v_eqB, v_neI, v_ixT, v_ixL, v_at0, v_at1, v_at2, v_at3, v_at4, v_at5, List.getElem?_cons_zero, List.getElem?_cons_succ, List.set_cons_zero, List.set_cons_succ, List.length_cons, List.length_nil, Nat.reduceAdd, Nat.reduceLT, Nat.reduceSub, if_true, List.map_cons, List.map_nil, List.cons_append, List.nil_append, List.replicate_succ, List.replicate_zero, Nat.zero_add, Nat.lt_add_left_iff_pos, Nat.zero_lt_succ, bodyK_eq, high_masks_ev n R hn, v_enT, enum_rng]
  rw [compK_map (List.range n) (fun x : Nat => PyData.tuple [.int (x : Int), natD (pmask n (R x))]) (fun x => natD (pmask n (refl R x))) (by rw [List.length_range]; unfold big; omega) (fun x hx => by
    have hx := List.mem_range.mp hx
    simp -implicitDefEqProofs only [bind_ok, lift_some, okK_eq, liftK_eq, ev_seq, seqK_next, seqK_ret, ev_asg, asgK_eq, ev_ret, ev_expr, ev_skip, ev_ifS, ev_if, ifK_t, ifK_f, ev_c, ev_yes, ev_and, ev_or, ev_not, cK_eq, ev_tb, ev_tru, ev_andV, ev_orV, ev_notV, bK_bool, notK_bool, ev_m2, m2K_eq, ev_m1, ev_nil, ev_cons, consK_eq, ev_tup, ev_lst, ev_slot, slotK_eq, ev_retO, retOK_eq, ev_name, ev_tup2, ev_tup3, ev_tgc, tgK_eq, ev_tgn, ev_call, callK_v1, callK_v2, callK_v3, callK2_v1, callK2_v2, callK2_v3, callK_b1, callK_b2, borK_eq, callK2_b1, callK2_b2, unK_eq, ev_bor, bor1K_eq, ev_lenO, lenOK_eq, listAt_eq, listK_eq, ev_ixO, ixO0_eq, ixO1_eq, ixO1'_eq, ixO2_0, ev_sub, subK0_eq, subK_eq, subK1_eq, subK2_eq, ev_app, appK0_eq, appK_eq, ev_ins, insK0_eq, insK'_eq, insK_eq, ev_ext, extK0_eq, extK_eq, ev_i1, ev_i2, i2K_eq, ev_lrg, ev_trg, ev_forS, one_eq, oneC_eq, oneE_t, oneE_f, oneX_eq, wipeE_nil, wipeE_cons, ev_comp, fnK_ret, fnK_next, mask_nil, mask_0, mask_1, v_addI, v_tupL, v_tupT, v_lstL, v_lstT, v_lenL, v_lenT, v_int, v_seqL, v_seqT, v_bool, v_truB, v_truI, v_eqI, v_eqB, v_neI, v_ixT, v_ixL, v_at0, v_at1, v_at2, v_at3, v_at4, v_at5, List.getElem?_cons_zero, List.getElem?_cons_succ, List.set_cons_zero, List.set_cons_succ, List.length_cons, List.length_nil, Nat.reduceAdd, Nat.reduceLT, Nat.reduceSub, if_true, List.map_cons, List.map_nil, List.cons_append, List.nil_append, List.replicate_succ, List.replicate_zero, Nat.zero_add, Nat.lt_add_left_iff_pos, Nat.zero_lt_succ, bodyK_eq, natD, v_shl1 x (by omega), v_orN, pmask_or n (R x) hx]
    rfl)]
  simp -implicitDefEqProofs only [bind_ok, lift_some, okK_eq, liftK_eq, ev_seq, seqK_next, seqK_ret, ev_asg, asgK_eq, ev_ret, ev_expr, ev_skip, ev_ifS, ev_if, ifK_t, ifK_f, ev_c, ev_yes, ev_and, ev_or, ev_not, cK_eq, ev_tb, ev_tru, ev_andV, ev_orV, ev_notV, bK_bool, notK_bool, ev_m2, m2K_eq, ev_m1, ev_nil, ev_cons, consK_eq, ev_tup, ev_lst, ev_slot, slotK_eq, ev_retO, retOK_eq, ev_name, ev_tup2, ev_tup3, ev_tgc, tgK_eq, ev_tgn, ev_call, callK_v1, callK_v2, callK_v3, callK2_v1, callK2_v2, callK2_v3, callK_b1, callK_b2, borK_eq, callK2_b1, callK2_b2, unK_eq, ev_bor, bor1K_eq, ev_lenO, lenOK_eq, listAt_eq, listK_eq, ev_ixO, ixO0_eq, ixO1_eq, ixO1'_eq, ixO2_0, ev_sub, subK0_eq, subK_eq, subK1_eq, subK2_eq, ev_app, appK0_eq, appK_eq, ev_ins, insK0_eq, insK'_eq, insK_eq, ev_ext, extK0_eq, extK_eq, ev_i1, ev_i2, i2K_eq, ev_lrg, ev_trg, ev_forS, one_eq, oneC_eq, oneE_t, oneE_f, oneX_eq, wipeE_nil, wipeE_cons, ev_comp, fnK_ret, fnK_next, mask_nil, mask_0, mask_1, v_addI, v_tupL, v_tupT, v_lstL, v_lstT, v_lenL, v_lenT, v_int, v_seqL, v_seqT, v_bool, v_truB, v_truI, v_eqI, v_eqB, v_neI, v_ixT, v_ixL, v_at0, v_at1, v_at2, v_at3, v_at4, v_at5, List.getElem?_cons_zero, List.getElem?_cons_succ, List.set_cons_zero, List.set_cons_succ, List.length_cons, List.length_nil, Nat.reduceAdd, Nat.reduceLT, Nat.reduceSub, if_true, List.map_cons, List.map_nil, List.cons_append, List.nil_append, List.replicate_succ, List.replicate_zero, Nat.zero_add, Nat.lt_add_left_iff_pos, Nat.zero_lt_succ, bodyK_eq]
theorem v_and_low (k a : Nat) : fAnd (.int ((2 ^ k * (2 * a + 1) : Nat) : Int)) (.int (-((2 ^ k * (2 * a + 1) : Nat) : Int))) = some (.int ((2 ^ k : Nat) : Int)) := by
  show some (PyData.int (Builtin.bitAnd _ _)) = _
  have h := PySem.W.kbt_low k (a : Int)
  have e : ((2 ^ k * (2 * a + 1) : Nat) : Int) = 2 ^ k * (2 * (a : Int) + 1) := by rw [Int.natCast_mul, PySem.W.kbt_cast, Int.natCast_add, Int.natCast_mul]; rfl
  rw [e, h, PySem.W.kbt_cast]
theorem v_bits (k : Nat) : fBits (.int ((2 ^ k : Nat) : Int)) = some (.int ((k + 1 : Nat) : Int)) := by
  show some (PyData.int ((Builtin.Int.intBits ((2 ^ k : Nat) : Int) : Nat) : Int)) = _
  have e : Builtin.Int.intBits ((2 ^ k : Nat) : Int) = k + 1 := by
    unfold Builtin.Int.intBits
    have h0 : (((2 ^ k : Nat) : Int) == 0) = false := by
      have := Nat.two_pow_pos k
      rw [beq_eq_false_iff_ne]; omega
    rw [h0, Int.natAbs_natCast, Nat.log2_two_pow]
    rfl
  rw [e]
theorem msum_even : ∀ (k : Nat) (l : List Nat), (∀ p ∈ l, k < p) → ∃ a, msum l = 2 ^ k * (2 * a)
  | k, [], _ => ⟨0, by simp [msum]⟩
  | k, p :: l, h => by
    obtain ⟨a, ha⟩ := msum_even k l fun q hq => h q (by simp [hq])
    have hp := h p (by simp)
    refine ⟨2 ^ (p - k - 1) + a, ?_⟩
    have e : (2 : Nat) ^ p = 2 ^ k * (2 * 2 ^ (p - k - 1)) := by
      rw [show 2 * 2 ^ (p - k - 1) = 2 ^ (p - k - 1 + 1) by rw [Nat.pow_succ]; omega, ← Nat.pow_add]
      congr 1
      omega
    show 2 ^ p + msum l = _
    rw [ha, e, Nat.mul_add 2, Nat.mul_add]
theorem while_ix (t : M Bool) (b : M Fl) (I : Nat → Env → Prop) (n : Nat) : ∀ (k i fuel : Nat) (ρ : Env), i + k = n → k < fuel → I i ρ →
    (∀ i ρ, i < n → I i ρ → t ρ = .ok true ρ ∧ ∃ ρ1, b ρ = .ok .next ρ1 ∧ I (i + 1) ρ1) → (∀ ρ, I n ρ → t ρ = .ok false ρ) → ∃ ρ', mWhile t b fuel ρ = .ok .next ρ' ∧ I n ρ'
  | 0, i, fuel + 1, ρ, h, _, hI, hs, he => by
    have : i = n := by omega
    subst this
    refine ⟨ρ, ?_, hI⟩
    show (t ρ).bind _ = _
    rw [he ρ hI]
    rfl
  | k + 1, i, fuel + 1, ρ, h, hf, hI, hs, he => by
    obtain ⟨e1, ρ1, e2, h1⟩ := hs i ρ (by omega) hI
    obtain ⟨ρ', e3, h3⟩ := while_ix t b I n k (i + 1) fuel ρ1 (by omega) (by omega) h1 hs he
    refine ⟨ρ', ?_, h3⟩
    show (t ρ).bind _ = _
    rw [e1]
    show (b ρ).bind _ = _
    rw [e2]
    exact e3
  | k, i, 0, ρ, _, h, _, _, _ => by omega
theorem msum_pos {p : Nat} {l : List Nat} : ((msum (p :: l) : Nat) : Int) ≠ 0 := by
  have : 0 < 2 ^ p := Nat.two_pow_pos p
  show ((2 ^ p + msum l : Nat) : Int) ≠ 0
  omega
theorem points_l (l : List Nat) (hl : l.Pairwise (· < ·)) (hlen : l.length ≤ 1000) : F_points_in [natD (msum l)] = .ok (.tuple (l.map natD)) [none] := by
  unfold F_points_in
  rw [ev_fn]
  unfold m_points_in
  simp -implicitDefEqProofs only [bind_ok, lift_some, okK_eq, liftK_eq, ev_seq, seqK_next, seqK_ret, ev_asg, asgK_eq, ev_ret, ev_expr, ev_skip, ev_ifS, ev_if, ifK_t, ifK_f, ev_c, ev_yes, ev_and, ev_or, ev_not, cK_eq, ev_tb, ev_tru, ev_andV, ev_orV, ev_notV, bK_bool, notK_bool, ev_m2, m2K_eq, ev_m1, ev_nil, ev_cons, consK_eq, ev_tup, ev_lst, ev_slot, slotK_eq, ev_retO, retOK_eq, ev_name, ev_tup2, ev_tup3, ev_tgc, tgK_eq, ev_tgn, ev_call, callK_v1, callK_v2, callK_v3, callK2_v1, callK2_v2, callK2_v3, callK_b1, callK_b2, borK_eq, callK2_b1, callK2_b2, unK_eq, ev_bor, bor1K_eq, ev_lenO, lenOK_eq, listAt_eq, listK_eq, ev_ixO, ixO0_eq, ixO1_eq, ixO1'_eq, ixO2_0, ev_sub, subK0_eq, subK_eq, subK1_eq, subK2_eq, ev_app, appK0_eq, appK_eq, ev_ins, insK0_eq, insK'_eq, insK_eq, ev_ext, extK0_eq, extK_eq, ev_i1, ev_i2, i2K_eq, ev_lrg, ev_trg, ev_forS, one_eq, oneC_eq, oneE_t, oneE_f, oneX_eq, wipeE_nil, wipeE_cons, ev_comp, fnK_ret, fnK_next, mask_nil, mask_0, mask_1, v_addI, v_tupL, v_tupT, v_lstL, v_lstT, v_lenL, v_lenT, v_int, v_seqL, v_seqT, v_bool, v_truB, v_truI, v_eqI, v_eqB, v_neI, v_ixT, v_ixL, v_at0, v_at1, v_at2, v_at3, v_at4, v_at5, List.getElem?_cons_zero, List.getElem?_cons_succ, List.set_cons_zero, List.set_cons_succ, List.length_cons, List.length_nil, Nat.reduceAdd, Nat.reduceLT, Nat.reduceSub, if_true, List.map_cons, List.map_nil, List.cons_append, List.nil_append, List.replicate_succ, List.replicate_zero, Nat.zero_add, Nat.lt_add_left_iff_pos, Nat.zero_lt_succ, bodyK_eq]
  obtain ⟨ρ', e, y, hI⟩ := while_ix (mTru (mSlot 0)) (mSeq (mAsg (m2 fAnd (mSlot 0) (m1 fNeg (mSlot 0))) (tgName 2)) (mSeq (mExpr (mAppend 1 (m2 fSub (m1 fBits (mSlot 2)) (mC (.int 1))))) (mAsg (m2 fSub (mSlot 0) (mSlot 2)) (tgName 0))))
    (fun i ρ => ∃ y, ρ = [some (natD (msum (l.drop i))), some (.list ((l.take i).map natD)), y]) l.length l.length 0 10000 [some (natD (msum l)), some (.list []), none] (by omega) (by omega) ⟨none, by simp⟩ (by
      rintro i ρ hi ⟨y, rfl⟩
      have hd : l.drop i = l[i] :: l.drop (i + 1) := List.drop_eq_getElem_cons hi
      have hgt : ∀ q ∈ l.drop (i + 1), l[i] < q := by
        have hp : (l.drop i).Pairwise (· < ·) := hl.drop
        rw [hd] at hp
        exact (List.pairwise_cons.mp hp).1
      obtain ⟨a, ha⟩ := msum_even l[i] (l.drop (i + 1)) hgt
      have hm : msum (l.drop i) = 2 ^ l[i] * (2 * a + 1) := by
        rw [hd]
        show 2 ^ l[i] + msum (l.drop (i + 1)) = _
        rw [ha, Nat.mul_add (2 ^ l[i]) (2 * a) 1]
        omega
      refine ⟨?_, [some (natD (msum (l.drop (i + 1)))), some (.list ((l.take (i + 1)).map natD)), some (natD (2 ^ l[i]))], ?_, _, rfl⟩
      · have h0 : (((msum (l.drop i) : Nat) : Int) != 0) = true := by
          rw [hd]
          exact bne_iff_ne.mpr msum_pos
        simp -implicitDefEqProofs only [bind_ok, lift_some, okK_eq, liftK_eq, ev_seq, seqK_next, seqK_ret, ev_asg, asgK_eq, ev_ret, ev_expr, ev_skip, ev_ifS, ev_if, ifK_t, ifK_f, ev_c, ev_yes, ev_and, ev_or, ev_not, cK_eq, ev_tb, ev_tru, ev_andV, ev_orV, ev_notV, bK_bool, notK_bool, ev_m2, m2K_eq, ev_m1, ev_nil, ev_cons, consK_eq, ev_tup, ev_lst, ev_slot, slotK_eq, ev_retO, retOK_eq, ev_name, ev_tup2, ev_tup3, ev_tgc, tgK_eq, ev_tgn, ev_call, callK_v1, callK_v2, callK_v3, callK2_v1, callK2_v2, callK2_v3, callK_b1, callK_b2, borK_eq, callK2_b1, callK2_b2, unK_eq, ev_bor, bor1K_eq, ev_lenO, lenOK_eq, listAt_eq, listK_eq, ev_ixO, ixO0_eq, ixO1_eq, ixO1'_eq, ixO2_0, ev_sub, subK0_eq, subK_eq, subK1_eq, subK2_eq, ev_app, appK0_eq, appK_eq, ev_ins, insK0_eq, insK'_eq, insK_eq, ev_ext, extK0_eq, extK_eq, ev_i1, ev_i2, i2K_eq, ev_lrg, ev_trg, ev_forS, one_eq, oneC_eq, oneE_t, oneE_f, oneX_eq, wipeE_nil, wipeE_cons, ev_comp, fnK_ret, fnK_next, mask_nil, mask_0, mask_1, v_addI, v_tupL, v_tupT, v_lstL, v_lstT, v_lenL, v_lenT, v_int, v_seqL, v_seqT, v_bool, v_truB, v_truI, v_eqI, v_eqB, v_neI, v_ixT, v_ixL, v_at0, v_at1, v_at2, v_at3, v_at4, v_at5, List.getElem?_cons_zero, List.getElem?_cons_succ, List.set_cons_zero, List.set_cons_succ, List.length_cons, List.length_nil, Nat.reduceAdd, Nat.reduceLT, Nat.reduceSub, if_true, List.map_cons, List.map_nil, List.cons_append, List.nil_append, List.replicate_succ, List.replicate_zero, Nat.zero_add, Nat.lt_add_left_iff_pos, Nat.zero_lt_succ, bodyK_eq, natD, h0]
      · have hs : ((2 ^ l[i] * (2 * a + 1) : Nat) : Int) - ((2 ^ l[i] : Nat) : Int) = ((msum (l.drop (i + 1)) : Nat) : Int) := by
          rw [ha, Nat.mul_add (2 ^ l[i]) (2 * a) 1, Nat.mul_one]
          omega
        have hk : ((l[i] + 1 : Nat) : Int) - 1 = (l[i] : Int) := by omega
        have hng : fNeg (.int ((2 ^ l[i] * (2 * a + 1) : Nat) : Int)) = some (.int (-((2 ^ l[i] * (2 * a + 1) : Nat) : Int))) := rfl
        have hsb : ∀ x y : Int, fSub (.int x) (.int y) = some (.int (x - y)) := fun _ _ => rfl
        simp -implicitDefEqProofs only [bind_ok, lift_some, okK_eq, liftK_eq, ev_seq, seqK_next, seqK_ret, ev_asg, asgK_eq, ev_ret, ev_expr, ev_skip, ev_ifS, ev_if, ifK_t, ifK_f, ev_c, ev_yes, ev_and, ev_or, ev_not, cK_eq, ev_tb, ev_tru, ev_andV, ev_orV, ev_notV, bK_bool, notK_bool, ev_m2, m2K_eq, ev_m1, ev_nil, ev_cons, consK_eq, ev_tup, ev_lst, ev_slot, slotK_eq, ev_retO, retOK_eq, ev_name, ev_tup2, ev_tup3, ev_tgc, tgK_eq, ev_tgn, ev_call, callK_v1, callK_v2, callK_v3, callK2_v1, callK2_v2, callK2_v3, callK_b1, callK_b2, borK_eq, callK2_b1, callK2_b2, unK_eq, ev_bor, bor1K_eq, ev_lenO, lenOK_eq, listAt_eq, listK_eq, ev_ixO, ixO0_eq, ixO1_eq, ixO1'_eq, ixO2_0, ev_sub, subK0_eq, subK_eq, subK1_eq, subK2_eq, ev_app, appK0_eq, appK_eq, ev_ins, insK0_eq, insK'_eq, insK_eq, ev_ext, extK0_eq, extK_eq, ev_i1, ev_i2, i2K_eq, ev_lrg, ev_trg, ev_forS, one_eq, oneC_eq, oneE_t, oneE_f, oneX_eq, wipeE_nil, wipeE_cons, ev_comp, fnK_ret, fnK_next, mask_nil, mask_0, mask_1, v_addI, v_tupL, v_tupT, v_lstL, v_lstT, v_lenL, v_lenT, v_int, v_seqL, v_seqT, v_bool, v_truB, v_truI, v_eqI, v_eqB, v_neI, v_ixT, v_ixL, v_at0, v_at1, v_at2, v_at3, v_at4, v_at5, List.getElem?_cons_zero, List.getElem?_cons_succ, List.set_cons_zero, List.set_cons_succ, List.length_cons, List.length_nil, Nat.reduceAdd, Nat.reduceLT, Nat.reduceSub, if_true, List.map_cons, List.map_nil, List.cons_append, List.nil_append, List.replicate_succ, List.replicate_zero, Nat.zero_add, Nat.lt_add_left_iff_pos, Nat.zero_lt_succ, bodyK_eq, natD, hm, hng, v_and_low, v_bits, hsb, hk, hs, appK1_eq 1 (.int (l[i] : Int)) ((l.take i).map natD) _ (by rw [List.length_map, List.length_take]; unfold big; omega)]
        rw [List.take_add_one, List.getElem?_eq_getElem hi, List.map_append]
        rfl) (by
      rintro ρ ⟨y, rfl⟩
      simp only [List.drop_length]
      rfl)
  rw [e]
  simp -implicitDefEqProofs only [bind_ok, lift_some, okK_eq, liftK_eq, ev_seq, seqK_next, seqK_ret, ev_asg, asgK_eq, ev_ret, ev_expr, ev_skip, ev_ifS, ev_if, ifK_t, ifK_f, ev_c, ev_yes, ev_and, ev_or, ev_not, cK_eq, ev_tb, ev_tru, ev_andV, ev_orV, ev_notV, bK_bool, notK_bool, ev_m2, m2K_eq, ev_m1, ev_nil, ev_cons, consK_eq, ev_tup, ev_lst, ev_slot, slotK_eq, ev_retO, retOK_eq, ev_name, ev_tup2, ev_tup3, ev_tgc, tgK_eq, ev_tgn, ev_call, callK_v1, callK_v2, callK_v3, callK2_v1, callK2_v2, callK2_v3, callK_b1, callK_b2, borK_eq, callK2_b1, callK2_b2, unK_eq, ev_bor, bor1K_eq, ev_lenO, lenOK_eq, listAt_eq, listK_eq, ev_ixO, ixO0_eq, ixO1_eq, ixO1'_eq, ixO2_0, ev_sub, subK0_eq, subK_eq, subK1_eq, subK2_eq, ev_app, appK0_eq, appK_eq, ev_ins, insK0_eq, insK'_eq, insK_eq, ev_ext, extK0_eq, extK_eq, ev_i1, ev_i2, i2K_eq, ev_lrg, ev_trg, ev_forS, one_eq, oneC_eq, oneE_t, oneE_f, oneX_eq, wipeE_nil, wipeE_cons, ev_comp, fnK_ret, fnK_next, mask_nil, mask_0, mask_1, v_addI, v_tupL, v_tupT, v_lstL, v_lstT, v_lenL, v_lenT, v_int, v_seqL, v_seqT, v_bool, v_truB, v_truI, v_eqI, v_eqB, v_neI, v_ixT, v_ixL, v_at0, v_at1, v_at2, v_at3, v_at4, v_at5, List.getElem?_cons_zero, List.getElem?_cons_succ, List.set_cons_zero, List.set_cons_succ, List.length_cons, List.length_nil, Nat.reduceAdd, Nat.reduceLT, Nat.reduceSub, if_true, List.map_cons, List.map_nil, List.cons_append, List.nil_append, List.replicate_succ, List.replicate_zero, Nat.zero_add, Nat.lt_add_left_iff_pos, Nat.zero_lt_succ, bodyK_eq]
  rw [hI]
  simp -implicitDefEqProofs only [bind_ok, lift_some, okK_eq, liftK_eq, ev_seq, seqK_next, seqK_ret, ev_asg, asgK_eq, ev_ret, ev_expr, ev_skip, ev_ifS, ev_if, ifK_t, ifK_f, ev_c, ev_yes, ev_and, ev_or, ev_not, cK_eq, ev_tb, ev_tru, ev_andV, ev_orV, ev_notV, bK_bool, notK_bool, ev_m2, m2K_eq, ev_m1, ev_nil, ev_cons, consK_eq, ev_tup, ev_lst, ev_slot, slotK_eq, ev_retO, retOK_eq, ev_name, ev_tup2, ev_tup3, ev_tgc, tgK_eq, ev_tgn, ev_call, callK_v1, callK_v2, callK_v3, callK2_v1, callK2_v2, callK2_v3, callK_b1, callK_b2, borK_eq, callK2_b1, callK2_b2, unK_eq, ev_bor, bor1K_eq, ev_lenO, lenOK_eq, listAt_eq, listK_eq, ev_ixO, ixO0_eq, ixO1_eq, ixO1'_eq, ixO2_0, ev_sub, subK0_eq, subK_eq, subK1_eq, subK2_eq, ev_app, appK0_eq, appK_eq, ev_ins, insK0_eq, insK'_eq, insK_eq, ev_ext, extK0_eq, extK_eq, ev_i1, ev_i2, i2K_eq, ev_lrg, ev_trg, ev_forS, one_eq, oneC_eq, oneE_t, oneE_f, oneX_eq, wipeE_nil, wipeE_cons, ev_comp, fnK_ret, fnK_next, mask_nil, mask_0, mask_1, v_addI, v_tupL, v_tupT, v_lstL, v_lstT, v_lenL, v_lenT, v_int, v_seqL, v_seqT, v_bool, v_truB, v_truI, v_eqI, v_eqB, v_neI, v_ixT, v_ixL, v_at0, v_at1, v_at2, v_at3, v_at4, v_at5, List.getElem?_cons_zero, List.getElem?_cons_succ, List.set_cons_zero, List.set_cons_succ, List.length_cons, List.length_nil, Nat.reduceAdd, Nat.reduceLT, Nat.reduceSub, if_true, List.map_cons, List.map_nil, List.cons_append, List.nil_append, List.replicate_succ, List.replicate_zero, Nat.zero_add, Nat.lt_add_left_iff_pos, Nat.zero_lt_succ, bodyK_eq, List.take_length]
theorem flt_sorted (n : Nat) (P : Nat → Bool) : ((List.range n).filter P).Pairwise (· < ·) := (range_lt n).filter P
theorem flt_len (n : Nat) (P : Nat → Bool) : ((List.range n).filter P).length ≤ n := by
  have := List.length_filter_le P (List.range n)
  rwa [List.length_range] at this
theorem points_in_ev (n : Nat) (P : Nat → Bool) (hn : n ≤ 64) : F_points_in [natD (pmask n P)] = .ok (.tuple (((List.range n).filter P).map natD)) [none] :=
  points_l _ (flt_sorted n P) (by have := flt_len n P; omega)
theorem at_least_ev (n : Nat) (R : Nat → Nat → Bool) (hn : n ≤ 64) : F__at_least [ordD n R] = .ok (.list ((List.range n).map fun x => .tuple (((List.range n).filter (refl R x)).map natD))) [none] := by
  unfold F__at_least
  rw [ev_fn]
  unfold m__at_least
  simp -implicitDefEqProofs only [bind_ok, lift_some, okK_eq, liftK_eq, ev_seq, seqK_next, seqK_ret, ev_asg, asgK_eq, ev_ret, ev_expr, ev_skip, ev_ifS, ev_if, ifK_t, ifK_f, ev_c, ev_yes, ev_and, ev_or, ev_not, cK_eq, ev_tb, ev_tru, ev_andV, ev_orV, ev_notV, bK_bool, notK_bool, ev_m2, m2K_eq, ev_m1, ev_nil, ev_cons, consK_eq, ev_tup, ev_lst, ev_slot, slotK_eq, ev_retO, retOK_eq, ev_name, ev_tup2, ev_tup3, ev_tgc, tgK_eq, ev_tgn, ev_call, callK_v1, callK_v2, callK_v3, callK2_v1, callK2_v2, callK2_v3, callK_b1, callK_b2, borK_eq, callK2_b1, callK2_b2, unK_eq, ev_bor, bor1K_eq, ev_lenO, lenOK_eq, listAt_eq, listK_eq, ev_ixO, ixO0_eq, ixO1_eq, ixO1'_eq, ixO2_0, ev_sub, subK0_eq, subK_eq, subK1_eq, subK2_eq, ev_app, appK0_eq, appK_eq, ev_ins, insK0_eq, insK'_eq, insK_eq, ev_ext, extK0_eq, extK_eq, ev_i1, ev_i2, i2K_eq, ev_lrg, ev_trg, ev_forS, one_eq, oneC_eq, oneE_t, oneE_f, oneX_eq, wipeE_nil, wipeE_cons, ev_comp, fnK_ret, fnK_next, mask_nil, mask_0, mask_1, v_addI, v_tupL, v_tupT, v_lstL, v_lstT, v_lenL, v_lenT, v_int, v_seqL, v_seqT, v_bool, v_truB, v_truI, v_eqI, v_eqB, v_neI, v_ixT, v_ixL, v_at0, v_at1, v_at2, v_at3, v_at4, v_at5, List.getElem?_cons_zero, List.getElem?_cons_succ, List.set_cons_zero, List.set_cons_succ, List.length_cons, List.length_nil, Nat.reduceAdd, Nat.reduceLT, Nat.reduceSub, if_true, List.map_cons, List.map_nil, List.cons_append, List.nil_append, List.replicate_succ, List.replicate_zero, Nat.zero_add, Nat.lt_add_left_iff_pos, Nat.zero_lt_succ, bodyK_eq, at_least_masks_ev n R hn]
  rw [compK_map (List.range n) (fun x => natD (pmask n (refl R x))) (fun x => .tuple (((List.range n).filter (refl R x)).map natD)) (by rw [List.length_range]; unfold big; omega) (fun x hx => by
    simp -implicitDefEqProofs only [bind_ok, lift_some, okK_eq, liftK_eq, ev_seq, seqK_next, seqK_ret, ev_asg, asgK_eq, ev_ret, ev_expr, ev_skip, ev_ifS, ev_if, ifK_t, ifK_f, ev_c, ev_yes, ev_and, ev_or, ev_not, cK_eq, ev_tb, ev_tru, ev_andV, ev_orV, ev_notV, bK_bool, notK_bool, ev_m2, m2K_eq, ev_m1, ev_nil, ev_cons, consK_eq, ev_tup, ev_lst, ev_slot, slotK_eq, ev_retO, retOK_eq, ev_name, ev_tup2, ev_tup3, ev_tgc, tgK_eq, ev_tgn, ev_call, callK_v1, callK_v2, callK_v3, callK2_v1, callK2_v2, callK2_v3, callK_b1, callK_b2, borK_eq, callK2_b1, callK2_b2, unK_eq, ev_bor, bor1K_eq, ev_lenO, lenOK_eq, listAt_eq, listK_eq, ev_ixO, ixO0_eq, ixO1_eq, ixO1'_eq, ixO2_0, ev_sub, subK0_eq, subK_eq, subK1_eq, subK2_eq, ev_app, appK0_eq, appK_eq, ev_ins, insK0_eq, insK'_eq, insK_eq, ev_ext, extK0_eq, extK_eq, ev_i1, ev_i2, i2K_eq, ev_lrg, ev_trg, ev_forS, one_eq, oneC_eq, oneE_t, oneE_f, oneX_eq, wipeE_nil, wipeE_cons, ev_comp, fnK_ret, fnK_next, mask_nil, mask_0, mask_1, v_addI, v_tupL, v_tupT, v_lstL, v_lstT, v_lenL, v_lenT, v_int, v_seqL, v_seqT, v_bool, v_truB, v_truI, v_eqI, v_eqB, v_neI, v_ixT, v_ixL, v_at0, v_at1, v_at2, v_at3, v_at4, v_at5, List.getElem?_cons_zero, List.getElem?_cons_succ, List.set_cons_zero, List.set_cons_succ, List.length_cons, List.length_nil, Nat.reduceAdd, Nat.reduceLT, Nat.reduceSub, if_true, List.map_cons, List.map_nil, List.cons_append, List.nil_append, List.replicate_succ, List.replicate_zero, Nat.zero_add, Nat.lt_add_left_iff_pos, Nat.zero_lt_succ, bodyK_eq, points_in_ev n (refl R x) hn])]
  simp -implicitDefEqProofs only [bind_ok, lift_some, okK_eq, liftK_eq, ev_seq, seqK_next, seqK_ret, ev_asg, asgK_eq, ev_ret, ev_expr, ev_skip, ev_ifS, ev_if, ifK_t, ifK_f, ev_c, ev_yes, ev_and, ev_or, ev_not, cK_eq, ev_tb, ev_tru, ev_andV, ev_orV, ev_notV, bK_bool, notK_bool, ev_m2, m2K_eq, ev_m1, ev_nil, ev_cons, consK_eq, ev_tup, ev_lst, ev_slot, slotK_eq, ev_retO, retOK_eq, ev_name, ev_tup2, ev_tup3, ev_tgc, tgK_eq, ev_tgn, ev_call, callK_v1, callK_v2, callK_v3, callK2_v1, callK2_v2, callK2_v3, callK_b1, callK_b2, borK_eq, callK2_b1, callK2_b2, unK_eq, ev_bor, bor1K_eq, ev_lenO, lenOK_eq, listAt_eq, listK_eq, ev_ixO, ixO0_eq, ixO1_eq, ixO1'_eq, ixO2_0, ev_sub, subK0_eq, subK_eq, subK1_eq, subK2_eq, ev_app, appK0_eq, appK_eq, ev_ins, insK0_eq, insK'_eq, insK_eq, ev_ext, extK0_eq, extK_eq, ev_i1, ev_i2, i2K_eq, ev_lrg, ev_trg, ev_forS, one_eq, oneC_eq, oneE_t, oneE_f, oneX_eq, wipeE_nil, wipeE_cons, ev_comp, fnK_ret, fnK_next, mask_nil, mask_0, mask_1, v_addI, v_tupL, v_tupT, v_lstL, v_lstT, v_lenL, v_lenT, v_int, v_seqL, v_seqT, v_bool, v_truB, v_truI, v_eqI, v_eqB, v_neI, v_ixT, v_ixL, v_at0, v_at1, v_at2, v_at3, v_at4, v_at5, List.getElem?_cons_zero, List.getElem?_cons_succ, List.set_cons_zero, List.set_cons_succ, List.length_cons, List.length_nil, Nat.reduceAdd, Nat.reduceLT, Nat.reduceSub, if_true, List.map_cons, List.map_nil, List.cons_append, List.nil_append, List.replicate_succ, List.replicate_zero, Nat.zero_add, Nat.lt_add_left_iff_pos, Nat.zero_lt_succ, bodyK_eq]
end Mir

set_option Elab.async false
set_option linter.all false
set_option maxRecDepth 100000
set_option maxHeartbeats 4000000
namespace Mir
open PySem PySem.Spec PyProof.Rows L2
/-! ### product -/
theorem v_mulN (a b : Nat) (h : a ≤ 1000000) : fMul (.int (a : Int)) (.int (b : Int)) = some (.int ((a * b : Nat) : Int)) := by
  rw [v_mulI _ _ (Or.inl ⟨by omega, by omega⟩), Int.natCast_mul]
theorem v_addN (a b : Nat) : fAdd (.int (a : Int)) (.int (b : Int)) = some (.int ((a + b : Nat) : Int)) := by
  rw [v_addI, Int.natCast_add]
def prow (n m : Nat) (R S : Nat → Nat → Bool) (x q : Nat) : List Nat := ((List.range n).filter (refl R x)).flatMap fun y => ((List.range m).filter (refl S q)).map fun r => y * m + r
theorem prow_sorted (n m : Nat) (R S : Nat → Nat → Bool) (x q : Nat) : (prow n m R S x q).Pairwise (· < ·) := by
  unfold prow
  rw [List.pairwise_flatMap]
  constructor
  · intro y _
    rw [List.pairwise_map]
    exact (flt_sorted m _).imp fun h => by omega
  · refine (flt_sorted n _).imp fun {y z} h => ?_
    intro a ha b hb
    obtain ⟨r, hr, rfl⟩ := List.mem_map.mp ha
    obtain ⟨s, hs, rfl⟩ := List.mem_map.mp hb
    have h1 : r < m := List.mem_range.mp (List.mem_filter.mp hr).1
    have h2 : y * m + m ≤ z * m := by
      have : (y + 1) * m ≤ z * m := Nat.mul_le_mul_right m h
      rw [Nat.succ_mul] at this
      exact this
    omega
theorem prow_len (n m : Nat) (R S : Nat → Nat → Bool) (x q : Nat) : (prow n m R S x q).length ≤ n * m := by
  have h : ∀ l : List Nat, (l.flatMap fun y => ((List.range m).filter (refl S q)).map fun r => y * m + r).length ≤ l.length * m := by
    intro l
    induction l with
    | nil => simp
    | cons y l ih =>
      rw [List.flatMap_cons, List.length_append, List.length_map, List.length_cons, Nat.succ_mul]
      have := flt_len m (refl S q)
      omega
  exact Nat.le_trans (h _) (Nat.mul_le_mul_right m (flt_len n _))
theorem mem_prow {n m : Nat} {R S : Nat → Nat → Bool} {x q v : Nat} (hq : q < m) : v ∈ prow n m R S x q ↔ v < n * m ∧ refl R x (v / m) = true ∧ refl S q (v % m) = true := by
  unfold prow
  simp only [List.mem_flatMap, List.mem_map, List.mem_filter, List.mem_range]
  have hm : 0 < m := by omega
  constructor
  · rintro ⟨y, ⟨hy, h1⟩, r, ⟨hr, h2⟩, rfl⟩
    have e1 : (y * m + r) / m = y := by
      rw [Nat.mul_comm, Nat.mul_add_div hm, Nat.div_eq_of_lt hr, Nat.add_zero]
    have e2 : (y * m + r) % m = r := by
      rw [Nat.mul_comm, Nat.mul_add_mod, Nat.mod_eq_of_lt hr]
    rw [e1, e2]
    refine ⟨?_, h1, h2⟩
    have : (y + 1) * m ≤ n * m := Nat.mul_le_mul_right m hy
    rw [Nat.succ_mul] at this
    omega
  · rintro ⟨h0, h1, h2⟩
    refine ⟨v / m, ⟨?_, h1⟩, v % m, ⟨Nat.mod_lt _ hm, h2⟩, ?_⟩
    · exact Nat.div_lt_of_lt_mul (by rw [Nat.mul_comm]; exact h0)
    · rw [Nat.mul_comm]; exact Nat.div_add_mod v m
def pout (n m : Nat) (R S : Nat → Nat → Bool) (x q : Nat) : List (Nat × Nat) := ((prow n m R S x q).filter fun t : Nat => !((t : Int) == ((x * m + q : Nat) : Int))).map fun t => (x * m + q, t)
def prodR (m : Nat) (R S : Nat → Nat → Bool) (u v : Nat) : Bool := !(decide (u = v)) && refl R (u / m) (v / m) && refl S (u % m) (v % m)
theorem prod_lex (n m : Nat) (R S : Nat → Nat → Bool) : ((List.range n).flatMap fun x => (List.range m).flatMap fun q => pout n m R S x q) = lexL (n * m) (prodR m R S) := by
  refine lexL_uniq ?_ fun p => ?_
  · rw [List.pairwise_flatMap]
    constructor
    · intro x _
      rw [List.pairwise_flatMap]
      constructor
      · intro q _
        unfold pout
        rw [List.pairwise_map]
        exact ((prow_sorted n m R S x q).filter _).imp fun h => Or.inr ⟨rfl, h⟩
      · refine (range_lt m).imp fun {q r} h => ?_
        intro a ha b hb
        obtain ⟨_, _, rfl⟩ := List.mem_map.mp ha
        obtain ⟨_, _, rfl⟩ := List.mem_map.mp hb
        exact Or.inl (by simp only; omega)
    · refine (range_lt n).imp fun {x y} h => ?_
      intro a ha b hb
      obtain ⟨q, hq, ha⟩ := List.mem_flatMap.mp ha
      obtain ⟨r, hr, hb⟩ := List.mem_flatMap.mp hb
      obtain ⟨_, _, rfl⟩ := List.mem_map.mp ha
      obtain ⟨_, _, rfl⟩ := List.mem_map.mp hb
      have h1 := List.mem_range.mp hq
      have : (x + 1) * m ≤ y * m := Nat.mul_le_mul_right m h
      rw [Nat.succ_mul] at this
      exact Or.inl (by simp only; omega)
  · obtain ⟨u, v⟩ := p
    simp only [List.mem_flatMap, List.mem_range, pout, List.mem_map, List.mem_filter, prodR]
    constructor
    · rintro ⟨x, hx, q, hq, t, ⟨ht, hne⟩, he⟩
      simp only [Prod.mk.injEq] at he
      obtain ⟨rfl, rfl⟩ := he
      have hm : 0 < m := by omega
      obtain ⟨h0, h1, h2⟩ := (mem_prow hq).mp ht
      have e1 : (x * m + q) / m = x := by rw [Nat.mul_comm, Nat.mul_add_div hm, Nat.div_eq_of_lt hq, Nat.add_zero]
      have e2 : (x * m + q) % m = q := by rw [Nat.mul_comm, Nat.mul_add_mod, Nat.mod_eq_of_lt hq]
      have : (x + 1) * m ≤ n * m := Nat.mul_le_mul_right m hx
      rw [Nat.succ_mul] at this
      refine ⟨by omega, h0, ?_⟩
      rw [e1, e2, h1, h2]
      simp only [Bool.and_true, Bool.not_eq_true', decide_eq_false_iff_not]
      simp only [Bool.not_eq_true', beq_eq_false_iff_ne] at hne
      omega
    · rintro ⟨h0, h1, h2⟩
      simp only [Bool.and_eq_true, Bool.not_eq_true', decide_eq_false_iff_not] at h2
      have hm : 0 < m := by
        rcases Nat.eq_zero_or_pos m with e | e
        · rw [e, Nat.mul_zero] at h0; omega
        · exact e
      have e : u / m * m + u % m = u := by rw [Nat.mul_comm]; exact Nat.div_add_mod u m
      refine ⟨u / m, Nat.div_lt_of_lt_mul (by rw [Nat.mul_comm]; exact h0), u % m, Nat.mod_lt _ hm, v, ⟨(mem_prow (Nat.mod_lt _ hm)).mpr ⟨h1, h2.1.2, h2.2⟩, ?_⟩, by rw [e]⟩
      rw [e]
      simp only [Bool.not_eq_true', beq_eq_false_iff_ne]
      omega
theorem pout_len (n m : Nat) (R S : Nat → Nat → Bool) (x q : Nat) : (pout n m R S x q).length ≤ n * m := by
  unfold pout
  rw [List.length_map]
  exact Nat.le_trans (List.length_filter_le _ _) (prow_len n m R S x q)
theorem fm_take_len {α : Type} (f : Nat → List α) (k : Nat) (h : ∀ x, (f x).length ≤ k) : ∀ l : List Nat, (l.flatMap f).length ≤ l.length * k
  | [] => by simp
  | x :: l => by
    rw [List.flatMap_cons, List.length_append, List.length_cons, Nat.succ_mul]
    have := h x
    have := fm_take_len f k h l
    omega
theorem range_snoc {α : Type} (f : Nat → List α) (i : Nat) : (List.range (i + 1)).flatMap f = (List.range i).flatMap f ++ f i := by
  rw [List.range_succ, List.flatMap_append, List.flatMap_cons, List.flatMap_nil, List.append_nil]
theorem rng_get {n i a : Nat} (h : (List.range n)[i]? = some a) : a = i ∧ i < n := by
  have hi : i < n := by
    have := (List.getElem?_eq_some_iff.mp h).1
    simpa using this
  rw [List.getElem?_range hi] at h
  exact ⟨(Option.some.inj h).symm, hi⟩
def bodyP : M Fl := (mSeq (mAsg (mComp2 [10, 11] [11] (mI1 fSeq (m2 fIxA (mSlot 4) (mSlot 7))) (tgName 10) (mYes) (mI1 fSeq (m2 fIxA (mSlot 5) (mSlot 8))) (tgName 11) (mYes) (m2 fAdd (m2 fMul (mSlot 10) (mSlot 3)) (mSlot 11))) (tgName 9)) (mExpr (mExtend 6 (mComp [12] (mI1 fSeq (mSlot 9)) (tgName 12) (mTB (m2 fNe (mSlot 12) (m2 fAdd (m2 fMul (mSlot 7) (mSlot 3)) (mSlot 8)))) (mTup (mCons (m2 fAdd (m2 fMul (mSlot 7) (mSlot 3)) (mSlot 8)) (mCons (mSlot 12) (mNil))))))))
def oD (n : Nat) (R : Nat → Nat → Bool) : List D := (List.range n).map fun x => PyData.tuple (((List.range n).filter (refl R x)).map natD)
theorem pr_len (n m : Nat) (R S : Nat → Nat → Bool) (hn : n ≤ 64) (hm : m ≤ 64) (hnm : n * m ≤ 64) : ∀ (i j : Nat), i ≤ n → j ≤ m → (((List.range i).flatMap fun x => (List.range m).flatMap fun q => pout n m R S x q) ++ (List.range j).flatMap fun q => pout n m R S i q).length ≤ 500000 := by
    intro i j hi hj
    have h1 := fm_take_len (fun x => (List.range m).flatMap fun q => pout n m R S x q) (m * (n * m)) (fun x => by
      have := fm_take_len (fun q => pout n m R S x q) (n * m) (fun q => pout_len n m R S x q) (List.range m)
      rwa [List.length_range] at this) (List.range i)
    have h2 := fm_take_len (fun q => pout n m R S i q) (n * m) (fun q => pout_len n m R S i q) (List.range j)
    rw [List.length_range] at h1 h2
    rw [List.length_append]
    have h3 : i * (m * (n * m)) ≤ 64 * (64 * 64) := Nat.mul_le_mul (by omega) (Nat.mul_le_mul hm hnm)
    have h4 : j * (n * m) ≤ 64 * 64 := Nat.mul_le_mul (by omega) hnm
    omega
theorem pr_inner (n m : Nat) (R S : Nat → Nat → Bool) (hn : n ≤ 64) (hm : m ≤ 64) (hnm : n * m ≤ 64) (A B : D) : ∀ (x : Nat) (hx : x < n) (y8 y9 y10 y11 y12 : Option D), ∃ ρ', mFor (tgName 8) bodyP
      ((List.range m).map fun k : Nat => PyData.int (k : Int)) [some A, some B, some (.int (n : Int)), some (.int (m : Int)), some (.list (oD n R)), some (.list (oD m S)), some (.list (((List.range x).flatMap fun x => (List.range m).flatMap fun q => pout n m R S x q).map prN)), some (.int (x : Int)), y8, y9, y10, y11, y12] = .ok .next ρ' ∧
      ∃ y8 y9 y10 y11 y12 : Option D, ρ' = [some A, some B, some (.int (n : Int)), some (.int (m : Int)), some (.list (oD n R)), some (.list (oD m S)), some (.list (((List.range x).flatMap fun x => (List.range m).flatMap fun q => pout n m R S x q).map prN ++ ((List.range m).flatMap fun q => pout n m R S x q).map prN)), some (.int (x : Int)), y8, y9, y10, y11, y12] := by
    intro x hx y8 y9 y10 y11 y12
    obtain ⟨ρ', e, hI⟩ := for_ix (fun k : Nat => PyData.int (k : Int)) (tgName 8) bodyP
      (fun i ρ => ∃ y8 y9 y10 y11 y12 : Option D, ρ = [some A, some B, some (.int (n : Int)), some (.int (m : Int)), some (.list (oD n R)), some (.list (oD m S)), some (.list (((List.range x).flatMap fun x => (List.range m).flatMap fun q => pout n m R S x q).map prN ++ ((List.range i).flatMap fun q => pout n m R S x q).map prN)), some (.int (x : Int)), y8, y9, y10, y11, y12])
      (List.range m) [some A, some B, some (.int (n : Int)), some (.int (m : Int)), some (.list (oD n R)), some (.list (oD m S)), some (.list (((List.range x).flatMap fun x => (List.range m).flatMap fun q => pout n m R S x q).map prN)), some (.int (x : Int)), y8, y9, y10, y11, y12] ⟨y8, y9, y10, y11, y12, by simp only [List.range_zero, List.flatMap_nil, List.map_nil, List.append_nil]⟩ (by
        rintro q q' ρ hq ⟨y8, y9, y10, y11, y12, rfl⟩
        obtain ⟨rfl, hq⟩ := rng_get hq
        refine ⟨[some A, some B, some (.int (n : Int)), some (.int (m : Int)), some (.list (oD n R)), some (.list (oD m S)), some (.list (((List.range x).flatMap fun x => (List.range m).flatMap fun q => pout n m R S x q).map prN ++ ((List.range (q' + 1)).flatMap fun q => pout n m R S x q).map prN)), some (.int (x : Int)), some (.int (q' : Int)), some (.list ((prow n m R S x q').map natD)), none, none, none], ?_, _, _, _, _, _, rfl⟩
        unfold bodyP
        simp -implicitDefEqProofs only [bind_ok, lift_some, okK_eq, liftK_eq, ev_seq, seqK_next, seqK_ret, ev_asg, asgK_eq, ev_ret, ev_expr, ev_skip, ev_ifS, ev_if, ifK_t, ifK_f, ev_c, ev_yes, ev_and, ev_or, ev_not, cK_eq, ev_tb, ev_tru, ev_andV, ev_orV, ev_notV, bK_bool, notK_bool, ev_m2, m2K_eq, ev_m1, ev_nil, ev_cons, consK_eq, ev_tup, ev_lst, ev_slot, slotK_eq, ev_retO, retOK_eq, ev_name, ev_tup2, ev_tup3, ev_tgc, tgK_eq, ev_tgn, ev_call, callK_v1, callK_v2, callK_v3, callK2_v1, callK2_v2, callK2_v3, callK_b1, callK_b2, borK_eq, callK2_b1, callK2_b2, unK_eq, ev_bor, bor1K_eq, ev_lenO, lenOK_eq, listAt_eq, listK_eq, ev_ixO, ixO0_eq, ixO1_eq, ixO1'_eq, ixO2_0, ev_sub, subK0_eq, subK_eq, subK1_eq, subK2_eq, ev_app, appK0_eq, appK_eq, ev_ins, insK0_eq, insK'_eq, insK_eq, ev_ext, extK0_eq, extK_eq, ev_i1, ev_i2, i2K_eq, ev_lrg, ev_trg, ev_forS, one_eq, oneC_eq, oneE_t, oneE_f, oneX_eq, wipeE_nil, wipeE_cons, ev_comp, fnK_ret, fnK_next, mask_nil, mask_0, mask_1, v_addI, v_tupL, v_tupT, v_lstL, v_lstT, v_lenL, v_lenT, v_int, v_seqL, v_seqT, v_bool, v_truB, v_truI, v_eqI, v_eqB, v_neI, v_ixT, v_ixL, v_at0, v_at1, v_at2, v_at3, v_at4, v_at5, List.getElem?_cons_zero, List.getElem?_cons_succ, List.set_cons_zero, List.set_cons_succ, List.length_cons, List.length_nil, Nat.reduceAdd, Nat.reduceLT, Nat.reduceSub, if_true, List.map_cons, List.map_nil, List.cons_append, List.nil_append, List.replicate_succ, List.replicate_zero, Nat.zero_add, Nat.lt_add_left_iff_pos, Nat.zero_lt_succ, bodyK_eq, ev_comp2]
        rw [show atI (oD n R) (x : Int) = _ from atI_rng n (fun x => PyData.tuple (((List.range n).filter (refl R x)).map natD)) hx]
        simp -implicitDefEqProofs only [bind_ok, lift_some, okK_eq, liftK_eq, ev_seq, seqK_next, seqK_ret, ev_asg, asgK_eq, ev_ret, ev_expr, ev_skip, ev_ifS, ev_if, ifK_t, ifK_f, ev_c, ev_yes, ev_and, ev_or, ev_not, cK_eq, ev_tb, ev_tru, ev_andV, ev_orV, ev_notV, bK_bool, notK_bool, ev_m2, m2K_eq, ev_m1, ev_nil, ev_cons, consK_eq, ev_tup, ev_lst, ev_slot, slotK_eq, ev_retO, retOK_eq, ev_name, ev_tup2, ev_tup3, ev_tgc, tgK_eq, ev_tgn, ev_call, callK_v1, callK_v2, callK_v3, callK2_v1, callK2_v2, callK2_v3, callK_b1, callK_b2, borK_eq, callK2_b1, callK2_b2, unK_eq, ev_bor, bor1K_eq, ev_lenO, lenOK_eq, listAt_eq, listK_eq, ev_ixO, ixO0_eq, ixO1_eq, ixO1'_eq, ixO2_0, ev_sub, subK0_eq, subK_eq, subK1_eq, subK2_eq, ev_app, appK0_eq, appK_eq, ev_ins, insK0_eq, insK'_eq, insK_eq, ev_ext, extK0_eq, extK_eq, ev_i1, ev_i2, i2K_eq, ev_lrg, ev_trg, ev_forS, one_eq, oneC_eq, oneE_t, oneE_f, oneX_eq, wipeE_nil, wipeE_cons, ev_comp, fnK_ret, fnK_next, mask_nil, mask_0, mask_1, v_addI, v_tupL, v_tupT, v_lstL, v_lstT, v_lenL, v_lenT, v_int, v_seqL, v_seqT, v_bool, v_truB, v_truI, v_eqI, v_eqB, v_neI, v_ixT, v_ixL, v_at0, v_at1, v_at2, v_at3, v_at4, v_at5, List.getElem?_cons_zero, List.getElem?_cons_succ, List.set_cons_zero, List.set_cons_succ, List.length_cons, List.length_nil, Nat.reduceAdd, Nat.reduceLT, Nat.reduceSub, if_true, List.map_cons, List.map_nil, List.cons_append, List.nil_append, List.replicate_succ, List.replicate_zero, Nat.zero_add, Nat.lt_add_left_iff_pos, Nat.zero_lt_succ, bodyK_eq]
        -- n (fun x => PyData.tuple (((List.range n).filter (refl R x)).map natD)) hx]
        rw [comp2K_pure natD (fun _ => (List.range m).filter (refl S q')) natD (fun y r => natD (y * m + r)) (fun y => [some A, some B, some (.int (n : Int)), some (.int (m : Int)), some (.list (oD n R)), some (.list (oD m S)), some (.list (((List.range x).flatMap fun x => (List.range m).flatMap fun q => pout n m R S x q).map prN ++ ((List.range q').flatMap fun q => pout n m R S x q).map prN)), some (.int (x : Int)), some (.int (q' : Int)), y9, some (natD y), none, y12])
          ((List.range n).filter (refl R x)) (by
            have h1 := fm_take_len (fun _ : Nat => (List.range m).filter (refl S q')) m (fun _ => flt_len m _) ((List.range n).filter (refl R x))
            have h2 : ((List.range n).filter (refl R x)).length * m ≤ n * m := Nat.mul_le_mul_right m (flt_len n _)
            unfold big
            omega)
          (fun y _ => by
            simp -implicitDefEqProofs only [bind_ok, lift_some, okK_eq, liftK_eq, ev_seq, seqK_next, seqK_ret, ev_asg, asgK_eq, ev_ret, ev_expr, ev_skip, ev_ifS, ev_if, ifK_t, ifK_f, ev_c, ev_yes, ev_and, ev_or, ev_not, cK_eq, ev_tb, ev_tru, ev_andV, ev_orV, ev_notV, bK_bool, notK_bool, ev_m2, m2K_eq, ev_m1, ev_nil, ev_cons, consK_eq, ev_tup, ev_lst, ev_slot, slotK_eq, ev_retO, retOK_eq, ev_name, ev_tup2, ev_tup3, ev_tgc, tgK_eq, ev_tgn, ev_call, callK_v1, callK_v2, callK_v3, callK2_v1, callK2_v2, callK2_v3, callK_b1, callK_b2, borK_eq, callK2_b1, callK2_b2, unK_eq, ev_bor, bor1K_eq, ev_lenO, lenOK_eq, listAt_eq, listK_eq, ev_ixO, ixO0_eq, ixO1_eq, ixO1'_eq, ixO2_0, ev_sub, subK0_eq, subK_eq, subK1_eq, subK2_eq, ev_app, appK0_eq, appK_eq, ev_ins, insK0_eq, insK'_eq, insK_eq, ev_ext, extK0_eq, extK_eq, ev_i1, ev_i2, i2K_eq, ev_lrg, ev_trg, ev_forS, one_eq, oneC_eq, oneE_t, oneE_f, oneX_eq, wipeE_nil, wipeE_cons, ev_comp, fnK_ret, fnK_next, mask_nil, mask_0, mask_1, v_addI, v_tupL, v_tupT, v_lstL, v_lstT, v_lenL, v_lenT, v_int, v_seqL, v_seqT, v_bool, v_truB, v_truI, v_eqI, v_eqB, v_neI, v_ixT, v_ixL, v_at0, v_at1, v_at2, v_at3, v_at4, v_at5, List.getElem?_cons_zero, List.getElem?_cons_succ, List.set_cons_zero, List.set_cons_succ, List.length_cons, List.length_nil, Nat.reduceAdd, Nat.reduceLT, Nat.reduceSub, if_true, List.map_cons, List.map_nil, List.cons_append, List.nil_append, List.replicate_succ, List.replicate_zero, Nat.zero_add, Nat.lt_add_left_iff_pos, Nat.zero_lt_succ, bodyK_eq, srcK_eq]
            rw [show atI (oD m S) (q' : Int) = _ from atI_rng m (fun x => PyData.tuple (((List.range m).filter (refl S x)).map natD)) hq]
            simp -implicitDefEqProofs only [bind_ok, lift_some, okK_eq, liftK_eq, ev_seq, seqK_next, seqK_ret, ev_asg, asgK_eq, ev_ret, ev_expr, ev_skip, ev_ifS, ev_if, ifK_t, ifK_f, ev_c, ev_yes, ev_and, ev_or, ev_not, cK_eq, ev_tb, ev_tru, ev_andV, ev_orV, ev_notV, bK_bool, notK_bool, ev_m2, m2K_eq, ev_m1, ev_nil, ev_cons, consK_eq, ev_tup, ev_lst, ev_slot, slotK_eq, ev_retO, retOK_eq, ev_name, ev_tup2, ev_tup3, ev_tgc, tgK_eq, ev_tgn, ev_call, callK_v1, callK_v2, callK_v3, callK2_v1, callK2_v2, callK2_v3, callK_b1, callK_b2, borK_eq, callK2_b1, callK2_b2, unK_eq, ev_bor, bor1K_eq, ev_lenO, lenOK_eq, listAt_eq, listK_eq, ev_ixO, ixO0_eq, ixO1_eq, ixO1'_eq, ixO2_0, ev_sub, subK0_eq, subK_eq, subK1_eq, subK2_eq, ev_app, appK0_eq, appK_eq, ev_ins, insK0_eq, insK'_eq, insK_eq, ev_ext, extK0_eq, extK_eq, ev_i1, ev_i2, i2K_eq, ev_lrg, ev_trg, ev_forS, one_eq, oneC_eq, oneE_t, oneE_f, oneX_eq, wipeE_nil, wipeE_cons, ev_comp, fnK_ret, fnK_next, mask_nil, mask_0, mask_1, v_addI, v_tupL, v_tupT, v_lstL, v_lstT, v_lenL, v_lenT, v_int, v_seqL, v_seqT, v_bool, v_truB, v_truI, v_eqI, v_eqB, v_neI, v_ixT, v_ixL, v_at0, v_at1, v_at2, v_at3, v_at4, v_at5, List.getElem?_cons_zero, List.getElem?_cons_succ, List.set_cons_zero, List.set_cons_succ, List.length_cons, List.length_nil, Nat.reduceAdd, Nat.reduceLT, Nat.reduceSub, if_true, List.map_cons, List.map_nil, List.cons_append, List.nil_append, List.replicate_succ, List.replicate_zero, Nat.zero_add, Nat.lt_add_left_iff_pos, Nat.zero_lt_succ, bodyK_eq])
          (fun y hy r hr => by
            have h1 := List.mem_range.mp (List.mem_filter.mp hy).1
            simp -implicitDefEqProofs only [bind_ok, lift_some, okK_eq, liftK_eq, ev_seq, seqK_next, seqK_ret, ev_asg, asgK_eq, ev_ret, ev_expr, ev_skip, ev_ifS, ev_if, ifK_t, ifK_f, ev_c, ev_yes, ev_and, ev_or, ev_not, cK_eq, ev_tb, ev_tru, ev_andV, ev_orV, ev_notV, bK_bool, notK_bool, ev_m2, m2K_eq, ev_m1, ev_nil, ev_cons, consK_eq, ev_tup, ev_lst, ev_slot, slotK_eq, ev_retO, retOK_eq, ev_name, ev_tup2, ev_tup3, ev_tgc, tgK_eq, ev_tgn, ev_call, callK_v1, callK_v2, callK_v3, callK2_v1, callK2_v2, callK2_v3, callK_b1, callK_b2, borK_eq, callK2_b1, callK2_b2, unK_eq, ev_bor, bor1K_eq, ev_lenO, lenOK_eq, listAt_eq, listK_eq, ev_ixO, ixO0_eq, ixO1_eq, ixO1'_eq, ixO2_0, ev_sub, subK0_eq, subK_eq, subK1_eq, subK2_eq, ev_app, appK0_eq, appK_eq, ev_ins, insK0_eq, insK'_eq, insK_eq, ev_ext, extK0_eq, extK_eq, ev_i1, ev_i2, i2K_eq, ev_lrg, ev_trg, ev_forS, one_eq, oneC_eq, oneE_t, oneE_f, oneX_eq, wipeE_nil, wipeE_cons, ev_comp, fnK_ret, fnK_next, mask_nil, mask_0, mask_1, v_addI, v_tupL, v_tupT, v_lstL, v_lstT, v_lenL, v_lenT, v_int, v_seqL, v_seqT, v_bool, v_truB, v_truI, v_eqI, v_eqB, v_neI, v_ixT, v_ixL, v_at0, v_at1, v_at2, v_at3, v_at4, v_at5, List.getElem?_cons_zero, List.getElem?_cons_succ, List.set_cons_zero, List.set_cons_succ, List.length_cons, List.length_nil, Nat.reduceAdd, Nat.reduceLT, Nat.reduceSub, if_true, List.map_cons, List.map_nil, List.cons_append, List.nil_append, List.replicate_succ, List.replicate_zero, Nat.zero_add, Nat.lt_add_left_iff_pos, Nat.zero_lt_succ, bodyK_eq, natD, v_mulN y m (by omega), ← Int.natCast_add])
          (fun y _ => by simp -implicitDefEqProofs only [bind_ok, lift_some, okK_eq, liftK_eq, ev_seq, seqK_next, seqK_ret, ev_asg, asgK_eq, ev_ret, ev_expr, ev_skip, ev_ifS, ev_if, ifK_t, ifK_f, ev_c, ev_yes, ev_and, ev_or, ev_not, cK_eq, ev_tb, ev_tru, ev_andV, ev_orV, ev_notV, bK_bool, notK_bool, ev_m2, m2K_eq, ev_m1, ev_nil, ev_cons, consK_eq, ev_tup, ev_lst, ev_slot, slotK_eq, ev_retO, retOK_eq, ev_name, ev_tup2, ev_tup3, ev_tgc, tgK_eq, ev_tgn, ev_call, callK_v1, callK_v2, callK_v3, callK2_v1, callK2_v2, callK2_v3, callK_b1, callK_b2, borK_eq, callK2_b1, callK2_b2, unK_eq, ev_bor, bor1K_eq, ev_lenO, lenOK_eq, listAt_eq, listK_eq, ev_ixO, ixO0_eq, ixO1_eq, ixO1'_eq, ixO2_0, ev_sub, subK0_eq, subK_eq, subK1_eq, subK2_eq, ev_app, appK0_eq, appK_eq, ev_ins, insK0_eq, insK'_eq, insK_eq, ev_ext, extK0_eq, extK_eq, ev_i1, ev_i2, i2K_eq, ev_lrg, ev_trg, ev_forS, one_eq, oneC_eq, oneE_t, oneE_f, oneX_eq, wipeE_nil, wipeE_cons, ev_comp, fnK_ret, fnK_next, mask_nil, mask_0, mask_1, v_addI, v_tupL, v_tupT, v_lstL, v_lstT, v_lenL, v_lenT, v_int, v_seqL, v_seqT, v_bool, v_truB, v_truI, v_eqI, v_eqB, v_neI, v_ixT, v_ixL, v_at0, v_at1, v_at2, v_at3, v_at4, v_at5, List.getElem?_cons_zero, List.getElem?_cons_succ, List.set_cons_zero, List.set_cons_succ, List.length_cons, List.length_nil, Nat.reduceAdd, Nat.reduceLT, Nat.reduceSub, if_true, List.map_cons, List.map_nil, List.cons_append, List.nil_append, List.replicate_succ, List.replicate_zero, Nat.zero_add, Nat.lt_add_left_iff_pos, Nat.zero_lt_succ, bodyK_eq])]
        have er : (((List.range n).filter (refl R x)).flatMap fun a => ((List.range m).filter (refl S q')).map fun r => natD (a * m + r)) = (prow n m R S x q').map natD := by
          simp only [prow, List.map_flatMap, List.map_map, Function.comp_def]
        simp -implicitDefEqProofs only [bind_ok, lift_some, okK_eq, liftK_eq, ev_seq, seqK_next, seqK_ret, ev_asg, asgK_eq, ev_ret, ev_expr, ev_skip, ev_ifS, ev_if, ifK_t, ifK_f, ev_c, ev_yes, ev_and, ev_or, ev_not, cK_eq, ev_tb, ev_tru, ev_andV, ev_orV, ev_notV, bK_bool, notK_bool, ev_m2, m2K_eq, ev_m1, ev_nil, ev_cons, consK_eq, ev_tup, ev_lst, ev_slot, slotK_eq, ev_retO, retOK_eq, ev_name, ev_tup2, ev_tup3, ev_tgc, tgK_eq, ev_tgn, ev_call, callK_v1, callK_v2, callK_v3, callK2_v1, callK2_v2, callK2_v3, callK_b1, callK_b2, borK_eq, callK2_b1, callK2_b2, unK_eq, ev_bor, bor1K_eq, ev_lenO, lenOK_eq, listAt_eq, listK_eq, ev_ixO, ixO0_eq, ixO1_eq, ixO1'_eq, ixO2_0, ev_sub, subK0_eq, subK_eq, subK1_eq, subK2_eq, ev_app, appK0_eq, appK_eq, ev_ins, insK0_eq, insK'_eq, insK_eq, ev_ext, extK0_eq, extK_eq, ev_i1, ev_i2, i2K_eq, ev_lrg, ev_trg, ev_forS, one_eq, oneC_eq, oneE_t, oneE_f, oneX_eq, wipeE_nil, wipeE_cons, ev_comp, fnK_ret, fnK_next, mask_nil, mask_0, mask_1, v_addI, v_tupL, v_tupT, v_lstL, v_lstT, v_lenL, v_lenT, v_int, v_seqL, v_seqT, v_bool, v_truB, v_truI, v_eqI, v_eqB, v_neI, v_ixT, v_ixL, v_at0, v_at1, v_at2, v_at3, v_at4, v_at5, List.getElem?_cons_zero, List.getElem?_cons_succ, List.set_cons_zero, List.set_cons_succ, List.length_cons, List.length_nil, Nat.reduceAdd, Nat.reduceLT, Nat.reduceSub, if_true, List.map_cons, List.map_nil, List.cons_append, List.nil_append, List.replicate_succ, List.replicate_zero, Nat.zero_add, Nat.lt_add_left_iff_pos, Nat.zero_lt_succ, bodyK_eq, er]
        rw [compK_filter (prow n m R S x q') natD (fun t : Nat => !((t : Int) == ((x * m + q' : Nat) : Int))) (fun t => prN (x * m + q', t)) (by have := prow_len n m R S x q'; unfold big; omega) (fun t _ => by
          simp -implicitDefEqProofs only [bind_ok, lift_some, okK_eq, liftK_eq, ev_seq, seqK_next, seqK_ret, ev_asg, asgK_eq, ev_ret, ev_expr, ev_skip, ev_ifS, ev_if, ifK_t, ifK_f, ev_c, ev_yes, ev_and, ev_or, ev_not, cK_eq, ev_tb, ev_tru, ev_andV, ev_orV, ev_notV, bK_bool, notK_bool, ev_m2, m2K_eq, ev_m1, ev_nil, ev_cons, consK_eq, ev_tup, ev_lst, ev_slot, slotK_eq, ev_retO, retOK_eq, ev_name, ev_tup2, ev_tup3, ev_tgc, tgK_eq, ev_tgn, ev_call, callK_v1, callK_v2, callK_v3, callK2_v1, callK2_v2, callK2_v3, callK_b1, callK_b2, borK_eq, callK2_b1, callK2_b2, unK_eq, ev_bor, bor1K_eq, ev_lenO, lenOK_eq, listAt_eq, listK_eq, ev_ixO, ixO0_eq, ixO1_eq, ixO1'_eq, ixO2_0, ev_sub, subK0_eq, subK_eq, subK1_eq, subK2_eq, ev_app, appK0_eq, appK_eq, ev_ins, insK0_eq, insK'_eq, insK_eq, ev_ext, extK0_eq, extK_eq, ev_i1, ev_i2, i2K_eq, ev_lrg, ev_trg, ev_forS, one_eq, oneC_eq, oneE_t, oneE_f, oneX_eq, wipeE_nil, wipeE_cons, ev_comp, fnK_ret, fnK_next, mask_nil, mask_0, mask_1, v_addI, v_tupL, v_tupT, v_lstL, v_lstT, v_lenL, v_lenT, v_int, v_seqL, v_seqT, v_bool, v_truB, v_truI, v_eqI, v_eqB, v_neI, v_ixT, v_ixL, v_at0, v_at1, v_at2, v_at3, v_at4, v_at5, List.getElem?_cons_zero, List.getElem?_cons_succ, List.set_cons_zero, List.set_cons_succ, List.length_cons, List.length_nil, Nat.reduceAdd, Nat.reduceLT, Nat.reduceSub, if_true, List.map_cons, List.map_nil, List.cons_append, List.nil_append, List.replicate_succ, List.replicate_zero, Nat.zero_add, Nat.lt_add_left_iff_pos, Nat.zero_lt_succ, bodyK_eq, natD, v_mulN x m (by omega), ← Int.natCast_add]
          cases hb : (!((t : Int) == ((x * m + q' : Nat) : Int)))
          · simp -implicitDefEqProofs only [bind_ok, lift_some, okK_eq, liftK_eq, ev_seq, seqK_next, seqK_ret, ev_asg, asgK_eq, ev_ret, ev_expr, ev_skip, ev_ifS, ev_if, ifK_t, ifK_f, ev_c, ev_yes, ev_and, ev_or, ev_not, cK_eq, ev_tb, ev_tru, ev_andV, ev_orV, ev_notV, bK_bool, notK_bool, ev_m2, m2K_eq, ev_m1, ev_nil, ev_cons, consK_eq, ev_tup, ev_lst, ev_slot, slotK_eq, ev_retO, retOK_eq, ev_name, ev_tup2, ev_tup3, ev_tgc, tgK_eq, ev_tgn, ev_call, callK_v1, callK_v2, callK_v3, callK2_v1, callK2_v2, callK2_v3, callK_b1, callK_b2, borK_eq, callK2_b1, callK2_b2, unK_eq, ev_bor, bor1K_eq, ev_lenO, lenOK_eq, listAt_eq, listK_eq, ev_ixO, ixO0_eq, ixO1_eq, ixO1'_eq, ixO2_0, ev_sub, subK0_eq, subK_eq, subK1_eq, subK2_eq, ev_app, appK0_eq, appK_eq, ev_ins, insK0_eq, insK'_eq, insK_eq, ev_ext, extK0_eq, extK_eq, ev_i1, ev_i2, i2K_eq, ev_lrg, ev_trg, ev_forS, one_eq, oneC_eq, oneE_t, oneE_f, oneX_eq, wipeE_nil, wipeE_cons, ev_comp, fnK_ret, fnK_next, mask_nil, mask_0, mask_1, v_addI, v_tupL, v_tupT, v_lstL, v_lstT, v_lenL, v_lenT, v_int, v_seqL, v_seqT, v_bool, v_truB, v_truI, v_eqI, v_eqB, v_neI, v_ixT, v_ixL, v_at0, v_at1, v_at2, v_at3, v_at4, v_at5, List.getElem?_cons_zero, List.getElem?_cons_succ, List.set_cons_zero, List.set_cons_succ, List.length_cons, List.length_nil, Nat.reduceAdd, Nat.reduceLT, Nat.reduceSub, if_true, List.map_cons, List.map_nil, List.cons_append, List.nil_append, List.replicate_succ, List.replicate_zero, Nat.zero_add, Nat.lt_add_left_iff_pos, Nat.zero_lt_succ, bodyK_eq]; rfl
          · simp -implicitDefEqProofs only [bind_ok, lift_some, okK_eq, liftK_eq, ev_seq, seqK_next, seqK_ret, ev_asg, asgK_eq, ev_ret, ev_expr, ev_skip, ev_ifS, ev_if, ifK_t, ifK_f, ev_c, ev_yes, ev_and, ev_or, ev_not, cK_eq, ev_tb, ev_tru, ev_andV, ev_orV, ev_notV, bK_bool, notK_bool, ev_m2, m2K_eq, ev_m1, ev_nil, ev_cons, consK_eq, ev_tup, ev_lst, ev_slot, slotK_eq, ev_retO, retOK_eq, ev_name, ev_tup2, ev_tup3, ev_tgc, tgK_eq, ev_tgn, ev_call, callK_v1, callK_v2, callK_v3, callK2_v1, callK2_v2, callK2_v3, callK_b1, callK_b2, borK_eq, callK2_b1, callK2_b2, unK_eq, ev_bor, bor1K_eq, ev_lenO, lenOK_eq, listAt_eq, listK_eq, ev_ixO, ixO0_eq, ixO1_eq, ixO1'_eq, ixO2_0, ev_sub, subK0_eq, subK_eq, subK1_eq, subK2_eq, ev_app, appK0_eq, appK_eq, ev_ins, insK0_eq, insK'_eq, insK_eq, ev_ext, extK0_eq, extK_eq, ev_i1, ev_i2, i2K_eq, ev_lrg, ev_trg, ev_forS, one_eq, oneC_eq, oneE_t, oneE_f, oneX_eq, wipeE_nil, wipeE_cons, ev_comp, fnK_ret, fnK_next, mask_nil, mask_0, mask_1, v_addI, v_tupL, v_tupT, v_lstL, v_lstT, v_lenL, v_lenT, v_int, v_seqL, v_seqT, v_bool, v_truB, v_truI, v_eqI, v_eqB, v_neI, v_ixT, v_ixL, v_at0, v_at1, v_at2, v_at3, v_at4, v_at5, List.getElem?_cons_zero, List.getElem?_cons_succ, List.set_cons_zero, List.set_cons_succ, List.length_cons, List.length_nil, Nat.reduceAdd, Nat.reduceLT, Nat.reduceSub, if_true, List.map_cons, List.map_nil, List.cons_append, List.nil_append, List.replicate_succ, List.replicate_zero, Nat.zero_add, Nat.lt_add_left_iff_pos, Nat.zero_lt_succ, bodyK_eq, v_mulN x m (by omega), ← Int.natCast_add, prN])]
        simp -implicitDefEqProofs only [bind_ok, lift_some, okK_eq, liftK_eq, ev_seq, seqK_next, seqK_ret, ev_asg, asgK_eq, ev_ret, ev_expr, ev_skip, ev_ifS, ev_if, ifK_t, ifK_f, ev_c, ev_yes, ev_and, ev_or, ev_not, cK_eq, ev_tb, ev_tru, ev_andV, ev_orV, ev_notV, bK_bool, notK_bool, ev_m2, m2K_eq, ev_m1, ev_nil, ev_cons, consK_eq, ev_tup, ev_lst, ev_slot, slotK_eq, ev_retO, retOK_eq, ev_name, ev_tup2, ev_tup3, ev_tgc, tgK_eq, ev_tgn, ev_call, callK_v1, callK_v2, callK_v3, callK2_v1, callK2_v2, callK2_v3, callK_b1, callK_b2, borK_eq, callK2_b1, callK2_b2, unK_eq, ev_bor, bor1K_eq, ev_lenO, lenOK_eq, listAt_eq, listK_eq, ev_ixO, ixO0_eq, ixO1_eq, ixO1'_eq, ixO2_0, ev_sub, subK0_eq, subK_eq, subK1_eq, subK2_eq, ev_app, appK0_eq, appK_eq, ev_ins, insK0_eq, insK'_eq, insK_eq, ev_ext, extK0_eq, extK_eq, ev_i1, ev_i2, i2K_eq, ev_lrg, ev_trg, ev_forS, one_eq, oneC_eq, oneE_t, oneE_f, oneX_eq, wipeE_nil, wipeE_cons, ev_comp, fnK_ret, fnK_next, mask_nil, mask_0, mask_1, v_addI, v_tupL, v_tupT, v_lstL, v_lstT, v_lenL, v_lenT, v_int, v_seqL, v_seqT, v_bool, v_truB, v_truI, v_eqI, v_eqB, v_neI, v_ixT, v_ixL, v_at0, v_at1, v_at2, v_at3, v_at4, v_at5, List.getElem?_cons_zero, List.getElem?_cons_succ, List.set_cons_zero, List.set_cons_succ, List.length_cons, List.length_nil, Nat.reduceAdd, Nat.reduceLT, Nat.reduceSub, if_true, List.map_cons, List.map_nil, List.cons_append, List.nil_append, List.replicate_succ, List.replicate_zero, Nat.zero_add, Nat.lt_add_left_iff_pos, Nat.zero_lt_succ, bodyK_eq]
        have hl := pr_len n m R S hn hm hnm x (q' + 1) (by omega) (by omega)
        have ep : (((prow n m R S x q').filter fun t : Nat => !((t : Int) == ((x * m + q' : Nat) : Int))).map fun t => prN (x * m + q', t)) = (pout n m R S x q').map prN := by
          unfold pout
          rw [List.map_map]
          rfl
        rw [range_snoc, List.length_append, List.length_append] at hl
        rw [ep, extK1_eq 6 _ _ _ (by
          simp only [List.length_append, List.length_map]
          unfold big
          omega)]
        simp -implicitDefEqProofs only [bind_ok, lift_some, okK_eq, liftK_eq, ev_seq, seqK_next, seqK_ret, ev_asg, asgK_eq, ev_ret, ev_expr, ev_skip, ev_ifS, ev_if, ifK_t, ifK_f, ev_c, ev_yes, ev_and, ev_or, ev_not, cK_eq, ev_tb, ev_tru, ev_andV, ev_orV, ev_notV, bK_bool, notK_bool, ev_m2, m2K_eq, ev_m1, ev_nil, ev_cons, consK_eq, ev_tup, ev_lst, ev_slot, slotK_eq, ev_retO, retOK_eq, ev_name, ev_tup2, ev_tup3, ev_tgc, tgK_eq, ev_tgn, ev_call, callK_v1, callK_v2, callK_v3, callK2_v1, callK2_v2, callK2_v3, callK_b1, callK_b2, borK_eq, callK2_b1, callK2_b2, unK_eq, ev_bor, bor1K_eq, ev_lenO, lenOK_eq, listAt_eq, listK_eq, ev_ixO, ixO0_eq, ixO1_eq, ixO1'_eq, ixO2_0, ev_sub, subK0_eq, subK_eq, subK1_eq, subK2_eq, ev_app, appK0_eq, appK_eq, ev_ins, insK0_eq, insK'_eq, insK_eq, ev_ext, extK0_eq, extK_eq, ev_i1, ev_i2, i2K_eq, ev_lrg, ev_trg, ev_forS, one_eq, oneC_eq, oneE_t, oneE_f, oneX_eq, wipeE_nil, wipeE_cons, ev_comp, fnK_ret, fnK_next, mask_nil, mask_0, mask_1, v_addI, v_tupL, v_tupT, v_lstL, v_lstT, v_lenL, v_lenT, v_int, v_seqL, v_seqT, v_bool, v_truB, v_truI, v_eqI, v_eqB, v_neI, v_ixT, v_ixL, v_at0, v_at1, v_at2, v_at3, v_at4, v_at5, List.getElem?_cons_zero, List.getElem?_cons_succ, List.set_cons_zero, List.set_cons_succ, List.length_cons, List.length_nil, Nat.reduceAdd, Nat.reduceLT, Nat.reduceSub, if_true, List.map_cons, List.map_nil, List.cons_append, List.nil_append, List.replicate_succ, List.replicate_zero, Nat.zero_add, Nat.lt_add_left_iff_pos, Nat.zero_lt_succ, bodyK_eq]
        rw [range_snoc, List.map_append, List.append_assoc])
    obtain ⟨y8, y9, y10, y11, y12, rfl⟩ := hI
    rw [List.length_range] at e
    exact ⟨_, e, y8, y9, y10, y11, y12, rfl⟩
theorem product_ev (n m : Nat) (R S : Nat → Nat → Bool) (hn : n ≤ 64) (hm : m ≤ 64) (hnm : n * m ≤ 64) : F_product [ordD n R, ordD m S] = .ok (ordD (n * m) (prodR m R S)) [none, none] := by
  have hb1 := at_least_ev n R hn
  have hb2 := at_least_ev m S hm
  unfold ordD ordP at hb1 hb2
  unfold F_product
  rw [ev_fn]
  unfold m_product
  simp -implicitDefEqProofs only [bind_ok, lift_some, okK_eq, liftK_eq, ev_seq, seqK_next, seqK_ret, ev_asg, asgK_eq, ev_ret, ev_expr, ev_skip, ev_ifS, ev_if, ifK_t, ifK_f, ev_c, ev_yes, ev_and, ev_or, ev_not, cK_eq, ev_tb, ev_tru, ev_andV, ev_orV, ev_notV, bK_bool, notK_bool, ev_m2, m2K_eq, ev_m1, ev_nil, ev_cons, consK_eq, ev_tup, ev_lst, ev_slot, slotK_eq, ev_retO, retOK_eq, ev_name, ev_tup2, ev_tup3, ev_tgc, tgK_eq, ev_tgn, ev_call, callK_v1, callK_v2, callK_v3, callK2_v1, callK2_v2, callK2_v3, callK_b1, callK_b2, borK_eq, callK2_b1, callK2_b2, unK_eq, ev_bor, bor1K_eq, ev_lenO, lenOK_eq, listAt_eq, listK_eq, ev_ixO, ixO0_eq, ixO1_eq, ixO1'_eq, ixO2_0, ev_sub, subK0_eq, subK_eq, subK1_eq, subK2_eq, ev_app, appK0_eq, appK_eq, ev_ins, insK0_eq, insK'_eq, insK_eq, ev_ext, extK0_eq, extK_eq, ev_i1, ev_i2, i2K_eq, ev_lrg, ev_trg, ev_forS, one_eq, oneC_eq, oneE_t, oneE_f, oneX_eq, wipeE_nil, wipeE_cons, ev_comp, fnK_ret, fnK_next, mask_nil, mask_0, mask_1, v_addI, v_tupL, v_tupT, v_lstL, v_lstT, v_lenL, v_lenT, v_int, v_seqL, v_seqT, v_bool, v_truB, v_truI, v_eqI, v_eqB, v_neI, v_ixT, v_ixL, v_at0, v_at1, v_at2, v_at3, v_at4, v_at5, List.getElem?_cons_zero, List.getElem?_cons_succ, List.set_cons_zero, List.set_cons_succ, List.length_cons, List.length_nil, Nat.reduceAdd, Nat.reduceLT, Nat.reduceSub, if_true, List.map_cons, List.map_nil, List.cons_append, List.nil_append, List.replicate_succ, List.replicate_zero, Nat.zero_add, Nat.lt_add_left_iff_pos, Nat.zero_lt_succ, bodyK_eq, ordD, ordP, v_mulN n m (by omega), size_ev (n * m) hnm, hb1, hb2, v_rg1 n (by omega)]
  generalize hA : PyData.tuple [.int (n : Int), .tuple ((lexL n R).map prN)] = A
  generalize hB : PyData.tuple [.int (m : Int), .tuple ((lexL m S).map prN)] = B
  have eO : PyData.list ((List.range n).map fun x => .tuple (((List.range n).filter (refl R x)).map natD)) = .list (oD n R) := rfl
  rw [eO]
  have eP : PyData.list ((List.range m).map fun x => .tuple (((List.range m).filter (refl S x)).map natD)) = .list (oD m S) := rfl
  rw [eP]
  obtain ⟨ρ', e, hI⟩ := for_ix (fun k : Nat => PyData.int (k : Int)) (tgName 7) (mForS (mI1 fRange1 (mSlot 3)) (tgName 8) bodyP)
    (fun i ρ => ∃ y7 y8 y9 y10 y11 y12 : Option D, ρ = [some A, some B, some (.int (n : Int)), some (.int (m : Int)), some (.list (oD n R)), some (.list (oD m S)), some (.list (((List.range i).flatMap fun x => (List.range m).flatMap fun q => pout n m R S x q).map prN)), y7, y8, y9, y10, y11, y12])
    (List.range n) [some A, some B, some (.int (n : Int)), some (.int (m : Int)), some (.list (oD n R)), some (.list (oD m S)), some (.list []), none, none, none, none, none, none] ⟨none, none, none, none, none, none, rfl⟩ (by
      rintro x x' ρ hx ⟨y7, y8, y9, y10, y11, y12, rfl⟩
      obtain ⟨rfl, hx⟩ := rng_get hx
      obtain ⟨ρ1, e1, y8', y9', y10', y11', y12', rfl⟩ := pr_inner n m R S hn hm hnm A B x' hx y8 y9 y10 y11 y12
      refine ⟨_, ?_, some (.int (x' : Int)), y8', y9', y10', y11', y12', rfl⟩
      simp -implicitDefEqProofs only [bind_ok, lift_some, okK_eq, liftK_eq, ev_seq, seqK_next, seqK_ret, ev_asg, asgK_eq, ev_ret, ev_expr, ev_skip, ev_ifS, ev_if, ifK_t, ifK_f, ev_c, ev_yes, ev_and, ev_or, ev_not, cK_eq, ev_tb, ev_tru, ev_andV, ev_orV, ev_notV, bK_bool, notK_bool, ev_m2, m2K_eq, ev_m1, ev_nil, ev_cons, consK_eq, ev_tup, ev_lst, ev_slot, slotK_eq, ev_retO, retOK_eq, ev_name, ev_tup2, ev_tup3, ev_tgc, tgK_eq, ev_tgn, ev_call, callK_v1, callK_v2, callK_v3, callK2_v1, callK2_v2, callK2_v3, callK_b1, callK_b2, borK_eq, callK2_b1, callK2_b2, unK_eq, ev_bor, bor1K_eq, ev_lenO, lenOK_eq, listAt_eq, listK_eq, ev_ixO, ixO0_eq, ixO1_eq, ixO1'_eq, ixO2_0, ev_sub, subK0_eq, subK_eq, subK1_eq, subK2_eq, ev_app, appK0_eq, appK_eq, ev_ins, insK0_eq, insK'_eq, insK_eq, ev_ext, extK0_eq, extK_eq, ev_i1, ev_i2, i2K_eq, ev_lrg, ev_trg, ev_forS, one_eq, oneC_eq, oneE_t, oneE_f, oneX_eq, wipeE_nil, wipeE_cons, ev_comp, fnK_ret, fnK_next, mask_nil, mask_0, mask_1, v_addI, v_tupL, v_tupT, v_lstL, v_lstT, v_lenL, v_lenT, v_int, v_seqL, v_seqT, v_bool, v_truB, v_truI, v_eqI, v_eqB, v_neI, v_ixT, v_ixL, v_at0, v_at1, v_at2, v_at3, v_at4, v_at5, List.getElem?_cons_zero, List.getElem?_cons_succ, List.set_cons_zero, List.set_cons_succ, List.length_cons, List.length_nil, Nat.reduceAdd, Nat.reduceLT, Nat.reduceSub, if_true, List.map_cons, List.map_nil, List.cons_append, List.nil_append, List.replicate_succ, List.replicate_zero, Nat.zero_add, Nat.lt_add_left_iff_pos, Nat.zero_lt_succ, bodyK_eq, v_rg1 m (by omega), e1]
      rw [range_snoc, List.map_append])
  unfold bodyP at e
  rw [e]
  obtain ⟨y7, y8, y9, y10, y11, y12, rfl⟩ := hI
  simp -implicitDefEqProofs only [bind_ok, lift_some, okK_eq, liftK_eq, ev_seq, seqK_next, seqK_ret, ev_asg, asgK_eq, ev_ret, ev_expr, ev_skip, ev_ifS, ev_if, ifK_t, ifK_f, ev_c, ev_yes, ev_and, ev_or, ev_not, cK_eq, ev_tb, ev_tru, ev_andV, ev_orV, ev_notV, bK_bool, notK_bool, ev_m2, m2K_eq, ev_m1, ev_nil, ev_cons, consK_eq, ev_tup, ev_lst, ev_slot, slotK_eq, ev_retO, retOK_eq, ev_name, ev_tup2, ev_tup3, ev_tgc, tgK_eq, ev_tgn, ev_call, callK_v1, callK_v2, callK_v3, callK2_v1, callK2_v2, callK2_v3, callK_b1, callK_b2, borK_eq, callK2_b1, callK2_b2, unK_eq, ev_bor, bor1K_eq, ev_lenO, lenOK_eq, listAt_eq, listK_eq, ev_ixO, ixO0_eq, ixO1_eq, ixO1'_eq, ixO2_0, ev_sub, subK0_eq, subK_eq, subK1_eq, subK2_eq, ev_app, appK0_eq, appK_eq, ev_ins, insK0_eq, insK'_eq, insK_eq, ev_ext, extK0_eq, extK_eq, ev_i1, ev_i2, i2K_eq, ev_lrg, ev_trg, ev_forS, one_eq, oneC_eq, oneE_t, oneE_f, oneX_eq, wipeE_nil, wipeE_cons, ev_comp, fnK_ret, fnK_next, mask_nil, mask_0, mask_1, v_addI, v_tupL, v_tupT, v_lstL, v_lstT, v_lenL, v_lenT, v_int, v_seqL, v_seqT, v_bool, v_truB, v_truI, v_eqI, v_eqB, v_neI, v_ixT, v_ixL, v_at0, v_at1, v_at2, v_at3, v_at4, v_at5, List.getElem?_cons_zero, List.getElem?_cons_succ, List.set_cons_zero, List.set_cons_succ, List.length_cons, List.length_nil, Nat.reduceAdd, Nat.reduceLT, Nat.reduceSub, if_true, List.map_cons, List.map_nil, List.cons_append, List.nil_append, List.replicate_succ, List.replicate_zero, Nat.zero_add, Nat.lt_add_left_iff_pos, Nat.zero_lt_succ, bodyK_eq, v_mulN n m (by omega), List.length_range, prod_lex]
end Mir

set_option Elab.async false
set_option linter.all false
set_option maxRecDepth 100000
set_option maxHeartbeats 4000000
namespace Mir
open PySem PySem.Spec PyProof.Rows L2
/-! ### renaming -/
structure Bij (n : Nat) (τ ι : Nat → Nat) : Prop where
  to : ∀ x, x < n → τ x < n
  of : ∀ u, u < n → ι u < n
  l : ∀ x, x < n → ι (τ x) = x
  r : ∀ u, u < n → τ (ι u) = u
def mv (τ : Nat → Nat) (p : Nat × Nat) : Nat × Nat := (τ p.1, τ p.2)
def movR (ι : Nat → Nat) (R : Nat → Nat → Bool) (u v : Nat) : Bool := R (ι u) (ι v)
theorem mv_nodup {n : Nat} {τ ι : Nat → Nat} (b : Bij n τ ι) (R : Nat → Nat → Bool) : ((lexL n R).map (mv τ)).Nodup := by
  rw [List.Nodup, List.pairwise_map]
  refine List.Pairwise.imp_of_mem ?_ (lexL_sorted n R)
  intro p q hp hq h e
  obtain ⟨p1, p2, _⟩ := mem_lexL.mp hp
  obtain ⟨q1, q2, _⟩ := mem_lexL.mp hq
  simp only [mv, Prod.mk.injEq] at e
  have e1 : p.1 = q.1 := by rw [← b.l _ p1, ← b.l _ q1, e.1]
  have e2 : p.2 = q.2 := by rw [← b.l _ p2, ← b.l _ q2, e.2]
  unfold lt2 at h
  omega
theorem mem_mv {n : Nat} {τ ι : Nat → Nat} (b : Bij n τ ι) {R : Nat → Nat → Bool} {p : Nat × Nat} : p ∈ (lexL n R).map (mv τ) ↔ p.1 < n ∧ p.2 < n ∧ movR ι R p.1 p.2 = true := by
  rw [List.mem_map]
  constructor
  · rintro ⟨q, hq, rfl⟩
    obtain ⟨h1, h2, h3⟩ := mem_lexL.mp hq
    refine ⟨b.to _ h1, b.to _ h2, ?_⟩
    simp only [mv, movR, b.l _ h1, b.l _ h2]
    exact h3
  · rintro ⟨h1, h2, h3⟩
    refine ⟨(ι p.1, ι p.2), mem_lexL.mpr ⟨b.of _ h1, b.of _ h2, h3⟩, ?_⟩
    simp only [mv, b.r _ h1, b.r _ h2]
theorem moved_ev (n : Nat) (R : Nat → Nat → Bool) (τ ι : Nat → Nat) (b : Bij n τ ι) (hn : n ≤ 400) : F__law_moved [ordD n R, .list ((List.range n).map fun x => natD (τ x))] = .ok (ordD n (movR ι R)) [none, none] := by
  unfold F__law_moved
  rw [ev_fn]
  unfold m__law_moved
  simp -implicitDefEqProofs only [bind_ok, lift_some, okK_eq, liftK_eq, ev_seq, seqK_next, seqK_ret, ev_asg, asgK_eq, ev_ret, ev_expr, ev_skip, ev_ifS, ev_if, ifK_t, ifK_f, ev_c, ev_yes, ev_and, ev_or, ev_not, cK_eq, ev_tb, ev_tru, ev_andV, ev_orV, ev_notV, bK_bool, notK_bool, ev_m2, m2K_eq, ev_m1, ev_nil, ev_cons, consK_eq, ev_tup, ev_lst, ev_slot, slotK_eq, ev_retO, retOK_eq, ev_name, ev_tup2, ev_tup3, ev_tgc, tgK_eq, ev_tgn, ev_call, callK_v1, callK_v2, callK_v3, callK2_v1, callK2_v2, callK2_v3, callK_b1, callK_b2, borK_eq, callK2_b1, callK2_b2, unK_eq, ev_bor, bor1K_eq, ev_lenO, lenOK_eq, listAt_eq, listK_eq, ev_ixO, ixO0_eq, ixO1_eq, ixO1'_eq, ixO2_0, ev_sub, subK0_eq, subK_eq, subK1_eq, subK2_eq, ev_app, appK0_eq, appK_eq, ev_ins, insK0_eq, insK'_eq, insK_eq, ev_ext, extK0_eq, extK_eq, ev_i1, ev_i2, i2K_eq, ev_lrg, ev_trg, ev_forS, one_eq, oneC_eq, oneE_t, oneE_f, oneX_eq, wipeE_nil, wipeE_cons, ev_comp, fnK_ret, fnK_next, mask_nil, mask_0, mask_1, v_addI, v_tupL, v_tupT, v_lstL, v_lstT, v_lenL, v_lenT, v_int, v_seqL, v_seqT, v_bool, v_truB, v_truI, v_eqI, v_eqB, v_neI, v_ixT, v_ixL, v_at0, v_at1, v_at2, v_at3, v_at4, v_at5, List.getElem?_cons_zero, List.getElem?_cons_succ, List.set_cons_zero, List.set_cons_succ, List.length_cons, List.length_nil, Nat.reduceAdd, Nat.reduceLT, Nat.reduceSub, if_true, List.map_cons, List.map_nil, List.cons_append, List.nil_append, List.replicate_succ, List.replicate_zero, Nat.zero_add, Nat.lt_add_left_iff_pos, Nat.zero_lt_succ, bodyK_eq, ordD, ordP]
  rw [compK_map (lexL n R) prN (prN ∘ mv τ) (by have := lexL_big R hn; unfold big; omega) (fun p hp => by
    obtain ⟨h1, h2, _⟩ := mem_lexL.mp hp
    simp -implicitDefEqProofs only [bind_ok, lift_some, okK_eq, liftK_eq, ev_seq, seqK_next, seqK_ret, ev_asg, asgK_eq, ev_ret, ev_expr, ev_skip, ev_ifS, ev_if, ifK_t, ifK_f, ev_c, ev_yes, ev_and, ev_or, ev_not, cK_eq, ev_tb, ev_tru, ev_andV, ev_orV, ev_notV, bK_bool, notK_bool, ev_m2, m2K_eq, ev_m1, ev_nil, ev_cons, consK_eq, ev_tup, ev_lst, ev_slot, slotK_eq, ev_retO, retOK_eq, ev_name, ev_tup2, ev_tup3, ev_tgc, tgK_eq, ev_tgn, ev_call, callK_v1, callK_v2, callK_v3, callK2_v1, callK2_v2, callK2_v3, callK_b1, callK_b2, borK_eq, callK2_b1, callK2_b2, unK_eq, ev_bor, bor1K_eq, ev_lenO, lenOK_eq, listAt_eq, listK_eq, ev_ixO, ixO0_eq, ixO1_eq, ixO1'_eq, ixO2_0, ev_sub, subK0_eq, subK_eq, subK1_eq, subK2_eq, ev_app, appK0_eq, appK_eq, ev_ins, insK0_eq, insK'_eq, insK_eq, ev_ext, extK0_eq, extK_eq, ev_i1, ev_i2, i2K_eq, ev_lrg, ev_trg, ev_forS, one_eq, oneC_eq, oneE_t, oneE_f, oneX_eq, wipeE_nil, wipeE_cons, ev_comp, fnK_ret, fnK_next, mask_nil, mask_0, mask_1, v_addI, v_tupL, v_tupT, v_lstL, v_lstT, v_lenL, v_lenT, v_int, v_seqL, v_seqT, v_bool, v_truB, v_truI, v_eqI, v_eqB, v_neI, v_ixT, v_ixL, v_at0, v_at1, v_at2, v_at3, v_at4, v_at5, List.getElem?_cons_zero, List.getElem?_cons_succ, List.set_cons_zero, List.set_cons_succ, List.length_cons, List.length_nil, Nat.reduceAdd, Nat.reduceLT, Nat.reduceSub, if_true, List.map_cons, List.map_nil, List.cons_append, List.nil_append, List.replicate_succ, List.replicate_zero, Nat.zero_add, Nat.lt_add_left_iff_pos, Nat.zero_lt_succ, bodyK_eq, prN, atI_rng n (fun x => natD (τ x)) h1, atI_rng n (fun x => natD (τ x)) h2]
    rfl)]
  simp -implicitDefEqProofs only [bind_ok, lift_some, okK_eq, liftK_eq, ev_seq, seqK_next, seqK_ret, ev_asg, asgK_eq, ev_ret, ev_expr, ev_skip, ev_ifS, ev_if, ifK_t, ifK_f, ev_c, ev_yes, ev_and, ev_or, ev_not, cK_eq, ev_tb, ev_tru, ev_andV, ev_orV, ev_notV, bK_bool, notK_bool, ev_m2, m2K_eq, ev_m1, ev_nil, ev_cons, consK_eq, ev_tup, ev_lst, ev_slot, slotK_eq, ev_retO, retOK_eq, ev_name, ev_tup2, ev_tup3, ev_tgc, tgK_eq, ev_tgn, ev_call, callK_v1, callK_v2, callK_v3, callK2_v1, callK2_v2, callK2_v3, callK_b1, callK_b2, borK_eq, callK2_b1, callK2_b2, unK_eq, ev_bor, bor1K_eq, ev_lenO, lenOK_eq, listAt_eq, listK_eq, ev_ixO, ixO0_eq, ixO1_eq, ixO1'_eq, ixO2_0, ev_sub, subK0_eq, subK_eq, subK1_eq, subK2_eq, ev_app, appK0_eq, appK_eq, ev_ins, insK0_eq, insK'_eq, insK_eq, ev_ext, extK0_eq, extK_eq, ev_i1, ev_i2, i2K_eq, ev_lrg, ev_trg, ev_forS, one_eq, oneC_eq, oneE_t, oneE_f, oneX_eq, wipeE_nil, wipeE_cons, ev_comp, fnK_ret, fnK_next, mask_nil, mask_0, mask_1, v_addI, v_tupL, v_tupT, v_lstL, v_lstT, v_lenL, v_lenT, v_int, v_seqL, v_seqT, v_bool, v_truB, v_truI, v_eqI, v_eqB, v_neI, v_ixT, v_ixL, v_at0, v_at1, v_at2, v_at3, v_at4, v_at5, List.getElem?_cons_zero, List.getElem?_cons_succ, List.set_cons_zero, List.set_cons_succ, List.length_cons, List.length_nil, Nat.reduceAdd, Nat.reduceLT, Nat.reduceSub, if_true, List.map_cons, List.map_nil, List.cons_append, List.nil_append, List.replicate_succ, List.replicate_zero, Nat.zero_add, Nat.lt_add_left_iff_pos, Nat.zero_lt_succ, bodyK_eq, ← List.map_map, sort_lex (n := n) (R := movR ι R) (mv_nodup b R) (fun p => mem_mv b)]
/-! ### dict comprehensions with ever new keys -/
section
variable {α : Type}
def dcV (vs : List Nat) (k v : D) : M (Option (D × D)) := fun ρ => .ok (some (k, v)) (wipeE ρ vs)
def dcK (vs : List Nat) (me : M D) (k : D) : M (Option (D × D)) := fun ρ => (me ρ).bind (dcV vs k)
def dcE (vs : List Nat) (mk me : M D) : Bool → M (Option (D × D))
  | true => fun ρ => (mk ρ).bind (dcK vs me)
  | false => fun ρ => .ok none (wipeE ρ vs)
def dcC (vs : List Nat) (c : M Bool) (mk me : M D) (_ : Unit) : M (Option (D × D)) := fun ρ => (c ρ).bind (dcE vs mk me)
def dc1 (vs : List Nat) (t : D → M Unit) (c : M Bool) (mk me : M D) (d : D) : M (Option (D × D)) := fun ρ => (t d ρ).bind (dcC vs c mk me)
theorem dc1_eq (vs : List Nat) (t : D → M Unit) (c : M Bool) (mk me : M D) (d : D) (ρ : Env) : dc1 vs t c mk me d ρ = (t d ρ).bind (dcC vs c mk me) := rfl
theorem dcC_eq (vs : List Nat) (c : M Bool) (mk me : M D) (u : Unit) (ρ : Env) : dcC vs c mk me u ρ = (c ρ).bind (dcE vs mk me) := rfl
theorem dcE_t (vs : List Nat) (mk me : M D) (ρ : Env) : dcE vs mk me true ρ = (mk ρ).bind (dcK vs me) := rfl
theorem dcE_f (vs : List Nat) (mk me : M D) (ρ : Env) : dcE vs mk me false ρ = .ok none (wipeE ρ vs) := rfl
theorem dcK_eq (vs : List Nat) (me : M D) (k : D) (ρ : Env) : dcK vs me k ρ = (me ρ).bind (dcV vs k) := rfl
theorem dcV_eq (vs : List Nat) (k v : D) (ρ : Env) : dcV vs k v ρ = .ok (some (k, v)) (wipeE ρ vs) := rfl
theorem putD_new {ds : List (D × D)} {k : Key} {kd v : D} (h : ∀ e ∈ ds, keyOf e.1 ≠ some k) : putD ds k kd v = ds ++ [(kd, v)] := by
  unfold putD
  rw [if_neg]
  simp only [List.any_eq_true, decide_eq_true_eq, not_exists, not_and]
  exact h
theorem mDc_new {vs : List Nat} {t : D → M Unit} {c : M Bool} {mk me : M D} {ρ : Env} (f kd vd : α → D) (ky : α → Key) (hk : ∀ a, keyOf (kd a) = some (ky a)) :
    ∀ (xs : List α) (acc : List (D × D)), (∀ a ∈ xs, dc1 vs t c mk me (f a) ρ = .ok (some (kd a, vd a)) ρ) → xs.Pairwise (fun a b => ky a ≠ ky b) → (∀ e ∈ acc, ∀ a ∈ xs, keyOf e.1 ≠ some (ky a)) →
    mDc vs t c mk me (xs.map f) acc ρ = .ok (acc ++ xs.map fun a => (kd a, vd a)) ρ
  | [], acc, _, _, _ => by simp [mDc]
  | a :: xs, acc, h, hp, hf => by
    obtain ⟨hp1, hp2⟩ := List.pairwise_cons.mp hp
    have ih := mDc_new f kd vd ky hk xs (acc ++ [(kd a, vd a)]) (fun b hb => h b (by simp [hb])) hp2 (by
      intro e he b hb
      rcases List.mem_append.mp he with he | he
      · exact hf e he b (by simp [hb])
      · rw [List.mem_singleton] at he
        subst he
        rw [hk a]
        intro z
        exact hp1 b hb (Option.some.inj z))
    have e1 := h a (by simp)
    unfold dc1 dcC at e1
    rw [List.map_cons]
    show ((noX (t (f a) ρ)).bind fun _ ρ => (noX (c ρ)).bind fun b ρ => if b = true then (noX (mk ρ)).bind fun y ρ => (noX (me ρ)).bind fun x ρ =>
        (Rs.lift (keyOf y) ρ).bind fun k ρ => mDc vs t c mk me (xs.map f) (putD acc k y x) (wipeE ρ vs)
      else mDc vs t c mk me (xs.map f) acc (wipeE ρ vs)) = _
    cases ht : t (f a) ρ with
    | stuck => rw [ht] at e1; cases e1
    | exc x ρ0 => rw [ht] at e1; cases e1
    | ok u ρ0 =>
      rw [ht] at e1
      have e1 : (c ρ0).bind (dcE vs mk me) = .ok (some (kd a, vd a)) ρ := e1
      show ((noX (c ρ0)).bind fun b ρ => if b = true then (noX (mk ρ)).bind fun y ρ => (noX (me ρ)).bind fun x ρ =>
        (Rs.lift (keyOf y) ρ).bind fun k ρ => mDc vs t c mk me (xs.map f) (putD acc k y x) (wipeE ρ vs)
      else mDc vs t c mk me (xs.map f) acc (wipeE ρ vs)) = _
      cases hc : c ρ0 with
      | stuck => rw [hc] at e1; cases e1
      | exc x ρ1 => rw [hc] at e1; cases e1
      | ok b ρ1 =>
        rw [hc] at e1
        have e1 : dcE vs mk me b ρ1 = .ok (some (kd a, vd a)) ρ := e1
        cases b with
        | false => cases e1
        | true =>
          have e1 : (mk ρ1).bind (dcK vs me) = .ok (some (kd a, vd a)) ρ := e1
          show ((noX (mk ρ1)).bind fun y ρ => (noX (me ρ)).bind fun x ρ => (Rs.lift (keyOf y) ρ).bind fun k ρ => mDc vs t c mk me (xs.map f) (putD acc k y x) (wipeE ρ vs)) = _
          cases hm : mk ρ1 with
          | stuck => rw [hm] at e1; cases e1
          | exc x ρ2 => rw [hm] at e1; cases e1
          | ok y ρ2 =>
            rw [hm] at e1
            have e1 : (me ρ2).bind (dcV vs y) = .ok (some (kd a, vd a)) ρ := e1
            show ((noX (me ρ2)).bind fun x ρ => (Rs.lift (keyOf y) ρ).bind fun k ρ => mDc vs t c mk me (xs.map f) (putD acc k y x) (wipeE ρ vs)) = _
            cases hv : me ρ2 with
            | stuck => rw [hv] at e1; cases e1
            | exc x ρ3 => rw [hv] at e1; cases e1
            | ok x ρ3 =>
              rw [hv] at e1
              have e1 : Rs.ok (some (y, x)) (wipeE ρ3 vs) = .ok (some (kd a, vd a)) ρ := e1
              injection e1 with e2 e3
              injection e2 with e2
              injection e2 with e4 e5
              subst e4 e5
              show ((Rs.lift (keyOf (kd a)) ρ3).bind fun k ρ => mDc vs t c mk me (xs.map f) (putD acc k (kd a) (vd a)) (wipeE ρ vs)) = _
              rw [hk a]
              show mDc vs t c mk me (xs.map f) (putD acc (ky a) (kd a) (vd a)) (wipeE ρ3 vs) = _
              rw [e3, putD_new (fun e he => hf e he a (by simp)), ih, List.map_cons, List.append_assoc]
              rfl
def dcompK (vs : List Nat) (t : D → M Unit) (c : M Bool) (mk me : M D) (ds : List D) : M D := fun ρ => if ds.length ≤ big then (mDc vs t c mk me ds [] (wipeE ρ vs)).bind (okK .dict) else .stuck
theorem ev_dcomp (vs : List Nat) (src : M (List D)) (t : D → M Unit) (c : M Bool) (mk me : M D) (ρ : Env) : mDComp vs src t c mk me ρ = (src ρ).bind (dcompK vs t c mk me) := rfl
theorem dcompK_new {vs : List Nat} {t : D → M Unit} {c : M Bool} {mk me : M D} {ρ : Env} (f kd vd : α → D) (ky : α → Key) (hk : ∀ a, keyOf (kd a) = some (ky a)) (xs : List α) (hl : xs.length ≤ big)
    (h : ∀ a ∈ xs, dc1 vs t c mk me (f a) (wipeE ρ vs) = .ok (some (kd a, vd a)) (wipeE ρ vs)) (hp : xs.Pairwise fun a b => ky a ≠ ky b) : dcompK vs t c mk me (xs.map f) ρ = .ok (.dict (xs.map fun a => (kd a, vd a))) (wipeE ρ vs) := by
  show (if (xs.map f).length ≤ big then _ else _) = _
  rw [List.length_map, if_pos hl, mDc_new f kd vd ky hk xs [] h hp (by simp)]
  rfl
end
/-! ### induced -/
def ixOf (k : Nat) (P : Nat → Nat) (x : Nat) : Option Nat := (List.range k).find? fun i => decide (P i = x)
theorem ixOf_some {k : Nat} {P : Nat → Nat} {x i : Nat} (h : ixOf k P x = some i) : i < k ∧ P i = x := by
  have h1 := List.find?_some h
  have h2 := List.mem_of_find?_eq_some h
  exact ⟨List.mem_range.mp h2, of_decide_eq_true h1⟩
structure Mono (k N : Nat) (P : Nat → Nat) : Prop where
  lt : ∀ i, i < k → P i < N
  up : ∀ i j, i < j → j < k → P i < P j
theorem Mono.inj {k N : Nat} {P : Nat → Nat} (m : Mono k N P) {i j : Nat} (hi : i < k) (hj : j < k) (h : P i = P j) : i = j := by
  rcases Nat.lt_trichotomy i j with h1 | h1 | h1
  · have := m.up i j h1 hj; omega
  · exact h1
  · have := m.up j i h1 hi; omega
theorem ixOf_hit {k N : Nat} {P : Nat → Nat} (m : Mono k N P) {i : Nat} (hi : i < k) : ixOf k P (P i) = some i := by
  cases h : ixOf k P (P i) with
  | none =>
    have := List.find?_eq_none.mp h i (List.mem_range.mpr hi)
    simp at this
  | some j =>
    obtain ⟨h1, h2⟩ := ixOf_some h
    rw [m.inj h1 hi h2]
theorem getD_places (k : Nat) (P : Nat → Nat) (x : Nat) : getD ((List.range k).map fun i => (natD (P i), natD i)) (.inl (x : Int)) = (ixOf k P x).map natD := by
  unfold getD ixOf
  rw [List.find?_map, Option.map_map]
  congr 1
  congr 1
  funext i
  show decide (keyOf (natD (P i)) = some (.inl (x : Int))) = decide (P i = x)
  refine decide_eq_decide.mpr ?_
  show some (Sum.inl ((P i : Nat) : Int)) = some (.inl (x : Int)) ↔ _
  constructor
  · intro h
    have := Sum.inl.inj (Option.some.inj h)
    omega
  · intro h
    rw [h]
theorem keyed_places (k : Nat) (P : Nat → Nat) : keyed ((List.range k).map fun i => (natD (P i), natD i)) = true := by
  unfold keyed
  rw [List.all_map, List.all_eq_true]
  intro i _
  rfl
theorem v_inP (k : Nat) (P : Nat → Nat) (x : Nat) : fInA false (.int (x : Int)) (.dict ((List.range k).map fun i => (natD (P i), natD i))) = some (.bool (ixOf k P x).isSome) := by
  show (if keyed _ = true then (keyOf (.int (x : Int))).map (fun k => PyData.bool (if false = true then !(getD _ k).isSome else (getD _ k).isSome)) else none) = _
  rw [if_pos (keyed_places k P)]
  show some (PyData.bool (getD _ (.inl (x : Int))).isSome) = _
  rw [getD_places, Option.isSome_map]
theorem v_ixP (k : Nat) (P : Nat → Nat) (x : Nat) : fIxA (.dict ((List.range k).map fun i => (natD (P i), natD i))) (.int (x : Int)) = (ixOf k P x).map natD := by
  show (if keyed _ = true then (keyOf (.int (x : Int))).bind (getD _) else none) = _
  rw [if_pos (keyed_places k P)]
  show getD _ (.inl (x : Int)) = _
  rw [getD_places]
def indR (P : Nat → Nat) (R : Nat → Nat → Bool) (i j : Nat) : Bool := R (P i) (P j)
def ixp (k : Nat) (P : Nat → Nat) (p : Nat × Nat) : Nat × Nat := ((ixOf k P p.1).getD 0, (ixOf k P p.2).getD 0)
theorem induced_lex {k N : Nat} {P : Nat → Nat} (m : Mono k N P) (R : Nat → Nat → Bool) : ((lexL N R).filter fun p => (ixOf k P p.1).isSome && (ixOf k P p.2).isSome).map (ixp k P) = lexL k (indR P R) := by
  have up : ∀ x y i j, ixOf k P x = some i → ixOf k P y = some j → (x < y → i < j) ∧ (x = y → i = j) := by
    intro x y i j h1 h2
    obtain ⟨a1, a2⟩ := ixOf_some h1
    obtain ⟨b1, b2⟩ := ixOf_some h2
    constructor
    · intro h
      rcases Nat.lt_trichotomy i j with c | c | c
      · exact c
      · subst c; omega
      · have := m.up j i c a1; omega
    · intro h
      exact m.inj a1 b1 (by omega)
  refine lexL_uniq ?_ fun p => ?_
  · rw [List.pairwise_map]
    refine List.Pairwise.imp_of_mem ?_ ((lexL_sorted N R).filter _)
    intro p q hp hq h
    have h1 := (List.mem_filter.mp hp).2
    have h2 := (List.mem_filter.mp hq).2
    simp only [Bool.and_eq_true, Option.isSome_iff_exists] at h1 h2
    obtain ⟨⟨i1, e1⟩, i2, e2⟩ := h1
    obtain ⟨⟨j1, f1⟩, j2, f2⟩ := h2
    have u1 := up _ _ _ _ e1 f1
    have u2 := up _ _ _ _ e2 f2
    unfold lt2 ixp at *
    rw [e1, e2, f1, f2]
    simp only [Option.getD_some]
    rcases h with h | ⟨h, h'⟩
    · exact Or.inl (u1.1 h)
    · exact Or.inr ⟨u1.2 h, u2.1 h'⟩
  · rw [List.mem_map]
    constructor
    · rintro ⟨q, hq, rfl⟩
      obtain ⟨hq, h1⟩ := List.mem_filter.mp hq
      simp only [Bool.and_eq_true, Option.isSome_iff_exists] at h1
      obtain ⟨⟨i1, e1⟩, i2, e2⟩ := h1
      obtain ⟨_, _, hR⟩ := mem_lexL.mp hq
      obtain ⟨a1, a2⟩ := ixOf_some e1
      obtain ⟨b1, b2⟩ := ixOf_some e2
      simp only [ixp, e1, e2, Option.getD_some, indR, a2, b2]
      exact ⟨a1, b1, hR⟩
    · rintro ⟨h1, h2, h3⟩
      refine ⟨(P p.1, P p.2), List.mem_filter.mpr ⟨mem_lexL.mpr ⟨m.lt _ h1, m.lt _ h2, h3⟩, ?_⟩, ?_⟩
      · simp only [ixOf_hit m h1, ixOf_hit m h2]; rfl
      · simp only [ixp, ixOf_hit m h1, ixOf_hit m h2, Option.getD_some]
theorem induced_ev (N k : Nat) (R : Nat → Nat → Bool) (P : Nat → Nat) (m : Mono k N P) (hN : N ≤ 400) (hk : k ≤ 400) : F_induced [ordD N R, .tuple ((List.range k).map fun i => natD (P i))] = .ok (ordD k (indR P R)) [none, none] := by
  unfold F_induced
  rw [ev_fn]
  unfold m_induced
  simp -implicitDefEqProofs only [bind_ok, lift_some, okK_eq, liftK_eq, ev_seq, seqK_next, seqK_ret, ev_asg, asgK_eq, ev_ret, ev_expr, ev_skip, ev_ifS, ev_if, ifK_t, ifK_f, ev_c, ev_yes, ev_and, ev_or, ev_not, cK_eq, ev_tb, ev_tru, ev_andV, ev_orV, ev_notV, bK_bool, notK_bool, ev_m2, m2K_eq, ev_m1, ev_nil, ev_cons, consK_eq, ev_tup, ev_lst, ev_slot, slotK_eq, ev_retO, retOK_eq, ev_name, ev_tup2, ev_tup3, ev_tgc, tgK_eq, ev_tgn, ev_call, callK_v1, callK_v2, callK_v3, callK2_v1, callK2_v2, callK2_v3, callK_b1, callK_b2, borK_eq, callK2_b1, callK2_b2, unK_eq, ev_bor, bor1K_eq, ev_lenO, lenOK_eq, listAt_eq, listK_eq, ev_ixO, ixO0_eq, ixO1_eq, ixO1'_eq, ixO2_0, ev_sub, subK0_eq, subK_eq, subK1_eq, subK2_eq, ev_app, appK0_eq, appK_eq, ev_ins, insK0_eq, insK'_eq, insK_eq, ev_ext, extK0_eq, extK_eq, ev_i1, ev_i2, i2K_eq, ev_lrg, ev_trg, ev_forS, one_eq, oneC_eq, oneE_t, oneE_f, oneX_eq, wipeE_nil, wipeE_cons, ev_comp, fnK_ret, fnK_next, mask_nil, mask_0, mask_1, v_addI, v_tupL, v_tupT, v_lstL, v_lstT, v_lenL, v_lenT, v_int, v_seqL, v_seqT, v_bool, v_truB, v_truI, v_eqI, v_eqB, v_neI, v_ixT, v_ixL, v_at0, v_at1, v_at2, v_at3, v_at4, v_at5, List.getElem?_cons_zero, List.getElem?_cons_succ, List.set_cons_zero, List.set_cons_succ, List.length_cons, List.length_nil, Nat.reduceAdd, Nat.reduceLT, Nat.reduceSub, if_true, List.map_cons, List.map_nil, List.cons_append, List.nil_append, List.replicate_succ, List.replicate_zero, Nat.zero_add, Nat.lt_add_left_iff_pos, Nat.zero_lt_succ, bodyK_eq, ordD, ordP, ev_dcomp, v_enT, enum_rng]
  rw [dcompK_new (fun i : Nat => PyData.tuple [.int (i : Int), natD (P i)]) (fun i => natD (P i)) natD (fun i => .inl (P i : Int)) (fun _ => rfl) (List.range k) (by rw [List.length_range]; unfold big; omega)
    (fun i _ => by simp -implicitDefEqProofs only [bind_ok, lift_some, okK_eq, liftK_eq, ev_seq, seqK_next, seqK_ret, ev_asg, asgK_eq, ev_ret, ev_expr, ev_skip, ev_ifS, ev_if, ifK_t, ifK_f, ev_c, ev_yes, ev_and, ev_or, ev_not, cK_eq, ev_tb, ev_tru, ev_andV, ev_orV, ev_notV, bK_bool, notK_bool, ev_m2, m2K_eq, ev_m1, ev_nil, ev_cons, consK_eq, ev_tup, ev_lst, ev_slot, slotK_eq, ev_retO, retOK_eq, ev_name, ev_tup2, ev_tup3, ev_tgc, tgK_eq, ev_tgn, ev_call, callK_v1, callK_v2, callK_v3, callK2_v1, callK2_v2, callK2_v3, callK_b1, callK_b2, borK_eq, callK2_b1, callK2_b2, unK_eq, ev_bor, bor1K_eq, ev_lenO, lenOK_eq, listAt_eq, listK_eq, ev_ixO, ixO0_eq, ixO1_eq, ixO1'_eq, ixO2_0, ev_sub, subK0_eq, subK_eq, subK1_eq, subK2_eq, ev_app, appK0_eq, appK_eq, ev_ins, insK0_eq, insK'_eq, insK_eq, ev_ext, extK0_eq, extK_eq, ev_i1, ev_i2, i2K_eq, ev_lrg, ev_trg, ev_forS, one_eq, oneC_eq, oneE_t, oneE_f, oneX_eq, wipeE_nil, wipeE_cons, ev_comp, fnK_ret, fnK_next, mask_nil, mask_0, mask_1, v_addI, v_tupL, v_tupT, v_lstL, v_lstT, v_lenL, v_lenT, v_int, v_seqL, v_seqT, v_bool, v_truB, v_truI, v_eqI, v_eqB, v_neI, v_ixT, v_ixL, v_at0, v_at1, v_at2, v_at3, v_at4, v_at5, List.getElem?_cons_zero, List.getElem?_cons_succ, List.set_cons_zero, List.set_cons_succ, List.length_cons, List.length_nil, Nat.reduceAdd, Nat.reduceLT, Nat.reduceSub, if_true, List.map_cons, List.map_nil, List.cons_append, List.nil_append, List.replicate_succ, List.replicate_zero, Nat.zero_add, Nat.lt_add_left_iff_pos, Nat.zero_lt_succ, bodyK_eq, dc1_eq, dcC_eq, dcE_t, dcK_eq, dcV_eq, natD])
    (by
      refine List.Pairwise.imp_of_mem ?_ (range_lt k)
      intro i j hi hj h e
      have := m.up i j h (List.mem_range.mp hj)
      have := Sum.inl.inj e
      omega)]
  simp -implicitDefEqProofs only [bind_ok, lift_some, okK_eq, liftK_eq, ev_seq, seqK_next, seqK_ret, ev_asg, asgK_eq, ev_ret, ev_expr, ev_skip, ev_ifS, ev_if, ifK_t, ifK_f, ev_c, ev_yes, ev_and, ev_or, ev_not, cK_eq, ev_tb, ev_tru, ev_andV, ev_orV, ev_notV, bK_bool, notK_bool, ev_m2, m2K_eq, ev_m1, ev_nil, ev_cons, consK_eq, ev_tup, ev_lst, ev_slot, slotK_eq, ev_retO, retOK_eq, ev_name, ev_tup2, ev_tup3, ev_tgc, tgK_eq, ev_tgn, ev_call, callK_v1, callK_v2, callK_v3, callK2_v1, callK2_v2, callK2_v3, callK_b1, callK_b2, borK_eq, callK2_b1, callK2_b2, unK_eq, ev_bor, bor1K_eq, ev_lenO, lenOK_eq, listAt_eq, listK_eq, ev_ixO, ixO0_eq, ixO1_eq, ixO1'_eq, ixO2_0, ev_sub, subK0_eq, subK_eq, subK1_eq, subK2_eq, ev_app, appK0_eq, appK_eq, ev_ins, insK0_eq, insK'_eq, insK_eq, ev_ext, extK0_eq, extK_eq, ev_i1, ev_i2, i2K_eq, ev_lrg, ev_trg, ev_forS, one_eq, oneC_eq, oneE_t, oneE_f, oneX_eq, wipeE_nil, wipeE_cons, ev_comp, fnK_ret, fnK_next, mask_nil, mask_0, mask_1, v_addI, v_tupL, v_tupT, v_lstL, v_lstT, v_lenL, v_lenT, v_int, v_seqL, v_seqT, v_bool, v_truB, v_truI, v_eqI, v_eqB, v_neI, v_ixT, v_ixL, v_at0, v_at1, v_at2, v_at3, v_at4, v_at5, List.getElem?_cons_zero, List.getElem?_cons_succ, List.set_cons_zero, List.set_cons_succ, List.length_cons, List.length_nil, Nat.reduceAdd, Nat.reduceLT, Nat.reduceSub, if_true, List.map_cons, List.map_nil, List.cons_append, List.nil_append, List.replicate_succ, List.replicate_zero, Nat.zero_add, Nat.lt_add_left_iff_pos, Nat.zero_lt_succ, bodyK_eq]
  rw [compK_filter (lexL N R) prN (fun p => (ixOf k P p.1).isSome && (ixOf k P p.2).isSome) (prN ∘ ixp k P) (by have := lexL_big R hN; unfold big; omega) (fun p _ => by
    simp -implicitDefEqProofs only [bind_ok, lift_some, okK_eq, liftK_eq, ev_seq, seqK_next, seqK_ret, ev_asg, asgK_eq, ev_ret, ev_expr, ev_skip, ev_ifS, ev_if, ifK_t, ifK_f, ev_c, ev_yes, ev_and, ev_or, ev_not, cK_eq, ev_tb, ev_tru, ev_andV, ev_orV, ev_notV, bK_bool, notK_bool, ev_m2, m2K_eq, ev_m1, ev_nil, ev_cons, consK_eq, ev_tup, ev_lst, ev_slot, slotK_eq, ev_retO, retOK_eq, ev_name, ev_tup2, ev_tup3, ev_tgc, tgK_eq, ev_tgn, ev_call, callK_v1, callK_v2, callK_v3, callK2_v1, callK2_v2, callK2_v3, callK_b1, callK_b2, borK_eq, callK2_b1, callK2_b2, unK_eq, ev_bor, bor1K_eq, ev_lenO, lenOK_eq, listAt_eq, listK_eq, ev_ixO, ixO0_eq, ixO1_eq, ixO1'_eq, ixO2_0, ev_sub, subK0_eq, subK_eq, subK1_eq, subK2_eq, ev_app, appK0_eq, appK_eq, ev_ins, insK0_eq, insK'_eq, insK_eq, ev_ext, extK0_eq, extK_eq, ev_i1, ev_i2, i2K_eq, ev_lrg, ev_trg, ev_forS, one_eq, oneC_eq, oneE_t, oneE_f, oneX_eq, wipeE_nil, wipeE_cons, ev_comp, fnK_ret, fnK_next, mask_nil, mask_0, mask_1, v_addI, v_tupL, v_tupT, v_lstL, v_lstT, v_lenL, v_lenT, v_int, v_seqL, v_seqT, v_bool, v_truB, v_truI, v_eqI, v_eqB, v_neI, v_ixT, v_ixL, v_at0, v_at1, v_at2, v_at3, v_at4, v_at5, List.getElem?_cons_zero, List.getElem?_cons_succ, List.set_cons_zero, List.set_cons_succ, List.length_cons, List.length_nil, Nat.reduceAdd, Nat.reduceLT, Nat.reduceSub, if_true, List.map_cons, List.map_nil, List.cons_append, List.nil_append, List.replicate_succ, List.replicate_zero, Nat.zero_add, Nat.lt_add_left_iff_pos, Nat.zero_lt_succ, bodyK_eq, prN, v_inP]
    cases e1 : ixOf k P p.1 with
    | none => simp -implicitDefEqProofs only [bind_ok, lift_some, okK_eq, liftK_eq, ev_seq, seqK_next, seqK_ret, ev_asg, asgK_eq, ev_ret, ev_expr, ev_skip, ev_ifS, ev_if, ifK_t, ifK_f, ev_c, ev_yes, ev_and, ev_or, ev_not, cK_eq, ev_tb, ev_tru, ev_andV, ev_orV, ev_notV, bK_bool, notK_bool, ev_m2, m2K_eq, ev_m1, ev_nil, ev_cons, consK_eq, ev_tup, ev_lst, ev_slot, slotK_eq, ev_retO, retOK_eq, ev_name, ev_tup2, ev_tup3, ev_tgc, tgK_eq, ev_tgn, ev_call, callK_v1, callK_v2, callK_v3, callK2_v1, callK2_v2, callK2_v3, callK_b1, callK_b2, borK_eq, callK2_b1, callK2_b2, unK_eq, ev_bor, bor1K_eq, ev_lenO, lenOK_eq, listAt_eq, listK_eq, ev_ixO, ixO0_eq, ixO1_eq, ixO1'_eq, ixO2_0, ev_sub, subK0_eq, subK_eq, subK1_eq, subK2_eq, ev_app, appK0_eq, appK_eq, ev_ins, insK0_eq, insK'_eq, insK_eq, ev_ext, extK0_eq, extK_eq, ev_i1, ev_i2, i2K_eq, ev_lrg, ev_trg, ev_forS, one_eq, oneC_eq, oneE_t, oneE_f, oneX_eq, wipeE_nil, wipeE_cons, ev_comp, fnK_ret, fnK_next, mask_nil, mask_0, mask_1, v_addI, v_tupL, v_tupT, v_lstL, v_lstT, v_lenL, v_lenT, v_int, v_seqL, v_seqT, v_bool, v_truB, v_truI, v_eqI, v_eqB, v_neI, v_ixT, v_ixL, v_at0, v_at1, v_at2, v_at3, v_at4, v_at5, List.getElem?_cons_zero, List.getElem?_cons_succ, List.set_cons_zero, List.set_cons_succ, List.length_cons, List.length_nil, Nat.reduceAdd, Nat.reduceLT, Nat.reduceSub, if_true, List.map_cons, List.map_nil, List.cons_append, List.nil_append, List.replicate_succ, List.replicate_zero, Nat.zero_add, Nat.lt_add_left_iff_pos, Nat.zero_lt_succ, bodyK_eq, Option.isSome_none, Bool.false_and]; rfl
    | some i =>
      cases e2 : ixOf k P p.2 with
      | none => simp -implicitDefEqProofs only [bind_ok, lift_some, okK_eq, liftK_eq, ev_seq, seqK_next, seqK_ret, ev_asg, asgK_eq, ev_ret, ev_expr, ev_skip, ev_ifS, ev_if, ifK_t, ifK_f, ev_c, ev_yes, ev_and, ev_or, ev_not, cK_eq, ev_tb, ev_tru, ev_andV, ev_orV, ev_notV, bK_bool, notK_bool, ev_m2, m2K_eq, ev_m1, ev_nil, ev_cons, consK_eq, ev_tup, ev_lst, ev_slot, slotK_eq, ev_retO, retOK_eq, ev_name, ev_tup2, ev_tup3, ev_tgc, tgK_eq, ev_tgn, ev_call, callK_v1, callK_v2, callK_v3, callK2_v1, callK2_v2, callK2_v3, callK_b1, callK_b2, borK_eq, callK2_b1, callK2_b2, unK_eq, ev_bor, bor1K_eq, ev_lenO, lenOK_eq, listAt_eq, listK_eq, ev_ixO, ixO0_eq, ixO1_eq, ixO1'_eq, ixO2_0, ev_sub, subK0_eq, subK_eq, subK1_eq, subK2_eq, ev_app, appK0_eq, appK_eq, ev_ins, insK0_eq, insK'_eq, insK_eq, ev_ext, extK0_eq, extK_eq, ev_i1, ev_i2, i2K_eq, ev_lrg, ev_trg, ev_forS, one_eq, oneC_eq, oneE_t, oneE_f, oneX_eq, wipeE_nil, wipeE_cons, ev_comp, fnK_ret, fnK_next, mask_nil, mask_0, mask_1, v_addI, v_tupL, v_tupT, v_lstL, v_lstT, v_lenL, v_lenT, v_int, v_seqL, v_seqT, v_bool, v_truB, v_truI, v_eqI, v_eqB, v_neI, v_ixT, v_ixL, v_at0, v_at1, v_at2, v_at3, v_at4, v_at5, List.getElem?_cons_zero, List.getElem?_cons_succ, List.set_cons_zero, List.set_cons_succ, List.length_cons, List.length_nil, Nat.reduceAdd, Nat.reduceLT, Nat.reduceSub, if_true, List.map_cons, List.map_nil, List.cons_append, List.nil_append, List.replicate_succ, List.replicate_zero, Nat.zero_add, Nat.lt_add_left_iff_pos, Nat.zero_lt_succ, bodyK_eq, Option.isSome_none, Option.isSome_some, v_inP, e2, Bool.true_and]; rfl
      | some j =>
        simp -implicitDefEqProofs only [bind_ok, lift_some, okK_eq, liftK_eq, ev_seq, seqK_next, seqK_ret, ev_asg, asgK_eq, ev_ret, ev_expr, ev_skip, ev_ifS, ev_if, ifK_t, ifK_f, ev_c, ev_yes, ev_and, ev_or, ev_not, cK_eq, ev_tb, ev_tru, ev_andV, ev_orV, ev_notV, bK_bool, notK_bool, ev_m2, m2K_eq, ev_m1, ev_nil, ev_cons, consK_eq, ev_tup, ev_lst, ev_slot, slotK_eq, ev_retO, retOK_eq, ev_name, ev_tup2, ev_tup3, ev_tgc, tgK_eq, ev_tgn, ev_call, callK_v1, callK_v2, callK_v3, callK2_v1, callK2_v2, callK2_v3, callK_b1, callK_b2, borK_eq, callK2_b1, callK2_b2, unK_eq, ev_bor, bor1K_eq, ev_lenO, lenOK_eq, listAt_eq, listK_eq, ev_ixO, ixO0_eq, ixO1_eq, ixO1'_eq, ixO2_0, ev_sub, subK0_eq, subK_eq, subK1_eq, subK2_eq, ev_app, appK0_eq, appK_eq, ev_ins, insK0_eq, insK'_eq, insK_eq, ev_ext, extK0_eq, extK_eq, ev_i1, ev_i2, i2K_eq, ev_lrg, ev_trg, ev_forS, one_eq, oneC_eq, oneE_t, oneE_f, oneX_eq, wipeE_nil, wipeE_cons, ev_comp, fnK_ret, fnK_next, mask_nil, mask_0, mask_1, v_addI, v_tupL, v_tupT, v_lstL, v_lstT, v_lenL, v_lenT, v_int, v_seqL, v_seqT, v_bool, v_truB, v_truI, v_eqI, v_eqB, v_neI, v_ixT, v_ixL, v_at0, v_at1, v_at2, v_at3, v_at4, v_at5, List.getElem?_cons_zero, List.getElem?_cons_succ, List.set_cons_zero, List.set_cons_succ, List.length_cons, List.length_nil, Nat.reduceAdd, Nat.reduceLT, Nat.reduceSub, if_true, List.map_cons, List.map_nil, List.cons_append, List.nil_append, List.replicate_succ, List.replicate_zero, Nat.zero_add, Nat.lt_add_left_iff_pos, Nat.zero_lt_succ, bodyK_eq, Option.isSome_some, v_inP, v_ixP, e1, e2, Bool.true_and, Option.map_some, if_true]
        simp only [Function.comp, prN, ixp, e1, e2, Option.getD_some]
        rfl)]
  simp -implicitDefEqProofs only [bind_ok, lift_some, okK_eq, liftK_eq, ev_seq, seqK_next, seqK_ret, ev_asg, asgK_eq, ev_ret, ev_expr, ev_skip, ev_ifS, ev_if, ifK_t, ifK_f, ev_c, ev_yes, ev_and, ev_or, ev_not, cK_eq, ev_tb, ev_tru, ev_andV, ev_orV, ev_notV, bK_bool, notK_bool, ev_m2, m2K_eq, ev_m1, ev_nil, ev_cons, consK_eq, ev_tup, ev_lst, ev_slot, slotK_eq, ev_retO, retOK_eq, ev_name, ev_tup2, ev_tup3, ev_tgc, tgK_eq, ev_tgn, ev_call, callK_v1, callK_v2, callK_v3, callK2_v1, callK2_v2, callK2_v3, callK_b1, callK_b2, borK_eq, callK2_b1, callK2_b2, unK_eq, ev_bor, bor1K_eq, ev_lenO, lenOK_eq, listAt_eq, listK_eq, ev_ixO, ixO0_eq, ixO1_eq, ixO1'_eq, ixO2_0, ev_sub, subK0_eq, subK_eq, subK1_eq, subK2_eq, ev_app, appK0_eq, appK_eq, ev_ins, insK0_eq, insK'_eq, insK_eq, ev_ext, extK0_eq, extK_eq, ev_i1, ev_i2, i2K_eq, ev_lrg, ev_trg, ev_forS, one_eq, oneC_eq, oneE_t, oneE_f, oneX_eq, wipeE_nil, wipeE_cons, ev_comp, fnK_ret, fnK_next, mask_nil, mask_0, mask_1, v_addI, v_tupL, v_tupT, v_lstL, v_lstT, v_lenL, v_lenT, v_int, v_seqL, v_seqT, v_bool, v_truB, v_truI, v_eqI, v_eqB, v_neI, v_ixT, v_ixL, v_at0, v_at1, v_at2, v_at3, v_at4, v_at5, List.getElem?_cons_zero, List.getElem?_cons_succ, List.set_cons_zero, List.set_cons_succ, List.length_cons, List.length_nil, Nat.reduceAdd, Nat.reduceLT, Nat.reduceSub, if_true, List.map_cons, List.map_nil, List.cons_append, List.nil_append, List.replicate_succ, List.replicate_zero, Nat.zero_add, Nat.lt_add_left_iff_pos, Nat.zero_lt_succ, bodyK_eq, ← List.map_map, induced_lex m, List.length_map, List.length_range]
end Mir

set_option Elab.async false
set_option linter.all false
set_option maxRecDepth 100000
set_option maxHeartbeats 4000000
namespace Mir
open PySem PySem.Spec PyProof.Rows L2
/-! ### in, of pairs -/
theorem canLay_pr (p : Nat × Nat) : PyData.canLay0 (prN p) = true := by simp [prN, PyData.canLay0, PyData.canLayAll0]
theorem canLay_prs : ∀ ps : List (Nat × Nat), PyData.canLayAll0 (ps.map prN) = true
  | [] => rfl
  | p :: ps => by rw [List.map_cons, PyData.canLayAll0, canLay_pr, canLay_prs ps]; rfl
theorem depth_pr (p : Nat × Nat) : PyData.depth (prN p) = 1 := by simp [prN, PyData.depth, PyData.depthAll]
theorem depth_prs : ∀ ps : List (Nat × Nat), PyData.depthAll (ps.map prN) ≤ 1
  | [] => by simp [PyData.depthAll]
  | p :: ps => by
    rw [List.map_cons, PyData.depthAll, depth_pr]
    have := depth_prs ps
    omega
theorem plain_pr (p : Nat × Nat) : plainD (prN p) = true := by simp [prN, plainD, plainL]
theorem plain_prs : ∀ ps : List (Nat × Nat), plainL (ps.map prN) = true
  | [] => rfl
  | p :: ps => by rw [List.map_cons, plainL, plain_pr, plain_prs ps]; rfl
theorem okD_pr (p : Nat × Nat) : okD (prN p) = true := by
  unfold okD SeqAt.shaped
  rw [plain_pr, canLay_pr, depth_pr]
  rfl
theorem okD_prs (ps : List (Nat × Nat)) : okD (.tuple (ps.map prN)) = true := by
  have h1 : plainD (.tuple (ps.map prN)) = true := plain_prs ps
  have h2 : PyData.canLay0 (.tuple (ps.map prN)) = true := by rw [PyData.canLay0]; exact canLay_prs ps
  have h3 : PyData.depth (.tuple (ps.map prN)) ≤ 64 := by
    rw [PyData.depth]
    have := depth_prs ps
    omega
  unfold okD SeqAt.shaped
  rw [h1, h2, decide_eq_true h3]
  rfl
theorem eqv_pr (p q : Nat × Nat) : PyData.eqv (prN p) (prN q) = decide (p = q) := by
  obtain ⟨a, b⟩ := p
  obtain ⟨c, d⟩ := q
  simp only [prN, PyData.eqv, PyData.eqvAll, Bool.and_true]
  rw [Bool.eq_iff_iff]
  simp only [Bool.and_eq_true, beq_iff_eq, decide_eq_true_eq, Prod.mk.injEq]
  omega
theorem v_inPrs (a b : Nat) (ps : List (Nat × Nat)) : fInA false (.tuple [.int (a : Int), .int (b : Int)]) (.tuple (ps.map prN)) = some (.bool (decide ((a, b) ∈ ps))) := by
  show (if okD (prN (a, b)) = true ∧ okD (.tuple (ps.map prN)) = true then some (PyData.bool (if false = true then !((ps.map prN).any fun z => PyData.eqv z (prN (a, b))) else (ps.map prN).any fun z => PyData.eqv z (prN (a, b)))) else none) = _
  rw [if_pos ⟨okD_pr _, okD_prs ps⟩]
  have e : ((ps.map prN).any fun z => PyData.eqv z (prN (a, b))) = decide ((a, b) ∈ ps) := by
    rw [List.any_map, Bool.eq_iff_iff, List.any_eq_true, decide_eq_true_eq]
    constructor
    · rintro ⟨q, hq, h⟩
      have h : PyData.eqv (prN q) (prN (a, b)) = true := h
      rw [eqv_pr, decide_eq_true_eq] at h
      subst h
      exact hq
    · intro h
      refine ⟨_, h, ?_⟩
      show PyData.eqv (prN (a, b)) (prN (a, b)) = true
      rw [eqv_pr, decide_eq_true_eq]
  rw [e]
  rfl
theorem in_lex {N : Nat} {R : Nat → Nat → Bool} {a b : Nat} (ha : a < N) (hb : b < N) : decide ((a, b) ∈ lexL N R) = R a b := by
  rw [Bool.eq_iff_iff, decide_eq_true_eq, mem_lexL]
  exact ⟨fun h => h.2.2, fun h => ⟨ha, hb, h⟩⟩
theorem row_len (k : Nat) (Q : Nat → Nat → Bool) (i : Nat) : ((((List.range k).filter (Q i)).map fun j => (i, j)) : List (Nat × Nat)).length ≤ k := by
  rw [List.length_map]; exact flt_len k _
theorem linduced_ev (N k : Nat) (R : Nat → Nat → Bool) (P : Nat → Nat) (hP : ∀ i, i < k → P i < N) (hk : k ≤ 400) : F__law_induced [ordD N R, .tuple ((List.range k).map fun i => natD (P i))] = .ok (ordD k (indR P R)) [none, none] := by
  unfold F__law_induced
  rw [ev_fn]
  unfold m__law_induced
  simp -implicitDefEqProofs only [bind_ok, lift_some, okK_eq, liftK_eq, ev_seq, seqK_next, seqK_ret, ev_asg, asgK_eq, ev_ret, ev_expr, ev_skip, ev_ifS, ev_if, ifK_t, ifK_f, ev_c, ev_yes, ev_and, ev_or, ev_not, cK_eq, ev_tb, ev_tru, ev_andV, ev_orV, ev_notV, bK_bool, notK_bool, ev_m2, m2K_eq, ev_m1, ev_nil, ev_cons, consK_eq, ev_tup, ev_lst, ev_slot, slotK_eq, ev_retO, retOK_eq, ev_name, ev_tup2, ev_tup3, ev_tgc, tgK_eq, ev_tgn, ev_call, callK_v1, callK_v2, callK_v3, callK2_v1, callK2_v2, callK2_v3, callK_b1, callK_b2, borK_eq, callK2_b1, callK2_b2, unK_eq, ev_bor, bor1K_eq, ev_lenO, lenOK_eq, listAt_eq, listK_eq, ev_ixO, ixO0_eq, ixO1_eq, ixO1'_eq, ixO2_0, ev_sub, subK0_eq, subK_eq, subK1_eq, subK2_eq, ev_app, appK0_eq, appK_eq, ev_ins, insK0_eq, insK'_eq, insK_eq, ev_ext, extK0_eq, extK_eq, ev_i1, ev_i2, i2K_eq, ev_lrg, ev_trg, ev_forS, one_eq, oneC_eq, oneE_t, oneE_f, oneX_eq, wipeE_nil, wipeE_cons, ev_comp, fnK_ret, fnK_next, mask_nil, mask_0, mask_1, v_addI, v_tupL, v_tupT, v_lstL, v_lstT, v_lenL, v_lenT, v_int, v_seqL, v_seqT, v_bool, v_truB, v_truI, v_eqI, v_eqB, v_neI, v_ixT, v_ixL, v_at0, v_at1, v_at2, v_at3, v_at4, v_at5, List.getElem?_cons_zero, List.getElem?_cons_succ, List.set_cons_zero, List.set_cons_succ, List.length_cons, List.length_nil, Nat.reduceAdd, Nat.reduceLT, Nat.reduceSub, if_true, List.map_cons, List.map_nil, List.cons_append, List.nil_append, List.replicate_succ, List.replicate_zero, Nat.zero_add, Nat.lt_add_left_iff_pos, Nat.zero_lt_succ, bodyK_eq, ordD, ordP, List.length_map, List.length_range, v_rg1 k (show k ≤ 1000000 by omega)]
  generalize hA : PyData.tuple [.int (N : Int), .tuple ((lexL N R).map prN)] = A
  obtain ⟨ρ', e, hI⟩ := for_ix (fun k : Nat => PyData.int (k : Int)) (tgName 3) (mAsg (m2 fAdd (mSlot 2) (mComp [4] (mI1 fRange1 (m1 fLen (mSlot 1))) (tgName 4) (mTB (m2 (fInA false) (mTup (mCons (m2 fIxA (mSlot 1) (mSlot 3)) (mCons (m2 fIxA (mSlot 1) (mSlot 4)) (mNil)))) (m2 fIxA (mSlot 0) (mC (.int 1))))) (mTup (mCons (mSlot 3) (mCons (mSlot 4) (mNil)))))) (tgName 2))
    (fun i ρ => ∃ y3 y4 : Option D, ρ = [some A, some (.tuple ((List.range k).map fun i => natD (P i))), some (.list (((List.range i).flatMap fun i => ((List.range k).filter (indR P R i)).map fun j => (i, j)).map prN)), y3, y4])
    (List.range k) [some A, some (.tuple ((List.range k).map fun i => natD (P i))), some (.list []), none, none] ⟨none, none, rfl⟩ (by
      rintro i i' ρ hi ⟨y3, y4, rfl⟩
      obtain ⟨rfl, hi⟩ := rng_get hi
      refine ⟨[some A, some (.tuple ((List.range k).map fun i => natD (P i))), some (.list (((List.range (i' + 1)).flatMap fun i => ((List.range k).filter (indR P R i)).map fun j => (i, j)).map prN)), some (.int (i' : Int)), none], ?_, _, _, rfl⟩
      subst hA
      simp -implicitDefEqProofs only [bind_ok, lift_some, okK_eq, liftK_eq, ev_seq, seqK_next, seqK_ret, ev_asg, asgK_eq, ev_ret, ev_expr, ev_skip, ev_ifS, ev_if, ifK_t, ifK_f, ev_c, ev_yes, ev_and, ev_or, ev_not, cK_eq, ev_tb, ev_tru, ev_andV, ev_orV, ev_notV, bK_bool, notK_bool, ev_m2, m2K_eq, ev_m1, ev_nil, ev_cons, consK_eq, ev_tup, ev_lst, ev_slot, slotK_eq, ev_retO, retOK_eq, ev_name, ev_tup2, ev_tup3, ev_tgc, tgK_eq, ev_tgn, ev_call, callK_v1, callK_v2, callK_v3, callK2_v1, callK2_v2, callK2_v3, callK_b1, callK_b2, borK_eq, callK2_b1, callK2_b2, unK_eq, ev_bor, bor1K_eq, ev_lenO, lenOK_eq, listAt_eq, listK_eq, ev_ixO, ixO0_eq, ixO1_eq, ixO1'_eq, ixO2_0, ev_sub, subK0_eq, subK_eq, subK1_eq, subK2_eq, ev_app, appK0_eq, appK_eq, ev_ins, insK0_eq, insK'_eq, insK_eq, ev_ext, extK0_eq, extK_eq, ev_i1, ev_i2, i2K_eq, ev_lrg, ev_trg, ev_forS, one_eq, oneC_eq, oneE_t, oneE_f, oneX_eq, wipeE_nil, wipeE_cons, ev_comp, fnK_ret, fnK_next, mask_nil, mask_0, mask_1, v_addI, v_tupL, v_tupT, v_lstL, v_lstT, v_lenL, v_lenT, v_int, v_seqL, v_seqT, v_bool, v_truB, v_truI, v_eqI, v_eqB, v_neI, v_ixT, v_ixL, v_at0, v_at1, v_at2, v_at3, v_at4, v_at5, List.getElem?_cons_zero, List.getElem?_cons_succ, List.set_cons_zero, List.set_cons_succ, List.length_cons, List.length_nil, Nat.reduceAdd, Nat.reduceLT, Nat.reduceSub, if_true, List.map_cons, List.map_nil, List.cons_append, List.nil_append, List.replicate_succ, List.replicate_zero, Nat.zero_add, Nat.lt_add_left_iff_pos, Nat.zero_lt_succ, bodyK_eq, List.length_map, List.length_range, v_rg1 k (show k ≤ 1000000 by omega)]
      rw [compK_filter (List.range k) (fun k : Nat => PyData.int (k : Int)) (indR P R i') (fun j => prN (i', j)) (by rw [List.length_range]; unfold big; omega) (fun j hj => by
        have hj := List.mem_range.mp hj
        have e1 := atI_rng k (fun i => natD (P i)) hi
        have e2 := atI_rng k (fun i => natD (P i)) hj
        have e3 : fInA false (.tuple [natD (P i'), natD (P j)]) (.tuple ((lexL N R).map prN)) = some (.bool (indR P R i' j)) := by
          show fInA false (.tuple [.int ((P i' : Nat) : Int), .int ((P j : Nat) : Int)]) _ = _
          rw [v_inPrs, in_lex (hP _ hi) (hP _ hj)]
          rfl
        simp -implicitDefEqProofs only [bind_ok, lift_some, okK_eq, liftK_eq, ev_seq, seqK_next, seqK_ret, ev_asg, asgK_eq, ev_ret, ev_expr, ev_skip, ev_ifS, ev_if, ifK_t, ifK_f, ev_c, ev_yes, ev_and, ev_or, ev_not, cK_eq, ev_tb, ev_tru, ev_andV, ev_orV, ev_notV, bK_bool, notK_bool, ev_m2, m2K_eq, ev_m1, ev_nil, ev_cons, consK_eq, ev_tup, ev_lst, ev_slot, slotK_eq, ev_retO, retOK_eq, ev_name, ev_tup2, ev_tup3, ev_tgc, tgK_eq, ev_tgn, ev_call, callK_v1, callK_v2, callK_v3, callK2_v1, callK2_v2, callK2_v3, callK_b1, callK_b2, borK_eq, callK2_b1, callK2_b2, unK_eq, ev_bor, bor1K_eq, ev_lenO, lenOK_eq, listAt_eq, listK_eq, ev_ixO, ixO0_eq, ixO1_eq, ixO1'_eq, ixO2_0, ev_sub, subK0_eq, subK_eq, subK1_eq, subK2_eq, ev_app, appK0_eq, appK_eq, ev_ins, insK0_eq, insK'_eq, insK_eq, ev_ext, extK0_eq, extK_eq, ev_i1, ev_i2, i2K_eq, ev_lrg, ev_trg, ev_forS, one_eq, oneC_eq, oneE_t, oneE_f, oneX_eq, wipeE_nil, wipeE_cons, ev_comp, fnK_ret, fnK_next, mask_nil, mask_0, mask_1, v_addI, v_tupL, v_tupT, v_lstL, v_lstT, v_lenL, v_lenT, v_int, v_seqL, v_seqT, v_bool, v_truB, v_truI, v_eqI, v_eqB, v_neI, v_ixT, v_ixL, v_at0, v_at1, v_at2, v_at3, v_at4, v_at5, List.getElem?_cons_zero, List.getElem?_cons_succ, List.set_cons_zero, List.set_cons_succ, List.length_cons, List.length_nil, Nat.reduceAdd, Nat.reduceLT, Nat.reduceSub, if_true, List.map_cons, List.map_nil, List.cons_append, List.nil_append, List.replicate_succ, List.replicate_zero, Nat.zero_add, Nat.lt_add_left_iff_pos, Nat.zero_lt_succ, bodyK_eq, e1, e2, e3]
        cases indR P R i' j
        · simp -implicitDefEqProofs only [bind_ok, lift_some, okK_eq, liftK_eq, ev_seq, seqK_next, seqK_ret, ev_asg, asgK_eq, ev_ret, ev_expr, ev_skip, ev_ifS, ev_if, ifK_t, ifK_f, ev_c, ev_yes, ev_and, ev_or, ev_not, cK_eq, ev_tb, ev_tru, ev_andV, ev_orV, ev_notV, bK_bool, notK_bool, ev_m2, m2K_eq, ev_m1, ev_nil, ev_cons, consK_eq, ev_tup, ev_lst, ev_slot, slotK_eq, ev_retO, retOK_eq, ev_name, ev_tup2, ev_tup3, ev_tgc, tgK_eq, ev_tgn, ev_call, callK_v1, callK_v2, callK_v3, callK2_v1, callK2_v2, callK2_v3, callK_b1, callK_b2, borK_eq, callK2_b1, callK2_b2, unK_eq, ev_bor, bor1K_eq, ev_lenO, lenOK_eq, listAt_eq, listK_eq, ev_ixO, ixO0_eq, ixO1_eq, ixO1'_eq, ixO2_0, ev_sub, subK0_eq, subK_eq, subK1_eq, subK2_eq, ev_app, appK0_eq, appK_eq, ev_ins, insK0_eq, insK'_eq, insK_eq, ev_ext, extK0_eq, extK_eq, ev_i1, ev_i2, i2K_eq, ev_lrg, ev_trg, ev_forS, one_eq, oneC_eq, oneE_t, oneE_f, oneX_eq, wipeE_nil, wipeE_cons, ev_comp, fnK_ret, fnK_next, mask_nil, mask_0, mask_1, v_addI, v_tupL, v_tupT, v_lstL, v_lstT, v_lenL, v_lenT, v_int, v_seqL, v_seqT, v_bool, v_truB, v_truI, v_eqI, v_eqB, v_neI, v_ixT, v_ixL, v_at0, v_at1, v_at2, v_at3, v_at4, v_at5, List.getElem?_cons_zero, List.getElem?_cons_succ, List.set_cons_zero, List.set_cons_succ, List.length_cons, List.length_nil, Nat.reduceAdd, Nat.reduceLT, Nat.reduceSub, if_true, List.map_cons, List.map_nil, List.cons_append, List.nil_append, List.replicate_succ, List.replicate_zero, Nat.zero_add, Nat.lt_add_left_iff_pos, Nat.zero_lt_succ, bodyK_eq]; rfl
        · simp -implicitDefEqProofs only [bind_ok, lift_some, okK_eq, liftK_eq, ev_seq, seqK_next, seqK_ret, ev_asg, asgK_eq, ev_ret, ev_expr, ev_skip, ev_ifS, ev_if, ifK_t, ifK_f, ev_c, ev_yes, ev_and, ev_or, ev_not, cK_eq, ev_tb, ev_tru, ev_andV, ev_orV, ev_notV, bK_bool, notK_bool, ev_m2, m2K_eq, ev_m1, ev_nil, ev_cons, consK_eq, ev_tup, ev_lst, ev_slot, slotK_eq, ev_retO, retOK_eq, ev_name, ev_tup2, ev_tup3, ev_tgc, tgK_eq, ev_tgn, ev_call, callK_v1, callK_v2, callK_v3, callK2_v1, callK2_v2, callK2_v3, callK_b1, callK_b2, borK_eq, callK2_b1, callK2_b2, unK_eq, ev_bor, bor1K_eq, ev_lenO, lenOK_eq, listAt_eq, listK_eq, ev_ixO, ixO0_eq, ixO1_eq, ixO1'_eq, ixO2_0, ev_sub, subK0_eq, subK_eq, subK1_eq, subK2_eq, ev_app, appK0_eq, appK_eq, ev_ins, insK0_eq, insK'_eq, insK_eq, ev_ext, extK0_eq, extK_eq, ev_i1, ev_i2, i2K_eq, ev_lrg, ev_trg, ev_forS, one_eq, oneC_eq, oneE_t, oneE_f, oneX_eq, wipeE_nil, wipeE_cons, ev_comp, fnK_ret, fnK_next, mask_nil, mask_0, mask_1, v_addI, v_tupL, v_tupT, v_lstL, v_lstT, v_lenL, v_lenT, v_int, v_seqL, v_seqT, v_bool, v_truB, v_truI, v_eqI, v_eqB, v_neI, v_ixT, v_ixL, v_at0, v_at1, v_at2, v_at3, v_at4, v_at5, List.getElem?_cons_zero, List.getElem?_cons_succ, List.set_cons_zero, List.set_cons_succ, List.length_cons, List.length_nil, Nat.reduceAdd, Nat.reduceLT, Nat.reduceSub, if_true, List.map_cons, List.map_nil, List.cons_append, List.nil_append, List.replicate_succ, List.replicate_zero, Nat.zero_add, Nat.lt_add_left_iff_pos, Nat.zero_lt_succ, bodyK_eq, prN])]
      have hl := fm_take_len (fun i => (((List.range k).filter (indR P R i)).map fun j => (i, j) : List (Nat × Nat))) k (fun i => row_len k _ i) (List.range i')
      have hl2 := flt_len k (indR P R i')
      rw [List.length_range] at hl
      have h3 : i' * k ≤ 400 * 400 := Nat.mul_le_mul (by omega) hk
      simp -implicitDefEqProofs only [bind_ok, lift_some, okK_eq, liftK_eq, ev_seq, seqK_next, seqK_ret, ev_asg, asgK_eq, ev_ret, ev_expr, ev_skip, ev_ifS, ev_if, ifK_t, ifK_f, ev_c, ev_yes, ev_and, ev_or, ev_not, cK_eq, ev_tb, ev_tru, ev_andV, ev_orV, ev_notV, bK_bool, notK_bool, ev_m2, m2K_eq, ev_m1, ev_nil, ev_cons, consK_eq, ev_tup, ev_lst, ev_slot, slotK_eq, ev_retO, retOK_eq, ev_name, ev_tup2, ev_tup3, ev_tgc, tgK_eq, ev_tgn, ev_call, callK_v1, callK_v2, callK_v3, callK2_v1, callK2_v2, callK2_v3, callK_b1, callK_b2, borK_eq, callK2_b1, callK2_b2, unK_eq, ev_bor, bor1K_eq, ev_lenO, lenOK_eq, listAt_eq, listK_eq, ev_ixO, ixO0_eq, ixO1_eq, ixO1'_eq, ixO2_0, ev_sub, subK0_eq, subK_eq, subK1_eq, subK2_eq, ev_app, appK0_eq, appK_eq, ev_ins, insK0_eq, insK'_eq, insK_eq, ev_ext, extK0_eq, extK_eq, ev_i1, ev_i2, i2K_eq, ev_lrg, ev_trg, ev_forS, one_eq, oneC_eq, oneE_t, oneE_f, oneX_eq, wipeE_nil, wipeE_cons, ev_comp, fnK_ret, fnK_next, mask_nil, mask_0, mask_1, v_addI, v_tupL, v_tupT, v_lstL, v_lstT, v_lenL, v_lenT, v_int, v_seqL, v_seqT, v_bool, v_truB, v_truI, v_eqI, v_eqB, v_neI, v_ixT, v_ixL, v_at0, v_at1, v_at2, v_at3, v_at4, v_at5, List.getElem?_cons_zero, List.getElem?_cons_succ, List.set_cons_zero, List.set_cons_succ, List.length_cons, List.length_nil, Nat.reduceAdd, Nat.reduceLT, Nat.reduceSub, if_true, List.map_cons, List.map_nil, List.cons_append, List.nil_append, List.replicate_succ, List.replicate_zero, Nat.zero_add, Nat.lt_add_left_iff_pos, Nat.zero_lt_succ, bodyK_eq]
      rw [v_addL _ _ (by
        simp only [List.length_map]
        unfold big
        omega)]
      simp -implicitDefEqProofs only [bind_ok, lift_some, okK_eq, liftK_eq, ev_seq, seqK_next, seqK_ret, ev_asg, asgK_eq, ev_ret, ev_expr, ev_skip, ev_ifS, ev_if, ifK_t, ifK_f, ev_c, ev_yes, ev_and, ev_or, ev_not, cK_eq, ev_tb, ev_tru, ev_andV, ev_orV, ev_notV, bK_bool, notK_bool, ev_m2, m2K_eq, ev_m1, ev_nil, ev_cons, consK_eq, ev_tup, ev_lst, ev_slot, slotK_eq, ev_retO, retOK_eq, ev_name, ev_tup2, ev_tup3, ev_tgc, tgK_eq, ev_tgn, ev_call, callK_v1, callK_v2, callK_v3, callK2_v1, callK2_v2, callK2_v3, callK_b1, callK_b2, borK_eq, callK2_b1, callK2_b2, unK_eq, ev_bor, bor1K_eq, ev_lenO, lenOK_eq, listAt_eq, listK_eq, ev_ixO, ixO0_eq, ixO1_eq, ixO1'_eq, ixO2_0, ev_sub, subK0_eq, subK_eq, subK1_eq, subK2_eq, ev_app, appK0_eq, appK_eq, ev_ins, insK0_eq, insK'_eq, insK_eq, ev_ext, extK0_eq, extK_eq, ev_i1, ev_i2, i2K_eq, ev_lrg, ev_trg, ev_forS, one_eq, oneC_eq, oneE_t, oneE_f, oneX_eq, wipeE_nil, wipeE_cons, ev_comp, fnK_ret, fnK_next, mask_nil, mask_0, mask_1, v_addI, v_tupL, v_tupT, v_lstL, v_lstT, v_lenL, v_lenT, v_int, v_seqL, v_seqT, v_bool, v_truB, v_truI, v_eqI, v_eqB, v_neI, v_ixT, v_ixL, v_at0, v_at1, v_at2, v_at3, v_at4, v_at5, List.getElem?_cons_zero, List.getElem?_cons_succ, List.set_cons_zero, List.set_cons_succ, List.length_cons, List.length_nil, Nat.reduceAdd, Nat.reduceLT, Nat.reduceSub, if_true, List.map_cons, List.map_nil, List.cons_append, List.nil_append, List.replicate_succ, List.replicate_zero, Nat.zero_add, Nat.lt_add_left_iff_pos, Nat.zero_lt_succ, bodyK_eq]
      rw [range_snoc, List.map_append, List.map_map]
      rfl)
  rw [e]
  obtain ⟨y3, y4, rfl⟩ := hI
  simp -implicitDefEqProofs only [bind_ok, lift_some, okK_eq, liftK_eq, ev_seq, seqK_next, seqK_ret, ev_asg, asgK_eq, ev_ret, ev_expr, ev_skip, ev_ifS, ev_if, ifK_t, ifK_f, ev_c, ev_yes, ev_and, ev_or, ev_not, cK_eq, ev_tb, ev_tru, ev_andV, ev_orV, ev_notV, bK_bool, notK_bool, ev_m2, m2K_eq, ev_m1, ev_nil, ev_cons, consK_eq, ev_tup, ev_lst, ev_slot, slotK_eq, ev_retO, retOK_eq, ev_name, ev_tup2, ev_tup3, ev_tgc, tgK_eq, ev_tgn, ev_call, callK_v1, callK_v2, callK_v3, callK2_v1, callK2_v2, callK2_v3, callK_b1, callK_b2, borK_eq, callK2_b1, callK2_b2, unK_eq, ev_bor, bor1K_eq, ev_lenO, lenOK_eq, listAt_eq, listK_eq, ev_ixO, ixO0_eq, ixO1_eq, ixO1'_eq, ixO2_0, ev_sub, subK0_eq, subK_eq, subK1_eq, subK2_eq, ev_app, appK0_eq, appK_eq, ev_ins, insK0_eq, insK'_eq, insK_eq, ev_ext, extK0_eq, extK_eq, ev_i1, ev_i2, i2K_eq, ev_lrg, ev_trg, ev_forS, one_eq, oneC_eq, oneE_t, oneE_f, oneX_eq, wipeE_nil, wipeE_cons, ev_comp, fnK_ret, fnK_next, mask_nil, mask_0, mask_1, v_addI, v_tupL, v_tupT, v_lstL, v_lstT, v_lenL, v_lenT, v_int, v_seqL, v_seqT, v_bool, v_truB, v_truI, v_eqI, v_eqB, v_neI, v_ixT, v_ixL, v_at0, v_at1, v_at2, v_at3, v_at4, v_at5, List.getElem?_cons_zero, List.getElem?_cons_succ, List.set_cons_zero, List.set_cons_succ, List.length_cons, List.length_nil, Nat.reduceAdd, Nat.reduceLT, Nat.reduceSub, if_true, List.map_cons, List.map_nil, List.cons_append, List.nil_append, List.replicate_succ, List.replicate_zero, Nat.zero_add, Nat.lt_add_left_iff_pos, Nat.zero_lt_succ, bodyK_eq, List.length_map, List.length_range]
  rfl
/-! ### the script's feed -/
def feedD (cells : List Int) (i : Nat) (cur left turn seed : Int) : D := .list [.list (cells.map .int), .int (i : Int), .int cur, .int left, .int turn, .int seed]
def Feed (d : D) : Prop := ∃ (cells : List Int) (i : Nat) (cur left turn seed : Int), d = feedD cells i cur left turn seed
theorem mulR (i j : Int) (h : -(2 ^ 64) < j ∧ j < 2 ^ 64) : fMul (.int i) (.int j) = some (.int (i * j)) := v_mulI _ _ (Or.inr h)
theorem v_mod (i j : Int) (h : 0 < j) : fMod (.int i) (.int j) = some (.int (i % j)) := by show (if _ then _ else _) = _; rw [if_pos h]
theorem v_div (i j : Int) (h : 0 < j) (h2 : j < 1073741824) : fDiv (.int i) (.int j) = some (.int (i / j)) := by show (if _ then _ else _) = _; rw [if_pos ⟨h, h2⟩]
theorem mix_ev (s t : Int) : ∃ v : Int, F__law_mix [.int s, .int t] = .ok (.int v) [none, none] := by
  unfold F__law_mix
  rw [ev_fn]
  unfold m__law_mix
  have h1 := Int.emod_nonneg (s * 40503 + t * 30103 + 7919) (show (1000000007 : Int) ≠ 0 by decide)
  have h2 := Int.emod_lt_of_pos (s * 40503 + t * 30103 + 7919) (show (0 : Int) < 1000000007 by decide)
  have e0 := mulR ((s * 40503 + t * 30103 + 7919) % 1000000007) ((s * 40503 + t * 30103 + 7919) % 1000000007) ⟨by omega, by omega⟩
  simp -implicitDefEqProofs only [bind_ok, lift_some, okK_eq, liftK_eq, ev_seq, seqK_next, seqK_ret, ev_asg, asgK_eq, ev_ret, ev_expr, ev_skip, ev_ifS, ev_if, ifK_t, ifK_f, ev_c, ev_yes, ev_and, ev_or, ev_not, cK_eq, ev_tb, ev_tru, ev_andV, ev_orV, ev_notV, bK_bool, notK_bool, ev_m2, m2K_eq, ev_m1, ev_nil, ev_cons, consK_eq, ev_tup, ev_lst, ev_slot, slotK_eq, ev_retO, retOK_eq, ev_name, ev_tup2, ev_tup3, ev_tgc, tgK_eq, ev_tgn, ev_call, callK_v1, callK_v2, callK_v3, callK2_v1, callK2_v2, callK2_v3, callK_b1, callK_b2, borK_eq, callK2_b1, callK2_b2, unK_eq, ev_bor, bor1K_eq, ev_lenO, lenOK_eq, listAt_eq, listK_eq, ev_ixO, ixO0_eq, ixO1_eq, ixO1'_eq, ixO2_0, ev_sub, subK0_eq, subK_eq, subK1_eq, subK2_eq, ev_app, appK0_eq, appK_eq, ev_ins, insK0_eq, insK'_eq, insK_eq, ev_ext, extK0_eq, extK_eq, ev_i1, ev_i2, i2K_eq, ev_lrg, ev_trg, ev_forS, one_eq, oneC_eq, oneE_t, oneE_f, oneX_eq, wipeE_nil, wipeE_cons, ev_comp, fnK_ret, fnK_next, mask_nil, mask_0, mask_1, v_addI, v_tupL, v_tupT, v_lstL, v_lstT, v_lenL, v_lenT, v_int, v_seqL, v_seqT, v_bool, v_truB, v_truI, v_eqI, v_eqB, v_neI, v_ixT, v_ixL, v_at0, v_at1, v_at2, v_at3, v_at4, v_at5, List.getElem?_cons_zero, List.getElem?_cons_succ, List.set_cons_zero, List.set_cons_succ, List.length_cons, List.length_nil, Nat.reduceAdd, Nat.reduceLT, Nat.reduceSub, if_true, List.map_cons, List.map_nil, List.cons_append, List.nil_append, List.replicate_succ, List.replicate_zero, Nat.zero_add, Nat.lt_add_left_iff_pos, Nat.zero_lt_succ, bodyK_eq, mulR s 40503 (by decide), mulR t 30103 (by decide), v_mod _ 1000000007 (by decide), e0, mulR t 9973 (by decide), v_div _ 3 (by decide) (by decide), v_mod _ 998244353 (by decide)]
  exact ⟨_, rfl⟩
theorem ixN61 : ixN 6 1 = some 1 := rfl
theorem ixN62 : ixN 6 2 = some 2 := rfl
theorem ixN63 : ixN 6 3 = some 3 := rfl
theorem ixN64 : ixN 6 4 = some 4 := rfl
theorem v_lt (i j : Int) : fLt (.int i) (.int j) = some (.bool (decide (i < j))) := rfl
theorem v_gt (i j : Int) : fGt (.int i) (.int j) = some (.bool (decide (j < i))) := rfl
theorem v_ge (i j : Int) : fGe (.int i) (.int j) = some (.bool (decide (j ≤ i))) := rfl
theorem v_sub (i j : Int) : fSub (.int i) (.int j) = some (.int (i - j)) := rfl
theorem v_pow18 : fPow (.int 10) (.int 18) = some (.int 1000000000000000000) := rfl
theorem pick_ev {d : D} (hd : Feed d) (many : Nat) (h0 : 0 < many) (h1 : many < 1073741824) : ∃ (k : Nat) (d' : D), F__law_pick [d, .int (many : Int)] = .ok (.int (k : Int)) [some d', none] ∧ k < many ∧ Feed d' := by
  obtain ⟨cells, i, cur, left, turn, seed, rfl⟩ := hd
  unfold F__law_pick
  rw [ev_fn]
  unfold m__law_pick
  have h0' : (0 : Int) < (many : Int) := by omega
  have h1' : (many : Int) < 1073741824 := by omega
  -- what stands behind the first if
  have step : ∀ (i : Nat) (cur left turn : Int), ∃ (k : Nat) (d' : D), fnK [1, 0] (mSeq (mIfS (mTB (m2 fGt (mIxO 0 0 (mC (.int 3))) (mC (.int 0)))) (mSeq (mAsg (m2 fMod (m1 fInt (mIxO 0 0 (mC (.int 2)))) (mSlot 1)) (tgName 2)) (mSeq (mAsg (m2 fDiv (mIxO 0 0 (mC (.int 2))) (mSlot 1)) (tgSub 0 (mC (.int 2)))) (mSeq (mAsg (mIf (mTB (m2 fGt (mIxO 0 0 (mC (.int 2))) (mC (.int 0)))) (m2 fSub (mIxO 0 0 (mC (.int 3))) (mC (.int 1))) (mC (.int 0))) (tgSub 0 (mC (.int 3)))) (mRetO 2)))) (mSkip)) (mSeq (mAsg (m2 fAdd (mIxO 0 0 (mC (.int 4))) (mC (.int 1))) (tgSub 0 (mC (.int 4)))) (mRet (m2 fMod (m1 fInt (mCall F__law_mix [.val, .val] (mCons (mIxO 0 0 (mC (.int 5))) (mCons (mIxO 0 0 (mC (.int 4))) (mNil))))) (mSlot 1))))
      [some (feedD cells i cur left turn seed), some (.int (many : Int)), none]) = .ok (.int (k : Int)) [some d', none] ∧ k < many ∧ Feed d' := by
    intro i cur left turn
    by_cases hl : (0 : Int) < left
    · have hc : decide ((0 : Int) < left) = true := decide_eq_true hl
      have hn := Int.emod_nonneg cur (show (many : Int) ≠ 0 by omega)
      have hlt := Int.emod_lt_of_pos cur h0'
      have ek : cur % (many : Int) = ((cur % (many : Int)).toNat : Int) := (Int.toNat_of_nonneg hn).symm
      by_cases h2 : (0 : Int) < cur / (many : Int)
      · have hc2 : decide ((0 : Int) < cur / (many : Int)) = true := decide_eq_true h2
        refine ⟨(cur % (many : Int)).toNat, feedD cells i (cur / (many : Int)) (left - 1) turn seed, ?_, by omega, _, _, _, _, _, _, rfl⟩
        simp -implicitDefEqProofs only [bind_ok, lift_some, okK_eq, liftK_eq, ev_seq, seqK_next, seqK_ret, ev_asg, asgK_eq, ev_ret, ev_expr, ev_skip, ev_ifS, ev_if, ifK_t, ifK_f, ev_c, ev_yes, ev_and, ev_or, ev_not, cK_eq, ev_tb, ev_tru, ev_andV, ev_orV, ev_notV, bK_bool, notK_bool, ev_m2, m2K_eq, ev_m1, ev_nil, ev_cons, consK_eq, ev_tup, ev_lst, ev_slot, slotK_eq, ev_retO, retOK_eq, ev_name, ev_tup2, ev_tup3, ev_tgc, tgK_eq, ev_tgn, ev_call, callK_v1, callK_v2, callK_v3, callK2_v1, callK2_v2, callK2_v3, callK_b1, callK_b2, borK_eq, callK2_b1, callK2_b2, unK_eq, ev_bor, bor1K_eq, ev_lenO, lenOK_eq, listAt_eq, listK_eq, ev_ixO, ixO0_eq, ixO1_eq, ixO1'_eq, ixO2_0, ev_sub, subK0_eq, subK_eq, subK1_eq, subK2_eq, ev_app, appK0_eq, appK_eq, ev_ins, insK0_eq, insK'_eq, insK_eq, ev_ext, extK0_eq, extK_eq, ev_i1, ev_i2, i2K_eq, ev_lrg, ev_trg, ev_forS, one_eq, oneC_eq, oneE_t, oneE_f, oneX_eq, wipeE_nil, wipeE_cons, ev_comp, fnK_ret, fnK_next, mask_nil, mask_0, mask_1, v_addI, v_tupL, v_tupT, v_lstL, v_lstT, v_lenL, v_lenT, v_int, v_seqL, v_seqT, v_bool, v_truB, v_truI, v_eqI, v_eqB, v_neI, v_ixT, v_ixL, v_at0, v_at1, v_at2, v_at3, v_at4, v_at5, List.getElem?_cons_zero, List.getElem?_cons_succ, List.set_cons_zero, List.set_cons_succ, List.length_cons, List.length_nil, Nat.reduceAdd, Nat.reduceLT, Nat.reduceSub, if_true, List.map_cons, List.map_nil, List.cons_append, List.nil_append, List.replicate_succ, List.replicate_zero, Nat.zero_add, Nat.lt_add_left_iff_pos, Nat.zero_lt_succ, bodyK_eq, feedD, v_gt, hc, v_mod _ _ h0', v_div _ _ h0' h1', ixN62, ixN63, hc2, v_sub]
        rw [← ek]
      · have hc2 : decide ((0 : Int) < cur / (many : Int)) = false := decide_eq_false h2
        refine ⟨(cur % (many : Int)).toNat, feedD cells i (cur / (many : Int)) 0 turn seed, ?_, by omega, _, _, _, _, _, _, rfl⟩
        simp -implicitDefEqProofs only [bind_ok, lift_some, okK_eq, liftK_eq, ev_seq, seqK_next, seqK_ret, ev_asg, asgK_eq, ev_ret, ev_expr, ev_skip, ev_ifS, ev_if, ifK_t, ifK_f, ev_c, ev_yes, ev_and, ev_or, ev_not, cK_eq, ev_tb, ev_tru, ev_andV, ev_orV, ev_notV, bK_bool, notK_bool, ev_m2, m2K_eq, ev_m1, ev_nil, ev_cons, consK_eq, ev_tup, ev_lst, ev_slot, slotK_eq, ev_retO, retOK_eq, ev_name, ev_tup2, ev_tup3, ev_tgc, tgK_eq, ev_tgn, ev_call, callK_v1, callK_v2, callK_v3, callK2_v1, callK2_v2, callK2_v3, callK_b1, callK_b2, borK_eq, callK2_b1, callK2_b2, unK_eq, ev_bor, bor1K_eq, ev_lenO, lenOK_eq, listAt_eq, listK_eq, ev_ixO, ixO0_eq, ixO1_eq, ixO1'_eq, ixO2_0, ev_sub, subK0_eq, subK_eq, subK1_eq, subK2_eq, ev_app, appK0_eq, appK_eq, ev_ins, insK0_eq, insK'_eq, insK_eq, ev_ext, extK0_eq, extK_eq, ev_i1, ev_i2, i2K_eq, ev_lrg, ev_trg, ev_forS, one_eq, oneC_eq, oneE_t, oneE_f, oneX_eq, wipeE_nil, wipeE_cons, ev_comp, fnK_ret, fnK_next, mask_nil, mask_0, mask_1, v_addI, v_tupL, v_tupT, v_lstL, v_lstT, v_lenL, v_lenT, v_int, v_seqL, v_seqT, v_bool, v_truB, v_truI, v_eqI, v_eqB, v_neI, v_ixT, v_ixL, v_at0, v_at1, v_at2, v_at3, v_at4, v_at5, List.getElem?_cons_zero, List.getElem?_cons_succ, List.set_cons_zero, List.set_cons_succ, List.length_cons, List.length_nil, Nat.reduceAdd, Nat.reduceLT, Nat.reduceSub, if_true, List.map_cons, List.map_nil, List.cons_append, List.nil_append, List.replicate_succ, List.replicate_zero, Nat.zero_add, Nat.lt_add_left_iff_pos, Nat.zero_lt_succ, bodyK_eq, feedD, v_gt, hc, v_mod _ _ h0', v_div _ _ h0' h1', ixN62, ixN63, hc2, v_sub]
        rw [← ek]
    · have hc : decide ((0 : Int) < left) = false := decide_eq_false hl
      obtain ⟨v, hv⟩ := mix_ev seed (turn + 1)
      have hn := Int.emod_nonneg v (show (many : Int) ≠ 0 by omega)
      have hlt := Int.emod_lt_of_pos v h0'
      have ek : v % (many : Int) = ((v % (many : Int)).toNat : Int) := (Int.toNat_of_nonneg hn).symm
      refine ⟨(v % (many : Int)).toNat, feedD cells i cur left (turn + 1) seed, ?_, by omega, _, _, _, _, _, _, rfl⟩
      simp -implicitDefEqProofs only [bind_ok, lift_some, okK_eq, liftK_eq, ev_seq, seqK_next, seqK_ret, ev_asg, asgK_eq, ev_ret, ev_expr, ev_skip, ev_ifS, ev_if, ifK_t, ifK_f, ev_c, ev_yes, ev_and, ev_or, ev_not, cK_eq, ev_tb, ev_tru, ev_andV, ev_orV, ev_notV, bK_bool, notK_bool, ev_m2, m2K_eq, ev_m1, ev_nil, ev_cons, consK_eq, ev_tup, ev_lst, ev_slot, slotK_eq, ev_retO, retOK_eq, ev_name, ev_tup2, ev_tup3, ev_tgc, tgK_eq, ev_tgn, ev_call, callK_v1, callK_v2, callK_v3, callK2_v1, callK2_v2, callK2_v3, callK_b1, callK_b2, borK_eq, callK2_b1, callK2_b2, unK_eq, ev_bor, bor1K_eq, ev_lenO, lenOK_eq, listAt_eq, listK_eq, ev_ixO, ixO0_eq, ixO1_eq, ixO1'_eq, ixO2_0, ev_sub, subK0_eq, subK_eq, subK1_eq, subK2_eq, ev_app, appK0_eq, appK_eq, ev_ins, insK0_eq, insK'_eq, insK_eq, ev_ext, extK0_eq, extK_eq, ev_i1, ev_i2, i2K_eq, ev_lrg, ev_trg, ev_forS, one_eq, oneC_eq, oneE_t, oneE_f, oneX_eq, wipeE_nil, wipeE_cons, ev_comp, fnK_ret, fnK_next, mask_nil, mask_0, mask_1, v_addI, v_tupL, v_tupT, v_lstL, v_lstT, v_lenL, v_lenT, v_int, v_seqL, v_seqT, v_bool, v_truB, v_truI, v_eqI, v_eqB, v_neI, v_ixT, v_ixL, v_at0, v_at1, v_at2, v_at3, v_at4, v_at5, List.getElem?_cons_zero, List.getElem?_cons_succ, List.set_cons_zero, List.set_cons_succ, List.length_cons, List.length_nil, Nat.reduceAdd, Nat.reduceLT, Nat.reduceSub, if_true, List.map_cons, List.map_nil, List.cons_append, List.nil_append, List.replicate_succ, List.replicate_zero, Nat.zero_add, Nat.lt_add_left_iff_pos, Nat.zero_lt_succ, bodyK_eq, feedD, v_gt, hc, v_mod _ _ h0', ixN64, hv]
      rw [← ek]
  by_cases hc : left = 0 ∧ (i : Int) < (cells.length : Int)
  · obtain ⟨rfl, hi⟩ := hc
    have hi' : i < cells.length := by omega
    have hat : atI (cells.map PyData.int) (i : Int) = some (.int cells[i]) := atI_nat (by rw [List.getElem?_map, List.getElem?_eq_getElem hi']; rfl)
    have hc2 : decide ((i : Int) < (cells.length : Int)) = true := decide_eq_true hi
    have e00 : ((0 : Int) == 0) = true := rfl
    have ei : (i : Int) + 1 = ((i + 1 : Nat) : Int) := by omega
    by_cases h2 : (1000000000000000000 : Int) ≤ cells[i]
    · have hc3 : decide ((1000000000000000000 : Int) ≤ cells[i]) = true := decide_eq_true h2
      obtain ⟨k, d', e, r⟩ := step (i + 1) cells[i] 60 turn
      refine ⟨k, d', ?_, r⟩
      unfold feedD at e
      rw [← e]
      rw [ev_seq]
      simp -implicitDefEqProofs only [bind_ok, lift_some, okK_eq, liftK_eq, ev_seq, seqK_next, seqK_ret, ev_asg, asgK_eq, ev_ret, ev_expr, ev_skip, ev_ifS, ev_if, ifK_t, ifK_f, ev_c, ev_yes, ev_and, ev_or, ev_not, cK_eq, ev_tb, ev_tru, ev_andV, ev_orV, ev_notV, bK_bool, notK_bool, ev_m2, m2K_eq, ev_m1, ev_nil, ev_cons, consK_eq, ev_tup, ev_lst, ev_slot, slotK_eq, ev_retO, retOK_eq, ev_name, ev_tup2, ev_tup3, ev_tgc, tgK_eq, ev_tgn, ev_call, callK_v1, callK_v2, callK_v3, callK2_v1, callK2_v2, callK2_v3, callK_b1, callK_b2, borK_eq, callK2_b1, callK2_b2, unK_eq, ev_bor, bor1K_eq, ev_lenO, lenOK_eq, listAt_eq, listK_eq, ev_ixO, ixO0_eq, ixO1_eq, ixO1'_eq, ixO2_0, ev_sub, subK0_eq, subK_eq, subK1_eq, subK2_eq, ev_app, appK0_eq, appK_eq, ev_ins, insK0_eq, insK'_eq, insK_eq, ev_ext, extK0_eq, extK_eq, ev_i1, ev_i2, i2K_eq, ev_lrg, ev_trg, ev_forS, one_eq, oneC_eq, oneE_t, oneE_f, oneX_eq, wipeE_nil, wipeE_cons, ev_comp, fnK_ret, fnK_next, mask_nil, mask_0, mask_1, v_addI, v_tupL, v_tupT, v_lstL, v_lstT, v_lenL, v_lenT, v_int, v_seqL, v_seqT, v_bool, v_truB, v_truI, v_eqI, v_eqB, v_neI, v_ixT, v_ixL, v_at0, v_at1, v_at2, v_at3, v_at4, v_at5, List.getElem?_cons_zero, List.getElem?_cons_succ, List.set_cons_zero, List.set_cons_succ, List.length_cons, List.length_nil, Nat.reduceAdd, Nat.reduceLT, Nat.reduceSub, if_true, List.map_cons, List.map_nil, List.cons_append, List.nil_append, List.replicate_succ, List.replicate_zero, Nat.zero_add, Nat.lt_add_left_iff_pos, Nat.zero_lt_succ, bodyK_eq, feedD, v_lt, v_ge, v_pow18, e00, List.length_map, hc2, hat, ixN61, ixN62, ixN63, hc3, ei]
    · have hc3 : decide ((1000000000000000000 : Int) ≤ cells[i]) = false := decide_eq_false h2
      obtain ⟨k, d', e, r⟩ := step (i + 1) cells[i] 0 turn
      refine ⟨k, d', ?_, r⟩
      unfold feedD at e
      rw [← e]
      rw [ev_seq]
      simp -implicitDefEqProofs only [bind_ok, lift_some, okK_eq, liftK_eq, ev_seq, seqK_next, seqK_ret, ev_asg, asgK_eq, ev_ret, ev_expr, ev_skip, ev_ifS, ev_if, ifK_t, ifK_f, ev_c, ev_yes, ev_and, ev_or, ev_not, cK_eq, ev_tb, ev_tru, ev_andV, ev_orV, ev_notV, bK_bool, notK_bool, ev_m2, m2K_eq, ev_m1, ev_nil, ev_cons, consK_eq, ev_tup, ev_lst, ev_slot, slotK_eq, ev_retO, retOK_eq, ev_name, ev_tup2, ev_tup3, ev_tgc, tgK_eq, ev_tgn, ev_call, callK_v1, callK_v2, callK_v3, callK2_v1, callK2_v2, callK2_v3, callK_b1, callK_b2, borK_eq, callK2_b1, callK2_b2, unK_eq, ev_bor, bor1K_eq, ev_lenO, lenOK_eq, listAt_eq, listK_eq, ev_ixO, ixO0_eq, ixO1_eq, ixO1'_eq, ixO2_0, ev_sub, subK0_eq, subK_eq, subK1_eq, subK2_eq, ev_app, appK0_eq, appK_eq, ev_ins, insK0_eq, insK'_eq, insK_eq, ev_ext, extK0_eq, extK_eq, ev_i1, ev_i2, i2K_eq, ev_lrg, ev_trg, ev_forS, one_eq, oneC_eq, oneE_t, oneE_f, oneX_eq, wipeE_nil, wipeE_cons, ev_comp, fnK_ret, fnK_next, mask_nil, mask_0, mask_1, v_addI, v_tupL, v_tupT, v_lstL, v_lstT, v_lenL, v_lenT, v_int, v_seqL, v_seqT, v_bool, v_truB, v_truI, v_eqI, v_eqB, v_neI, v_ixT, v_ixL, v_at0, v_at1, v_at2, v_at3, v_at4, v_at5, List.getElem?_cons_zero, List.getElem?_cons_succ, List.set_cons_zero, List.set_cons_succ, List.length_cons, List.length_nil, Nat.reduceAdd, Nat.reduceLT, Nat.reduceSub, if_true, List.map_cons, List.map_nil, List.cons_append, List.nil_append, List.replicate_succ, List.replicate_zero, Nat.zero_add, Nat.lt_add_left_iff_pos, Nat.zero_lt_succ, bodyK_eq, feedD, v_lt, v_ge, v_pow18, e00, List.length_map, hc2, hat, ixN61, ixN62, ixN63, hc3, ei]
  · obtain ⟨k, d', e, r⟩ := step i cur left turn
    refine ⟨k, d', ?_, r⟩
    rw [← e]
    unfold feedD
    rw [ev_seq]
    by_cases hz : left = 0
    · have hi : ¬ (i : Int) < (cells.length : Int) := fun z => hc ⟨hz, z⟩
      have hc2 : decide ((i : Int) < (cells.length : Int)) = false := decide_eq_false hi
      subst hz
      have e00 : ((0 : Int) == 0) = true := rfl
      simp -implicitDefEqProofs only [bind_ok, lift_some, okK_eq, liftK_eq, ev_seq, seqK_next, seqK_ret, ev_asg, asgK_eq, ev_ret, ev_expr, ev_skip, ev_ifS, ev_if, ifK_t, ifK_f, ev_c, ev_yes, ev_and, ev_or, ev_not, cK_eq, ev_tb, ev_tru, ev_andV, ev_orV, ev_notV, bK_bool, notK_bool, ev_m2, m2K_eq, ev_m1, ev_nil, ev_cons, consK_eq, ev_tup, ev_lst, ev_slot, slotK_eq, ev_retO, retOK_eq, ev_name, ev_tup2, ev_tup3, ev_tgc, tgK_eq, ev_tgn, ev_call, callK_v1, callK_v2, callK_v3, callK2_v1, callK2_v2, callK2_v3, callK_b1, callK_b2, borK_eq, callK2_b1, callK2_b2, unK_eq, ev_bor, bor1K_eq, ev_lenO, lenOK_eq, listAt_eq, listK_eq, ev_ixO, ixO0_eq, ixO1_eq, ixO1'_eq, ixO2_0, ev_sub, subK0_eq, subK_eq, subK1_eq, subK2_eq, ev_app, appK0_eq, appK_eq, ev_ins, insK0_eq, insK'_eq, insK_eq, ev_ext, extK0_eq, extK_eq, ev_i1, ev_i2, i2K_eq, ev_lrg, ev_trg, ev_forS, one_eq, oneC_eq, oneE_t, oneE_f, oneX_eq, wipeE_nil, wipeE_cons, ev_comp, fnK_ret, fnK_next, mask_nil, mask_0, mask_1, v_addI, v_tupL, v_tupT, v_lstL, v_lstT, v_lenL, v_lenT, v_int, v_seqL, v_seqT, v_bool, v_truB, v_truI, v_eqI, v_eqB, v_neI, v_ixT, v_ixL, v_at0, v_at1, v_at2, v_at3, v_at4, v_at5, List.getElem?_cons_zero, List.getElem?_cons_succ, List.set_cons_zero, List.set_cons_succ, List.length_cons, List.length_nil, Nat.reduceAdd, Nat.reduceLT, Nat.reduceSub, if_true, List.map_cons, List.map_nil, List.cons_append, List.nil_append, List.replicate_succ, List.replicate_zero, Nat.zero_add, Nat.lt_add_left_iff_pos, Nat.zero_lt_succ, bodyK_eq, v_lt, e00, List.length_map, hc2]
    · have hc2 : (left == (0 : Int)) = false := beq_eq_false_iff_ne.mpr hz
      simp -implicitDefEqProofs only [bind_ok, lift_some, okK_eq, liftK_eq, ev_seq, seqK_next, seqK_ret, ev_asg, asgK_eq, ev_ret, ev_expr, ev_skip, ev_ifS, ev_if, ifK_t, ifK_f, ev_c, ev_yes, ev_and, ev_or, ev_not, cK_eq, ev_tb, ev_tru, ev_andV, ev_orV, ev_notV, bK_bool, notK_bool, ev_m2, m2K_eq, ev_m1, ev_nil, ev_cons, consK_eq, ev_tup, ev_lst, ev_slot, slotK_eq, ev_retO, retOK_eq, ev_name, ev_tup2, ev_tup3, ev_tgc, tgK_eq, ev_tgn, ev_call, callK_v1, callK_v2, callK_v3, callK2_v1, callK2_v2, callK2_v3, callK_b1, callK_b2, borK_eq, callK2_b1, callK2_b2, unK_eq, ev_bor, bor1K_eq, ev_lenO, lenOK_eq, listAt_eq, listK_eq, ev_ixO, ixO0_eq, ixO1_eq, ixO1'_eq, ixO2_0, ev_sub, subK0_eq, subK_eq, subK1_eq, subK2_eq, ev_app, appK0_eq, appK_eq, ev_ins, insK0_eq, insK'_eq, insK_eq, ev_ext, extK0_eq, extK_eq, ev_i1, ev_i2, i2K_eq, ev_lrg, ev_trg, ev_forS, one_eq, oneC_eq, oneE_t, oneE_f, oneX_eq, wipeE_nil, wipeE_cons, ev_comp, fnK_ret, fnK_next, mask_nil, mask_0, mask_1, v_addI, v_tupL, v_tupT, v_lstL, v_lstT, v_lenL, v_lenT, v_int, v_seqL, v_seqT, v_bool, v_truB, v_truI, v_eqI, v_eqB, v_neI, v_ixT, v_ixL, v_at0, v_at1, v_at2, v_at3, v_at4, v_at5, List.getElem?_cons_zero, List.getElem?_cons_succ, List.set_cons_zero, List.set_cons_succ, List.length_cons, List.length_nil, Nat.reduceAdd, Nat.reduceLT, Nat.reduceSub, if_true, List.map_cons, List.map_nil, List.cons_append, List.nil_append, List.replicate_succ, List.replicate_zero, Nat.zero_add, Nat.lt_add_left_iff_pos, Nat.zero_lt_succ, bodyK_eq, v_lt, hc2]
end Mir

set_option Elab.async false
set_option linter.all false
set_option maxRecDepth 100000
set_option maxHeartbeats 4000000
namespace Mir
open PySem PySem.Spec PyProof.Rows L2
/-! slices -/
def slL (l h : M (Option Int)) (d : D) : M D := fun ρ => (l ρ).bind fun lo ρ => (h ρ).bind fun hi ρ => .lift (fSl d lo hi) ρ
def slH (d : D) (h : M (Option Int)) (lo : Option Int) : M D := fun ρ => (h ρ).bind (liftK (fSl d lo))
theorem ev_sl (a : M D) (l h : M (Option Int)) (ρ : Env) : mSl a l h ρ = (a ρ).bind (slL l h) := rfl
theorem slL_eq (l h : M (Option Int)) (d : D) (ρ : Env) : slL l h d ρ = (l ρ).bind (slH d h) := rfl
theorem slH_eq (d : D) (h : M (Option Int)) (lo : Option Int) (ρ : Env) : slH d h lo ρ = (h ρ).bind (liftK (fSl d lo)) := rfl
theorem ev_noP (ρ : Env) : mNoP ρ = .ok none ρ := rfl
theorem ev_part (m : M D) (ρ : Env) : mPart m ρ = (m ρ).bind (liftK intD) := rfl
theorem v_intD (i : Int) : intD (.int i) = some (some i) := rfl
theorem v_slL (ds : List D) (lo hi : Option Int) : fSl (.list ds) lo hi = some (.list (cutD ds lo hi)) := rfl
theorem v_slT (ds : List D) (lo hi : Option Int) : fSl (.tuple ds) lo hi = some (.tuple (cutD ds lo hi)) := rfl
theorem cut_map {α : Type} (f : α → D) (xs : List α) (lo hi : Option Int) : ∃ ys : List α, cutD (xs.map f) lo hi = ys.map f ∧ ys.Sublist xs := by
  unfold cutD
  rw [← List.map_drop, ← List.map_take]
  exact ⟨_, rfl, (List.take_sublist _ _).trans (List.drop_sublist _ _)⟩
theorem v_seqS (ds : List D) : fSeq (scrD ds) = some ds := rfl
theorem open_ev (ns : List Int) (h : ns.length ≤ 1000) : ∃ d, F__law_open [scrD (ns.map .int)] = .ok d [none] ∧ Feed d := by
  obtain ⟨ms, hc, hs⟩ := cut_map PyData.int ns none (some 63)
  have hl := hs.length_le
  unfold F__law_open
  rw [ev_fn]
  unfold m__law_open
  simp -implicitDefEqProofs only [bind_ok, lift_some, okK_eq, liftK_eq, ev_seq, seqK_next, seqK_ret, ev_asg, asgK_eq, ev_ret, ev_expr, ev_skip, ev_ifS, ev_if, ifK_t, ifK_f, ev_c, ev_yes, ev_and, ev_or, ev_not, cK_eq, ev_tb, ev_tru, ev_andV, ev_orV, ev_notV, bK_bool, notK_bool, ev_m2, m2K_eq, ev_m1, ev_nil, ev_cons, consK_eq, ev_tup, ev_lst, ev_slot, slotK_eq, ev_retO, retOK_eq, ev_name, ev_tup2, ev_tup3, ev_tgc, tgK_eq, ev_tgn, ev_call, callK_v1, callK_v2, callK_v3, callK2_v1, callK2_v2, callK2_v3, callK_b1, callK_b2, borK_eq, callK2_b1, callK2_b2, unK_eq, ev_bor, bor1K_eq, ev_lenO, lenOK_eq, listAt_eq, listK_eq, ev_ixO, ixO0_eq, ixO1_eq, ixO1'_eq, ixO2_0, ev_sub, subK0_eq, subK_eq, subK1_eq, subK2_eq, ev_app, appK0_eq, appK_eq, ev_ins, insK0_eq, insK'_eq, insK_eq, ev_ext, extK0_eq, extK_eq, ev_i1, ev_i2, i2K_eq, ev_lrg, ev_trg, ev_forS, one_eq, oneC_eq, oneE_t, oneE_f, oneX_eq, wipeE_nil, wipeE_cons, ev_comp, fnK_ret, fnK_next, mask_nil, mask_0, mask_1, v_addI, v_tupL, v_tupT, v_lstL, v_lstT, v_lenL, v_lenT, v_int, v_seqL, v_seqT, v_bool, v_truB, v_truI, v_eqI, v_eqB, v_neI, v_ixT, v_ixL, v_at0, v_at1, v_at2, v_at3, v_at4, v_at5, List.getElem?_cons_zero, List.getElem?_cons_succ, List.set_cons_zero, List.set_cons_succ, List.length_cons, List.length_nil, Nat.reduceAdd, Nat.reduceLT, Nat.reduceSub, if_true, List.map_cons, List.map_nil, List.cons_append, List.nil_append, List.replicate_succ, List.replicate_zero, Nat.zero_add, Nat.lt_add_left_iff_pos, Nat.zero_lt_succ, bodyK_eq, ev_sl, v_seqS]
  rw [compK_map ns PyData.int PyData.int (by unfold big; omega) (fun n _ => by simp -implicitDefEqProofs only [bind_ok, lift_some, okK_eq, liftK_eq, ev_seq, seqK_next, seqK_ret, ev_asg, asgK_eq, ev_ret, ev_expr, ev_skip, ev_ifS, ev_if, ifK_t, ifK_f, ev_c, ev_yes, ev_and, ev_or, ev_not, cK_eq, ev_tb, ev_tru, ev_andV, ev_orV, ev_notV, bK_bool, notK_bool, ev_m2, m2K_eq, ev_m1, ev_nil, ev_cons, consK_eq, ev_tup, ev_lst, ev_slot, slotK_eq, ev_retO, retOK_eq, ev_name, ev_tup2, ev_tup3, ev_tgc, tgK_eq, ev_tgn, ev_call, callK_v1, callK_v2, callK_v3, callK2_v1, callK2_v2, callK2_v3, callK_b1, callK_b2, borK_eq, callK2_b1, callK2_b2, unK_eq, ev_bor, bor1K_eq, ev_lenO, lenOK_eq, listAt_eq, listK_eq, ev_ixO, ixO0_eq, ixO1_eq, ixO1'_eq, ixO2_0, ev_sub, subK0_eq, subK_eq, subK1_eq, subK2_eq, ev_app, appK0_eq, appK_eq, ev_ins, insK0_eq, insK'_eq, insK_eq, ev_ext, extK0_eq, extK_eq, ev_i1, ev_i2, i2K_eq, ev_lrg, ev_trg, ev_forS, one_eq, oneC_eq, oneE_t, oneE_f, oneX_eq, wipeE_nil, wipeE_cons, ev_comp, fnK_ret, fnK_next, mask_nil, mask_0, mask_1, v_addI, v_tupL, v_tupT, v_lstL, v_lstT, v_lenL, v_lenT, v_int, v_seqL, v_seqT, v_bool, v_truB, v_truI, v_eqI, v_eqB, v_neI, v_ixT, v_ixL, v_at0, v_at1, v_at2, v_at3, v_at4, v_at5, List.getElem?_cons_zero, List.getElem?_cons_succ, List.set_cons_zero, List.set_cons_succ, List.length_cons, List.length_nil, Nat.reduceAdd, Nat.reduceLT, Nat.reduceSub, if_true, List.map_cons, List.map_nil, List.cons_append, List.nil_append, List.replicate_succ, List.replicate_zero, Nat.zero_add, Nat.lt_add_left_iff_pos, Nat.zero_lt_succ, bodyK_eq])]
  simp -implicitDefEqProofs only [bind_ok, lift_some, okK_eq, liftK_eq, ev_seq, seqK_next, seqK_ret, ev_asg, asgK_eq, ev_ret, ev_expr, ev_skip, ev_ifS, ev_if, ifK_t, ifK_f, ev_c, ev_yes, ev_and, ev_or, ev_not, cK_eq, ev_tb, ev_tru, ev_andV, ev_orV, ev_notV, bK_bool, notK_bool, ev_m2, m2K_eq, ev_m1, ev_nil, ev_cons, consK_eq, ev_tup, ev_lst, ev_slot, slotK_eq, ev_retO, retOK_eq, ev_name, ev_tup2, ev_tup3, ev_tgc, tgK_eq, ev_tgn, ev_call, callK_v1, callK_v2, callK_v3, callK2_v1, callK2_v2, callK2_v3, callK_b1, callK_b2, borK_eq, callK2_b1, callK2_b2, unK_eq, ev_bor, bor1K_eq, ev_lenO, lenOK_eq, listAt_eq, listK_eq, ev_ixO, ixO0_eq, ixO1_eq, ixO1'_eq, ixO2_0, ev_sub, subK0_eq, subK_eq, subK1_eq, subK2_eq, ev_app, appK0_eq, appK_eq, ev_ins, insK0_eq, insK'_eq, insK_eq, ev_ext, extK0_eq, extK_eq, ev_i1, ev_i2, i2K_eq, ev_lrg, ev_trg, ev_forS, one_eq, oneC_eq, oneE_t, oneE_f, oneX_eq, wipeE_nil, wipeE_cons, ev_comp, fnK_ret, fnK_next, mask_nil, mask_0, mask_1, v_addI, v_tupL, v_tupT, v_lstL, v_lstT, v_lenL, v_lenT, v_int, v_seqL, v_seqT, v_bool, v_truB, v_truI, v_eqI, v_eqB, v_neI, v_ixT, v_ixL, v_at0, v_at1, v_at2, v_at3, v_at4, v_at5, List.getElem?_cons_zero, List.getElem?_cons_succ, List.set_cons_zero, List.set_cons_succ, List.length_cons, List.length_nil, Nat.reduceAdd, Nat.reduceLT, Nat.reduceSub, if_true, List.map_cons, List.map_nil, List.cons_append, List.nil_append, List.replicate_succ, List.replicate_zero, Nat.zero_add, Nat.lt_add_left_iff_pos, Nat.zero_lt_succ, bodyK_eq, ev_sl, slL_eq, slH_eq, ev_noP, ev_part, v_intD, v_slL, hc]
  obtain ⟨ρ', e, s, y, hI⟩ := for_ix PyData.int (tgName 3) (mAsg (m2 fMod (m1 fInt (m2 fAdd (m2 fMul (mSlot 2) (mC (.int 257))) (mSlot 3))) (mC (.int 1000000007))) (tgName 2))
    (fun i ρ => ∃ (s : Int) (y : Option D), ρ = [some (scrD (ns.map .int)), some (.list (ms.map .int)), some (.int s), y]) ms
    [some (scrD (ns.map .int)), some (.list (ms.map .int)), some (.int (17 + ((ms.map PyData.int).length : Int))), none] ⟨_, none, rfl⟩ (by
      rintro i c ρ _ ⟨s, y, rfl⟩
      refine ⟨_, ?_, (s * 257 + c) % 1000000007, some (.int c), rfl⟩
      simp -implicitDefEqProofs only [bind_ok, lift_some, okK_eq, liftK_eq, ev_seq, seqK_next, seqK_ret, ev_asg, asgK_eq, ev_ret, ev_expr, ev_skip, ev_ifS, ev_if, ifK_t, ifK_f, ev_c, ev_yes, ev_and, ev_or, ev_not, cK_eq, ev_tb, ev_tru, ev_andV, ev_orV, ev_notV, bK_bool, notK_bool, ev_m2, m2K_eq, ev_m1, ev_nil, ev_cons, consK_eq, ev_tup, ev_lst, ev_slot, slotK_eq, ev_retO, retOK_eq, ev_name, ev_tup2, ev_tup3, ev_tgc, tgK_eq, ev_tgn, ev_call, callK_v1, callK_v2, callK_v3, callK2_v1, callK2_v2, callK2_v3, callK_b1, callK_b2, borK_eq, callK2_b1, callK2_b2, unK_eq, ev_bor, bor1K_eq, ev_lenO, lenOK_eq, listAt_eq, listK_eq, ev_ixO, ixO0_eq, ixO1_eq, ixO1'_eq, ixO2_0, ev_sub, subK0_eq, subK_eq, subK1_eq, subK2_eq, ev_app, appK0_eq, appK_eq, ev_ins, insK0_eq, insK'_eq, insK_eq, ev_ext, extK0_eq, extK_eq, ev_i1, ev_i2, i2K_eq, ev_lrg, ev_trg, ev_forS, one_eq, oneC_eq, oneE_t, oneE_f, oneX_eq, wipeE_nil, wipeE_cons, ev_comp, fnK_ret, fnK_next, mask_nil, mask_0, mask_1, v_addI, v_tupL, v_tupT, v_lstL, v_lstT, v_lenL, v_lenT, v_int, v_seqL, v_seqT, v_bool, v_truB, v_truI, v_eqI, v_eqB, v_neI, v_ixT, v_ixL, v_at0, v_at1, v_at2, v_at3, v_at4, v_at5, List.getElem?_cons_zero, List.getElem?_cons_succ, List.set_cons_zero, List.set_cons_succ, List.length_cons, List.length_nil, Nat.reduceAdd, Nat.reduceLT, Nat.reduceSub, if_true, List.map_cons, List.map_nil, List.cons_append, List.nil_append, List.replicate_succ, List.replicate_zero, Nat.zero_add, Nat.lt_add_left_iff_pos, Nat.zero_lt_succ, bodyK_eq, mulR s 257 (by decide), v_mod _ 1000000007 (by decide)])
  rw [e]
  subst hI
  simp -implicitDefEqProofs only [bind_ok, lift_some, okK_eq, liftK_eq, ev_seq, seqK_next, seqK_ret, ev_asg, asgK_eq, ev_ret, ev_expr, ev_skip, ev_ifS, ev_if, ifK_t, ifK_f, ev_c, ev_yes, ev_and, ev_or, ev_not, cK_eq, ev_tb, ev_tru, ev_andV, ev_orV, ev_notV, bK_bool, notK_bool, ev_m2, m2K_eq, ev_m1, ev_nil, ev_cons, consK_eq, ev_tup, ev_lst, ev_slot, slotK_eq, ev_retO, retOK_eq, ev_name, ev_tup2, ev_tup3, ev_tgc, tgK_eq, ev_tgn, ev_call, callK_v1, callK_v2, callK_v3, callK2_v1, callK2_v2, callK2_v3, callK_b1, callK_b2, borK_eq, callK2_b1, callK2_b2, unK_eq, ev_bor, bor1K_eq, ev_lenO, lenOK_eq, listAt_eq, listK_eq, ev_ixO, ixO0_eq, ixO1_eq, ixO1'_eq, ixO2_0, ev_sub, subK0_eq, subK_eq, subK1_eq, subK2_eq, ev_app, appK0_eq, appK_eq, ev_ins, insK0_eq, insK'_eq, insK_eq, ev_ext, extK0_eq, extK_eq, ev_i1, ev_i2, i2K_eq, ev_lrg, ev_trg, ev_forS, one_eq, oneC_eq, oneE_t, oneE_f, oneX_eq, wipeE_nil, wipeE_cons, ev_comp, fnK_ret, fnK_next, mask_nil, mask_0, mask_1, v_addI, v_tupL, v_tupT, v_lstL, v_lstT, v_lenL, v_lenT, v_int, v_seqL, v_seqT, v_bool, v_truB, v_truI, v_eqI, v_eqB, v_neI, v_ixT, v_ixL, v_at0, v_at1, v_at2, v_at3, v_at4, v_at5, List.getElem?_cons_zero, List.getElem?_cons_succ, List.set_cons_zero, List.set_cons_succ, List.length_cons, List.length_nil, Nat.reduceAdd, Nat.reduceLT, Nat.reduceSub, if_true, List.map_cons, List.map_nil, List.cons_append, List.nil_append, List.replicate_succ, List.replicate_zero, Nat.zero_add, Nat.lt_add_left_iff_pos, Nat.zero_lt_succ, bodyK_eq]
  exact ⟨_, rfl, ms, 0, 0, 0, 0, s, rfl⟩
theorem of_ev {d : D} (hd : Feed d) (ds : List D) (h0 : 0 < ds.length) (h1 : ds.length < 1000000) : ∃ (k : Nat) (d' x : D), F__law_of [d, .list ds] = .ok x [some d', none] ∧ ds[k]? = some x ∧ Feed d' := by
  obtain ⟨k, d', e, hk, hf⟩ := pick_ev hd ds.length h0 (by omega)
  unfold F__law_of
  rw [ev_fn]
  unfold m__law_of
  have ha : atI ds (k : Int) = some ds[k] := atI_nat (List.getElem?_eq_getElem hk)
  simp -implicitDefEqProofs only [bind_ok, lift_some, okK_eq, liftK_eq, ev_seq, seqK_next, seqK_ret, ev_asg, asgK_eq, ev_ret, ev_expr, ev_skip, ev_ifS, ev_if, ifK_t, ifK_f, ev_c, ev_yes, ev_and, ev_or, ev_not, cK_eq, ev_tb, ev_tru, ev_andV, ev_orV, ev_notV, bK_bool, notK_bool, ev_m2, m2K_eq, ev_m1, ev_nil, ev_cons, consK_eq, ev_tup, ev_lst, ev_slot, slotK_eq, ev_retO, retOK_eq, ev_name, ev_tup2, ev_tup3, ev_tgc, tgK_eq, ev_tgn, ev_call, callK_v1, callK_v2, callK_v3, callK2_v1, callK2_v2, callK2_v3, callK_b1, callK_b2, borK_eq, callK2_b1, callK2_b2, unK_eq, ev_bor, bor1K_eq, ev_lenO, lenOK_eq, listAt_eq, listK_eq, ev_ixO, ixO0_eq, ixO1_eq, ixO1'_eq, ixO2_0, ev_sub, subK0_eq, subK_eq, subK1_eq, subK2_eq, ev_app, appK0_eq, appK_eq, ev_ins, insK0_eq, insK'_eq, insK_eq, ev_ext, extK0_eq, extK_eq, ev_i1, ev_i2, i2K_eq, ev_lrg, ev_trg, ev_forS, one_eq, oneC_eq, oneE_t, oneE_f, oneX_eq, wipeE_nil, wipeE_cons, ev_comp, fnK_ret, fnK_next, mask_nil, mask_0, mask_1, v_addI, v_tupL, v_tupT, v_lstL, v_lstT, v_lenL, v_lenT, v_int, v_seqL, v_seqT, v_bool, v_truB, v_truI, v_eqI, v_eqB, v_neI, v_ixT, v_ixL, v_at0, v_at1, v_at2, v_at3, v_at4, v_at5, List.getElem?_cons_zero, List.getElem?_cons_succ, List.set_cons_zero, List.set_cons_succ, List.length_cons, List.length_nil, Nat.reduceAdd, Nat.reduceLT, Nat.reduceSub, if_true, List.map_cons, List.map_nil, List.cons_append, List.nil_append, List.replicate_succ, List.replicate_zero, Nat.zero_add, Nat.lt_add_left_iff_pos, Nat.zero_lt_succ, bodyK_eq, e, ha]
  exact ⟨k, d', _, rfl, List.getElem?_eq_getElem hk, hf⟩
theorem perm_ins {α : Type} (fs : List α) (k : Nat) (a : α) : (fs.take k ++ a :: fs.drop k).Perm (fs ++ [a]) := by
  have h1 : (fs.take k ++ a :: fs.drop k).Perm (a :: (fs.take k ++ fs.drop k)) := List.perm_middle
  rw [List.take_append_drop] at h1
  exact h1.trans (List.perm_append_singleton a fs).symm
theorem mixed_ev {α : Type} {d : D} (hd : Feed d) (f : α → D) (row : List α) (h : row.length ≤ 1000) : ∃ (d' : D) (found : List α), F__law_mixed [d, .list (row.map f)] = .ok (.list (found.map f)) [some d', none] ∧ found.Perm row ∧ Feed d' := by
  unfold F__law_mixed
  rw [ev_fn]
  unfold m__law_mixed
  simp -implicitDefEqProofs only [bind_ok, lift_some, okK_eq, liftK_eq, ev_seq, seqK_next, seqK_ret, ev_asg, asgK_eq, ev_ret, ev_expr, ev_skip, ev_ifS, ev_if, ifK_t, ifK_f, ev_c, ev_yes, ev_and, ev_or, ev_not, cK_eq, ev_tb, ev_tru, ev_andV, ev_orV, ev_notV, bK_bool, notK_bool, ev_m2, m2K_eq, ev_m1, ev_nil, ev_cons, consK_eq, ev_tup, ev_lst, ev_slot, slotK_eq, ev_retO, retOK_eq, ev_name, ev_tup2, ev_tup3, ev_tgc, tgK_eq, ev_tgn, ev_call, callK_v1, callK_v2, callK_v3, callK2_v1, callK2_v2, callK2_v3, callK_b1, callK_b2, borK_eq, callK2_b1, callK2_b2, unK_eq, ev_bor, bor1K_eq, ev_lenO, lenOK_eq, listAt_eq, listK_eq, ev_ixO, ixO0_eq, ixO1_eq, ixO1'_eq, ixO2_0, ev_sub, subK0_eq, subK_eq, subK1_eq, subK2_eq, ev_app, appK0_eq, appK_eq, ev_ins, insK0_eq, insK'_eq, insK_eq, ev_ext, extK0_eq, extK_eq, ev_i1, ev_i2, i2K_eq, ev_lrg, ev_trg, ev_forS, one_eq, oneC_eq, oneE_t, oneE_f, oneX_eq, wipeE_nil, wipeE_cons, ev_comp, fnK_ret, fnK_next, mask_nil, mask_0, mask_1, v_addI, v_tupL, v_tupT, v_lstL, v_lstT, v_lenL, v_lenT, v_int, v_seqL, v_seqT, v_bool, v_truB, v_truI, v_eqI, v_eqB, v_neI, v_ixT, v_ixL, v_at0, v_at1, v_at2, v_at3, v_at4, v_at5, List.getElem?_cons_zero, List.getElem?_cons_succ, List.set_cons_zero, List.set_cons_succ, List.length_cons, List.length_nil, Nat.reduceAdd, Nat.reduceLT, Nat.reduceSub, if_true, List.map_cons, List.map_nil, List.cons_append, List.nil_append, List.replicate_succ, List.replicate_zero, Nat.zero_add, Nat.lt_add_left_iff_pos, Nat.zero_lt_succ, bodyK_eq]
  obtain ⟨ρ', e, d', fs, y, rfl, hf, hp⟩ := for_ix f (tgName 3) (mExpr (mInsert 2 (mCall F__law_pick [.bor 0, .val] (mBor 0 (mCons (m2 fAdd (mLenO 2) (mC (.int 1))) (mNil)))) (mSlot 3)))
    (fun i ρ => ∃ (d : D) (fs : List α) (y : Option D), ρ = [some d, some (.list (row.map f)), some (.list (fs.map f)), y] ∧ Feed d ∧ fs.Perm (row.take i)) row
    [some d, some (.list (row.map f)), some (.list []), none] ⟨d, [], none, rfl, hd, by simp⟩ (by
      rintro i a ρ hi ⟨d, fs, y, rfl, hf, hp⟩
      have hil := (List.getElem?_eq_some_iff.mp hi).1
      have hlen : fs.length = i := by rw [hp.length_eq, List.length_take]; omega
      obtain ⟨k, d', e, hk, hf'⟩ := pick_ev hf (fs.length + 1) (by omega) (by omega)
      refine ⟨[some d', some (.list (row.map f)), some (.list ((fs.take k ++ a :: fs.drop k).map f)), some (f a)], ?_, d', fs.take k ++ a :: fs.drop k, _, rfl, hf', ?_⟩
      · have ee : ((fs.length : Int) + 1) = ((fs.length + 1 : Nat) : Int) := by omega
        simp -implicitDefEqProofs only [bind_ok, lift_some, okK_eq, liftK_eq, ev_seq, seqK_next, seqK_ret, ev_asg, asgK_eq, ev_ret, ev_expr, ev_skip, ev_ifS, ev_if, ifK_t, ifK_f, ev_c, ev_yes, ev_and, ev_or, ev_not, cK_eq, ev_tb, ev_tru, ev_andV, ev_orV, ev_notV, bK_bool, notK_bool, ev_m2, m2K_eq, ev_m1, ev_nil, ev_cons, consK_eq, ev_tup, ev_lst, ev_slot, slotK_eq, ev_retO, retOK_eq, ev_name, ev_tup2, ev_tup3, ev_tgc, tgK_eq, ev_tgn, ev_call, callK_v1, callK_v2, callK_v3, callK2_v1, callK2_v2, callK2_v3, callK_b1, callK_b2, borK_eq, callK2_b1, callK2_b2, unK_eq, ev_bor, bor1K_eq, ev_lenO, lenOK_eq, listAt_eq, listK_eq, ev_ixO, ixO0_eq, ixO1_eq, ixO1'_eq, ixO2_0, ev_sub, subK0_eq, subK_eq, subK1_eq, subK2_eq, ev_app, appK0_eq, appK_eq, ev_ins, insK0_eq, insK'_eq, insK_eq, ev_ext, extK0_eq, extK_eq, ev_i1, ev_i2, i2K_eq, ev_lrg, ev_trg, ev_forS, one_eq, oneC_eq, oneE_t, oneE_f, oneX_eq, wipeE_nil, wipeE_cons, ev_comp, fnK_ret, fnK_next, mask_nil, mask_0, mask_1, v_addI, v_tupL, v_tupT, v_lstL, v_lstT, v_lenL, v_lenT, v_int, v_seqL, v_seqT, v_bool, v_truB, v_truI, v_eqI, v_eqB, v_neI, v_ixT, v_ixL, v_at0, v_at1, v_at2, v_at3, v_at4, v_at5, List.getElem?_cons_zero, List.getElem?_cons_succ, List.set_cons_zero, List.set_cons_succ, List.length_cons, List.length_nil, Nat.reduceAdd, Nat.reduceLT, Nat.reduceSub, if_true, List.map_cons, List.map_nil, List.cons_append, List.nil_append, List.replicate_succ, List.replicate_zero, Nat.zero_add, Nat.lt_add_left_iff_pos, Nat.zero_lt_succ, bodyK_eq, List.length_map, ee, e]
        rw [insK1_eq 2 (k : Int) (f a) _ _ (by rw [List.length_map]; unfold big; omega) (by omega) (by omega)]
        simp -implicitDefEqProofs only [bind_ok, lift_some, okK_eq, liftK_eq, ev_seq, seqK_next, seqK_ret, ev_asg, asgK_eq, ev_ret, ev_expr, ev_skip, ev_ifS, ev_if, ifK_t, ifK_f, ev_c, ev_yes, ev_and, ev_or, ev_not, cK_eq, ev_tb, ev_tru, ev_andV, ev_orV, ev_notV, bK_bool, notK_bool, ev_m2, m2K_eq, ev_m1, ev_nil, ev_cons, consK_eq, ev_tup, ev_lst, ev_slot, slotK_eq, ev_retO, retOK_eq, ev_name, ev_tup2, ev_tup3, ev_tgc, tgK_eq, ev_tgn, ev_call, callK_v1, callK_v2, callK_v3, callK2_v1, callK2_v2, callK2_v3, callK_b1, callK_b2, borK_eq, callK2_b1, callK2_b2, unK_eq, ev_bor, bor1K_eq, ev_lenO, lenOK_eq, listAt_eq, listK_eq, ev_ixO, ixO0_eq, ixO1_eq, ixO1'_eq, ixO2_0, ev_sub, subK0_eq, subK_eq, subK1_eq, subK2_eq, ev_app, appK0_eq, appK_eq, ev_ins, insK0_eq, insK'_eq, insK_eq, ev_ext, extK0_eq, extK_eq, ev_i1, ev_i2, i2K_eq, ev_lrg, ev_trg, ev_forS, one_eq, oneC_eq, oneE_t, oneE_f, oneX_eq, wipeE_nil, wipeE_cons, ev_comp, fnK_ret, fnK_next, mask_nil, mask_0, mask_1, v_addI, v_tupL, v_tupT, v_lstL, v_lstT, v_lenL, v_lenT, v_int, v_seqL, v_seqT, v_bool, v_truB, v_truI, v_eqI, v_eqB, v_neI, v_ixT, v_ixL, v_at0, v_at1, v_at2, v_at3, v_at4, v_at5, List.getElem?_cons_zero, List.getElem?_cons_succ, List.set_cons_zero, List.set_cons_succ, List.length_cons, List.length_nil, Nat.reduceAdd, Nat.reduceLT, Nat.reduceSub, if_true, List.map_cons, List.map_nil, List.cons_append, List.nil_append, List.replicate_succ, List.replicate_zero, Nat.zero_add, Nat.lt_add_left_iff_pos, Nat.zero_lt_succ, bodyK_eq, Int.toNat_natCast, List.map_append, List.map_take, List.map_drop]
      · rw [List.take_add_one, hi]
        exact (perm_ins fs k a).trans (hp.append_right _))
  rw [e]
  simp -implicitDefEqProofs only [bind_ok, lift_some, okK_eq, liftK_eq, ev_seq, seqK_next, seqK_ret, ev_asg, asgK_eq, ev_ret, ev_expr, ev_skip, ev_ifS, ev_if, ifK_t, ifK_f, ev_c, ev_yes, ev_and, ev_or, ev_not, cK_eq, ev_tb, ev_tru, ev_andV, ev_orV, ev_notV, bK_bool, notK_bool, ev_m2, m2K_eq, ev_m1, ev_nil, ev_cons, consK_eq, ev_tup, ev_lst, ev_slot, slotK_eq, ev_retO, retOK_eq, ev_name, ev_tup2, ev_tup3, ev_tgc, tgK_eq, ev_tgn, ev_call, callK_v1, callK_v2, callK_v3, callK2_v1, callK2_v2, callK2_v3, callK_b1, callK_b2, borK_eq, callK2_b1, callK2_b2, unK_eq, ev_bor, bor1K_eq, ev_lenO, lenOK_eq, listAt_eq, listK_eq, ev_ixO, ixO0_eq, ixO1_eq, ixO1'_eq, ixO2_0, ev_sub, subK0_eq, subK_eq, subK1_eq, subK2_eq, ev_app, appK0_eq, appK_eq, ev_ins, insK0_eq, insK'_eq, insK_eq, ev_ext, extK0_eq, extK_eq, ev_i1, ev_i2, i2K_eq, ev_lrg, ev_trg, ev_forS, one_eq, oneC_eq, oneE_t, oneE_f, oneX_eq, wipeE_nil, wipeE_cons, ev_comp, fnK_ret, fnK_next, mask_nil, mask_0, mask_1, v_addI, v_tupL, v_tupT, v_lstL, v_lstT, v_lenL, v_lenT, v_int, v_seqL, v_seqT, v_bool, v_truB, v_truI, v_eqI, v_eqB, v_neI, v_ixT, v_ixL, v_at0, v_at1, v_at2, v_at3, v_at4, v_at5, List.getElem?_cons_zero, List.getElem?_cons_succ, List.set_cons_zero, List.set_cons_succ, List.length_cons, List.length_nil, Nat.reduceAdd, Nat.reduceLT, Nat.reduceSub, if_true, List.map_cons, List.map_nil, List.cons_append, List.nil_append, List.replicate_succ, List.replicate_zero, Nat.zero_add, Nat.lt_add_left_iff_pos, Nat.zero_lt_succ, bodyK_eq]
  exact ⟨d', fs, rfl, by simpa using hp, hf⟩
/-- a row of 0 .. n - 1 in some order -/
theorem bij_of_perm {n : Nat} {l : List Nat} (h : l.Perm (List.range n)) : ∃ τ ι, Bij n τ ι ∧ l = (List.range n).map τ := by
  have hl : l.length = n := by rw [h.length_eq, List.length_range]
  have hnd : l.Nodup := h.nodup_iff.mpr List.nodup_range
  have hm : ∀ x, x ∈ l ↔ x < n := fun x => by rw [h.mem_iff, List.mem_range]
  refine ⟨fun x => l.getD x 0, fun u => l.idxOf u, ⟨?_, ?_, ?_, ?_⟩, ?_⟩
  · intro x hx
    have hx' : x < l.length := by omega
    show l.getD x 0 < n
    rw [List.getD_eq_getElem?_getD, List.getElem?_eq_getElem hx']
    exact (hm _).mp (List.getElem_mem hx')
  · intro u hu
    have := List.idxOf_lt_length_of_mem ((hm u).mpr hu)
    omega
  · intro x hx
    have hx' : x < l.length := by omega
    show l.idxOf (l.getD x 0) = x
    rw [List.getD_eq_getElem?_getD, List.getElem?_eq_getElem hx']
    exact hnd.idxOf_getElem x hx'
  · intro u hu
    have hu' := List.idxOf_lt_length_of_mem ((hm u).mpr hu)
    show l.getD (l.idxOf u) 0 = u
    rw [List.getD_eq_getElem?_getD, List.getElem?_eq_getElem hu']
    exact List.getElem_idxOf hu'
  · refine List.ext_getElem? fun i => ?_
    by_cases hi : i < n
    · rw [List.getElem?_map, List.getElem?_range hi, List.getElem?_eq_getElem (by omega)]
      simp [List.getD_eq_getElem?_getD, List.getElem?_eq_getElem (show i < l.length by omega)]
    · rw [List.getElem?_eq_none (by omega), List.getElem?_eq_none (by simp; omega)]
theorem mixedR_ev {d : D} (hd : Feed d) (n : Nat) (h : n ≤ 1000) : ∃ (d' : D) (τ ι : Nat → Nat), F__law_mixed [d, .list ((List.range n).map natD)] = .ok (.list ((List.range n).map fun x => natD (τ x))) [some d', none] ∧ Bij n τ ι ∧ Feed d' := by
  obtain ⟨d', found, e, hp, hf⟩ := mixed_ev hd natD (List.range n) (by rw [List.length_range]; omega)
  obtain ⟨τ, ι, hb, rfl⟩ := bij_of_perm hp
  refine ⟨d', τ, ι, ?_, hb, hf⟩
  rw [e, List.map_map]
  rfl
/-! ### told == due -/
inductive Pl : Nat → D → Prop
  | int (n : Nat) (i : Int) : Pl (n + 1) (.int i)
  | bool (n : Nat) (b : Bool) : Pl (n + 1) (.bool b)
  | none (n : Nat) : Pl (n + 1) .none
  | tup (n : Nat) (ds : List D) : ds.length ≤ 1000000 → (∀ d ∈ ds, Pl n d) → Pl (n + 1) (.tuple ds)
theorem boolsT : ∀ n : Nat, ∃ bs : List Bool, boolsD ((List.range n).map fun _ => PyData.bool true) = some bs ∧ bs.all id = true := by
  intro n
  have key : ∀ l : List Nat, ∃ bs : List Bool, boolsD (l.map fun _ => PyData.bool true) = some bs ∧ bs.all id = true := by
    intro l
    induction l with
    | nil => exact ⟨[], rfl, rfl⟩
    | cons a l ih =>
      obtain ⟨bs, e, h⟩ := ih
      refine ⟨true :: bs, ?_, by simpa using h⟩
      rw [List.map_cons]
      show (boolsD (l.map fun _ => PyData.bool true)).map (true :: ·) = _
      rw [e]
      rfl
  exact key _
theorem is_tt (ds : List D) : fIs "tuple" (.tuple ds) = some (.bool true) := rfl
theorem is_ti (i : Int) : fIs "tuple" (.int i) = some (.bool false) := rfl
theorem is_tb (i : Bool) : fIs "tuple" (.bool i) = some (.bool false) := rfl
theorem is_tn : fIs "tuple" .none = some (.bool false) := rfl
theorem is_si (i : Int) : fIs "str" (.int i) = some (.bool false) := rfl
theorem is_sb (i : Bool) : fIs "str" (.bool i) = some (.bool false) := rfl
theorem is_bi (i : Int) : fIs "bool" (.int i) = some (.bool false) := rfl
theorem is_bb (i : Bool) : fIs "bool" (.bool i) = some (.bool true) := rfl
theorem is_ii (i : Int) : fIs "int" (.int i) = some (.bool true) := rfl
theorem isN_n (neg : Bool) : fIsN neg .none .none = some (.bool !neg) := rfl
theorem isN_i (neg : Bool) (i : Int) : fIsN neg (.none) (.none) = some (.bool !neg) := rfl
theorem isN_int (i : Int) : fIsN false (.int i) .none = some (.bool false) := rfl
theorem isN_bool (i : Bool) : fIsN false (.bool i) .none = some (.bool false) := rfl
theorem same_ev : ∀ (n : Nat) (d : D), Pl n d → F__law_same n [d, d] = .ok (.bool true) [none, none]
  | _, _, .int n i => by
    show mFn [0, 0] 3 (m__law_same (F__law_same n)) [.int i, .int i] = _
    rw [ev_fn]
    unfold m__law_same
    have e : (i == i) = true := beq_self_eq_true i
    simp -implicitDefEqProofs only [bind_ok, lift_some, okK_eq, liftK_eq, ev_seq, seqK_next, seqK_ret, ev_asg, asgK_eq, ev_ret, ev_expr, ev_skip, ev_ifS, ev_if, ifK_t, ifK_f, ev_c, ev_yes, ev_and, ev_or, ev_not, cK_eq, ev_tb, ev_tru, ev_andV, ev_orV, ev_notV, bK_bool, notK_bool, ev_m2, m2K_eq, ev_m1, ev_nil, ev_cons, consK_eq, ev_tup, ev_lst, ev_slot, slotK_eq, ev_retO, retOK_eq, ev_name, ev_tup2, ev_tup3, ev_tgc, tgK_eq, ev_tgn, ev_call, callK_v1, callK_v2, callK_v3, callK2_v1, callK2_v2, callK2_v3, callK_b1, callK_b2, borK_eq, callK2_b1, callK2_b2, unK_eq, ev_bor, bor1K_eq, ev_lenO, lenOK_eq, listAt_eq, listK_eq, ev_ixO, ixO0_eq, ixO1_eq, ixO1'_eq, ixO2_0, ev_sub, subK0_eq, subK_eq, subK1_eq, subK2_eq, ev_app, appK0_eq, appK_eq, ev_ins, insK0_eq, insK'_eq, insK_eq, ev_ext, extK0_eq, extK_eq, ev_i1, ev_i2, i2K_eq, ev_lrg, ev_trg, ev_forS, one_eq, oneC_eq, oneE_t, oneE_f, oneX_eq, wipeE_nil, wipeE_cons, ev_comp, fnK_ret, fnK_next, mask_nil, mask_0, mask_1, v_addI, v_tupL, v_tupT, v_lstL, v_lstT, v_lenL, v_lenT, v_int, v_seqL, v_seqT, v_bool, v_truB, v_truI, v_eqI, v_eqB, v_neI, v_ixT, v_ixL, v_at0, v_at1, v_at2, v_at3, v_at4, v_at5, List.getElem?_cons_zero, List.getElem?_cons_succ, List.set_cons_zero, List.set_cons_succ, List.length_cons, List.length_nil, Nat.reduceAdd, Nat.reduceLT, Nat.reduceSub, if_true, List.map_cons, List.map_nil, List.cons_append, List.nil_append, List.replicate_succ, List.replicate_zero, Nat.zero_add, Nat.lt_add_left_iff_pos, Nat.zero_lt_succ, bodyK_eq, is_ti, isN_int, is_si, is_bi, is_ii, e, Bool.not_false]
  | _, _, .bool n i => by
    show mFn [0, 0] 3 (m__law_same (F__law_same n)) [.bool i, .bool i] = _
    rw [ev_fn]
    unfold m__law_same
    have e : (i == i) = true := beq_self_eq_true i
    simp -implicitDefEqProofs only [bind_ok, lift_some, okK_eq, liftK_eq, ev_seq, seqK_next, seqK_ret, ev_asg, asgK_eq, ev_ret, ev_expr, ev_skip, ev_ifS, ev_if, ifK_t, ifK_f, ev_c, ev_yes, ev_and, ev_or, ev_not, cK_eq, ev_tb, ev_tru, ev_andV, ev_orV, ev_notV, bK_bool, notK_bool, ev_m2, m2K_eq, ev_m1, ev_nil, ev_cons, consK_eq, ev_tup, ev_lst, ev_slot, slotK_eq, ev_retO, retOK_eq, ev_name, ev_tup2, ev_tup3, ev_tgc, tgK_eq, ev_tgn, ev_call, callK_v1, callK_v2, callK_v3, callK2_v1, callK2_v2, callK2_v3, callK_b1, callK_b2, borK_eq, callK2_b1, callK2_b2, unK_eq, ev_bor, bor1K_eq, ev_lenO, lenOK_eq, listAt_eq, listK_eq, ev_ixO, ixO0_eq, ixO1_eq, ixO1'_eq, ixO2_0, ev_sub, subK0_eq, subK_eq, subK1_eq, subK2_eq, ev_app, appK0_eq, appK_eq, ev_ins, insK0_eq, insK'_eq, insK_eq, ev_ext, extK0_eq, extK_eq, ev_i1, ev_i2, i2K_eq, ev_lrg, ev_trg, ev_forS, one_eq, oneC_eq, oneE_t, oneE_f, oneX_eq, wipeE_nil, wipeE_cons, ev_comp, fnK_ret, fnK_next, mask_nil, mask_0, mask_1, v_addI, v_tupL, v_tupT, v_lstL, v_lstT, v_lenL, v_lenT, v_int, v_seqL, v_seqT, v_bool, v_truB, v_truI, v_eqI, v_eqB, v_neI, v_ixT, v_ixL, v_at0, v_at1, v_at2, v_at3, v_at4, v_at5, List.getElem?_cons_zero, List.getElem?_cons_succ, List.set_cons_zero, List.set_cons_succ, List.length_cons, List.length_nil, Nat.reduceAdd, Nat.reduceLT, Nat.reduceSub, if_true, List.map_cons, List.map_nil, List.cons_append, List.nil_append, List.replicate_succ, List.replicate_zero, Nat.zero_add, Nat.lt_add_left_iff_pos, Nat.zero_lt_succ, bodyK_eq, is_tb, isN_bool, is_sb, is_bb, e]
  | _, _, .none n => by
    show mFn [0, 0] 3 (m__law_same (F__law_same n)) [.none, .none] = _
    rw [ev_fn]
    unfold m__law_same
    simp -implicitDefEqProofs only [bind_ok, lift_some, okK_eq, liftK_eq, ev_seq, seqK_next, seqK_ret, ev_asg, asgK_eq, ev_ret, ev_expr, ev_skip, ev_ifS, ev_if, ifK_t, ifK_f, ev_c, ev_yes, ev_and, ev_or, ev_not, cK_eq, ev_tb, ev_tru, ev_andV, ev_orV, ev_notV, bK_bool, notK_bool, ev_m2, m2K_eq, ev_m1, ev_nil, ev_cons, consK_eq, ev_tup, ev_lst, ev_slot, slotK_eq, ev_retO, retOK_eq, ev_name, ev_tup2, ev_tup3, ev_tgc, tgK_eq, ev_tgn, ev_call, callK_v1, callK_v2, callK_v3, callK2_v1, callK2_v2, callK2_v3, callK_b1, callK_b2, borK_eq, callK2_b1, callK2_b2, unK_eq, ev_bor, bor1K_eq, ev_lenO, lenOK_eq, listAt_eq, listK_eq, ev_ixO, ixO0_eq, ixO1_eq, ixO1'_eq, ixO2_0, ev_sub, subK0_eq, subK_eq, subK1_eq, subK2_eq, ev_app, appK0_eq, appK_eq, ev_ins, insK0_eq, insK'_eq, insK_eq, ev_ext, extK0_eq, extK_eq, ev_i1, ev_i2, i2K_eq, ev_lrg, ev_trg, ev_forS, one_eq, oneC_eq, oneE_t, oneE_f, oneX_eq, wipeE_nil, wipeE_cons, ev_comp, fnK_ret, fnK_next, mask_nil, mask_0, mask_1, v_addI, v_tupL, v_tupT, v_lstL, v_lstT, v_lenL, v_lenT, v_int, v_seqL, v_seqT, v_bool, v_truB, v_truI, v_eqI, v_eqB, v_neI, v_ixT, v_ixL, v_at0, v_at1, v_at2, v_at3, v_at4, v_at5, List.getElem?_cons_zero, List.getElem?_cons_succ, List.set_cons_zero, List.set_cons_succ, List.length_cons, List.length_nil, Nat.reduceAdd, Nat.reduceLT, Nat.reduceSub, if_true, List.map_cons, List.map_nil, List.cons_append, List.nil_append, List.replicate_succ, List.replicate_zero, Nat.zero_add, Nat.lt_add_left_iff_pos, Nat.zero_lt_succ, bodyK_eq, is_tn, isN_n, Bool.not_false]
  | _, _, .tup n ds hl h => by
    show mFn [0, 0] 3 (m__law_same (F__law_same n)) [.tuple ds, .tuple ds] = _
    rw [ev_fn]
    unfold m__law_same
    have e : ((ds.length : Int) == (ds.length : Int)) = true := beq_self_eq_true _
    simp -implicitDefEqProofs only [bind_ok, lift_some, okK_eq, liftK_eq, ev_seq, seqK_next, seqK_ret, ev_asg, asgK_eq, ev_ret, ev_expr, ev_skip, ev_ifS, ev_if, ifK_t, ifK_f, ev_c, ev_yes, ev_and, ev_or, ev_not, cK_eq, ev_tb, ev_tru, ev_andV, ev_orV, ev_notV, bK_bool, notK_bool, ev_m2, m2K_eq, ev_m1, ev_nil, ev_cons, consK_eq, ev_tup, ev_lst, ev_slot, slotK_eq, ev_retO, retOK_eq, ev_name, ev_tup2, ev_tup3, ev_tgc, tgK_eq, ev_tgn, ev_call, callK_v1, callK_v2, callK_v3, callK2_v1, callK2_v2, callK2_v3, callK_b1, callK_b2, borK_eq, callK2_b1, callK2_b2, unK_eq, ev_bor, bor1K_eq, ev_lenO, lenOK_eq, listAt_eq, listK_eq, ev_ixO, ixO0_eq, ixO1_eq, ixO1'_eq, ixO2_0, ev_sub, subK0_eq, subK_eq, subK1_eq, subK2_eq, ev_app, appK0_eq, appK_eq, ev_ins, insK0_eq, insK'_eq, insK_eq, ev_ext, extK0_eq, extK_eq, ev_i1, ev_i2, i2K_eq, ev_lrg, ev_trg, ev_forS, one_eq, oneC_eq, oneE_t, oneE_f, oneX_eq, wipeE_nil, wipeE_cons, ev_comp, fnK_ret, fnK_next, mask_nil, mask_0, mask_1, v_addI, v_tupL, v_tupT, v_lstL, v_lstT, v_lenL, v_lenT, v_int, v_seqL, v_seqT, v_bool, v_truB, v_truI, v_eqI, v_eqB, v_neI, v_ixT, v_ixL, v_at0, v_at1, v_at2, v_at3, v_at4, v_at5, List.getElem?_cons_zero, List.getElem?_cons_succ, List.set_cons_zero, List.set_cons_succ, List.length_cons, List.length_nil, Nat.reduceAdd, Nat.reduceLT, Nat.reduceSub, if_true, List.map_cons, List.map_nil, List.cons_append, List.nil_append, List.replicate_succ, List.replicate_zero, Nat.zero_add, Nat.lt_add_left_iff_pos, Nat.zero_lt_succ, bodyK_eq, is_tt, Bool.not_true, e, v_rg1 ds.length hl]
    rw [compK_map (List.range ds.length) (fun k : Nat => PyData.int (k : Int)) (fun _ => .bool true) (by rw [List.length_range]; unfold big; omega) (fun k hk => by
      have hk := List.mem_range.mp hk
      have ha : atI ds (k : Int) = some ds[k] := atI_nat (List.getElem?_eq_getElem hk)
      simp -implicitDefEqProofs only [bind_ok, lift_some, okK_eq, liftK_eq, ev_seq, seqK_next, seqK_ret, ev_asg, asgK_eq, ev_ret, ev_expr, ev_skip, ev_ifS, ev_if, ifK_t, ifK_f, ev_c, ev_yes, ev_and, ev_or, ev_not, cK_eq, ev_tb, ev_tru, ev_andV, ev_orV, ev_notV, bK_bool, notK_bool, ev_m2, m2K_eq, ev_m1, ev_nil, ev_cons, consK_eq, ev_tup, ev_lst, ev_slot, slotK_eq, ev_retO, retOK_eq, ev_name, ev_tup2, ev_tup3, ev_tgc, tgK_eq, ev_tgn, ev_call, callK_v1, callK_v2, callK_v3, callK2_v1, callK2_v2, callK2_v3, callK_b1, callK_b2, borK_eq, callK2_b1, callK2_b2, unK_eq, ev_bor, bor1K_eq, ev_lenO, lenOK_eq, listAt_eq, listK_eq, ev_ixO, ixO0_eq, ixO1_eq, ixO1'_eq, ixO2_0, ev_sub, subK0_eq, subK_eq, subK1_eq, subK2_eq, ev_app, appK0_eq, appK_eq, ev_ins, insK0_eq, insK'_eq, insK_eq, ev_ext, extK0_eq, extK_eq, ev_i1, ev_i2, i2K_eq, ev_lrg, ev_trg, ev_forS, one_eq, oneC_eq, oneE_t, oneE_f, oneX_eq, wipeE_nil, wipeE_cons, ev_comp, fnK_ret, fnK_next, mask_nil, mask_0, mask_1, v_addI, v_tupL, v_tupT, v_lstL, v_lstT, v_lenL, v_lenT, v_int, v_seqL, v_seqT, v_bool, v_truB, v_truI, v_eqI, v_eqB, v_neI, v_ixT, v_ixL, v_at0, v_at1, v_at2, v_at3, v_at4, v_at5, List.getElem?_cons_zero, List.getElem?_cons_succ, List.set_cons_zero, List.set_cons_succ, List.length_cons, List.length_nil, Nat.reduceAdd, Nat.reduceLT, Nat.reduceSub, if_true, List.map_cons, List.map_nil, List.cons_append, List.nil_append, List.replicate_succ, List.replicate_zero, Nat.zero_add, Nat.lt_add_left_iff_pos, Nat.zero_lt_succ, bodyK_eq, ha, same_ev n ds[k] (h _ (List.getElem_mem hk))])]
    obtain ⟨bs, e1, e2⟩ := boolsT ds.length
    have e3 : fAll (.list ((List.range ds.length).map fun _ => PyData.bool true)) = some (.bool true) := by
      show (boolsD _).map _ = _
      rw [e1, Option.map_some, e2]
    simp -implicitDefEqProofs only [bind_ok, lift_some, okK_eq, liftK_eq, ev_seq, seqK_next, seqK_ret, ev_asg, asgK_eq, ev_ret, ev_expr, ev_skip, ev_ifS, ev_if, ifK_t, ifK_f, ev_c, ev_yes, ev_and, ev_or, ev_not, cK_eq, ev_tb, ev_tru, ev_andV, ev_orV, ev_notV, bK_bool, notK_bool, ev_m2, m2K_eq, ev_m1, ev_nil, ev_cons, consK_eq, ev_tup, ev_lst, ev_slot, slotK_eq, ev_retO, retOK_eq, ev_name, ev_tup2, ev_tup3, ev_tgc, tgK_eq, ev_tgn, ev_call, callK_v1, callK_v2, callK_v3, callK2_v1, callK2_v2, callK2_v3, callK_b1, callK_b2, borK_eq, callK2_b1, callK2_b2, unK_eq, ev_bor, bor1K_eq, ev_lenO, lenOK_eq, listAt_eq, listK_eq, ev_ixO, ixO0_eq, ixO1_eq, ixO1'_eq, ixO2_0, ev_sub, subK0_eq, subK_eq, subK1_eq, subK2_eq, ev_app, appK0_eq, appK_eq, ev_ins, insK0_eq, insK'_eq, insK_eq, ev_ext, extK0_eq, extK_eq, ev_i1, ev_i2, i2K_eq, ev_lrg, ev_trg, ev_forS, one_eq, oneC_eq, oneE_t, oneE_f, oneX_eq, wipeE_nil, wipeE_cons, ev_comp, fnK_ret, fnK_next, mask_nil, mask_0, mask_1, v_addI, v_tupL, v_tupT, v_lstL, v_lstT, v_lenL, v_lenT, v_int, v_seqL, v_seqT, v_bool, v_truB, v_truI, v_eqI, v_eqB, v_neI, v_ixT, v_ixL, v_at0, v_at1, v_at2, v_at3, v_at4, v_at5, List.getElem?_cons_zero, List.getElem?_cons_succ, List.set_cons_zero, List.set_cons_succ, List.length_cons, List.length_nil, Nat.reduceAdd, Nat.reduceLT, Nat.reduceSub, if_true, List.map_cons, List.map_nil, List.cons_append, List.nil_append, List.replicate_succ, List.replicate_zero, Nat.zero_add, Nat.lt_add_left_iff_pos, Nat.zero_lt_succ, bodyK_eq, e3]
theorem pl_prs (n : Nat) (ps : List (Nat × Nat)) (h : ps.length ≤ 1000000) : Pl (n + 3) (.tuple (ps.map prN)) := by
  refine .tup (n + 2) _ (by rwa [List.length_map]) fun d hd => ?_
  obtain ⟨p, _, rfl⟩ := List.mem_map.mp hd
  refine .tup (n + 1) _ (by simp) fun d hd => ?_
  simp only [List.mem_cons, List.not_mem_nil, or_false] at hd
  rcases hd with rfl | rfl
  · exact .int n _
  · exact .int n _
theorem pl_ord (k n : Nat) (R : Nat → Nat → Bool) (h : n ≤ 400) : Pl (k + 4) (ordD n R) := by
  refine .tup (k + 3) _ (by simp) fun d hd => ?_
  simp only [List.mem_cons, List.not_mem_nil, or_false] at hd
  rcases hd with rfl | rfl
  · exact .int _ _
  · exact pl_prs k _ (by have := lexL_big R h; omega)
end Mir

set_option Elab.async false
set_option linter.all false
set_option maxRecDepth 100000
set_option maxHeartbeats 4000000
namespace Mir
open PySem PySem.Spec PyProof.Rows L2
def rowB (n : Nat) (r : Nat → Bool) : D := .list ((List.range n).map fun y => .bool (r y))
def matL (n : Nat) (M : Nat → Nat → Bool) : List D := (List.range n).map fun x => rowB n (M x)
def updM (M : Nat → Nat → Bool) (x y : Nat) (d : Bool) : Nat → Nat → Bool := fun u v => if u = x ∧ v = y then d else M u v
theorem get_rng (n : Nat) (f : Nat → D) {x : Nat} (h : x < n) : ((List.range n).map f)[x]? = some (f x) := by rw [List.getElem?_map, List.getElem?_range h]; rfl
theorem listAt_of {ρ : Env} {i : Nat} {ds : List D} (h : ρ[i]? = some (some (.list ds))) : listAt ρ i = some ds := by unfold listAt; rw [h]
theorem sub2_mat {ρ : Env} {i x y n : Nat} {m1 m2 : M D} {M : Nat → Nat → Bool} (d : Bool) (h0 : ρ[i]? = some (some (.list (matL n M)))) (h1 : m1 ρ = .ok (.int (x : Int)) ρ) (h2 : m2 (ρ.set i none) = .ok (.int (y : Int)) (ρ.set i none)) (hx : x < n) (hy : y < n) :
    tgSub2 i m1 m2 (.bool d) ρ = .ok () (ρ.set i (some (.list (matL n (updM M x y d))))) := by
  have hi : i < ρ.length := (List.getElem?_eq_some_iff.mp h0).1
  have hl := listAt_of h0
  have e1 : ixN (matL n M).length (x : Int) = some x := ixN_nat (by unfold matL; simpa using hx)
  have e2 : (matL n M)[x]? = some (rowB n (M x)) := get_rng n _ hx
  have e3 : (ρ.set i none)[i]? = some none := by rw [List.getElem?_set_self hi]
  have e4 : ixN ((List.range n).map fun y => PyData.bool (M x y)).length (y : Int) = some y := ixN_nat (by simpa using hy)
  have ea : ((List.range n).map fun y => PyData.bool (M x y)).set y (.bool d) = (List.range n).map fun v => PyData.bool (updM M x y d x v) := by
    have := set_rng n (fun y => PyData.bool (M x y)) (fun v => PyData.bool (updM M x y d x v)) hy (fun v _ hv => by unfold updM; simp [hv])
    rw [← this]
    congr 1
    unfold updM
    simp
  have eb : (matL n M).set x (rowB n (updM M x y d x)) = matL n (updM M x y d) := set_rng n (fun x => rowB n (M x)) (fun u => rowB n (updM M x y d u)) hx (fun u _ hu => by
    show rowB n _ = rowB n _
    congr 1
    funext v
    unfold updM
    simp [hu])
  unfold tgSub2
  rw [h0]
  simp only [h1, bind_ok, hl, e1, e2, rowB, h2, e3, e4, List.set_set]
  rw [ea]
  rw [← eb]
  rfl
theorem matL_len (n : Nat) (M : Nat → Nat → Bool) : (matL n M).length = n := by unfold matL; simp
theorem atI_mat {n x : Nat} (M : Nat → Nat → Bool) (h : x < n) : atI (matL n M) (x : Int) = some (.list ((List.range n).map fun y => .bool (M x y))) := atI_rng n (fun x => rowB n (M x)) h
theorem v_zip (xs ys : List D) : fZip (.list xs) (.list ys) = some (zipD xs ys) := rfl
theorem zip_rng (n : Nat) (f g : Nat → D) : zipD ((List.range n).map f) ((List.range n).map g) = (List.range n).map fun y => .tuple [f y, g y] := by
  unfold zipD
  rw [List.zipWith_map]
  have h : ∀ l : List Nat, List.zipWith (fun a b => PyData.tuple [f a, g b]) l l = l.map fun y => PyData.tuple [f y, g y] := by
    intro l
    induction l with
    | nil => rfl
    | cons a l ih => rw [List.zipWith_cons_cons, List.map_cons, ih]
  exact h _
theorem closed_ev (n : Nat) (hn : n ≤ 100) (ι : Nat → Nat) (ps : List (Nat × Nat)) (hps : ∀ p ∈ ps, p.1 < n ∧ p.2 < n ∧ ι p.1 < ι p.2) :
    ∃ M : Nat → Nat → Bool, F__law_closed [.int (n : Int), .list (ps.map prN)] = .ok (ordD n M) [none, none] ∧ ∀ x y, x < n → y < n → M x y = true → ι x < ι y := by
  unfold F__law_closed
  rw [ev_fn]
  unfold m__law_closed
  simp -implicitDefEqProofs only [bind_ok, lift_some, okK_eq, liftK_eq, ev_seq, seqK_next, seqK_ret, ev_asg, asgK_eq, ev_ret, ev_expr, ev_skip, ev_ifS, ev_if, ifK_t, ifK_f, ev_c, ev_yes, ev_and, ev_or, ev_not, cK_eq, ev_tb, ev_tru, ev_andV, ev_orV, ev_notV, bK_bool, notK_bool, ev_m2, m2K_eq, ev_m1, ev_nil, ev_cons, consK_eq, ev_tup, ev_lst, ev_slot, slotK_eq, ev_retO, retOK_eq, ev_name, ev_tup2, ev_tup3, ev_tgc, tgK_eq, ev_tgn, ev_call, callK_v1, callK_v2, callK_v3, callK2_v1, callK2_v2, callK2_v3, callK_b1, callK_b2, borK_eq, callK2_b1, callK2_b2, unK_eq, ev_bor, bor1K_eq, ev_lenO, lenOK_eq, listAt_eq, listK_eq, ev_ixO, ixO0_eq, ixO1_eq, ixO1'_eq, ixO2_0, ev_sub, subK0_eq, subK_eq, subK1_eq, subK2_eq, ev_app, appK0_eq, appK_eq, ev_ins, insK0_eq, insK'_eq, insK_eq, ev_ext, extK0_eq, extK_eq, ev_i1, ev_i2, i2K_eq, ev_lrg, ev_trg, ev_forS, one_eq, oneC_eq, oneE_t, oneE_f, oneX_eq, wipeE_nil, wipeE_cons, ev_comp, fnK_ret, fnK_next, mask_nil, mask_0, mask_1, v_addI, v_tupL, v_tupT, v_lstL, v_lstT, v_lenL, v_lenT, v_int, v_seqL, v_seqT, v_bool, v_truB, v_truI, v_eqI, v_eqB, v_neI, v_ixT, v_ixL, v_at0, v_at1, v_at2, v_at3, v_at4, v_at5, List.getElem?_cons_zero, List.getElem?_cons_succ, List.set_cons_zero, List.set_cons_succ, List.length_cons, List.length_nil, Nat.reduceAdd, Nat.reduceLT, Nat.reduceSub, if_true, List.map_cons, List.map_nil, List.cons_append, List.nil_append, List.replicate_succ, List.replicate_zero, Nat.zero_add, Nat.lt_add_left_iff_pos, Nat.zero_lt_succ, bodyK_eq, v_rg1 n (by omega)]
  rw [compK_map (List.range n) (fun k : Nat => PyData.int (k : Int)) (fun x => rowB n (fun _ => false)) (by rw [List.length_range]; unfold big; omega) (fun x _ => by
    simp -implicitDefEqProofs only [bind_ok, lift_some, okK_eq, liftK_eq, ev_seq, seqK_next, seqK_ret, ev_asg, asgK_eq, ev_ret, ev_expr, ev_skip, ev_ifS, ev_if, ifK_t, ifK_f, ev_c, ev_yes, ev_and, ev_or, ev_not, cK_eq, ev_tb, ev_tru, ev_andV, ev_orV, ev_notV, bK_bool, notK_bool, ev_m2, m2K_eq, ev_m1, ev_nil, ev_cons, consK_eq, ev_tup, ev_lst, ev_slot, slotK_eq, ev_retO, retOK_eq, ev_name, ev_tup2, ev_tup3, ev_tgc, tgK_eq, ev_tgn, ev_call, callK_v1, callK_v2, callK_v3, callK2_v1, callK2_v2, callK2_v3, callK_b1, callK_b2, borK_eq, callK2_b1, callK2_b2, unK_eq, ev_bor, bor1K_eq, ev_lenO, lenOK_eq, listAt_eq, listK_eq, ev_ixO, ixO0_eq, ixO1_eq, ixO1'_eq, ixO2_0, ev_sub, subK0_eq, subK_eq, subK1_eq, subK2_eq, ev_app, appK0_eq, appK_eq, ev_ins, insK0_eq, insK'_eq, insK_eq, ev_ext, extK0_eq, extK_eq, ev_i1, ev_i2, i2K_eq, ev_lrg, ev_trg, ev_forS, one_eq, oneC_eq, oneE_t, oneE_f, oneX_eq, wipeE_nil, wipeE_cons, ev_comp, fnK_ret, fnK_next, mask_nil, mask_0, mask_1, v_addI, v_tupL, v_tupT, v_lstL, v_lstT, v_lenL, v_lenT, v_int, v_seqL, v_seqT, v_bool, v_truB, v_truI, v_eqI, v_eqB, v_neI, v_ixT, v_ixL, v_at0, v_at1, v_at2, v_at3, v_at4, v_at5, List.getElem?_cons_zero, List.getElem?_cons_succ, List.set_cons_zero, List.set_cons_succ, List.length_cons, List.length_nil, Nat.reduceAdd, Nat.reduceLT, Nat.reduceSub, if_true, List.map_cons, List.map_nil, List.cons_append, List.nil_append, List.replicate_succ, List.replicate_zero, Nat.zero_add, Nat.lt_add_left_iff_pos, Nat.zero_lt_succ, bodyK_eq, v_mulL (.bool false) n (by omega)]
    rfl)]
  simp -implicitDefEqProofs only [bind_ok, lift_some, okK_eq, liftK_eq, ev_seq, seqK_next, seqK_ret, ev_asg, asgK_eq, ev_ret, ev_expr, ev_skip, ev_ifS, ev_if, ifK_t, ifK_f, ev_c, ev_yes, ev_and, ev_or, ev_not, cK_eq, ev_tb, ev_tru, ev_andV, ev_orV, ev_notV, bK_bool, notK_bool, ev_m2, m2K_eq, ev_m1, ev_nil, ev_cons, consK_eq, ev_tup, ev_lst, ev_slot, slotK_eq, ev_retO, retOK_eq, ev_name, ev_tup2, ev_tup3, ev_tgc, tgK_eq, ev_tgn, ev_call, callK_v1, callK_v2, callK_v3, callK2_v1, callK2_v2, callK2_v3, callK_b1, callK_b2, borK_eq, callK2_b1, callK2_b2, unK_eq, ev_bor, bor1K_eq, ev_lenO, lenOK_eq, listAt_eq, listK_eq, ev_ixO, ixO0_eq, ixO1_eq, ixO1'_eq, ixO2_0, ev_sub, subK0_eq, subK_eq, subK1_eq, subK2_eq, ev_app, appK0_eq, appK_eq, ev_ins, insK0_eq, insK'_eq, insK_eq, ev_ext, extK0_eq, extK_eq, ev_i1, ev_i2, i2K_eq, ev_lrg, ev_trg, ev_forS, one_eq, oneC_eq, oneE_t, oneE_f, oneX_eq, wipeE_nil, wipeE_cons, ev_comp, fnK_ret, fnK_next, mask_nil, mask_0, mask_1, v_addI, v_tupL, v_tupT, v_lstL, v_lstT, v_lenL, v_lenT, v_int, v_seqL, v_seqT, v_bool, v_truB, v_truI, v_eqI, v_eqB, v_neI, v_ixT, v_ixL, v_at0, v_at1, v_at2, v_at3, v_at4, v_at5, List.getElem?_cons_zero, List.getElem?_cons_succ, List.set_cons_zero, List.set_cons_succ, List.length_cons, List.length_nil, Nat.reduceAdd, Nat.reduceLT, Nat.reduceSub, if_true, List.map_cons, List.map_nil, List.cons_append, List.nil_append, List.replicate_succ, List.replicate_zero, Nat.zero_add, Nat.lt_add_left_iff_pos, Nat.zero_lt_succ, bodyK_eq]
  obtain ⟨ρ1, e1, M1, y3, y4, rfl, h1⟩ := for_ix prN (tgTup 2 (tgCons (tgName 3) (tgCons (tgName 4) (tgNil)))) (mAsg (mC (.bool true)) (tgSub2 2 (mSlot 3) (mSlot 4)))
    (fun i ρ => ∃ (M : Nat → Nat → Bool) (y3 y4 : Option D), ρ = [some (.int (n : Int)), some (.list (ps.map prN)), some (.list (matL n M)), y3, y4, none, none, none, none] ∧ ∀ x y, x < n → y < n → M x y = true → ι x < ι y) ps
    [some (.int (n : Int)), some (.list (ps.map prN)), some (.list ((List.range n).map fun x => rowB n (fun _ => false))), none, none, none, none, none, none] ⟨fun _ _ => false, none, none, rfl, by simp⟩ (by
      rintro i p ρ hp ⟨M, y3, y4, rfl, hM⟩
      obtain ⟨hp1, hp2, hp3⟩ := hps p (List.mem_of_getElem? hp)
      refine ⟨[some (.int (n : Int)), some (.list (ps.map prN)), some (.list (matL n (updM M p.1 p.2 true))), some (.int (p.1 : Int)), some (.int (p.2 : Int)), none, none, none, none], ?_, _, _, _, rfl, ?_⟩
      · simp -implicitDefEqProofs only [bind_ok, lift_some, okK_eq, liftK_eq, ev_seq, seqK_next, seqK_ret, ev_asg, asgK_eq, ev_ret, ev_expr, ev_skip, ev_ifS, ev_if, ifK_t, ifK_f, ev_c, ev_yes, ev_and, ev_or, ev_not, cK_eq, ev_tb, ev_tru, ev_andV, ev_orV, ev_notV, bK_bool, notK_bool, ev_m2, m2K_eq, ev_m1, ev_nil, ev_cons, consK_eq, ev_tup, ev_lst, ev_slot, slotK_eq, ev_retO, retOK_eq, ev_name, ev_tup2, ev_tup3, ev_tgc, tgK_eq, ev_tgn, ev_call, callK_v1, callK_v2, callK_v3, callK2_v1, callK2_v2, callK2_v3, callK_b1, callK_b2, borK_eq, callK2_b1, callK2_b2, unK_eq, ev_bor, bor1K_eq, ev_lenO, lenOK_eq, listAt_eq, listK_eq, ev_ixO, ixO0_eq, ixO1_eq, ixO1'_eq, ixO2_0, ev_sub, subK0_eq, subK_eq, subK1_eq, subK2_eq, ev_app, appK0_eq, appK_eq, ev_ins, insK0_eq, insK'_eq, insK_eq, ev_ext, extK0_eq, extK_eq, ev_i1, ev_i2, i2K_eq, ev_lrg, ev_trg, ev_forS, one_eq, oneC_eq, oneE_t, oneE_f, oneX_eq, wipeE_nil, wipeE_cons, ev_comp, fnK_ret, fnK_next, mask_nil, mask_0, mask_1, v_addI, v_tupL, v_tupT, v_lstL, v_lstT, v_lenL, v_lenT, v_int, v_seqL, v_seqT, v_bool, v_truB, v_truI, v_eqI, v_eqB, v_neI, v_ixT, v_ixL, v_at0, v_at1, v_at2, v_at3, v_at4, v_at5, List.getElem?_cons_zero, List.getElem?_cons_succ, List.set_cons_zero, List.set_cons_succ, List.length_cons, List.length_nil, Nat.reduceAdd, Nat.reduceLT, Nat.reduceSub, if_true, List.map_cons, List.map_nil, List.cons_append, List.nil_append, List.replicate_succ, List.replicate_zero, Nat.zero_add, Nat.lt_add_left_iff_pos, Nat.zero_lt_succ, bodyK_eq, prN]
        rw [sub2_mat (n := n) (x := p.1) (y := p.2) (M := M) true rfl (by simp -implicitDefEqProofs only [bind_ok, lift_some, okK_eq, liftK_eq, ev_seq, seqK_next, seqK_ret, ev_asg, asgK_eq, ev_ret, ev_expr, ev_skip, ev_ifS, ev_if, ifK_t, ifK_f, ev_c, ev_yes, ev_and, ev_or, ev_not, cK_eq, ev_tb, ev_tru, ev_andV, ev_orV, ev_notV, bK_bool, notK_bool, ev_m2, m2K_eq, ev_m1, ev_nil, ev_cons, consK_eq, ev_tup, ev_lst, ev_slot, slotK_eq, ev_retO, retOK_eq, ev_name, ev_tup2, ev_tup3, ev_tgc, tgK_eq, ev_tgn, ev_call, callK_v1, callK_v2, callK_v3, callK2_v1, callK2_v2, callK2_v3, callK_b1, callK_b2, borK_eq, callK2_b1, callK2_b2, unK_eq, ev_bor, bor1K_eq, ev_lenO, lenOK_eq, listAt_eq, listK_eq, ev_ixO, ixO0_eq, ixO1_eq, ixO1'_eq, ixO2_0, ev_sub, subK0_eq, subK_eq, subK1_eq, subK2_eq, ev_app, appK0_eq, appK_eq, ev_ins, insK0_eq, insK'_eq, insK_eq, ev_ext, extK0_eq, extK_eq, ev_i1, ev_i2, i2K_eq, ev_lrg, ev_trg, ev_forS, one_eq, oneC_eq, oneE_t, oneE_f, oneX_eq, wipeE_nil, wipeE_cons, ev_comp, fnK_ret, fnK_next, mask_nil, mask_0, mask_1, v_addI, v_tupL, v_tupT, v_lstL, v_lstT, v_lenL, v_lenT, v_int, v_seqL, v_seqT, v_bool, v_truB, v_truI, v_eqI, v_eqB, v_neI, v_ixT, v_ixL, v_at0, v_at1, v_at2, v_at3, v_at4, v_at5, List.getElem?_cons_zero, List.getElem?_cons_succ, List.set_cons_zero, List.set_cons_succ, List.length_cons, List.length_nil, Nat.reduceAdd, Nat.reduceLT, Nat.reduceSub, if_true, List.map_cons, List.map_nil, List.cons_append, List.nil_append, List.replicate_succ, List.replicate_zero, Nat.zero_add, Nat.lt_add_left_iff_pos, Nat.zero_lt_succ, bodyK_eq]) (by simp -implicitDefEqProofs only [bind_ok, lift_some, okK_eq, liftK_eq, ev_seq, seqK_next, seqK_ret, ev_asg, asgK_eq, ev_ret, ev_expr, ev_skip, ev_ifS, ev_if, ifK_t, ifK_f, ev_c, ev_yes, ev_and, ev_or, ev_not, cK_eq, ev_tb, ev_tru, ev_andV, ev_orV, ev_notV, bK_bool, notK_bool, ev_m2, m2K_eq, ev_m1, ev_nil, ev_cons, consK_eq, ev_tup, ev_lst, ev_slot, slotK_eq, ev_retO, retOK_eq, ev_name, ev_tup2, ev_tup3, ev_tgc, tgK_eq, ev_tgn, ev_call, callK_v1, callK_v2, callK_v3, callK2_v1, callK2_v2, callK2_v3, callK_b1, callK_b2, borK_eq, callK2_b1, callK2_b2, unK_eq, ev_bor, bor1K_eq, ev_lenO, lenOK_eq, listAt_eq, listK_eq, ev_ixO, ixO0_eq, ixO1_eq, ixO1'_eq, ixO2_0, ev_sub, subK0_eq, subK_eq, subK1_eq, subK2_eq, ev_app, appK0_eq, appK_eq, ev_ins, insK0_eq, insK'_eq, insK_eq, ev_ext, extK0_eq, extK_eq, ev_i1, ev_i2, i2K_eq, ev_lrg, ev_trg, ev_forS, one_eq, oneC_eq, oneE_t, oneE_f, oneX_eq, wipeE_nil, wipeE_cons, ev_comp, fnK_ret, fnK_next, mask_nil, mask_0, mask_1, v_addI, v_tupL, v_tupT, v_lstL, v_lstT, v_lenL, v_lenT, v_int, v_seqL, v_seqT, v_bool, v_truB, v_truI, v_eqI, v_eqB, v_neI, v_ixT, v_ixL, v_at0, v_at1, v_at2, v_at3, v_at4, v_at5, List.getElem?_cons_zero, List.getElem?_cons_succ, List.set_cons_zero, List.set_cons_succ, List.length_cons, List.length_nil, Nat.reduceAdd, Nat.reduceLT, Nat.reduceSub, if_true, List.map_cons, List.map_nil, List.cons_append, List.nil_append, List.replicate_succ, List.replicate_zero, Nat.zero_add, Nat.lt_add_left_iff_pos, Nat.zero_lt_succ, bodyK_eq]) hp1 hp2]
        simp -implicitDefEqProofs only [bind_ok, lift_some, okK_eq, liftK_eq, ev_seq, seqK_next, seqK_ret, ev_asg, asgK_eq, ev_ret, ev_expr, ev_skip, ev_ifS, ev_if, ifK_t, ifK_f, ev_c, ev_yes, ev_and, ev_or, ev_not, cK_eq, ev_tb, ev_tru, ev_andV, ev_orV, ev_notV, bK_bool, notK_bool, ev_m2, m2K_eq, ev_m1, ev_nil, ev_cons, consK_eq, ev_tup, ev_lst, ev_slot, slotK_eq, ev_retO, retOK_eq, ev_name, ev_tup2, ev_tup3, ev_tgc, tgK_eq, ev_tgn, ev_call, callK_v1, callK_v2, callK_v3, callK2_v1, callK2_v2, callK2_v3, callK_b1, callK_b2, borK_eq, callK2_b1, callK2_b2, unK_eq, ev_bor, bor1K_eq, ev_lenO, lenOK_eq, listAt_eq, listK_eq, ev_ixO, ixO0_eq, ixO1_eq, ixO1'_eq, ixO2_0, ev_sub, subK0_eq, subK_eq, subK1_eq, subK2_eq, ev_app, appK0_eq, appK_eq, ev_ins, insK0_eq, insK'_eq, insK_eq, ev_ext, extK0_eq, extK_eq, ev_i1, ev_i2, i2K_eq, ev_lrg, ev_trg, ev_forS, one_eq, oneC_eq, oneE_t, oneE_f, oneX_eq, wipeE_nil, wipeE_cons, ev_comp, fnK_ret, fnK_next, mask_nil, mask_0, mask_1, v_addI, v_tupL, v_tupT, v_lstL, v_lstT, v_lenL, v_lenT, v_int, v_seqL, v_seqT, v_bool, v_truB, v_truI, v_eqI, v_eqB, v_neI, v_ixT, v_ixL, v_at0, v_at1, v_at2, v_at3, v_at4, v_at5, List.getElem?_cons_zero, List.getElem?_cons_succ, List.set_cons_zero, List.set_cons_succ, List.length_cons, List.length_nil, Nat.reduceAdd, Nat.reduceLT, Nat.reduceSub, if_true, List.map_cons, List.map_nil, List.cons_append, List.nil_append, List.replicate_succ, List.replicate_zero, Nat.zero_add, Nat.lt_add_left_iff_pos, Nat.zero_lt_succ, bodyK_eq]
      · intro x y hx hy h
        unfold updM at h
        split at h
        · rename_i c; rw [c.1, c.2]; exact hp3
        · exact hM x y hx hy h)
  rw [e1]
  simp -implicitDefEqProofs only [bind_ok, lift_some, okK_eq, liftK_eq, ev_seq, seqK_next, seqK_ret, ev_asg, asgK_eq, ev_ret, ev_expr, ev_skip, ev_ifS, ev_if, ifK_t, ifK_f, ev_c, ev_yes, ev_and, ev_or, ev_not, cK_eq, ev_tb, ev_tru, ev_andV, ev_orV, ev_notV, bK_bool, notK_bool, ev_m2, m2K_eq, ev_m1, ev_nil, ev_cons, consK_eq, ev_tup, ev_lst, ev_slot, slotK_eq, ev_retO, retOK_eq, ev_name, ev_tup2, ev_tup3, ev_tgc, tgK_eq, ev_tgn, ev_call, callK_v1, callK_v2, callK_v3, callK2_v1, callK2_v2, callK2_v3, callK_b1, callK_b2, borK_eq, callK2_b1, callK2_b2, unK_eq, ev_bor, bor1K_eq, ev_lenO, lenOK_eq, listAt_eq, listK_eq, ev_ixO, ixO0_eq, ixO1_eq, ixO1'_eq, ixO2_0, ev_sub, subK0_eq, subK_eq, subK1_eq, subK2_eq, ev_app, appK0_eq, appK_eq, ev_ins, insK0_eq, insK'_eq, insK_eq, ev_ext, extK0_eq, extK_eq, ev_i1, ev_i2, i2K_eq, ev_lrg, ev_trg, ev_forS, one_eq, oneC_eq, oneE_t, oneE_f, oneX_eq, wipeE_nil, wipeE_cons, ev_comp, fnK_ret, fnK_next, mask_nil, mask_0, mask_1, v_addI, v_tupL, v_tupT, v_lstL, v_lstT, v_lenL, v_lenT, v_int, v_seqL, v_seqT, v_bool, v_truB, v_truI, v_eqI, v_eqB, v_neI, v_ixT, v_ixL, v_at0, v_at1, v_at2, v_at3, v_at4, v_at5, List.getElem?_cons_zero, List.getElem?_cons_succ, List.set_cons_zero, List.set_cons_succ, List.length_cons, List.length_nil, Nat.reduceAdd, Nat.reduceLT, Nat.reduceSub, if_true, List.map_cons, List.map_nil, List.cons_append, List.nil_append, List.replicate_succ, List.replicate_zero, Nat.zero_add, Nat.lt_add_left_iff_pos, Nat.zero_lt_succ, bodyK_eq, v_rg1 n (show n ≤ 1000000 by omega)]
  obtain ⟨ρ2, e2, M2, z3, z5, z7, z8, rfl, h2⟩ := for_ix (fun k : Nat => PyData.int (k : Int)) (tgName 5) (mForS (mI1 fRange1 (mSlot 0)) (tgName 3) (mIfS (mTru (m2 fIxA (mIxO 2 0 (mSlot 3)) (mSlot 5))) (mAsg (mComp [7, 8] (mI2 fZip (mIxO 2 0 (mSlot 3)) (mIxO 2 0 (mSlot 5))) (tgTup 2 (tgCons (tgName 7) (tgCons (tgName 8) (tgNil)))) (mYes) (mOrV (mSlot 7) (mSlot 8))) (tgSub 2 (mSlot 3))) (mSkip)))
    (fun i ρ => ∃ (M : Nat → Nat → Bool) (z3 z5 z7 z8 : Option D), ρ = [some (.int (n : Int)), some (.list (ps.map prN)), some (.list (matL n M)), z3, y4, z5, none, z7, z8] ∧ ∀ x y, x < n → y < n → M x y = true → ι x < ι y) (List.range n)
    [some (.int (n : Int)), some (.list (ps.map prN)), some (.list (matL n M1)), y3, y4, none, none, none, none] ⟨M1, y3, none, none, none, rfl, h1⟩ (by
      rintro z z' ρ hz ⟨M, z3, z5, z7, z8, rfl, hM⟩
      obtain ⟨rfl, hz⟩ := rng_get hz
      obtain ⟨ρ', e, M', w3, w7, w8, rfl, hM'⟩ := for_ix (fun k : Nat => PyData.int (k : Int)) (tgName 3) (mIfS (mTru (m2 fIxA (mIxO 2 0 (mSlot 3)) (mSlot 5))) (mAsg (mComp [7, 8] (mI2 fZip (mIxO 2 0 (mSlot 3)) (mIxO 2 0 (mSlot 5))) (tgTup 2 (tgCons (tgName 7) (tgCons (tgName 8) (tgNil)))) (mYes) (mOrV (mSlot 7) (mSlot 8))) (tgSub 2 (mSlot 3))) (mSkip))
        (fun i ρ => ∃ (M : Nat → Nat → Bool) (z3 z7 z8 : Option D), ρ = [some (.int (n : Int)), some (.list (ps.map prN)), some (.list (matL n M)), z3, y4, some (.int (z' : Int)), none, z7, z8] ∧ ∀ x y, x < n → y < n → M x y = true → ι x < ι y) (List.range n)
        [some (.int (n : Int)), some (.list (ps.map prN)), some (.list (matL n M)), z3, y4, some (.int (z' : Int)), none, z7, z8] ⟨M, z3, z7, z8, rfl, hM⟩ (by
          rintro x x' ρ hx ⟨M, z3, z7, z8, rfl, hM⟩
          obtain ⟨rfl, hx⟩ := rng_get hx
          cases hb : M x' z' with
          | false =>
            refine ⟨[some (.int (n : Int)), some (.list (ps.map prN)), some (.list (matL n M)), some (.int (x' : Int)), y4, some (.int (z' : Int)), none, z7, z8], ?_, M, _, _, _, rfl, hM⟩
            simp -implicitDefEqProofs only [bind_ok, lift_some, okK_eq, liftK_eq, ev_seq, seqK_next, seqK_ret, ev_asg, asgK_eq, ev_ret, ev_expr, ev_skip, ev_ifS, ev_if, ifK_t, ifK_f, ev_c, ev_yes, ev_and, ev_or, ev_not, cK_eq, ev_tb, ev_tru, ev_andV, ev_orV, ev_notV, bK_bool, notK_bool, ev_m2, m2K_eq, ev_m1, ev_nil, ev_cons, consK_eq, ev_tup, ev_lst, ev_slot, slotK_eq, ev_retO, retOK_eq, ev_name, ev_tup2, ev_tup3, ev_tgc, tgK_eq, ev_tgn, ev_call, callK_v1, callK_v2, callK_v3, callK2_v1, callK2_v2, callK2_v3, callK_b1, callK_b2, borK_eq, callK2_b1, callK2_b2, unK_eq, ev_bor, bor1K_eq, ev_lenO, lenOK_eq, listAt_eq, listK_eq, ev_ixO, ixO0_eq, ixO1_eq, ixO1'_eq, ixO2_0, ev_sub, subK0_eq, subK_eq, subK1_eq, subK2_eq, ev_app, appK0_eq, appK_eq, ev_ins, insK0_eq, insK'_eq, insK_eq, ev_ext, extK0_eq, extK_eq, ev_i1, ev_i2, i2K_eq, ev_lrg, ev_trg, ev_forS, one_eq, oneC_eq, oneE_t, oneE_f, oneX_eq, wipeE_nil, wipeE_cons, ev_comp, fnK_ret, fnK_next, mask_nil, mask_0, mask_1, v_addI, v_tupL, v_tupT, v_lstL, v_lstT, v_lenL, v_lenT, v_int, v_seqL, v_seqT, v_bool, v_truB, v_truI, v_eqI, v_eqB, v_neI, v_ixT, v_ixL, v_at0, v_at1, v_at2, v_at3, v_at4, v_at5, List.getElem?_cons_zero, List.getElem?_cons_succ, List.set_cons_zero, List.set_cons_succ, List.length_cons, List.length_nil, Nat.reduceAdd, Nat.reduceLT, Nat.reduceSub, if_true, List.map_cons, List.map_nil, List.cons_append, List.nil_append, List.replicate_succ, List.replicate_zero, Nat.zero_add, Nat.lt_add_left_iff_pos, Nat.zero_lt_succ, bodyK_eq, atI_mat M hx, atI_rng n (fun y => PyData.bool (M x' y)) hz, hb]
          | true =>
            refine ⟨[some (.int (n : Int)), some (.list (ps.map prN)), some (.list (matL n (fun u v => if u = x' then (M u v || M z' v) else M u v))), some (.int (x' : Int)), y4, some (.int (z' : Int)), none, none, none], ?_, _, _, _, _, rfl, ?_⟩
            · simp -implicitDefEqProofs only [bind_ok, lift_some, okK_eq, liftK_eq, ev_seq, seqK_next, seqK_ret, ev_asg, asgK_eq, ev_ret, ev_expr, ev_skip, ev_ifS, ev_if, ifK_t, ifK_f, ev_c, ev_yes, ev_and, ev_or, ev_not, cK_eq, ev_tb, ev_tru, ev_andV, ev_orV, ev_notV, bK_bool, notK_bool, ev_m2, m2K_eq, ev_m1, ev_nil, ev_cons, consK_eq, ev_tup, ev_lst, ev_slot, slotK_eq, ev_retO, retOK_eq, ev_name, ev_tup2, ev_tup3, ev_tgc, tgK_eq, ev_tgn, ev_call, callK_v1, callK_v2, callK_v3, callK2_v1, callK2_v2, callK2_v3, callK_b1, callK_b2, borK_eq, callK2_b1, callK2_b2, unK_eq, ev_bor, bor1K_eq, ev_lenO, lenOK_eq, listAt_eq, listK_eq, ev_ixO, ixO0_eq, ixO1_eq, ixO1'_eq, ixO2_0, ev_sub, subK0_eq, subK_eq, subK1_eq, subK2_eq, ev_app, appK0_eq, appK_eq, ev_ins, insK0_eq, insK'_eq, insK_eq, ev_ext, extK0_eq, extK_eq, ev_i1, ev_i2, i2K_eq, ev_lrg, ev_trg, ev_forS, one_eq, oneC_eq, oneE_t, oneE_f, oneX_eq, wipeE_nil, wipeE_cons, ev_comp, fnK_ret, fnK_next, mask_nil, mask_0, mask_1, v_addI, v_tupL, v_tupT, v_lstL, v_lstT, v_lenL, v_lenT, v_int, v_seqL, v_seqT, v_bool, v_truB, v_truI, v_eqI, v_eqB, v_neI, v_ixT, v_ixL, v_at0, v_at1, v_at2, v_at3, v_at4, v_at5, List.getElem?_cons_zero, List.getElem?_cons_succ, List.set_cons_zero, List.set_cons_succ, List.length_cons, List.length_nil, Nat.reduceAdd, Nat.reduceLT, Nat.reduceSub, if_true, List.map_cons, List.map_nil, List.cons_append, List.nil_append, List.replicate_succ, List.replicate_zero, Nat.zero_add, Nat.lt_add_left_iff_pos, Nat.zero_lt_succ, bodyK_eq, atI_mat M hx, atI_rng n (fun y => PyData.bool (M x' y)) hz, hb, atI_mat M hz, v_zip, zip_rng]
              rw [compK_map (List.range n) (fun y => PyData.tuple [.bool (M x' y), .bool (M z' y)]) (fun y => .bool (M x' y || M z' y)) (by rw [List.length_range]; unfold big; omega) (fun y _ => by
                cases h1 : M x' y
                · simp -implicitDefEqProofs only [bind_ok, lift_some, okK_eq, liftK_eq, ev_seq, seqK_next, seqK_ret, ev_asg, asgK_eq, ev_ret, ev_expr, ev_skip, ev_ifS, ev_if, ifK_t, ifK_f, ev_c, ev_yes, ev_and, ev_or, ev_not, cK_eq, ev_tb, ev_tru, ev_andV, ev_orV, ev_notV, bK_bool, notK_bool, ev_m2, m2K_eq, ev_m1, ev_nil, ev_cons, consK_eq, ev_tup, ev_lst, ev_slot, slotK_eq, ev_retO, retOK_eq, ev_name, ev_tup2, ev_tup3, ev_tgc, tgK_eq, ev_tgn, ev_call, callK_v1, callK_v2, callK_v3, callK2_v1, callK2_v2, callK2_v3, callK_b1, callK_b2, borK_eq, callK2_b1, callK2_b2, unK_eq, ev_bor, bor1K_eq, ev_lenO, lenOK_eq, listAt_eq, listK_eq, ev_ixO, ixO0_eq, ixO1_eq, ixO1'_eq, ixO2_0, ev_sub, subK0_eq, subK_eq, subK1_eq, subK2_eq, ev_app, appK0_eq, appK_eq, ev_ins, insK0_eq, insK'_eq, insK_eq, ev_ext, extK0_eq, extK_eq, ev_i1, ev_i2, i2K_eq, ev_lrg, ev_trg, ev_forS, one_eq, oneC_eq, oneE_t, oneE_f, oneX_eq, wipeE_nil, wipeE_cons, ev_comp, fnK_ret, fnK_next, mask_nil, mask_0, mask_1, v_addI, v_tupL, v_tupT, v_lstL, v_lstT, v_lenL, v_lenT, v_int, v_seqL, v_seqT, v_bool, v_truB, v_truI, v_eqI, v_eqB, v_neI, v_ixT, v_ixL, v_at0, v_at1, v_at2, v_at3, v_at4, v_at5, List.getElem?_cons_zero, List.getElem?_cons_succ, List.set_cons_zero, List.set_cons_succ, List.length_cons, List.length_nil, Nat.reduceAdd, Nat.reduceLT, Nat.reduceSub, if_true, List.map_cons, List.map_nil, List.cons_append, List.nil_append, List.replicate_succ, List.replicate_zero, Nat.zero_add, Nat.lt_add_left_iff_pos, Nat.zero_lt_succ, bodyK_eq, Bool.false_or]
                · simp -implicitDefEqProofs only [bind_ok, lift_some, okK_eq, liftK_eq, ev_seq, seqK_next, seqK_ret, ev_asg, asgK_eq, ev_ret, ev_expr, ev_skip, ev_ifS, ev_if, ifK_t, ifK_f, ev_c, ev_yes, ev_and, ev_or, ev_not, cK_eq, ev_tb, ev_tru, ev_andV, ev_orV, ev_notV, bK_bool, notK_bool, ev_m2, m2K_eq, ev_m1, ev_nil, ev_cons, consK_eq, ev_tup, ev_lst, ev_slot, slotK_eq, ev_retO, retOK_eq, ev_name, ev_tup2, ev_tup3, ev_tgc, tgK_eq, ev_tgn, ev_call, callK_v1, callK_v2, callK_v3, callK2_v1, callK2_v2, callK2_v3, callK_b1, callK_b2, borK_eq, callK2_b1, callK2_b2, unK_eq, ev_bor, bor1K_eq, ev_lenO, lenOK_eq, listAt_eq, listK_eq, ev_ixO, ixO0_eq, ixO1_eq, ixO1'_eq, ixO2_0, ev_sub, subK0_eq, subK_eq, subK1_eq, subK2_eq, ev_app, appK0_eq, appK_eq, ev_ins, insK0_eq, insK'_eq, insK_eq, ev_ext, extK0_eq, extK_eq, ev_i1, ev_i2, i2K_eq, ev_lrg, ev_trg, ev_forS, one_eq, oneC_eq, oneE_t, oneE_f, oneX_eq, wipeE_nil, wipeE_cons, ev_comp, fnK_ret, fnK_next, mask_nil, mask_0, mask_1, v_addI, v_tupL, v_tupT, v_lstL, v_lstT, v_lenL, v_lenT, v_int, v_seqL, v_seqT, v_bool, v_truB, v_truI, v_eqI, v_eqB, v_neI, v_ixT, v_ixL, v_at0, v_at1, v_at2, v_at3, v_at4, v_at5, List.getElem?_cons_zero, List.getElem?_cons_succ, List.set_cons_zero, List.set_cons_succ, List.length_cons, List.length_nil, Nat.reduceAdd, Nat.reduceLT, Nat.reduceSub, if_true, List.map_cons, List.map_nil, List.cons_append, List.nil_append, List.replicate_succ, List.replicate_zero, Nat.zero_add, Nat.lt_add_left_iff_pos, Nat.zero_lt_succ, bodyK_eq, Bool.true_or])]
              simp -implicitDefEqProofs only [bind_ok, lift_some, okK_eq, liftK_eq, ev_seq, seqK_next, seqK_ret, ev_asg, asgK_eq, ev_ret, ev_expr, ev_skip, ev_ifS, ev_if, ifK_t, ifK_f, ev_c, ev_yes, ev_and, ev_or, ev_not, cK_eq, ev_tb, ev_tru, ev_andV, ev_orV, ev_notV, bK_bool, notK_bool, ev_m2, m2K_eq, ev_m1, ev_nil, ev_cons, consK_eq, ev_tup, ev_lst, ev_slot, slotK_eq, ev_retO, retOK_eq, ev_name, ev_tup2, ev_tup3, ev_tgc, tgK_eq, ev_tgn, ev_call, callK_v1, callK_v2, callK_v3, callK2_v1, callK2_v2, callK2_v3, callK_b1, callK_b2, borK_eq, callK2_b1, callK2_b2, unK_eq, ev_bor, bor1K_eq, ev_lenO, lenOK_eq, listAt_eq, listK_eq, ev_ixO, ixO0_eq, ixO1_eq, ixO1'_eq, ixO2_0, ev_sub, subK0_eq, subK_eq, subK1_eq, subK2_eq, ev_app, appK0_eq, appK_eq, ev_ins, insK0_eq, insK'_eq, insK_eq, ev_ext, extK0_eq, extK_eq, ev_i1, ev_i2, i2K_eq, ev_lrg, ev_trg, ev_forS, one_eq, oneC_eq, oneE_t, oneE_f, oneX_eq, wipeE_nil, wipeE_cons, ev_comp, fnK_ret, fnK_next, mask_nil, mask_0, mask_1, v_addI, v_tupL, v_tupT, v_lstL, v_lstT, v_lenL, v_lenT, v_int, v_seqL, v_seqT, v_bool, v_truB, v_truI, v_eqI, v_eqB, v_neI, v_ixT, v_ixL, v_at0, v_at1, v_at2, v_at3, v_at4, v_at5, List.getElem?_cons_zero, List.getElem?_cons_succ, List.set_cons_zero, List.set_cons_succ, List.length_cons, List.length_nil, Nat.reduceAdd, Nat.reduceLT, Nat.reduceSub, if_true, List.map_cons, List.map_nil, List.cons_append, List.nil_append, List.replicate_succ, List.replicate_zero, Nat.zero_add, Nat.lt_add_left_iff_pos, Nat.zero_lt_succ, bodyK_eq, matL_len, ixN_nat hx]
              have es := set_rng n (fun x => rowB n (M x)) (fun u => rowB n (fun v => if u = x' then (M u v || M z' v) else M u v)) hx (fun u _ hu => by
                show rowB n _ = rowB n _
                congr 1
                funext v
                rw [if_neg hu])
              simp only [if_true] at es
              show Rs.ok Fl.next _ = Rs.ok Fl.next _
              unfold matL
              rw [← es]
              rfl
            · intro u v hu hv h
              by_cases c : u = x'
              · rw [if_pos c] at h
                subst c
                rcases Bool.or_eq_true _ _ |>.mp h with h | h
                · exact hM _ _ hu hv h
                · exact Nat.lt_trans (hM _ _ hu hz hb) (hM _ _ hz hv h)
              · rw [if_neg c] at h
                exact hM _ _ hu hv h)
      refine ⟨_, ?_, M', w3, some (.int (z' : Int)), w7, w8, rfl, hM'⟩
      simp -implicitDefEqProofs only [bind_ok, lift_some, okK_eq, liftK_eq, ev_seq, seqK_next, seqK_ret, ev_asg, asgK_eq, ev_ret, ev_expr, ev_skip, ev_ifS, ev_if, ifK_t, ifK_f, ev_c, ev_yes, ev_and, ev_or, ev_not, cK_eq, ev_tb, ev_tru, ev_andV, ev_orV, ev_notV, bK_bool, notK_bool, ev_m2, m2K_eq, ev_m1, ev_nil, ev_cons, consK_eq, ev_tup, ev_lst, ev_slot, slotK_eq, ev_retO, retOK_eq, ev_name, ev_tup2, ev_tup3, ev_tgc, tgK_eq, ev_tgn, ev_call, callK_v1, callK_v2, callK_v3, callK2_v1, callK2_v2, callK2_v3, callK_b1, callK_b2, borK_eq, callK2_b1, callK2_b2, unK_eq, ev_bor, bor1K_eq, ev_lenO, lenOK_eq, listAt_eq, listK_eq, ev_ixO, ixO0_eq, ixO1_eq, ixO1'_eq, ixO2_0, ev_sub, subK0_eq, subK_eq, subK1_eq, subK2_eq, ev_app, appK0_eq, appK_eq, ev_ins, insK0_eq, insK'_eq, insK_eq, ev_ext, extK0_eq, extK_eq, ev_i1, ev_i2, i2K_eq, ev_lrg, ev_trg, ev_forS, one_eq, oneC_eq, oneE_t, oneE_f, oneX_eq, wipeE_nil, wipeE_cons, ev_comp, fnK_ret, fnK_next, mask_nil, mask_0, mask_1, v_addI, v_tupL, v_tupT, v_lstL, v_lstT, v_lenL, v_lenT, v_int, v_seqL, v_seqT, v_bool, v_truB, v_truI, v_eqI, v_eqB, v_neI, v_ixT, v_ixL, v_at0, v_at1, v_at2, v_at3, v_at4, v_at5, List.getElem?_cons_zero, List.getElem?_cons_succ, List.set_cons_zero, List.set_cons_succ, List.length_cons, List.length_nil, Nat.reduceAdd, Nat.reduceLT, Nat.reduceSub, if_true, List.map_cons, List.map_nil, List.cons_append, List.nil_append, List.replicate_succ, List.replicate_zero, Nat.zero_add, Nat.lt_add_left_iff_pos, Nat.zero_lt_succ, bodyK_eq, v_rg1 n (show n ≤ 1000000 by omega), e])
  rw [e2]
  simp -implicitDefEqProofs only [bind_ok, lift_some, okK_eq, liftK_eq, ev_seq, seqK_next, seqK_ret, ev_asg, asgK_eq, ev_ret, ev_expr, ev_skip, ev_ifS, ev_if, ifK_t, ifK_f, ev_c, ev_yes, ev_and, ev_or, ev_not, cK_eq, ev_tb, ev_tru, ev_andV, ev_orV, ev_notV, bK_bool, notK_bool, ev_m2, m2K_eq, ev_m1, ev_nil, ev_cons, consK_eq, ev_tup, ev_lst, ev_slot, slotK_eq, ev_retO, retOK_eq, ev_name, ev_tup2, ev_tup3, ev_tgc, tgK_eq, ev_tgn, ev_call, callK_v1, callK_v2, callK_v3, callK2_v1, callK2_v2, callK2_v3, callK_b1, callK_b2, borK_eq, callK2_b1, callK2_b2, unK_eq, ev_bor, bor1K_eq, ev_lenO, lenOK_eq, listAt_eq, listK_eq, ev_ixO, ixO0_eq, ixO1_eq, ixO1'_eq, ixO2_0, ev_sub, subK0_eq, subK_eq, subK1_eq, subK2_eq, ev_app, appK0_eq, appK_eq, ev_ins, insK0_eq, insK'_eq, insK_eq, ev_ext, extK0_eq, extK_eq, ev_i1, ev_i2, i2K_eq, ev_lrg, ev_trg, ev_forS, one_eq, oneC_eq, oneE_t, oneE_f, oneX_eq, wipeE_nil, wipeE_cons, ev_comp, fnK_ret, fnK_next, mask_nil, mask_0, mask_1, v_addI, v_tupL, v_tupT, v_lstL, v_lstT, v_lenL, v_lenT, v_int, v_seqL, v_seqT, v_bool, v_truB, v_truI, v_eqI, v_eqB, v_neI, v_ixT, v_ixL, v_at0, v_at1, v_at2, v_at3, v_at4, v_at5, List.getElem?_cons_zero, List.getElem?_cons_succ, List.set_cons_zero, List.set_cons_succ, List.length_cons, List.length_nil, Nat.reduceAdd, Nat.reduceLT, Nat.reduceSub, if_true, List.map_cons, List.map_nil, List.cons_append, List.nil_append, List.replicate_succ, List.replicate_zero, Nat.zero_add, Nat.lt_add_left_iff_pos, Nat.zero_lt_succ, bodyK_eq, v_rg1 n (show n ≤ 1000000 by omega)]
  obtain ⟨ρ3, e3, w3, w4, rfl⟩ := for_ix (fun k : Nat => PyData.int (k : Int)) (tgName 3) (mAsg (m2 fAdd (mSlot 6) (mComp [4] (mI1 fRange1 (mSlot 0)) (tgName 4) (mTru (m2 fIxA (mIxO 2 0 (mSlot 3)) (mSlot 4))) (mTup (mCons (mSlot 3) (mCons (mSlot 4) (mNil)))))) (tgName 6))
    (fun i ρ => ∃ (w3 w4 : Option D), ρ = [some (.int (n : Int)), some (.list (ps.map prN)), some (.list (matL n M2)), w3, w4, z5, some (.list (((List.range i).flatMap fun x => ((List.range n).filter (M2 x)).map fun y => (x, y)).map prN)), z7, z8]) (List.range n)
    [some (.int (n : Int)), some (.list (ps.map prN)), some (.list (matL n M2)), z3, y4, z5, some (.list []), z7, z8] ⟨z3, y4, rfl⟩ (by
      rintro x x' ρ hx ⟨w3, w4, rfl⟩
      obtain ⟨rfl, hx⟩ := rng_get hx
      refine ⟨[some (.int (n : Int)), some (.list (ps.map prN)), some (.list (matL n M2)), some (.int (x' : Int)), none, z5, some (.list (((List.range (x' + 1)).flatMap fun x => ((List.range n).filter (M2 x)).map fun y => (x, y)).map prN)), z7, z8], ?_, _, _, rfl⟩
      simp -implicitDefEqProofs only [bind_ok, lift_some, okK_eq, liftK_eq, ev_seq, seqK_next, seqK_ret, ev_asg, asgK_eq, ev_ret, ev_expr, ev_skip, ev_ifS, ev_if, ifK_t, ifK_f, ev_c, ev_yes, ev_and, ev_or, ev_not, cK_eq, ev_tb, ev_tru, ev_andV, ev_orV, ev_notV, bK_bool, notK_bool, ev_m2, m2K_eq, ev_m1, ev_nil, ev_cons, consK_eq, ev_tup, ev_lst, ev_slot, slotK_eq, ev_retO, retOK_eq, ev_name, ev_tup2, ev_tup3, ev_tgc, tgK_eq, ev_tgn, ev_call, callK_v1, callK_v2, callK_v3, callK2_v1, callK2_v2, callK2_v3, callK_b1, callK_b2, borK_eq, callK2_b1, callK2_b2, unK_eq, ev_bor, bor1K_eq, ev_lenO, lenOK_eq, listAt_eq, listK_eq, ev_ixO, ixO0_eq, ixO1_eq, ixO1'_eq, ixO2_0, ev_sub, subK0_eq, subK_eq, subK1_eq, subK2_eq, ev_app, appK0_eq, appK_eq, ev_ins, insK0_eq, insK'_eq, insK_eq, ev_ext, extK0_eq, extK_eq, ev_i1, ev_i2, i2K_eq, ev_lrg, ev_trg, ev_forS, one_eq, oneC_eq, oneE_t, oneE_f, oneX_eq, wipeE_nil, wipeE_cons, ev_comp, fnK_ret, fnK_next, mask_nil, mask_0, mask_1, v_addI, v_tupL, v_tupT, v_lstL, v_lstT, v_lenL, v_lenT, v_int, v_seqL, v_seqT, v_bool, v_truB, v_truI, v_eqI, v_eqB, v_neI, v_ixT, v_ixL, v_at0, v_at1, v_at2, v_at3, v_at4, v_at5, List.getElem?_cons_zero, List.getElem?_cons_succ, List.set_cons_zero, List.set_cons_succ, List.length_cons, List.length_nil, Nat.reduceAdd, Nat.reduceLT, Nat.reduceSub, if_true, List.map_cons, List.map_nil, List.cons_append, List.nil_append, List.replicate_succ, List.replicate_zero, Nat.zero_add, Nat.lt_add_left_iff_pos, Nat.zero_lt_succ, bodyK_eq, v_rg1 n (show n ≤ 1000000 by omega)]
      rw [compK_filter (List.range n) (fun k : Nat => PyData.int (k : Int)) (M2 x') (fun y => prN (x', y)) (by rw [List.length_range]; unfold big; omega) (fun y hy => by
        have hy := List.mem_range.mp hy
        simp -implicitDefEqProofs only [bind_ok, lift_some, okK_eq, liftK_eq, ev_seq, seqK_next, seqK_ret, ev_asg, asgK_eq, ev_ret, ev_expr, ev_skip, ev_ifS, ev_if, ifK_t, ifK_f, ev_c, ev_yes, ev_and, ev_or, ev_not, cK_eq, ev_tb, ev_tru, ev_andV, ev_orV, ev_notV, bK_bool, notK_bool, ev_m2, m2K_eq, ev_m1, ev_nil, ev_cons, consK_eq, ev_tup, ev_lst, ev_slot, slotK_eq, ev_retO, retOK_eq, ev_name, ev_tup2, ev_tup3, ev_tgc, tgK_eq, ev_tgn, ev_call, callK_v1, callK_v2, callK_v3, callK2_v1, callK2_v2, callK2_v3, callK_b1, callK_b2, borK_eq, callK2_b1, callK2_b2, unK_eq, ev_bor, bor1K_eq, ev_lenO, lenOK_eq, listAt_eq, listK_eq, ev_ixO, ixO0_eq, ixO1_eq, ixO1'_eq, ixO2_0, ev_sub, subK0_eq, subK_eq, subK1_eq, subK2_eq, ev_app, appK0_eq, appK_eq, ev_ins, insK0_eq, insK'_eq, insK_eq, ev_ext, extK0_eq, extK_eq, ev_i1, ev_i2, i2K_eq, ev_lrg, ev_trg, ev_forS, one_eq, oneC_eq, oneE_t, oneE_f, oneX_eq, wipeE_nil, wipeE_cons, ev_comp, fnK_ret, fnK_next, mask_nil, mask_0, mask_1, v_addI, v_tupL, v_tupT, v_lstL, v_lstT, v_lenL, v_lenT, v_int, v_seqL, v_seqT, v_bool, v_truB, v_truI, v_eqI, v_eqB, v_neI, v_ixT, v_ixL, v_at0, v_at1, v_at2, v_at3, v_at4, v_at5, List.getElem?_cons_zero, List.getElem?_cons_succ, List.set_cons_zero, List.set_cons_succ, List.length_cons, List.length_nil, Nat.reduceAdd, Nat.reduceLT, Nat.reduceSub, if_true, List.map_cons, List.map_nil, List.cons_append, List.nil_append, List.replicate_succ, List.replicate_zero, Nat.zero_add, Nat.lt_add_left_iff_pos, Nat.zero_lt_succ, bodyK_eq, atI_mat M2 hx, atI_rng n (fun y => PyData.bool (M2 x' y)) hy]
        cases M2 x' y
        · simp -implicitDefEqProofs only [bind_ok, lift_some, okK_eq, liftK_eq, ev_seq, seqK_next, seqK_ret, ev_asg, asgK_eq, ev_ret, ev_expr, ev_skip, ev_ifS, ev_if, ifK_t, ifK_f, ev_c, ev_yes, ev_and, ev_or, ev_not, cK_eq, ev_tb, ev_tru, ev_andV, ev_orV, ev_notV, bK_bool, notK_bool, ev_m2, m2K_eq, ev_m1, ev_nil, ev_cons, consK_eq, ev_tup, ev_lst, ev_slot, slotK_eq, ev_retO, retOK_eq, ev_name, ev_tup2, ev_tup3, ev_tgc, tgK_eq, ev_tgn, ev_call, callK_v1, callK_v2, callK_v3, callK2_v1, callK2_v2, callK2_v3, callK_b1, callK_b2, borK_eq, callK2_b1, callK2_b2, unK_eq, ev_bor, bor1K_eq, ev_lenO, lenOK_eq, listAt_eq, listK_eq, ev_ixO, ixO0_eq, ixO1_eq, ixO1'_eq, ixO2_0, ev_sub, subK0_eq, subK_eq, subK1_eq, subK2_eq, ev_app, appK0_eq, appK_eq, ev_ins, insK0_eq, insK'_eq, insK_eq, ev_ext, extK0_eq, extK_eq, ev_i1, ev_i2, i2K_eq, ev_lrg, ev_trg, ev_forS, one_eq, oneC_eq, oneE_t, oneE_f, oneX_eq, wipeE_nil, wipeE_cons, ev_comp, fnK_ret, fnK_next, mask_nil, mask_0, mask_1, v_addI, v_tupL, v_tupT, v_lstL, v_lstT, v_lenL, v_lenT, v_int, v_seqL, v_seqT, v_bool, v_truB, v_truI, v_eqI, v_eqB, v_neI, v_ixT, v_ixL, v_at0, v_at1, v_at2, v_at3, v_at4, v_at5, List.getElem?_cons_zero, List.getElem?_cons_succ, List.set_cons_zero, List.set_cons_succ, List.length_cons, List.length_nil, Nat.reduceAdd, Nat.reduceLT, Nat.reduceSub, if_true, List.map_cons, List.map_nil, List.cons_append, List.nil_append, List.replicate_succ, List.replicate_zero, Nat.zero_add, Nat.lt_add_left_iff_pos, Nat.zero_lt_succ, bodyK_eq]; rfl
        · simp -implicitDefEqProofs only [bind_ok, lift_some, okK_eq, liftK_eq, ev_seq, seqK_next, seqK_ret, ev_asg, asgK_eq, ev_ret, ev_expr, ev_skip, ev_ifS, ev_if, ifK_t, ifK_f, ev_c, ev_yes, ev_and, ev_or, ev_not, cK_eq, ev_tb, ev_tru, ev_andV, ev_orV, ev_notV, bK_bool, notK_bool, ev_m2, m2K_eq, ev_m1, ev_nil, ev_cons, consK_eq, ev_tup, ev_lst, ev_slot, slotK_eq, ev_retO, retOK_eq, ev_name, ev_tup2, ev_tup3, ev_tgc, tgK_eq, ev_tgn, ev_call, callK_v1, callK_v2, callK_v3, callK2_v1, callK2_v2, callK2_v3, callK_b1, callK_b2, borK_eq, callK2_b1, callK2_b2, unK_eq, ev_bor, bor1K_eq, ev_lenO, lenOK_eq, listAt_eq, listK_eq, ev_ixO, ixO0_eq, ixO1_eq, ixO1'_eq, ixO2_0, ev_sub, subK0_eq, subK_eq, subK1_eq, subK2_eq, ev_app, appK0_eq, appK_eq, ev_ins, insK0_eq, insK'_eq, insK_eq, ev_ext, extK0_eq, extK_eq, ev_i1, ev_i2, i2K_eq, ev_lrg, ev_trg, ev_forS, one_eq, oneC_eq, oneE_t, oneE_f, oneX_eq, wipeE_nil, wipeE_cons, ev_comp, fnK_ret, fnK_next, mask_nil, mask_0, mask_1, v_addI, v_tupL, v_tupT, v_lstL, v_lstT, v_lenL, v_lenT, v_int, v_seqL, v_seqT, v_bool, v_truB, v_truI, v_eqI, v_eqB, v_neI, v_ixT, v_ixL, v_at0, v_at1, v_at2, v_at3, v_at4, v_at5, List.getElem?_cons_zero, List.getElem?_cons_succ, List.set_cons_zero, List.set_cons_succ, List.length_cons, List.length_nil, Nat.reduceAdd, Nat.reduceLT, Nat.reduceSub, if_true, List.map_cons, List.map_nil, List.cons_append, List.nil_append, List.replicate_succ, List.replicate_zero, Nat.zero_add, Nat.lt_add_left_iff_pos, Nat.zero_lt_succ, bodyK_eq, prN])]
      have hl := fm_take_len (fun x => (((List.range n).filter (M2 x)).map fun y => (x, y) : List (Nat × Nat))) n (fun i => row_len n _ i) (List.range x')
      have hl2 := flt_len n (M2 x')
      rw [List.length_range] at hl
      have h3 : x' * n ≤ 100 * 100 := Nat.mul_le_mul (by omega) hn
      simp -implicitDefEqProofs only [bind_ok, lift_some, okK_eq, liftK_eq, ev_seq, seqK_next, seqK_ret, ev_asg, asgK_eq, ev_ret, ev_expr, ev_skip, ev_ifS, ev_if, ifK_t, ifK_f, ev_c, ev_yes, ev_and, ev_or, ev_not, cK_eq, ev_tb, ev_tru, ev_andV, ev_orV, ev_notV, bK_bool, notK_bool, ev_m2, m2K_eq, ev_m1, ev_nil, ev_cons, consK_eq, ev_tup, ev_lst, ev_slot, slotK_eq, ev_retO, retOK_eq, ev_name, ev_tup2, ev_tup3, ev_tgc, tgK_eq, ev_tgn, ev_call, callK_v1, callK_v2, callK_v3, callK2_v1, callK2_v2, callK2_v3, callK_b1, callK_b2, borK_eq, callK2_b1, callK2_b2, unK_eq, ev_bor, bor1K_eq, ev_lenO, lenOK_eq, listAt_eq, listK_eq, ev_ixO, ixO0_eq, ixO1_eq, ixO1'_eq, ixO2_0, ev_sub, subK0_eq, subK_eq, subK1_eq, subK2_eq, ev_app, appK0_eq, appK_eq, ev_ins, insK0_eq, insK'_eq, insK_eq, ev_ext, extK0_eq, extK_eq, ev_i1, ev_i2, i2K_eq, ev_lrg, ev_trg, ev_forS, one_eq, oneC_eq, oneE_t, oneE_f, oneX_eq, wipeE_nil, wipeE_cons, ev_comp, fnK_ret, fnK_next, mask_nil, mask_0, mask_1, v_addI, v_tupL, v_tupT, v_lstL, v_lstT, v_lenL, v_lenT, v_int, v_seqL, v_seqT, v_bool, v_truB, v_truI, v_eqI, v_eqB, v_neI, v_ixT, v_ixL, v_at0, v_at1, v_at2, v_at3, v_at4, v_at5, List.getElem?_cons_zero, List.getElem?_cons_succ, List.set_cons_zero, List.set_cons_succ, List.length_cons, List.length_nil, Nat.reduceAdd, Nat.reduceLT, Nat.reduceSub, if_true, List.map_cons, List.map_nil, List.cons_append, List.nil_append, List.replicate_succ, List.replicate_zero, Nat.zero_add, Nat.lt_add_left_iff_pos, Nat.zero_lt_succ, bodyK_eq]
      rw [v_addL _ _ (by
        simp only [List.length_map]
        unfold big
        omega)]
      simp -implicitDefEqProofs only [bind_ok, lift_some, okK_eq, liftK_eq, ev_seq, seqK_next, seqK_ret, ev_asg, asgK_eq, ev_ret, ev_expr, ev_skip, ev_ifS, ev_if, ifK_t, ifK_f, ev_c, ev_yes, ev_and, ev_or, ev_not, cK_eq, ev_tb, ev_tru, ev_andV, ev_orV, ev_notV, bK_bool, notK_bool, ev_m2, m2K_eq, ev_m1, ev_nil, ev_cons, consK_eq, ev_tup, ev_lst, ev_slot, slotK_eq, ev_retO, retOK_eq, ev_name, ev_tup2, ev_tup3, ev_tgc, tgK_eq, ev_tgn, ev_call, callK_v1, callK_v2, callK_v3, callK2_v1, callK2_v2, callK2_v3, callK_b1, callK_b2, borK_eq, callK2_b1, callK2_b2, unK_eq, ev_bor, bor1K_eq, ev_lenO, lenOK_eq, listAt_eq, listK_eq, ev_ixO, ixO0_eq, ixO1_eq, ixO1'_eq, ixO2_0, ev_sub, subK0_eq, subK_eq, subK1_eq, subK2_eq, ev_app, appK0_eq, appK_eq, ev_ins, insK0_eq, insK'_eq, insK_eq, ev_ext, extK0_eq, extK_eq, ev_i1, ev_i2, i2K_eq, ev_lrg, ev_trg, ev_forS, one_eq, oneC_eq, oneE_t, oneE_f, oneX_eq, wipeE_nil, wipeE_cons, ev_comp, fnK_ret, fnK_next, mask_nil, mask_0, mask_1, v_addI, v_tupL, v_tupT, v_lstL, v_lstT, v_lenL, v_lenT, v_int, v_seqL, v_seqT, v_bool, v_truB, v_truI, v_eqI, v_eqB, v_neI, v_ixT, v_ixL, v_at0, v_at1, v_at2, v_at3, v_at4, v_at5, List.getElem?_cons_zero, List.getElem?_cons_succ, List.set_cons_zero, List.set_cons_succ, List.length_cons, List.length_nil, Nat.reduceAdd, Nat.reduceLT, Nat.reduceSub, if_true, List.map_cons, List.map_nil, List.cons_append, List.nil_append, List.replicate_succ, List.replicate_zero, Nat.zero_add, Nat.lt_add_left_iff_pos, Nat.zero_lt_succ, bodyK_eq]
      rw [range_snoc, List.map_append, List.map_map]
      rfl)
  rw [e3]
  simp -implicitDefEqProofs only [bind_ok, lift_some, okK_eq, liftK_eq, ev_seq, seqK_next, seqK_ret, ev_asg, asgK_eq, ev_ret, ev_expr, ev_skip, ev_ifS, ev_if, ifK_t, ifK_f, ev_c, ev_yes, ev_and, ev_or, ev_not, cK_eq, ev_tb, ev_tru, ev_andV, ev_orV, ev_notV, bK_bool, notK_bool, ev_m2, m2K_eq, ev_m1, ev_nil, ev_cons, consK_eq, ev_tup, ev_lst, ev_slot, slotK_eq, ev_retO, retOK_eq, ev_name, ev_tup2, ev_tup3, ev_tgc, tgK_eq, ev_tgn, ev_call, callK_v1, callK_v2, callK_v3, callK2_v1, callK2_v2, callK2_v3, callK_b1, callK_b2, borK_eq, callK2_b1, callK2_b2, unK_eq, ev_bor, bor1K_eq, ev_lenO, lenOK_eq, listAt_eq, listK_eq, ev_ixO, ixO0_eq, ixO1_eq, ixO1'_eq, ixO2_0, ev_sub, subK0_eq, subK_eq, subK1_eq, subK2_eq, ev_app, appK0_eq, appK_eq, ev_ins, insK0_eq, insK'_eq, insK_eq, ev_ext, extK0_eq, extK_eq, ev_i1, ev_i2, i2K_eq, ev_lrg, ev_trg, ev_forS, one_eq, oneC_eq, oneE_t, oneE_f, oneX_eq, wipeE_nil, wipeE_cons, ev_comp, fnK_ret, fnK_next, mask_nil, mask_0, mask_1, v_addI, v_tupL, v_tupT, v_lstL, v_lstT, v_lenL, v_lenT, v_int, v_seqL, v_seqT, v_bool, v_truB, v_truI, v_eqI, v_eqB, v_neI, v_ixT, v_ixL, v_at0, v_at1, v_at2, v_at3, v_at4, v_at5, List.getElem?_cons_zero, List.getElem?_cons_succ, List.set_cons_zero, List.set_cons_succ, List.length_cons, List.length_nil, Nat.reduceAdd, Nat.reduceLT, Nat.reduceSub, if_true, List.map_cons, List.map_nil, List.cons_append, List.nil_append, List.replicate_succ, List.replicate_zero, Nat.zero_add, Nat.lt_add_left_iff_pos, Nat.zero_lt_succ, bodyK_eq, List.length_range]
  exact ⟨M2, rfl, h2⟩
end Mir

set_option Elab.async false
set_option linter.all false
set_option maxRecDepth 100000
set_option maxHeartbeats 4000000
namespace Mir
open PySem PySem.Spec PyProof.Rows L2
theorem compK_st {α : Type} (xs : List α) (f : α → D) {vs : List Nat} {t : D → M Unit} {c : M Bool} {e : M D} {ρ : Env} (hl : xs.length ≤ big) (I : List α → List D → Env → Prop) (h0 : I [] [] (wipeE ρ vs))
    (h : ∀ (done : List α) (a : α) (acc : List D) (ρ : Env), a ∈ xs → I done acc ρ → ∃ o ρ1, one vs t c e (f a) ρ = .ok o ρ1 ∧ I (done ++ [a]) (acc ++ o.toList) ρ1) : ∃ r ρ', compK vs t c e (xs.map f) ρ = .ok (.list r) ρ' ∧ I xs r ρ' := by
  obtain ⟨r, ρ', e1, e2⟩ := mLc_st xs f I h0 h
  refine ⟨r, ρ', ?_, e2⟩
  show (if (xs.map f).length ≤ big then _ else _) = _
  rw [List.length_map, if_pos hl, e1]
  rfl
theorem drawn_ev {d : D} (hd : Feed d) (n share : Nat) (hn : n ≤ 100) (h0 : 0 < share) (h1 : share < 1073741824) :
    ∃ (d' : D) (M : Nat → Nat → Bool), F__law_drawn [d, .int (n : Int), .int (share : Int)] = .ok (ordD n M) [some d', none, none] ∧ Feed d' ∧ ∀ x, x < n → M x x = false := by
  obtain ⟨d1, τ, ι, e1, hb, hf1⟩ := mixedR_ev hd n (by omega)
  unfold F__law_drawn
  rw [ev_fn]
  unfold m__law_drawn
  have e1 : F__law_mixed [d, .list ((List.range n).map fun k : Nat => PyData.int (k : Int))] = _ := e1
  simp -implicitDefEqProofs only [bind_ok, lift_some, okK_eq, liftK_eq, ev_seq, seqK_next, seqK_ret, ev_asg, asgK_eq, ev_ret, ev_expr, ev_skip, ev_ifS, ev_if, ifK_t, ifK_f, ev_c, ev_yes, ev_and, ev_or, ev_not, cK_eq, ev_tb, ev_tru, ev_andV, ev_orV, ev_notV, bK_bool, notK_bool, ev_m2, m2K_eq, ev_m1, ev_nil, ev_cons, consK_eq, ev_tup, ev_lst, ev_slot, slotK_eq, ev_retO, retOK_eq, ev_name, ev_tup2, ev_tup3, ev_tgc, tgK_eq, ev_tgn, ev_call, callK_v1, callK_v2, callK_v3, callK2_v1, callK2_v2, callK2_v3, callK_b1, callK_b2, borK_eq, callK2_b1, callK2_b2, unK_eq, ev_bor, bor1K_eq, ev_lenO, lenOK_eq, listAt_eq, listK_eq, ev_ixO, ixO0_eq, ixO1_eq, ixO1'_eq, ixO2_0, ev_sub, subK0_eq, subK_eq, subK1_eq, subK2_eq, ev_app, appK0_eq, appK_eq, ev_ins, insK0_eq, insK'_eq, insK_eq, ev_ext, extK0_eq, extK_eq, ev_i1, ev_i2, i2K_eq, ev_lrg, ev_trg, ev_forS, one_eq, oneC_eq, oneE_t, oneE_f, oneX_eq, wipeE_nil, wipeE_cons, ev_comp, fnK_ret, fnK_next, mask_nil, mask_0, mask_1, v_addI, v_tupL, v_tupT, v_lstL, v_lstT, v_lenL, v_lenT, v_int, v_seqL, v_seqT, v_bool, v_truB, v_truI, v_eqI, v_eqB, v_neI, v_ixT, v_ixL, v_at0, v_at1, v_at2, v_at3, v_at4, v_at5, List.getElem?_cons_zero, List.getElem?_cons_succ, List.set_cons_zero, List.set_cons_succ, List.length_cons, List.length_nil, Nat.reduceAdd, Nat.reduceLT, Nat.reduceSub, if_true, List.map_cons, List.map_nil, List.cons_append, List.nil_append, List.replicate_succ, List.replicate_zero, Nat.zero_add, Nat.lt_add_left_iff_pos, Nat.zero_lt_succ, bodyK_eq, v_rg1 n (show n ≤ 1000000 by omega), e1]
  obtain ⟨ρ', e, d2, ps, y5, y6, rfl, hf2, hps, hpl⟩ := for_ix (fun k : Nat => PyData.int (k : Int)) (tgName 5) (mAsg (m2 fAdd (mSlot 4) (mComp [6] (mI2 fRange2 (m2 fAdd (mSlot 5) (mC (.int 1))) (mSlot 1)) (tgName 6) (mTB (m2 fEq (mCall F__law_pick [.bor 0, .val] (mBor 0 (mCons (mSlot 2) (mNil)))) (mC (.int 0)))) (mTup (mCons (mIxO 3 0 (mSlot 5)) (mCons (mIxO 3 0 (mSlot 6)) (mNil)))))) (tgName 4))
    (fun i ρ => ∃ (d : D) (ps : List (Nat × Nat)) (y5 y6 : Option D), ρ = [some d, some (.int (n : Int)), some (.int (share : Int)), some (.list ((List.range n).map fun x => natD (τ x))), some (.list (ps.map prN)), y5, y6] ∧ Feed d ∧ (∀ p ∈ ps, p.1 < n ∧ p.2 < n ∧ ι p.1 < ι p.2) ∧ ps.length ≤ i * n) (List.range n)
    [some d1, some (.int (n : Int)), some (.int (share : Int)), some (.list ((List.range n).map fun x => natD (τ x))), some (.list []), none, none] ⟨d1, [], none, none, rfl, hf1, by simp, by simp⟩ (by
      rintro x x' ρ hx ⟨d, ps, y5, y6, rfl, hf, hps, hpl⟩
      obtain ⟨rfl, hx⟩ := rng_get hx
      have ee : ((x' : Int) + 1) = ((x' + 1 : Nat) : Int) := by omega
      obtain ⟨r, ρ', ec, d3, qs, rfl, rfl, hf3, hqs, hql⟩ := compK_st (List.range (n - (x' + 1))) (fun k : Nat => PyData.int ((x' + 1 + k : Nat) : Int)) (vs := [6]) (t := tgName 6) (c := mTB (m2 fEq (mCall F__law_pick [.bor 0, .val] (mBor 0 (mCons (mSlot 2) (mNil)))) (mC (.int 0)))) (e := mTup (mCons (mIxO 3 0 (mSlot 5)) (mCons (mIxO 3 0 (mSlot 6)) (mNil))))
        (ρ := [some d, some (.int (n : Int)), some (.int (share : Int)), some (.list ((List.range n).map fun x => natD (τ x))), some (.list (ps.map prN)), some (.int (x' : Int)), y6]) (by rw [List.length_range]; unfold big; omega)
        (fun done acc ρ => ∃ (d : D) (qs : List (Nat × Nat)), acc = qs.map prN ∧ ρ = [some d, some (.int (n : Int)), some (.int (share : Int)), some (.list ((List.range n).map fun x => natD (τ x))), some (.list (ps.map prN)), some (.int (x' : Int)), none] ∧ Feed d ∧ (∀ p ∈ qs, p.1 < n ∧ p.2 < n ∧ ι p.1 < ι p.2) ∧ qs.length ≤ done.length)
        ⟨d, [], rfl, by simp -implicitDefEqProofs only [bind_ok, lift_some, okK_eq, liftK_eq, ev_seq, seqK_next, seqK_ret, ev_asg, asgK_eq, ev_ret, ev_expr, ev_skip, ev_ifS, ev_if, ifK_t, ifK_f, ev_c, ev_yes, ev_and, ev_or, ev_not, cK_eq, ev_tb, ev_tru, ev_andV, ev_orV, ev_notV, bK_bool, notK_bool, ev_m2, m2K_eq, ev_m1, ev_nil, ev_cons, consK_eq, ev_tup, ev_lst, ev_slot, slotK_eq, ev_retO, retOK_eq, ev_name, ev_tup2, ev_tup3, ev_tgc, tgK_eq, ev_tgn, ev_call, callK_v1, callK_v2, callK_v3, callK2_v1, callK2_v2, callK2_v3, callK_b1, callK_b2, borK_eq, callK2_b1, callK2_b2, unK_eq, ev_bor, bor1K_eq, ev_lenO, lenOK_eq, listAt_eq, listK_eq, ev_ixO, ixO0_eq, ixO1_eq, ixO1'_eq, ixO2_0, ev_sub, subK0_eq, subK_eq, subK1_eq, subK2_eq, ev_app, appK0_eq, appK_eq, ev_ins, insK0_eq, insK'_eq, insK_eq, ev_ext, extK0_eq, extK_eq, ev_i1, ev_i2, i2K_eq, ev_lrg, ev_trg, ev_forS, one_eq, oneC_eq, oneE_t, oneE_f, oneX_eq, wipeE_nil, wipeE_cons, ev_comp, fnK_ret, fnK_next, mask_nil, mask_0, mask_1, v_addI, v_tupL, v_tupT, v_lstL, v_lstT, v_lenL, v_lenT, v_int, v_seqL, v_seqT, v_bool, v_truB, v_truI, v_eqI, v_eqB, v_neI, v_ixT, v_ixL, v_at0, v_at1, v_at2, v_at3, v_at4, v_at5, List.getElem?_cons_zero, List.getElem?_cons_succ, List.set_cons_zero, List.set_cons_succ, List.length_cons, List.length_nil, Nat.reduceAdd, Nat.reduceLT, Nat.reduceSub, if_true, List.map_cons, List.map_nil, List.cons_append, List.nil_append, List.replicate_succ, List.replicate_zero, Nat.zero_add, Nat.lt_add_left_iff_pos, Nat.zero_lt_succ, bodyK_eq], hf, by simp, by simp⟩ (by
          rintro done k acc ρ hk ⟨d, qs, rfl, rfl, hf, hqs, hql⟩
          have hk := List.mem_range.mp hk
          obtain ⟨v, d', ep, hv, hf'⟩ := pick_ev hf share h0 h1
          have hy : x' + 1 + k < n := by omega
          cases hz : ((v : Int) == 0) with
          | false =>
            refine ⟨none, [some d', some (.int (n : Int)), some (.int (share : Int)), some (.list ((List.range n).map fun x => natD (τ x))), some (.list (ps.map prN)), some (.int (x' : Int)), none], ?_, d', qs, by simp, rfl, hf', hqs, by simp; omega⟩
            simp -implicitDefEqProofs only [bind_ok, lift_some, okK_eq, liftK_eq, ev_seq, seqK_next, seqK_ret, ev_asg, asgK_eq, ev_ret, ev_expr, ev_skip, ev_ifS, ev_if, ifK_t, ifK_f, ev_c, ev_yes, ev_and, ev_or, ev_not, cK_eq, ev_tb, ev_tru, ev_andV, ev_orV, ev_notV, bK_bool, notK_bool, ev_m2, m2K_eq, ev_m1, ev_nil, ev_cons, consK_eq, ev_tup, ev_lst, ev_slot, slotK_eq, ev_retO, retOK_eq, ev_name, ev_tup2, ev_tup3, ev_tgc, tgK_eq, ev_tgn, ev_call, callK_v1, callK_v2, callK_v3, callK2_v1, callK2_v2, callK2_v3, callK_b1, callK_b2, borK_eq, callK2_b1, callK2_b2, unK_eq, ev_bor, bor1K_eq, ev_lenO, lenOK_eq, listAt_eq, listK_eq, ev_ixO, ixO0_eq, ixO1_eq, ixO1'_eq, ixO2_0, ev_sub, subK0_eq, subK_eq, subK1_eq, subK2_eq, ev_app, appK0_eq, appK_eq, ev_ins, insK0_eq, insK'_eq, insK_eq, ev_ext, extK0_eq, extK_eq, ev_i1, ev_i2, i2K_eq, ev_lrg, ev_trg, ev_forS, one_eq, oneC_eq, oneE_t, oneE_f, oneX_eq, wipeE_nil, wipeE_cons, ev_comp, fnK_ret, fnK_next, mask_nil, mask_0, mask_1, v_addI, v_tupL, v_tupT, v_lstL, v_lstT, v_lenL, v_lenT, v_int, v_seqL, v_seqT, v_bool, v_truB, v_truI, v_eqI, v_eqB, v_neI, v_ixT, v_ixL, v_at0, v_at1, v_at2, v_at3, v_at4, v_at5, List.getElem?_cons_zero, List.getElem?_cons_succ, List.set_cons_zero, List.set_cons_succ, List.length_cons, List.length_nil, Nat.reduceAdd, Nat.reduceLT, Nat.reduceSub, if_true, List.map_cons, List.map_nil, List.cons_append, List.nil_append, List.replicate_succ, List.replicate_zero, Nat.zero_add, Nat.lt_add_left_iff_pos, Nat.zero_lt_succ, bodyK_eq, ep, hz]
          | true =>
            refine ⟨some (prN (τ x', τ (x' + 1 + k))), [some d', some (.int (n : Int)), some (.int (share : Int)), some (.list ((List.range n).map fun x => natD (τ x))), some (.list (ps.map prN)), some (.int (x' : Int)), none], ?_, d', qs ++ [(τ x', τ (x' + 1 + k))], by simp, rfl, hf', ?_, by simp; omega⟩
            · simp -implicitDefEqProofs only [bind_ok, lift_some, okK_eq, liftK_eq, ev_seq, seqK_next, seqK_ret, ev_asg, asgK_eq, ev_ret, ev_expr, ev_skip, ev_ifS, ev_if, ifK_t, ifK_f, ev_c, ev_yes, ev_and, ev_or, ev_not, cK_eq, ev_tb, ev_tru, ev_andV, ev_orV, ev_notV, bK_bool, notK_bool, ev_m2, m2K_eq, ev_m1, ev_nil, ev_cons, consK_eq, ev_tup, ev_lst, ev_slot, slotK_eq, ev_retO, retOK_eq, ev_name, ev_tup2, ev_tup3, ev_tgc, tgK_eq, ev_tgn, ev_call, callK_v1, callK_v2, callK_v3, callK2_v1, callK2_v2, callK2_v3, callK_b1, callK_b2, borK_eq, callK2_b1, callK2_b2, unK_eq, ev_bor, bor1K_eq, ev_lenO, lenOK_eq, listAt_eq, listK_eq, ev_ixO, ixO0_eq, ixO1_eq, ixO1'_eq, ixO2_0, ev_sub, subK0_eq, subK_eq, subK1_eq, subK2_eq, ev_app, appK0_eq, appK_eq, ev_ins, insK0_eq, insK'_eq, insK_eq, ev_ext, extK0_eq, extK_eq, ev_i1, ev_i2, i2K_eq, ev_lrg, ev_trg, ev_forS, one_eq, oneC_eq, oneE_t, oneE_f, oneX_eq, wipeE_nil, wipeE_cons, ev_comp, fnK_ret, fnK_next, mask_nil, mask_0, mask_1, v_addI, v_tupL, v_tupT, v_lstL, v_lstT, v_lenL, v_lenT, v_int, v_seqL, v_seqT, v_bool, v_truB, v_truI, v_eqI, v_eqB, v_neI, v_ixT, v_ixL, v_at0, v_at1, v_at2, v_at3, v_at4, v_at5, List.getElem?_cons_zero, List.getElem?_cons_succ, List.set_cons_zero, List.set_cons_succ, List.length_cons, List.length_nil, Nat.reduceAdd, Nat.reduceLT, Nat.reduceSub, if_true, List.map_cons, List.map_nil, List.cons_append, List.nil_append, List.replicate_succ, List.replicate_zero, Nat.zero_add, Nat.lt_add_left_iff_pos, Nat.zero_lt_succ, bodyK_eq, ep, hz, atI_rng n (fun x => natD (τ x)) hx, atI_rng n (fun x => natD (τ x)) hy]
              rfl
            · intro p hp
              rcases List.mem_append.mp hp with hp | hp
              · exact hqs p hp
              · rw [List.mem_singleton] at hp
                subst hp
                refine ⟨hb.to _ hx, hb.to _ hy, ?_⟩
                simp only [hb.l _ hx, hb.l _ hy]
                omega)
      rw [List.length_range] at hql
      refine ⟨[some d3, some (.int (n : Int)), some (.int (share : Int)), some (.list ((List.range n).map fun x => natD (τ x))), some (.list ((ps ++ qs).map prN)), some (.int (x' : Int)), none], ?_, d3, ps ++ qs, _, _, rfl, hf3, ?_, ?_⟩
      · simp -implicitDefEqProofs only [bind_ok, lift_some, okK_eq, liftK_eq, ev_seq, seqK_next, seqK_ret, ev_asg, asgK_eq, ev_ret, ev_expr, ev_skip, ev_ifS, ev_if, ifK_t, ifK_f, ev_c, ev_yes, ev_and, ev_or, ev_not, cK_eq, ev_tb, ev_tru, ev_andV, ev_orV, ev_notV, bK_bool, notK_bool, ev_m2, m2K_eq, ev_m1, ev_nil, ev_cons, consK_eq, ev_tup, ev_lst, ev_slot, slotK_eq, ev_retO, retOK_eq, ev_name, ev_tup2, ev_tup3, ev_tgc, tgK_eq, ev_tgn, ev_call, callK_v1, callK_v2, callK_v3, callK2_v1, callK2_v2, callK2_v3, callK_b1, callK_b2, borK_eq, callK2_b1, callK2_b2, unK_eq, ev_bor, bor1K_eq, ev_lenO, lenOK_eq, listAt_eq, listK_eq, ev_ixO, ixO0_eq, ixO1_eq, ixO1'_eq, ixO2_0, ev_sub, subK0_eq, subK_eq, subK1_eq, subK2_eq, ev_app, appK0_eq, appK_eq, ev_ins, insK0_eq, insK'_eq, insK_eq, ev_ext, extK0_eq, extK_eq, ev_i1, ev_i2, i2K_eq, ev_lrg, ev_trg, ev_forS, one_eq, oneC_eq, oneE_t, oneE_f, oneX_eq, wipeE_nil, wipeE_cons, ev_comp, fnK_ret, fnK_next, mask_nil, mask_0, mask_1, v_addI, v_tupL, v_tupT, v_lstL, v_lstT, v_lenL, v_lenT, v_int, v_seqL, v_seqT, v_bool, v_truB, v_truI, v_eqI, v_eqB, v_neI, v_ixT, v_ixL, v_at0, v_at1, v_at2, v_at3, v_at4, v_at5, List.getElem?_cons_zero, List.getElem?_cons_succ, List.set_cons_zero, List.set_cons_succ, List.length_cons, List.length_nil, Nat.reduceAdd, Nat.reduceLT, Nat.reduceSub, if_true, List.map_cons, List.map_nil, List.cons_append, List.nil_append, List.replicate_succ, List.replicate_zero, Nat.zero_add, Nat.lt_add_left_iff_pos, Nat.zero_lt_succ, bodyK_eq, ee, v_rg2 (x' + 1) n (by omega) (by omega), ec]
        have h3 : x' * n ≤ 100 * 100 := Nat.mul_le_mul (by omega) hn
        rw [v_addL _ _ (by
          simp only [List.length_map]
          unfold big
          omega)]
        simp -implicitDefEqProofs only [bind_ok, lift_some, okK_eq, liftK_eq, ev_seq, seqK_next, seqK_ret, ev_asg, asgK_eq, ev_ret, ev_expr, ev_skip, ev_ifS, ev_if, ifK_t, ifK_f, ev_c, ev_yes, ev_and, ev_or, ev_not, cK_eq, ev_tb, ev_tru, ev_andV, ev_orV, ev_notV, bK_bool, notK_bool, ev_m2, m2K_eq, ev_m1, ev_nil, ev_cons, consK_eq, ev_tup, ev_lst, ev_slot, slotK_eq, ev_retO, retOK_eq, ev_name, ev_tup2, ev_tup3, ev_tgc, tgK_eq, ev_tgn, ev_call, callK_v1, callK_v2, callK_v3, callK2_v1, callK2_v2, callK2_v3, callK_b1, callK_b2, borK_eq, callK2_b1, callK2_b2, unK_eq, ev_bor, bor1K_eq, ev_lenO, lenOK_eq, listAt_eq, listK_eq, ev_ixO, ixO0_eq, ixO1_eq, ixO1'_eq, ixO2_0, ev_sub, subK0_eq, subK_eq, subK1_eq, subK2_eq, ev_app, appK0_eq, appK_eq, ev_ins, insK0_eq, insK'_eq, insK_eq, ev_ext, extK0_eq, extK_eq, ev_i1, ev_i2, i2K_eq, ev_lrg, ev_trg, ev_forS, one_eq, oneC_eq, oneE_t, oneE_f, oneX_eq, wipeE_nil, wipeE_cons, ev_comp, fnK_ret, fnK_next, mask_nil, mask_0, mask_1, v_addI, v_tupL, v_tupT, v_lstL, v_lstT, v_lenL, v_lenT, v_int, v_seqL, v_seqT, v_bool, v_truB, v_truI, v_eqI, v_eqB, v_neI, v_ixT, v_ixL, v_at0, v_at1, v_at2, v_at3, v_at4, v_at5, List.getElem?_cons_zero, List.getElem?_cons_succ, List.set_cons_zero, List.set_cons_succ, List.length_cons, List.length_nil, Nat.reduceAdd, Nat.reduceLT, Nat.reduceSub, if_true, List.map_cons, List.map_nil, List.cons_append, List.nil_append, List.replicate_succ, List.replicate_zero, Nat.zero_add, Nat.lt_add_left_iff_pos, Nat.zero_lt_succ, bodyK_eq, List.map_append]
      · intro p hp
        rcases List.mem_append.mp hp with hp | hp
        · exact hps p hp
        · exact hqs p hp
      · rw [List.length_append, Nat.succ_mul]
        omega)
  obtain ⟨M, ec, hM⟩ := closed_ev n hn ι ps hps
  rw [e]
  simp -implicitDefEqProofs only [bind_ok, lift_some, okK_eq, liftK_eq, ev_seq, seqK_next, seqK_ret, ev_asg, asgK_eq, ev_ret, ev_expr, ev_skip, ev_ifS, ev_if, ifK_t, ifK_f, ev_c, ev_yes, ev_and, ev_or, ev_not, cK_eq, ev_tb, ev_tru, ev_andV, ev_orV, ev_notV, bK_bool, notK_bool, ev_m2, m2K_eq, ev_m1, ev_nil, ev_cons, consK_eq, ev_tup, ev_lst, ev_slot, slotK_eq, ev_retO, retOK_eq, ev_name, ev_tup2, ev_tup3, ev_tgc, tgK_eq, ev_tgn, ev_call, callK_v1, callK_v2, callK_v3, callK2_v1, callK2_v2, callK2_v3, callK_b1, callK_b2, borK_eq, callK2_b1, callK2_b2, unK_eq, ev_bor, bor1K_eq, ev_lenO, lenOK_eq, listAt_eq, listK_eq, ev_ixO, ixO0_eq, ixO1_eq, ixO1'_eq, ixO2_0, ev_sub, subK0_eq, subK_eq, subK1_eq, subK2_eq, ev_app, appK0_eq, appK_eq, ev_ins, insK0_eq, insK'_eq, insK_eq, ev_ext, extK0_eq, extK_eq, ev_i1, ev_i2, i2K_eq, ev_lrg, ev_trg, ev_forS, one_eq, oneC_eq, oneE_t, oneE_f, oneX_eq, wipeE_nil, wipeE_cons, ev_comp, fnK_ret, fnK_next, mask_nil, mask_0, mask_1, v_addI, v_tupL, v_tupT, v_lstL, v_lstT, v_lenL, v_lenT, v_int, v_seqL, v_seqT, v_bool, v_truB, v_truI, v_eqI, v_eqB, v_neI, v_ixT, v_ixL, v_at0, v_at1, v_at2, v_at3, v_at4, v_at5, List.getElem?_cons_zero, List.getElem?_cons_succ, List.set_cons_zero, List.set_cons_succ, List.length_cons, List.length_nil, Nat.reduceAdd, Nat.reduceLT, Nat.reduceSub, if_true, List.map_cons, List.map_nil, List.cons_append, List.nil_append, List.replicate_succ, List.replicate_zero, Nat.zero_add, Nat.lt_add_left_iff_pos, Nat.zero_lt_succ, bodyK_eq, ec]
  refine ⟨d2, M, rfl, hf2, fun x hx => ?_⟩
  cases h : M x x with
  | false => rfl
  | true => exact absurd (hM x x hx hx h) (Nat.lt_irrefl _)
end Mir

set_option Elab.async false
set_option linter.all false
set_option maxRecDepth 100000
set_option maxHeartbeats 4000000
namespace Mir
open PySem PySem.Spec PyProof.Rows L2
theorem ord_congr {n : Nat} {R S : Nat → Nat → Bool} (h : ∀ x y, x < n → y < n → R x y = S x y) : ordD n R = ordD n S := by unfold ordD; rw [lexL_congr h]
theorem bes_tr (n : Nat) (R S : Nat → Nat → Bool) : besR n (tr R) (tr S) = tr (besR n R S) := by
  funext x y
  show besR n (tr R) (tr S) x y = besR n R S y x
  unfold besR tr
  by_cases h1 : x < n ∧ y < n
  · rw [if_pos h1, if_pos (show y < n ∧ x < n from ⟨h1.2, h1.1⟩)]
  · rw [if_neg h1, if_neg (show ¬ (y < n ∧ x < n) from fun z => h1 ⟨z.2, z.1⟩)]
    by_cases h2 : n ≤ x ∧ n ≤ y
    · rw [if_pos h2, if_pos (show n ≤ y ∧ n ≤ x from ⟨h2.2, h2.1⟩)]
    · rw [if_neg h2, if_neg (show ¬ (n ≤ y ∧ n ≤ x) from fun z => h2 ⟨z.2, z.1⟩)]
theorem refl_tr (R : Nat → Nat → Bool) (x y : Nat) : refl (tr R) x y = refl R y x := by
  unfold refl tr
  congr 1
  exact decide_eq_decide.mpr eq_comm
theorem prod_tr (m : Nat) (R S : Nat → Nat → Bool) : prodR m (tr R) (tr S) = tr (prodR m R S) := by
  funext u v
  show prodR m (tr R) (tr S) u v = prodR m R S v u
  unfold prodR
  rw [refl_tr R, refl_tr S, show decide (u = v) = decide (v = u) from decide_eq_decide.mpr eq_comm]
/-- the turn of a stack: the upper part first -/
def chg (n m : Nat) (x : Nat) : Nat := if x < n then m + x else x - n
theorem chg_bij (n m : Nat) : Bij (n + m) (chg n m) (chg m n) := by
  refine ⟨?_, ?_, ?_, ?_⟩
  all_goals intro x hx; unfold chg
  · split <;> omega
  · split <;> omega
  · by_cases h : x < n
    · rw [if_pos h, if_neg (by omega)]; omega
    · rw [if_neg h, if_pos (by omega)]; omega
  · by_cases h : x < m
    · rw [if_pos h, if_neg (by omega)]; omega
    · rw [if_neg h, if_pos (by omega)]; omega
theorem top_tr (n m : Nat) (R S : Nat → Nat → Bool) : ordD (n + m) (movR (chg m n) (tr (topR n R S))) = ordD (m + n) (topR m (tr S) (tr R)) := by
  rw [Nat.add_comm n m]
  refine ord_congr fun u v hu hv => ?_
  unfold movR chg tr topR
  by_cases h1 : u < m <;> by_cases h2 : v < m
  · rw [if_pos h1, if_pos h2, if_neg (by omega), if_pos (by omega), if_pos (by omega)]
    congr 1 <;> omega
  · rw [if_pos h1, if_neg h2, if_neg (by omega), if_neg (by omega), if_neg (by omega), if_neg (by omega)]
    rw [decide_eq_true (by omega), decide_eq_true h1]
  · rw [if_neg h1, if_pos h2, if_neg (by omega), if_neg (by omega), if_neg (by omega), if_neg (by omega)]
    rw [decide_eq_false (by omega), decide_eq_false h1]
  · rw [if_neg h1, if_neg h2, if_pos (by omega), if_neg (by omega), if_pos (by omega)]
theorem chg_list (n m : Nat) : ((List.range n).map fun x : Nat => PyData.int ((m : Int) + (x : Int))) ++ ((List.range m).map fun k : Nat => PyData.int (k : Int)) = (List.range (n + m)).map fun x => natD (chg n m x) := by
  refine List.ext_getElem? fun i => ?_
  by_cases h : i < n
  · rw [List.getElem?_append_left (by simpa using h), List.getElem?_map, List.getElem?_range h, get_rng _ _ (by omega)]
    unfold chg
    rw [if_pos h]
    show some (PyData.int _) = some (PyData.int _)
    rw [Int.natCast_add]
  · by_cases h2 : i < n + m
    · rw [List.getElem?_append_right (by simpa using h), List.length_map, List.length_range, List.getElem?_map, List.getElem?_range (show i - n < m by omega), get_rng _ _ h2]
      unfold chg
      rw [if_neg h]
      rfl
    · rw [List.getElem?_eq_none (by simp; omega), List.getElem?_eq_none (by simp; omega)]
theorem induced_to {N k : Nat} {R S : Nat → Nat → Bool} (P : Nat → Nat) (m : Mono k N P) (hN : N ≤ 400) (hk : k ≤ 400) (h : ∀ i j, i < k → j < k → R (P i) (P j) = S i j) : F_induced [ordD N R, .tuple ((List.range k).map fun i => natD (P i))] = .ok (ordD k S) [none, none] := by
  rw [induced_ev N k R P m hN hk, ord_congr (R := indR P R) (S := S) h]
theorem mono_id {k N : Nat} (h : k ≤ N) : Mono k N fun i => i := ⟨fun i hi => by omega, fun i j h _ => h⟩
theorem mono_add {k N : Nat} (n : Nat) (h : n + k ≤ N) : Mono k N fun i => n + i := ⟨fun i hi => by omega, fun i j h _ => by omega⟩
theorem mono_comp {k K N : Nat} {P Q : Nat → Nat} (p : Mono k K P) (q : Mono K N Q) : Mono k N fun i => Q (P i) := ⟨fun i hi => q.lt _ (p.lt i hi), fun i j h hj => q.up _ _ (p.up i j h hj) (p.lt j hj)⟩
theorem row1_mono {n m x : Nat} (hx : x < n) : Mono m (n * m) fun k => x * m + k := by
  have : (x + 1) * m ≤ n * m := Nat.mul_le_mul_right m hx
  rw [Nat.succ_mul] at this
  exact ⟨fun i hi => by omega, fun i j h _ => by omega⟩
theorem row2_mono {n m q : Nat} (hq : q < m) : Mono n (n * m) fun k => k * m + q := by
  refine ⟨fun i hi => ?_, fun i j h _ => ?_⟩
  · have : (i + 1) * m ≤ n * m := Nat.mul_le_mul_right m hi
    rw [Nat.succ_mul] at this
    omega
  · have : (i + 1) * m ≤ j * m := Nat.mul_le_mul_right m h
    rw [Nat.succ_mul] at this
    omega
theorem dm1 {m r : Nat} (x : Nat) (h : r < m) : (x * m + r) / m = x := by rw [Nat.mul_comm, Nat.mul_add_div (by omega), Nat.div_eq_of_lt h, Nat.add_zero]
theorem dm2 {m r : Nat} (x : Nat) (h : r < m) : (x * m + r) % m = r := by rw [Nat.mul_comm, Nat.mul_add_mod, Nat.mod_eq_of_lt h]
theorem refl_self (R : Nat → Nat → Bool) (x : Nat) : refl R x x = true := by unfold refl; simp
theorem row1_eq {m x : Nat} (R S : Nat → Nat → Bool) (hS : ∀ x, x < m → S x x = false) (i j : Nat) (hi : i < m) (hj : j < m) : prodR m R S (x * m + i) (x * m + j) = S i j := by
  unfold prodR
  rw [dm1 x hi, dm1 x hj, dm2 x hi, dm2 x hj, refl_self]
  unfold refl
  by_cases h : i = j
  · subst h
    rw [hS i hi]
    simp
  · have h2 : ¬ x * m + i = x * m + j := by omega
    have h3 : ¬ j = i := fun z => h z.symm
    simp [h2, h3, h]
theorem row2_eq {m q n : Nat} (R S : Nat → Nat → Bool) (hR : ∀ x, x < n → R x x = false) (hq : q < m) (i j : Nat) (hi : i < n) (hj : j < n) : prodR m R S (i * m + q) (j * m + q) = R i j := by
  unfold prodR
  rw [dm1 i hq, dm1 j hq, dm2 i hq, dm2 j hq, refl_self]
  unfold refl
  by_cases h : i = j
  · subst h
    rw [hR i hi]
    simp
  · have h2 : ¬ i * m + q = j * m + q := by
      intro z
      have z2 : i * m = j * m := by omega
      exact h (Nat.eq_of_mul_eq_mul_right (by omega) z2)
    have h3 : ¬ j = i := fun z => h z.symm
    have h4 : ¬ i * m = j * m := by omega
    simp [h2, h3, h, h4]
/-- the rows renamed -/
def ren (m : Nat) (τ : Nat → Nat) (u : Nat) : Nat := τ (u / m) * m + u % m
theorem ren_bij {n m : Nat} {τ ι : Nat → Nat} (b : Bij n τ ι) : Bij (n * m) (ren m τ) (ren m ι) := by
  rcases Nat.eq_zero_or_pos m with h0 | hm
  · subst h0
    rw [Nat.mul_zero]
    exact ⟨fun x hx => by omega, fun x hx => by omega, fun x hx => by omega, fun x hx => by omega⟩
  have hd : ∀ u, u < n * m → u / m < n := fun u hu => Nat.div_lt_of_lt_mul (by rw [Nat.mul_comm]; exact hu)
  have hr : ∀ (f : Nat → Nat) (u : Nat), f (u / m) < n → f (u / m) * m + u % m < n * m := fun f u h => by
    have : (f (u / m) + 1) * m ≤ n * m := Nat.mul_le_mul_right m h
    rw [Nat.succ_mul] at this
    have := Nat.mod_lt u hm
    omega
  refine ⟨fun x hx => hr τ x (b.to _ (hd x hx)), fun x hx => hr ι x (b.of _ (hd x hx)), fun x hx => ?_, fun x hx => ?_⟩
  · unfold ren
    rw [dm1 _ (Nat.mod_lt _ hm), dm2 _ (Nat.mod_lt _ hm), b.l _ (hd x hx), Nat.mul_comm]
    exact Nat.div_add_mod x m
  · unfold ren
    rw [dm1 _ (Nat.mod_lt _ hm), dm2 _ (Nat.mod_lt _ hm), b.r _ (hd x hx), Nat.mul_comm]
    exact Nat.div_add_mod x m
theorem ren_eq {n m : Nat} {τ ι : Nat → Nat} (b : Bij n τ ι) (R S : Nat → Nat → Bool) : ordD (n * m) (movR (ren m ι) (prodR m R S)) = ordD (n * m) (prodR m (movR ι R) S) := by
  refine ord_congr fun u v hu hv => ?_
  have hm : 0 < m := by
    rcases Nat.eq_zero_or_pos m with e | e
    · rw [e, Nat.mul_zero] at hu; omega
    · exact e
  have hd : ∀ u, u < n * m → u / m < n := fun u hu => Nat.div_lt_of_lt_mul (by rw [Nat.mul_comm]; exact hu)
  have inj : ∀ x y, x < n → y < n → ι x = ι y → x = y := fun x y hx hy h => by rw [← b.r x hx, ← b.r y hy, h]
  unfold movR ren prodR
  rw [dm1 _ (Nat.mod_lt _ hm), dm1 _ (Nat.mod_lt _ hm), dm2 _ (Nat.mod_lt _ hm), dm2 _ (Nat.mod_lt _ hm)]
  congr 2
  · congr 1
    refine decide_eq_decide.mpr ?_
    constructor
    · intro h
      have h1 : ι (u / m) = ι (v / m) := by
        have := congrArg (· / m) h
        simpa only [dm1 _ (Nat.mod_lt _ hm)] using this
      have h2 : u % m = v % m := by
        have := congrArg (· % m) h
        simpa only [dm2 _ (Nat.mod_lt _ hm)] using this
      have h3 := inj _ _ (hd u hu) (hd v hv) h1
      rw [← Nat.div_add_mod u m, ← Nat.div_add_mod v m, h3, h2]
    · rintro rfl; rfl
  · unfold refl
    congr 1
    refine decide_eq_decide.mpr ⟨fun h => inj _ _ (hd v hv) (hd u hu) h, fun h => by rw [h]⟩
/-! sorted(..) of ints -/
theorem intsD_nat : ∀ l : List Nat, intsD (l.map natD) = some (l.map fun n : Nat => (n : Int))
  | [] => rfl
  | a :: l => by
    rw [List.map_cons]
    show (intsD (l.map natD)).map (((a : Nat) : Int) :: ·) = _
    rw [intsD_nat l]
    rfl
theorem sort_nats {N : Nat} {l : List Nat} (hd : l.Nodup) (hl : ∀ x ∈ l, x < N) : ∃ P, Mono l.length N P ∧ fSorted (.list (l.map natD)) = some (.list ((List.range l.length).map fun i => natD (P i))) := by
  have hs := sortBy_sorted leI_tot leI_tr (l.map fun n : Nat => (n : Int))
  have hp := sortBy_perm (le := leI) (l.map fun n : Nat => (n : Int))
  generalize hsd : sortBy leI (l.map fun n : Nat => (n : Int)) = s at hs hp
  have hlen : s.length = l.length := by rw [hp.length_eq, List.length_map]
  have hnd : s.Nodup := hp.nodup_iff.mpr (by
    rw [List.Nodup, List.pairwise_map]
    exact List.Pairwise.imp (fun {a b} h e => h (by omega)) hd)
  have hmem : ∀ z ∈ s, ∃ x, x < N ∧ z = (x : Int) := fun z hz => by
    obtain ⟨x, hx, rfl⟩ := List.mem_map.mp (hp.mem_iff.mp hz)
    exact ⟨x, hl x hx, rfl⟩
  refine ⟨fun i => (s.getD i 0).toNat, ⟨?_, ?_⟩, ?_⟩
  · intro i hi
    have hi' : i < s.length := by omega
    rw [List.getD_eq_getElem?_getD, List.getElem?_eq_getElem hi']
    obtain ⟨x, hx, e⟩ := hmem _ (List.getElem_mem hi')
    simp only [Option.getD_some, e]
    omega
  · intro i j hij hj
    have hj' : j < s.length := by omega
    have hi' : i < s.length := by omega
    have h1 := List.pairwise_iff_getElem.mp hs i j hi' hj' hij
    have h2 := List.pairwise_iff_getElem.mp hnd i j hi' hj' hij
    rw [List.getD_eq_getElem?_getD, List.getElem?_eq_getElem hi', List.getD_eq_getElem?_getD, List.getElem?_eq_getElem hj']
    obtain ⟨x, hx, e⟩ := hmem _ (List.getElem_mem hi')
    obtain ⟨y, hy, e'⟩ := hmem _ (List.getElem_mem hj')
    unfold leI at h1
    simp only [decide_eq_true_eq] at h1
    simp only [Option.getD_some]
    omega
  · simp only [fSorted, intsD_nat, hsd]
    congr 2
    refine List.ext_getElem? fun i => ?_
    by_cases hi : i < s.length
    · rw [List.getElem?_map, List.getElem?_eq_getElem hi, get_rng _ _ (by omega)]
      obtain ⟨x, hx, e⟩ := hmem _ (List.getElem_mem hi)
      show some (PyData.int s[i]) = some (PyData.int (((s.getD i 0).toNat : Nat) : Int))
      rw [List.getD_eq_getElem?_getD, List.getElem?_eq_getElem hi]
      simp only [Option.getD_some, e, Int.toNat_natCast]
    · rw [List.getElem?_eq_none (by simp; omega), List.getElem?_eq_none (by simp; omega)]
end Mir

set_option Elab.async false
set_option linter.all false
set_option maxRecDepth 100000
set_option maxHeartbeats 4000000
namespace Mir
open PySem PySem.Spec PyProof.Rows L2
def lw0 : M Fl :=
  mAsg (mCall F__law_open [.val] (mCons (mSlot 0) (mNil))) (tgName 1)
def lw1 : M Fl :=
  mPar 2 3 (mCons (mCall F__law_drawn [.bor 1, .val, .val] (mBor 1 (mCons (mCall F__law_pick [.bor 1, .val] (mBor 1 (mCons (mC (.int 7)) (mNil)))) (mCons (mC (.int 3)) (mNil))))) (mCons (mCall F__law_drawn [.bor 1, .val, .val] (mBor 1 (mCons (mCall F__law_pick [.bor 1, .val] (mBor 1 (mCons (mC (.int 7)) (mNil)))) (mCons (mC (.int 2)) (mNil))))) (mNil)))
def lw2 : M Fl :=
  mAsg (mTup (mCons (m2 fIxA (mSlot 2) (mC (.int 0))) (mCons (m2 fIxA (mSlot 3) (mC (.int 0))) (mNil)))) (tgTup 2 (tgCons (tgName 4) (tgCons (tgName 5) (tgNil))))
def lw3 : M Fl :=
  mIfS (mNot (mTru (mCall (F__law_same 8) [.val, .val] (mCons (mTup (mCons (mCall F_opposite [.val] (mCons (mSlot 2) (mNil))) (mCons (mCall F_opposite [.val] (mCons (mCall F_opposite [.val] (mCons (mSlot 2) (mNil))) (mNil))) (mCons (mCall F_opposite [.val] (mCons (mTup (mCons (mC (.int 0)) (mCons (mTup (mNil)) (mNil)))) (mNil))) (mNil))))) (mCons (mTup (mCons (mCall F__law_turned [.val] (mCons (mSlot 2) (mNil))) (mCons (mSlot 2) (mCons (mTup (mCons (mC (.int 0)) (mCons (mTup (mNil)) (mNil)))) (mNil))))) (mNil)))))) (mRet (mC (.bool false))) (mSkip)
def lw4 : M Fl :=
  mIfS (mNot (mTru (mCall (F__law_same 8) [.val, .val] (mCons (mCall F_opposite [.val] (mCons (mCall F_beside [.val, .val] (mCons (mSlot 2) (mCons (mSlot 3) (mNil)))) (mNil))) (mCons (mCall F_beside [.val, .val] (mCons (mCall F__law_turned [.val] (mCons (mSlot 2) (mNil))) (mCons (mCall F__law_turned [.val] (mCons (mSlot 3) (mNil))) (mNil)))) (mNil)))))) (mRet (mC (.bool false))) (mSkip)
def lw5 : M Fl :=
  mIfS (mNot (mTru (mCall (F__law_same 8) [.val, .val] (mCons (mCall F_opposite [.val] (mCons (mCall F_product [.val, .val] (mCons (mSlot 2) (mCons (mSlot 3) (mNil)))) (mNil))) (mCons (mCall F_product [.val, .val] (mCons (mCall F__law_turned [.val] (mCons (mSlot 2) (mNil))) (mCons (mCall F__law_turned [.val] (mCons (mSlot 3) (mNil))) (mNil)))) (mNil)))))) (mRet (mC (.bool false))) (mSkip)
def lw6 : M Fl :=
  mAsg (m2 fAdd (mComp [10] (mI1 fRange1 (mSlot 4)) (tgName 10) (mYes) (m2 fAdd (mSlot 5) (mSlot 10))) (mLRg (mI1 fRange1 (mSlot 5)))) (tgName 6)
def lw7 : M Fl :=
  mIfS (mNot (mTru (mCall (F__law_same 8) [.val, .val] (mCons (mCall F__law_moved [.val, .val] (mCons (mCall F_opposite [.val] (mCons (mCall F_on_top [.val, .val] (mCons (mSlot 2) (mCons (mSlot 3) (mNil)))) (mNil))) (mCons (mSlot 6) (mNil)))) (mCons (mCall F_on_top [.val, .val] (mCons (mCall F__law_turned [.val] (mCons (mSlot 3) (mNil))) (mCons (mCall F__law_turned [.val] (mCons (mSlot 2) (mNil))) (mNil)))) (mNil)))))) (mRet (mC (.bool false))) (mSkip)
def lw8 : M Fl :=
  mAsg (mCall F_on_top [.val, .val] (mCons (mSlot 2) (mCons (mSlot 3) (mNil)))) (tgName 7)
def lw9 : M Fl :=
  mAsg (mTup (mCons (mCall F_induced [.val, .val] (mCons (mSlot 7) (mCons (mTRg (mI1 fRange1 (mSlot 4))) (mNil)))) (mCons (mCall F_induced [.val, .val] (mCons (mSlot 7) (mCons (mTRg (mI2 fRange2 (mSlot 4) (m2 fAdd (mSlot 4) (mSlot 5)))) (mNil)))) (mNil)))) (tgName 8)
def lw10 : M Fl :=
  mIfS (mOr (mNot (mTru (mCall (F__law_same 8) [.val, .val] (mCons (mSlot 8) (mCons (mTup (mCons (mSlot 2) (mCons (mSlot 3) (mNil)))) (mNil)))))) (mNot (mTru (mCall (F__law_same 8) [.val, .val] (mCons (mTup (mCons (mCall F_induced [.val, .val] (mCons (mCall F_beside [.val, .val] (mCons (mSlot 2) (mCons (mSlot 3) (mNil)))) (mCons (mTRg (mI1 fRange1 (mSlot 4))) (mNil)))) (mCons (mCall F_induced [.val, .val] (mCons (mCall F_beside [.val, .val] (mCons (mSlot 2) (mCons (mSlot 3) (mNil)))) (mCons (mTRg (mI2 fRange2 (mSlot 4) (m2 fAdd (mSlot 4) (mSlot 5)))) (mNil)))) (mNil)))) (mCons (mTup (mCons (mSlot 2) (mCons (mSlot 3) (mNil)))) (mNil))))))) (mRet (mC (.bool false))) (mSkip)
def lw11 : M Fl :=
  mAsg (mCall F_product [.val, .val] (mCons (mSlot 2) (mCons (mSlot 3) (mNil)))) (tgName 9)
def lw12 : M Fl :=
  mIfS (mAnd (mTB (m2 fGt (mSlot 4) (mC (.int 0)))) (mTB (m2 fGt (mSlot 5) (mC (.int 0))))) (mSeq (mAsg (mTup (mCons (mCall F__law_pick [.bor 1, .val] (mBor 1 (mCons (mSlot 4) (mNil)))) (mCons (mCall F__law_pick [.bor 1, .val] (mBor 1 (mCons (mSlot 5) (mNil)))) (mNil)))) (tgTup 2 (tgCons (tgName 10) (tgCons (tgName 11) (tgNil))))) (mSeq (mAsg (mTup (mCons (mCall F_induced [.val, .val] (mCons (mSlot 9) (mCons (m1 fTuple (mComp [20] (mI1 fRange1 (mSlot 5)) (tgName 20) (mYes) (m2 fAdd (m2 fMul (mSlot 10) (mSlot 5)) (mSlot 20)))) (mNil)))) (mCons (mCall F_induced [.val, .val] (mCons (mSlot 9) (mCons (m1 fTuple (mComp [20] (mI1 fRange1 (mSlot 4)) (tgName 20) (mYes) (m2 fAdd (m2 fMul (mSlot 20) (mSlot 5)) (mSlot 11)))) (mNil)))) (mNil)))) (tgName 12)) (mIfS (mNot (mTru (mCall (F__law_same 8) [.val, .val] (mCons (mSlot 12) (mCons (mTup (mCons (mSlot 3) (mCons (mSlot 2) (mNil)))) (mNil)))))) (mRet (mC (.bool false))) (mSkip)))) (mSkip)
def lw13 : M Fl :=
  mAsg (mCall F__law_of [.bor 1, .val] (mBor 1 (mCons (mLst (mCons (mSlot 7) (mCons (mSlot 9) (mCons (mCall F_beside [.val, .val] (mCons (mSlot 2) (mCons (mSlot 3) (mNil)))) (mNil))))) (mNil)))) (tgName 13)
def lw14 : M Fl :=
  mIfS (mAnd (mTB (m2 fNe (m2 fIxA (mSlot 13) (mC (.int 0))) (m2 fMul (mSlot 4) (mSlot 5)))) (mTB (m2 fNe (m2 fIxA (mSlot 13) (mC (.int 0))) (m2 fAdd (mSlot 4) (mSlot 5))))) (mRet (mC (.bool false))) (mSkip)
def lw15 : M Fl :=
  mAsg (m1 fTuple (m1 fSorted (mSl (mCall F__law_mixed [.bor 1, .val] (mBor 1 (mCons (mLRg (mI1 fRange1 (m2 fIxA (mSlot 13) (mC (.int 0))))) (mNil)))) (mNoP) (mPart (mCall F__law_pick [.bor 1, .val] (mBor 1 (mCons (m2 fAdd (m2 fMin2 (m2 fIxA (mSlot 13) (mC (.int 0))) (mC (.int 12))) (mC (.int 1))) (mNil)))))))) (tgName 14)
def lw16 : M Fl :=
  mAsg (mCall F_induced [.val, .val] (mCons (mSlot 13) (mCons (mSlot 14) (mNil)))) (tgName 15)
def lw17 : M Fl :=
  mIfS (mNot (mTru (mCall (F__law_same 8) [.val, .val] (mCons (mSlot 15) (mCons (mCall F__law_induced [.val, .val] (mCons (mSlot 13) (mCons (mSlot 14) (mNil)))) (mNil)))))) (mRet (mC (.bool false))) (mSkip)
def lw18 : M Fl :=
  mAsg (m1 fTuple (m1 fSorted (mSl (mCall F__law_mixed [.bor 1, .val] (mBor 1 (mCons (mLRg (mI1 fRange1 (m1 fLen (mSlot 14)))) (mNil)))) (mNoP) (mPart (mCall F__law_pick [.bor 1, .val] (mBor 1 (mCons (m2 fAdd (m1 fLen (mSlot 14)) (mC (.int 1))) (mNil)))))))) (tgName 16)
def lw19 : M Fl :=
  mIfS (mNot (mTru (mCall (F__law_same 8) [.val, .val] (mCons (mTup (mCons (mCall F_induced [.val, .val] (mCons (mSlot 15) (mCons (mSlot 16) (mNil)))) (mCons (mCall F_induced [.val, .val] (mCons (mCall F_opposite [.val] (mCons (mSlot 13) (mNil))) (mCons (mSlot 14) (mNil)))) (mNil)))) (mCons (mTup (mCons (mCall F_induced [.val, .val] (mCons (mSlot 13) (mCons (m1 fTuple (mComp [20] (mI1 fSeq (mSlot 16)) (tgName 20) (mYes) (m2 fIxA (mSlot 14) (mSlot 20)))) (mNil)))) (mCons (mCall F__law_turned [.val] (mCons (mSlot 15) (mNil))) (mNil)))) (mNil)))))) (mRet (mC (.bool false))) (mSkip)
def lw20 : M Fl :=
  mAsg (mCall F__law_mixed [.bor 1, .val] (mBor 1 (mCons (mLRg (mI1 fRange1 (mSlot 4))) (mNil)))) (tgName 17)
def lw21 : M Fl :=
  mAsg (mCall F__law_moved [.val, .val] (mCons (mSlot 2) (mCons (mSlot 17) (mNil)))) (tgName 18)
def lw22 : M Fl :=
  mIfS (mNot (mTru (mCall (F__law_same 8) [.val, .val] (mCons (mTup (mCons (mCall F_induced [.val, .val] (mCons (mSlot 2) (mCons (mTRg (mI1 fRange1 (mSlot 4))) (mNil)))) (mCons (mCall F_induced [.val, .val] (mCons (mSlot 2) (mCons (mTup (mNil)) (mNil)))) (mCons (mCall F_opposite [.val] (mCons (mSlot 18) (mNil))) (mNil))))) (mCons (mTup (mCons (mSlot 2) (mCons (mTup (mCons (mC (.int 0)) (mCons (mTup (mNil)) (mNil)))) (mCons (mCall F__law_moved [.val, .val] (mCons (mCall F__law_turned [.val] (mCons (mSlot 2) (mNil))) (mCons (mSlot 17) (mNil)))) (mNil))))) (mNil)))))) (mRet (mC (.bool false))) (mSkip)
def lw23 : M Fl :=
  mAsg (mLst (mNil)) (tgName 19)
def lw24 : M Fl :=
  mForS (mI1 fRange1 (mSlot 4)) (tgName 10) (mAsg (m2 fAdd (mSlot 19) (mComp [11] (mI1 fRange1 (mSlot 5)) (tgName 11) (mYes) (m2 fAdd (m2 fMul (m2 fIxA (mSlot 17) (mSlot 10)) (mSlot 5)) (mSlot 11)))) (tgName 19))
def lw25 : M Fl :=
  mRet (mCall (F__law_same 8) [.val, .val] (mCons (mCall F_product [.val, .val] (mCons (mSlot 18) (mCons (mSlot 3) (mNil)))) (mCons (mCall F__law_moved [.val, .val] (mCons (mSlot 9) (mCons (mSlot 19) (mNil)))) (mNil))))
def lq25 : M Fl := lw25
def lq24 : M Fl := mSeq lw24 lq25
def lq23 : M Fl := mSeq lw23 lq24
def lq22 : M Fl := mSeq lw22 lq23
def lq21 : M Fl := mSeq lw21 lq22
def lq20 : M Fl := mSeq lw20 lq21
def lq19 : M Fl := mSeq lw19 lq20
def lq18 : M Fl := mSeq lw18 lq19
def lq17 : M Fl := mSeq lw17 lq18
def lq16 : M Fl := mSeq lw16 lq17
def lq15 : M Fl := mSeq lw15 lq16
def lq14 : M Fl := mSeq lw14 lq15
def lq13 : M Fl := mSeq lw13 lq14
def lq12 : M Fl := mSeq lw12 lq13
def lq11 : M Fl := mSeq lw11 lq12
def lq10 : M Fl := mSeq lw10 lq11
def lq9 : M Fl := mSeq lw9 lq10
def lq8 : M Fl := mSeq lw8 lq9
def lq7 : M Fl := mSeq lw7 lq8
def lq6 : M Fl := mSeq lw6 lq7
def lq5 : M Fl := mSeq lw5 lq6
def lq4 : M Fl := mSeq lw4 lq5
def lq3 : M Fl := mSeq lw3 lq4
def lq2 : M Fl := mSeq lw2 lq3
def lq1 : M Fl := mSeq lw1 lq2
def lq0 : M Fl := mSeq lw0 lq1
theorem m_law_lq : m_law = lq0 := rfl
theorem lq0_go {ρ ρ1 : Env} (h : lw0 ρ = .ok .next ρ1) : lq0 ρ = lq1 ρ1 := by
  show mSeq lw0 lq1 ρ = _
  rw [ev_seq, h]
  rfl
theorem lq1_go {ρ ρ1 : Env} (h : lw1 ρ = .ok .next ρ1) : lq1 ρ = lq2 ρ1 := by
  show mSeq lw1 lq2 ρ = _
  rw [ev_seq, h]
  rfl
theorem lq2_go {ρ ρ1 : Env} (h : lw2 ρ = .ok .next ρ1) : lq2 ρ = lq3 ρ1 := by
  show mSeq lw2 lq3 ρ = _
  rw [ev_seq, h]
  rfl
theorem lq3_go {ρ ρ1 : Env} (h : lw3 ρ = .ok .next ρ1) : lq3 ρ = lq4 ρ1 := by
  show mSeq lw3 lq4 ρ = _
  rw [ev_seq, h]
  rfl
theorem lq4_go {ρ ρ1 : Env} (h : lw4 ρ = .ok .next ρ1) : lq4 ρ = lq5 ρ1 := by
  show mSeq lw4 lq5 ρ = _
  rw [ev_seq, h]
  rfl
theorem lq5_go {ρ ρ1 : Env} (h : lw5 ρ = .ok .next ρ1) : lq5 ρ = lq6 ρ1 := by
  show mSeq lw5 lq6 ρ = _
  rw [ev_seq, h]
  rfl
theorem lq6_go {ρ ρ1 : Env} (h : lw6 ρ = .ok .next ρ1) : lq6 ρ = lq7 ρ1 := by
  show mSeq lw6 lq7 ρ = _
  rw [ev_seq, h]
  rfl
theorem lq7_go {ρ ρ1 : Env} (h : lw7 ρ = .ok .next ρ1) : lq7 ρ = lq8 ρ1 := by
  show mSeq lw7 lq8 ρ = _
  rw [ev_seq, h]
  rfl
theorem lq8_go {ρ ρ1 : Env} (h : lw8 ρ = .ok .next ρ1) : lq8 ρ = lq9 ρ1 := by
  show mSeq lw8 lq9 ρ = _
  rw [ev_seq, h]
  rfl
theorem lq9_go {ρ ρ1 : Env} (h : lw9 ρ = .ok .next ρ1) : lq9 ρ = lq10 ρ1 := by
  show mSeq lw9 lq10 ρ = _
  rw [ev_seq, h]
  rfl
theorem lq10_go {ρ ρ1 : Env} (h : lw10 ρ = .ok .next ρ1) : lq10 ρ = lq11 ρ1 := by
  show mSeq lw10 lq11 ρ = _
  rw [ev_seq, h]
  rfl
theorem lq11_go {ρ ρ1 : Env} (h : lw11 ρ = .ok .next ρ1) : lq11 ρ = lq12 ρ1 := by
  show mSeq lw11 lq12 ρ = _
  rw [ev_seq, h]
  rfl
theorem lq12_go {ρ ρ1 : Env} (h : lw12 ρ = .ok .next ρ1) : lq12 ρ = lq13 ρ1 := by
  show mSeq lw12 lq13 ρ = _
  rw [ev_seq, h]
  rfl
theorem lq13_go {ρ ρ1 : Env} (h : lw13 ρ = .ok .next ρ1) : lq13 ρ = lq14 ρ1 := by
  show mSeq lw13 lq14 ρ = _
  rw [ev_seq, h]
  rfl
theorem lq14_go {ρ ρ1 : Env} (h : lw14 ρ = .ok .next ρ1) : lq14 ρ = lq15 ρ1 := by
  show mSeq lw14 lq15 ρ = _
  rw [ev_seq, h]
  rfl
theorem lq15_go {ρ ρ1 : Env} (h : lw15 ρ = .ok .next ρ1) : lq15 ρ = lq16 ρ1 := by
  show mSeq lw15 lq16 ρ = _
  rw [ev_seq, h]
  rfl
theorem lq16_go {ρ ρ1 : Env} (h : lw16 ρ = .ok .next ρ1) : lq16 ρ = lq17 ρ1 := by
  show mSeq lw16 lq17 ρ = _
  rw [ev_seq, h]
  rfl
theorem lq17_go {ρ ρ1 : Env} (h : lw17 ρ = .ok .next ρ1) : lq17 ρ = lq18 ρ1 := by
  show mSeq lw17 lq18 ρ = _
  rw [ev_seq, h]
  rfl
theorem lq18_go {ρ ρ1 : Env} (h : lw18 ρ = .ok .next ρ1) : lq18 ρ = lq19 ρ1 := by
  show mSeq lw18 lq19 ρ = _
  rw [ev_seq, h]
  rfl
theorem lq19_go {ρ ρ1 : Env} (h : lw19 ρ = .ok .next ρ1) : lq19 ρ = lq20 ρ1 := by
  show mSeq lw19 lq20 ρ = _
  rw [ev_seq, h]
  rfl
theorem lq20_go {ρ ρ1 : Env} (h : lw20 ρ = .ok .next ρ1) : lq20 ρ = lq21 ρ1 := by
  show mSeq lw20 lq21 ρ = _
  rw [ev_seq, h]
  rfl
theorem lq21_go {ρ ρ1 : Env} (h : lw21 ρ = .ok .next ρ1) : lq21 ρ = lq22 ρ1 := by
  show mSeq lw21 lq22 ρ = _
  rw [ev_seq, h]
  rfl
theorem lq22_go {ρ ρ1 : Env} (h : lw22 ρ = .ok .next ρ1) : lq22 ρ = lq23 ρ1 := by
  show mSeq lw22 lq23 ρ = _
  rw [ev_seq, h]
  rfl
theorem lq23_go {ρ ρ1 : Env} (h : lw23 ρ = .ok .next ρ1) : lq23 ρ = lq24 ρ1 := by
  show mSeq lw23 lq24 ρ = _
  rw [ev_seq, h]
  rfl
theorem lq24_go {ρ ρ1 : Env} (h : lw24 ρ = .ok .next ρ1) : lq24 ρ = lq25 ρ1 := by
  show mSeq lw24 lq25 ρ = _
  rw [ev_seq, h]
  rfl
theorem pl2 {n : Nat} {a b : D} (ha : Pl n a) (hb : Pl n b) : Pl (n + 1) (.tuple [a, b]) := .tup n _ (by simp) fun d hd => by
  simp only [List.mem_cons, List.not_mem_nil, or_false] at hd
  rcases hd with rfl | rfl
  · exact ha
  · exact hb
theorem pl3 {n : Nat} {a b c : D} (ha : Pl n a) (hb : Pl n b) (hc : Pl n c) : Pl (n + 1) (.tuple [a, b, c]) := .tup n _ (by simp) fun d hd => by
  simp only [List.mem_cons, List.not_mem_nil, or_false] at hd
  rcases hd with rfl | rfl | rfl
  · exact ha
  · exact hb
  · exact hc
theorem pl_empty : Pl 7 (.tuple [.int 0, .tuple []]) := pl_ord 3 0 (fun _ _ => false) (by omega)
theorem v_ord0 (n : Nat) (R : Nat → Nat → Bool) : fIxA (ordD n R) (.int 0) = some (.int (n : Int)) := rfl
theorem opp_empty : F_opposite [.tuple [.int 0, .tuple []]] = .ok (.tuple [.int 0, .tuple []]) [none] := opposite_ev 0 (fun _ _ => false) (by omega)
theorem ev_par (i j : Nat) (m : M (List D)) (ρ ρ' : Env) (d1 d2 : D) (h : m ρ = .ok [d1, d2] ρ') (hi : i < ρ'.length ∧ j < ρ'.length) : mPar i j m ρ = .ok .next ((ρ'.set i (some d1)).set j (some d2)) := by
  show (m ρ).bind _ = _
  rw [h]
  show (if _ then _ else _) = _
  rw [if_pos hi]
section
variable {ns : List Int} {f : D} {n m : Nat} {A B : Nat → Nat → Bool}
theorem st0 (ns : List Int) (h : ns.length ≤ 63) : ∃ f, Feed f ∧ lw0 [some (scrD (ns.map .int)), none, none, none, none, none, none, none, none, none, none, none, none, none, none, none, none, none, none, none, none] = .ok .next [some (scrD (ns.map .int)), some f, none, none, none, none, none, none, none, none, none, none, none, none, none, none, none, none, none, none, none] := by
  obtain ⟨d, e, hf⟩ := open_ev ns (by omega)
  refine ⟨d, hf, ?_⟩
  unfold lw0
  simp -implicitDefEqProofs only [bind_ok, lift_some, okK_eq, liftK_eq, ev_seq, seqK_next, seqK_ret, ev_asg, asgK_eq, ev_ret, ev_expr, ev_skip, ev_ifS, ev_if, ifK_t, ifK_f, ev_c, ev_yes, ev_and, ev_or, ev_not, cK_eq, ev_tb, ev_tru, ev_andV, ev_orV, ev_notV, bK_bool, notK_bool, ev_m2, m2K_eq, ev_m1, ev_nil, ev_cons, consK_eq, ev_tup, ev_lst, ev_slot, slotK_eq, ev_retO, retOK_eq, ev_name, ev_tup2, ev_tup3, ev_tgc, tgK_eq, ev_tgn, ev_call, callK_v1, callK_v2, callK_v3, callK2_v1, callK2_v2, callK2_v3, callK_b1, callK_b2, borK_eq, callK2_b1, callK2_b2, unK_eq, ev_bor, bor1K_eq, ev_lenO, lenOK_eq, listAt_eq, listK_eq, ev_ixO, ixO0_eq, ixO1_eq, ixO1'_eq, ixO2_0, ev_sub, subK0_eq, subK_eq, subK1_eq, subK2_eq, ev_app, appK0_eq, appK_eq, ev_ins, insK0_eq, insK'_eq, insK_eq, ev_ext, extK0_eq, extK_eq, ev_i1, ev_i2, i2K_eq, ev_lrg, ev_trg, ev_forS, one_eq, oneC_eq, oneE_t, oneE_f, oneX_eq, wipeE_nil, wipeE_cons, ev_comp, fnK_ret, fnK_next, mask_nil, mask_0, mask_1, v_addI, v_tupL, v_tupT, v_lstL, v_lstT, v_lenL, v_lenT, v_int, v_seqL, v_seqT, v_bool, v_truB, v_truI, v_eqI, v_eqB, v_neI, v_ixT, v_ixL, v_at0, v_at1, v_at2, v_at3, v_at4, v_at5, List.getElem?_cons_zero, List.getElem?_cons_succ, List.set_cons_zero, List.set_cons_succ, List.length_cons, List.length_nil, Nat.reduceAdd, Nat.reduceLT, Nat.reduceSub, if_true, List.map_cons, List.map_nil, List.cons_append, List.nil_append, List.replicate_succ, List.replicate_zero, Nat.zero_add, Nat.lt_add_left_iff_pos, Nat.zero_lt_succ, bodyK_eq, e]
theorem st1 (hf : Feed f) : ∃ (f' : D) (n m : Nat) (A B : Nat → Nat → Bool), Feed f' ∧ n < 7 ∧ m < 7 ∧ (∀ x, x < n → A x x = false) ∧ (∀ x, x < m → B x x = false) ∧ lw1 [some (scrD (ns.map .int)), some f, none, none, none, none, none, none, none, none, none, none, none, none, none, none, none, none, none, none, none] = .ok .next [some (scrD (ns.map .int)), some f', some (ordD n A), some (ordD m B), none, none, none, none, none, none, none, none, none, none, none, none, none, none, none, none, none] := by
  obtain ⟨n, f1, e1, hn, hf1⟩ := pick_ev hf 7 (by omega) (by omega)
  obtain ⟨f2, A, e2, hf2, hA⟩ := drawn_ev hf1 n 3 (by omega) (by omega) (by omega)
  obtain ⟨m, f3, e3, hm, hf3⟩ := pick_ev hf2 7 (by omega) (by omega)
  obtain ⟨f4, B, e4, hf4, hB⟩ := drawn_ev hf3 m 2 (by omega) (by omega) (by omega)
  refine ⟨f4, n, m, A, B, hf4, hn, hm, hA, hB, ?_⟩
  have e1 : F__law_pick [f, .int 7] = _ := e1
  have e2 : F__law_drawn [f1, .int (n : Int), .int 3] = _ := e2
  have e3 : F__law_pick [f2, .int 7] = _ := e3
  have e4 : F__law_drawn [f3, .int (m : Int), .int 2] = _ := e4
  unfold lw1
  rw [ev_par 2 3 _ _ [some (scrD (ns.map .int)), some f4, none, none, none, none, none, none, none, none, none, none, none, none, none, none, none, none, none, none, none] (ordD n A) (ordD m B) (by simp -implicitDefEqProofs only [bind_ok, lift_some, okK_eq, liftK_eq, ev_seq, seqK_next, seqK_ret, ev_asg, asgK_eq, ev_ret, ev_expr, ev_skip, ev_ifS, ev_if, ifK_t, ifK_f, ev_c, ev_yes, ev_and, ev_or, ev_not, cK_eq, ev_tb, ev_tru, ev_andV, ev_orV, ev_notV, bK_bool, notK_bool, ev_m2, m2K_eq, ev_m1, ev_nil, ev_cons, consK_eq, ev_tup, ev_lst, ev_slot, slotK_eq, ev_retO, retOK_eq, ev_name, ev_tup2, ev_tup3, ev_tgc, tgK_eq, ev_tgn, ev_call, callK_v1, callK_v2, callK_v3, callK2_v1, callK2_v2, callK2_v3, callK_b1, callK_b2, borK_eq, callK2_b1, callK2_b2, unK_eq, ev_bor, bor1K_eq, ev_lenO, lenOK_eq, listAt_eq, listK_eq, ev_ixO, ixO0_eq, ixO1_eq, ixO1'_eq, ixO2_0, ev_sub, subK0_eq, subK_eq, subK1_eq, subK2_eq, ev_app, appK0_eq, appK_eq, ev_ins, insK0_eq, insK'_eq, insK_eq, ev_ext, extK0_eq, extK_eq, ev_i1, ev_i2, i2K_eq, ev_lrg, ev_trg, ev_forS, one_eq, oneC_eq, oneE_t, oneE_f, oneX_eq, wipeE_nil, wipeE_cons, ev_comp, fnK_ret, fnK_next, mask_nil, mask_0, mask_1, v_addI, v_tupL, v_tupT, v_lstL, v_lstT, v_lenL, v_lenT, v_int, v_seqL, v_seqT, v_bool, v_truB, v_truI, v_eqI, v_eqB, v_neI, v_ixT, v_ixL, v_at0, v_at1, v_at2, v_at3, v_at4, v_at5, List.getElem?_cons_zero, List.getElem?_cons_succ, List.set_cons_zero, List.set_cons_succ, List.length_cons, List.length_nil, Nat.reduceAdd, Nat.reduceLT, Nat.reduceSub, if_true, List.map_cons, List.map_nil, List.cons_append, List.nil_append, List.replicate_succ, List.replicate_zero, Nat.zero_add, Nat.lt_add_left_iff_pos, Nat.zero_lt_succ, bodyK_eq, e1, e2, e3, e4]) ⟨by simp, by simp⟩]
  simp -implicitDefEqProofs only [bind_ok, lift_some, okK_eq, liftK_eq, ev_seq, seqK_next, seqK_ret, ev_asg, asgK_eq, ev_ret, ev_expr, ev_skip, ev_ifS, ev_if, ifK_t, ifK_f, ev_c, ev_yes, ev_and, ev_or, ev_not, cK_eq, ev_tb, ev_tru, ev_andV, ev_orV, ev_notV, bK_bool, notK_bool, ev_m2, m2K_eq, ev_m1, ev_nil, ev_cons, consK_eq, ev_tup, ev_lst, ev_slot, slotK_eq, ev_retO, retOK_eq, ev_name, ev_tup2, ev_tup3, ev_tgc, tgK_eq, ev_tgn, ev_call, callK_v1, callK_v2, callK_v3, callK2_v1, callK2_v2, callK2_v3, callK_b1, callK_b2, borK_eq, callK2_b1, callK2_b2, unK_eq, ev_bor, bor1K_eq, ev_lenO, lenOK_eq, listAt_eq, listK_eq, ev_ixO, ixO0_eq, ixO1_eq, ixO1'_eq, ixO2_0, ev_sub, subK0_eq, subK_eq, subK1_eq, subK2_eq, ev_app, appK0_eq, appK_eq, ev_ins, insK0_eq, insK'_eq, insK_eq, ev_ext, extK0_eq, extK_eq, ev_i1, ev_i2, i2K_eq, ev_lrg, ev_trg, ev_forS, one_eq, oneC_eq, oneE_t, oneE_f, oneX_eq, wipeE_nil, wipeE_cons, ev_comp, fnK_ret, fnK_next, mask_nil, mask_0, mask_1, v_addI, v_tupL, v_tupT, v_lstL, v_lstT, v_lenL, v_lenT, v_int, v_seqL, v_seqT, v_bool, v_truB, v_truI, v_eqI, v_eqB, v_neI, v_ixT, v_ixL, v_at0, v_at1, v_at2, v_at3, v_at4, v_at5, List.getElem?_cons_zero, List.getElem?_cons_succ, List.set_cons_zero, List.set_cons_succ, List.length_cons, List.length_nil, Nat.reduceAdd, Nat.reduceLT, Nat.reduceSub, if_true, List.map_cons, List.map_nil, List.cons_append, List.nil_append, List.replicate_succ, List.replicate_zero, Nat.zero_add, Nat.lt_add_left_iff_pos, Nat.zero_lt_succ, bodyK_eq]
theorem st2 : lw2 [some (scrD (ns.map .int)), some f, some (ordD n A), some (ordD m B), none, none, none, none, none, none, none, none, none, none, none, none, none, none, none, none, none] = .ok .next [some (scrD (ns.map .int)), some f, some (ordD n A), some (ordD m B), some (.int (n : Int)), some (.int (m : Int)), none, none, none, none, none, none, none, none, none, none, none, none, none, none, none] := by
  unfold lw2
  simp -implicitDefEqProofs only [bind_ok, lift_some, okK_eq, liftK_eq, ev_seq, seqK_next, seqK_ret, ev_asg, asgK_eq, ev_ret, ev_expr, ev_skip, ev_ifS, ev_if, ifK_t, ifK_f, ev_c, ev_yes, ev_and, ev_or, ev_not, cK_eq, ev_tb, ev_tru, ev_andV, ev_orV, ev_notV, bK_bool, notK_bool, ev_m2, m2K_eq, ev_m1, ev_nil, ev_cons, consK_eq, ev_tup, ev_lst, ev_slot, slotK_eq, ev_retO, retOK_eq, ev_name, ev_tup2, ev_tup3, ev_tgc, tgK_eq, ev_tgn, ev_call, callK_v1, callK_v2, callK_v3, callK2_v1, callK2_v2, callK2_v3, callK_b1, callK_b2, borK_eq, callK2_b1, callK2_b2, unK_eq, ev_bor, bor1K_eq, ev_lenO, lenOK_eq, listAt_eq, listK_eq, ev_ixO, ixO0_eq, ixO1_eq, ixO1'_eq, ixO2_0, ev_sub, subK0_eq, subK_eq, subK1_eq, subK2_eq, ev_app, appK0_eq, appK_eq, ev_ins, insK0_eq, insK'_eq, insK_eq, ev_ext, extK0_eq, extK_eq, ev_i1, ev_i2, i2K_eq, ev_lrg, ev_trg, ev_forS, one_eq, oneC_eq, oneE_t, oneE_f, oneX_eq, wipeE_nil, wipeE_cons, ev_comp, fnK_ret, fnK_next, mask_nil, mask_0, mask_1, v_addI, v_tupL, v_tupT, v_lstL, v_lstT, v_lenL, v_lenT, v_int, v_seqL, v_seqT, v_bool, v_truB, v_truI, v_eqI, v_eqB, v_neI, v_ixT, v_ixL, v_at0, v_at1, v_at2, v_at3, v_at4, v_at5, List.getElem?_cons_zero, List.getElem?_cons_succ, List.set_cons_zero, List.set_cons_succ, List.length_cons, List.length_nil, Nat.reduceAdd, Nat.reduceLT, Nat.reduceSub, if_true, List.map_cons, List.map_nil, List.cons_append, List.nil_append, List.replicate_succ, List.replicate_zero, Nat.zero_add, Nat.lt_add_left_iff_pos, Nat.zero_lt_succ, bodyK_eq, v_ord0]
theorem st3 (hn : n < 7) : lw3 [some (scrD (ns.map .int)), some f, some (ordD n A), some (ordD m B), some (.int (n : Int)), some (.int (m : Int)), none, none, none, none, none, none, none, none, none, none, none, none, none, none, none] = .ok .next [some (scrD (ns.map .int)), some f, some (ordD n A), some (ordD m B), some (.int (n : Int)), some (.int (m : Int)), none, none, none, none, none, none, none, none, none, none, none, none, none, none, none] := by
  have s := same_ev 8 _ (pl3 (pl_ord 3 n (tr A) (by omega)) (pl_ord 3 n A (by omega)) pl_empty)
  have o2 : F_opposite [ordD n (tr A)] = .ok (ordD n A) [none] := opposite_ev n (tr A) (by omega)
  unfold lw3
  simp -implicitDefEqProofs only [bind_ok, lift_some, okK_eq, liftK_eq, ev_seq, seqK_next, seqK_ret, ev_asg, asgK_eq, ev_ret, ev_expr, ev_skip, ev_ifS, ev_if, ifK_t, ifK_f, ev_c, ev_yes, ev_and, ev_or, ev_not, cK_eq, ev_tb, ev_tru, ev_andV, ev_orV, ev_notV, bK_bool, notK_bool, ev_m2, m2K_eq, ev_m1, ev_nil, ev_cons, consK_eq, ev_tup, ev_lst, ev_slot, slotK_eq, ev_retO, retOK_eq, ev_name, ev_tup2, ev_tup3, ev_tgc, tgK_eq, ev_tgn, ev_call, callK_v1, callK_v2, callK_v3, callK2_v1, callK2_v2, callK2_v3, callK_b1, callK_b2, borK_eq, callK2_b1, callK2_b2, unK_eq, ev_bor, bor1K_eq, ev_lenO, lenOK_eq, listAt_eq, listK_eq, ev_ixO, ixO0_eq, ixO1_eq, ixO1'_eq, ixO2_0, ev_sub, subK0_eq, subK_eq, subK1_eq, subK2_eq, ev_app, appK0_eq, appK_eq, ev_ins, insK0_eq, insK'_eq, insK_eq, ev_ext, extK0_eq, extK_eq, ev_i1, ev_i2, i2K_eq, ev_lrg, ev_trg, ev_forS, one_eq, oneC_eq, oneE_t, oneE_f, oneX_eq, wipeE_nil, wipeE_cons, ev_comp, fnK_ret, fnK_next, mask_nil, mask_0, mask_1, v_addI, v_tupL, v_tupT, v_lstL, v_lstT, v_lenL, v_lenT, v_int, v_seqL, v_seqT, v_bool, v_truB, v_truI, v_eqI, v_eqB, v_neI, v_ixT, v_ixL, v_at0, v_at1, v_at2, v_at3, v_at4, v_at5, List.getElem?_cons_zero, List.getElem?_cons_succ, List.set_cons_zero, List.set_cons_succ, List.length_cons, List.length_nil, Nat.reduceAdd, Nat.reduceLT, Nat.reduceSub, if_true, List.map_cons, List.map_nil, List.cons_append, List.nil_append, List.replicate_succ, List.replicate_zero, Nat.zero_add, Nat.lt_add_left_iff_pos, Nat.zero_lt_succ, bodyK_eq, opposite_ev n A (by omega), turned_ev n A (by omega), o2, opp_empty, s, Bool.not_true]
theorem st4 (hn : n < 7) (hm : m < 7) : lw4 [some (scrD (ns.map .int)), some f, some (ordD n A), some (ordD m B), some (.int (n : Int)), some (.int (m : Int)), none, none, none, none, none, none, none, none, none, none, none, none, none, none, none] = .ok .next [some (scrD (ns.map .int)), some f, some (ordD n A), some (ordD m B), some (.int (n : Int)), some (.int (m : Int)), none, none, none, none, none, none, none, none, none, none, none, none, none, none, none] := by
  have s := same_ev 8 _ (pl_ord 4 (n + m) (tr (besR n A B)) (by omega))
  have b2 : F_beside [ordD n (tr A), ordD m (tr B)] = .ok (ordD (n + m) (tr (besR n A B))) [none, none] := by rw [beside_ev n m _ _ (by omega), bes_tr]
  unfold lw4
  simp -implicitDefEqProofs only [bind_ok, lift_some, okK_eq, liftK_eq, ev_seq, seqK_next, seqK_ret, ev_asg, asgK_eq, ev_ret, ev_expr, ev_skip, ev_ifS, ev_if, ifK_t, ifK_f, ev_c, ev_yes, ev_and, ev_or, ev_not, cK_eq, ev_tb, ev_tru, ev_andV, ev_orV, ev_notV, bK_bool, notK_bool, ev_m2, m2K_eq, ev_m1, ev_nil, ev_cons, consK_eq, ev_tup, ev_lst, ev_slot, slotK_eq, ev_retO, retOK_eq, ev_name, ev_tup2, ev_tup3, ev_tgc, tgK_eq, ev_tgn, ev_call, callK_v1, callK_v2, callK_v3, callK2_v1, callK2_v2, callK2_v3, callK_b1, callK_b2, borK_eq, callK2_b1, callK2_b2, unK_eq, ev_bor, bor1K_eq, ev_lenO, lenOK_eq, listAt_eq, listK_eq, ev_ixO, ixO0_eq, ixO1_eq, ixO1'_eq, ixO2_0, ev_sub, subK0_eq, subK_eq, subK1_eq, subK2_eq, ev_app, appK0_eq, appK_eq, ev_ins, insK0_eq, insK'_eq, insK_eq, ev_ext, extK0_eq, extK_eq, ev_i1, ev_i2, i2K_eq, ev_lrg, ev_trg, ev_forS, one_eq, oneC_eq, oneE_t, oneE_f, oneX_eq, wipeE_nil, wipeE_cons, ev_comp, fnK_ret, fnK_next, mask_nil, mask_0, mask_1, v_addI, v_tupL, v_tupT, v_lstL, v_lstT, v_lenL, v_lenT, v_int, v_seqL, v_seqT, v_bool, v_truB, v_truI, v_eqI, v_eqB, v_neI, v_ixT, v_ixL, v_at0, v_at1, v_at2, v_at3, v_at4, v_at5, List.getElem?_cons_zero, List.getElem?_cons_succ, List.set_cons_zero, List.set_cons_succ, List.length_cons, List.length_nil, Nat.reduceAdd, Nat.reduceLT, Nat.reduceSub, if_true, List.map_cons, List.map_nil, List.cons_append, List.nil_append, List.replicate_succ, List.replicate_zero, Nat.zero_add, Nat.lt_add_left_iff_pos, Nat.zero_lt_succ, bodyK_eq, beside_ev n m A B (by omega), opposite_ev (n + m) (besR n A B) (by omega), turned_ev n A (by omega), turned_ev m B (by omega), b2, s, Bool.not_true]
theorem nm_le (hn : n < 7) (hm : m < 7) : n * m ≤ 36 := Nat.mul_le_mul (show n ≤ 6 by omega) (show m ≤ 6 by omega)
theorem st5 (hn : n < 7) (hm : m < 7) : lw5 [some (scrD (ns.map .int)), some f, some (ordD n A), some (ordD m B), some (.int (n : Int)), some (.int (m : Int)), none, none, none, none, none, none, none, none, none, none, none, none, none, none, none] = .ok .next [some (scrD (ns.map .int)), some f, some (ordD n A), some (ordD m B), some (.int (n : Int)), some (.int (m : Int)), none, none, none, none, none, none, none, none, none, none, none, none, none, none, none] := by
  have h := nm_le hn hm
  have s := same_ev 8 _ (pl_ord 4 (n * m) (tr (prodR m A B)) (by omega))
  have b2 : F_product [ordD n (tr A), ordD m (tr B)] = .ok (ordD (n * m) (tr (prodR m A B))) [none, none] := by rw [product_ev n m _ _ (by omega) (by omega) (by omega), prod_tr]
  unfold lw5
  simp -implicitDefEqProofs only [bind_ok, lift_some, okK_eq, liftK_eq, ev_seq, seqK_next, seqK_ret, ev_asg, asgK_eq, ev_ret, ev_expr, ev_skip, ev_ifS, ev_if, ifK_t, ifK_f, ev_c, ev_yes, ev_and, ev_or, ev_not, cK_eq, ev_tb, ev_tru, ev_andV, ev_orV, ev_notV, bK_bool, notK_bool, ev_m2, m2K_eq, ev_m1, ev_nil, ev_cons, consK_eq, ev_tup, ev_lst, ev_slot, slotK_eq, ev_retO, retOK_eq, ev_name, ev_tup2, ev_tup3, ev_tgc, tgK_eq, ev_tgn, ev_call, callK_v1, callK_v2, callK_v3, callK2_v1, callK2_v2, callK2_v3, callK_b1, callK_b2, borK_eq, callK2_b1, callK2_b2, unK_eq, ev_bor, bor1K_eq, ev_lenO, lenOK_eq, listAt_eq, listK_eq, ev_ixO, ixO0_eq, ixO1_eq, ixO1'_eq, ixO2_0, ev_sub, subK0_eq, subK_eq, subK1_eq, subK2_eq, ev_app, appK0_eq, appK_eq, ev_ins, insK0_eq, insK'_eq, insK_eq, ev_ext, extK0_eq, extK_eq, ev_i1, ev_i2, i2K_eq, ev_lrg, ev_trg, ev_forS, one_eq, oneC_eq, oneE_t, oneE_f, oneX_eq, wipeE_nil, wipeE_cons, ev_comp, fnK_ret, fnK_next, mask_nil, mask_0, mask_1, v_addI, v_tupL, v_tupT, v_lstL, v_lstT, v_lenL, v_lenT, v_int, v_seqL, v_seqT, v_bool, v_truB, v_truI, v_eqI, v_eqB, v_neI, v_ixT, v_ixL, v_at0, v_at1, v_at2, v_at3, v_at4, v_at5, List.getElem?_cons_zero, List.getElem?_cons_succ, List.set_cons_zero, List.set_cons_succ, List.length_cons, List.length_nil, Nat.reduceAdd, Nat.reduceLT, Nat.reduceSub, if_true, List.map_cons, List.map_nil, List.cons_append, List.nil_append, List.replicate_succ, List.replicate_zero, Nat.zero_add, Nat.lt_add_left_iff_pos, Nat.zero_lt_succ, bodyK_eq, product_ev n m A B (by omega) (by omega) (by omega), opposite_ev (n * m) (prodR m A B) (by omega), turned_ev n A (by omega), turned_ev m B (by omega), b2, s, Bool.not_true]
theorem st6 (hn : n < 7) (hm : m < 7) : lw6 [some (scrD (ns.map .int)), some f, some (ordD n A), some (ordD m B), some (.int (n : Int)), some (.int (m : Int)), none, none, none, none, none, none, none, none, none, none, none, none, none, none, none] = .ok .next [some (scrD (ns.map .int)), some f, some (ordD n A), some (ordD m B), some (.int (n : Int)), some (.int (m : Int)), some (.list ((List.range (n + m)).map fun x => natD (chg n m x))), none, none, none, none, none, none, none, none, none, none, none, none, none, none] := by
  unfold lw6
  simp -implicitDefEqProofs only [bind_ok, lift_some, okK_eq, liftK_eq, ev_seq, seqK_next, seqK_ret, ev_asg, asgK_eq, ev_ret, ev_expr, ev_skip, ev_ifS, ev_if, ifK_t, ifK_f, ev_c, ev_yes, ev_and, ev_or, ev_not, cK_eq, ev_tb, ev_tru, ev_andV, ev_orV, ev_notV, bK_bool, notK_bool, ev_m2, m2K_eq, ev_m1, ev_nil, ev_cons, consK_eq, ev_tup, ev_lst, ev_slot, slotK_eq, ev_retO, retOK_eq, ev_name, ev_tup2, ev_tup3, ev_tgc, tgK_eq, ev_tgn, ev_call, callK_v1, callK_v2, callK_v3, callK2_v1, callK2_v2, callK2_v3, callK_b1, callK_b2, borK_eq, callK2_b1, callK2_b2, unK_eq, ev_bor, bor1K_eq, ev_lenO, lenOK_eq, listAt_eq, listK_eq, ev_ixO, ixO0_eq, ixO1_eq, ixO1'_eq, ixO2_0, ev_sub, subK0_eq, subK_eq, subK1_eq, subK2_eq, ev_app, appK0_eq, appK_eq, ev_ins, insK0_eq, insK'_eq, insK_eq, ev_ext, extK0_eq, extK_eq, ev_i1, ev_i2, i2K_eq, ev_lrg, ev_trg, ev_forS, one_eq, oneC_eq, oneE_t, oneE_f, oneX_eq, wipeE_nil, wipeE_cons, ev_comp, fnK_ret, fnK_next, mask_nil, mask_0, mask_1, v_addI, v_tupL, v_tupT, v_lstL, v_lstT, v_lenL, v_lenT, v_int, v_seqL, v_seqT, v_bool, v_truB, v_truI, v_eqI, v_eqB, v_neI, v_ixT, v_ixL, v_at0, v_at1, v_at2, v_at3, v_at4, v_at5, List.getElem?_cons_zero, List.getElem?_cons_succ, List.set_cons_zero, List.set_cons_succ, List.length_cons, List.length_nil, Nat.reduceAdd, Nat.reduceLT, Nat.reduceSub, if_true, List.map_cons, List.map_nil, List.cons_append, List.nil_append, List.replicate_succ, List.replicate_zero, Nat.zero_add, Nat.lt_add_left_iff_pos, Nat.zero_lt_succ, bodyK_eq, v_rg1 n (show n ≤ 1000000 by omega), v_rg1 m (show m ≤ 1000000 by omega)]
  rw [compK_map (List.range n) (fun k : Nat => PyData.int (k : Int)) (fun x : Nat => PyData.int ((m : Int) + (x : Int))) (by rw [List.length_range]; unfold big; omega) (fun x _ => by simp -implicitDefEqProofs only [bind_ok, lift_some, okK_eq, liftK_eq, ev_seq, seqK_next, seqK_ret, ev_asg, asgK_eq, ev_ret, ev_expr, ev_skip, ev_ifS, ev_if, ifK_t, ifK_f, ev_c, ev_yes, ev_and, ev_or, ev_not, cK_eq, ev_tb, ev_tru, ev_andV, ev_orV, ev_notV, bK_bool, notK_bool, ev_m2, m2K_eq, ev_m1, ev_nil, ev_cons, consK_eq, ev_tup, ev_lst, ev_slot, slotK_eq, ev_retO, retOK_eq, ev_name, ev_tup2, ev_tup3, ev_tgc, tgK_eq, ev_tgn, ev_call, callK_v1, callK_v2, callK_v3, callK2_v1, callK2_v2, callK2_v3, callK_b1, callK_b2, borK_eq, callK2_b1, callK2_b2, unK_eq, ev_bor, bor1K_eq, ev_lenO, lenOK_eq, listAt_eq, listK_eq, ev_ixO, ixO0_eq, ixO1_eq, ixO1'_eq, ixO2_0, ev_sub, subK0_eq, subK_eq, subK1_eq, subK2_eq, ev_app, appK0_eq, appK_eq, ev_ins, insK0_eq, insK'_eq, insK_eq, ev_ext, extK0_eq, extK_eq, ev_i1, ev_i2, i2K_eq, ev_lrg, ev_trg, ev_forS, one_eq, oneC_eq, oneE_t, oneE_f, oneX_eq, wipeE_nil, wipeE_cons, ev_comp, fnK_ret, fnK_next, mask_nil, mask_0, mask_1, v_addI, v_tupL, v_tupT, v_lstL, v_lstT, v_lenL, v_lenT, v_int, v_seqL, v_seqT, v_bool, v_truB, v_truI, v_eqI, v_eqB, v_neI, v_ixT, v_ixL, v_at0, v_at1, v_at2, v_at3, v_at4, v_at5, List.getElem?_cons_zero, List.getElem?_cons_succ, List.set_cons_zero, List.set_cons_succ, List.length_cons, List.length_nil, Nat.reduceAdd, Nat.reduceLT, Nat.reduceSub, if_true, List.map_cons, List.map_nil, List.cons_append, List.nil_append, List.replicate_succ, List.replicate_zero, Nat.zero_add, Nat.lt_add_left_iff_pos, Nat.zero_lt_succ, bodyK_eq])]
  simp -implicitDefEqProofs only [bind_ok, lift_some, okK_eq, liftK_eq, ev_seq, seqK_next, seqK_ret, ev_asg, asgK_eq, ev_ret, ev_expr, ev_skip, ev_ifS, ev_if, ifK_t, ifK_f, ev_c, ev_yes, ev_and, ev_or, ev_not, cK_eq, ev_tb, ev_tru, ev_andV, ev_orV, ev_notV, bK_bool, notK_bool, ev_m2, m2K_eq, ev_m1, ev_nil, ev_cons, consK_eq, ev_tup, ev_lst, ev_slot, slotK_eq, ev_retO, retOK_eq, ev_name, ev_tup2, ev_tup3, ev_tgc, tgK_eq, ev_tgn, ev_call, callK_v1, callK_v2, callK_v3, callK2_v1, callK2_v2, callK2_v3, callK_b1, callK_b2, borK_eq, callK2_b1, callK2_b2, unK_eq, ev_bor, bor1K_eq, ev_lenO, lenOK_eq, listAt_eq, listK_eq, ev_ixO, ixO0_eq, ixO1_eq, ixO1'_eq, ixO2_0, ev_sub, subK0_eq, subK_eq, subK1_eq, subK2_eq, ev_app, appK0_eq, appK_eq, ev_ins, insK0_eq, insK'_eq, insK_eq, ev_ext, extK0_eq, extK_eq, ev_i1, ev_i2, i2K_eq, ev_lrg, ev_trg, ev_forS, one_eq, oneC_eq, oneE_t, oneE_f, oneX_eq, wipeE_nil, wipeE_cons, ev_comp, fnK_ret, fnK_next, mask_nil, mask_0, mask_1, v_addI, v_tupL, v_tupT, v_lstL, v_lstT, v_lenL, v_lenT, v_int, v_seqL, v_seqT, v_bool, v_truB, v_truI, v_eqI, v_eqB, v_neI, v_ixT, v_ixL, v_at0, v_at1, v_at2, v_at3, v_at4, v_at5, List.getElem?_cons_zero, List.getElem?_cons_succ, List.set_cons_zero, List.set_cons_succ, List.length_cons, List.length_nil, Nat.reduceAdd, Nat.reduceLT, Nat.reduceSub, if_true, List.map_cons, List.map_nil, List.cons_append, List.nil_append, List.replicate_succ, List.replicate_zero, Nat.zero_add, Nat.lt_add_left_iff_pos, Nat.zero_lt_succ, bodyK_eq, v_rg1 m (show m ≤ 1000000 by omega)]
  rw [v_addL _ _ (by simp only [List.length_map, List.length_range]; unfold big; omega), chg_list]
  simp -implicitDefEqProofs only [bind_ok, lift_some, okK_eq, liftK_eq, ev_seq, seqK_next, seqK_ret, ev_asg, asgK_eq, ev_ret, ev_expr, ev_skip, ev_ifS, ev_if, ifK_t, ifK_f, ev_c, ev_yes, ev_and, ev_or, ev_not, cK_eq, ev_tb, ev_tru, ev_andV, ev_orV, ev_notV, bK_bool, notK_bool, ev_m2, m2K_eq, ev_m1, ev_nil, ev_cons, consK_eq, ev_tup, ev_lst, ev_slot, slotK_eq, ev_retO, retOK_eq, ev_name, ev_tup2, ev_tup3, ev_tgc, tgK_eq, ev_tgn, ev_call, callK_v1, callK_v2, callK_v3, callK2_v1, callK2_v2, callK2_v3, callK_b1, callK_b2, borK_eq, callK2_b1, callK2_b2, unK_eq, ev_bor, bor1K_eq, ev_lenO, lenOK_eq, listAt_eq, listK_eq, ev_ixO, ixO0_eq, ixO1_eq, ixO1'_eq, ixO2_0, ev_sub, subK0_eq, subK_eq, subK1_eq, subK2_eq, ev_app, appK0_eq, appK_eq, ev_ins, insK0_eq, insK'_eq, insK_eq, ev_ext, extK0_eq, extK_eq, ev_i1, ev_i2, i2K_eq, ev_lrg, ev_trg, ev_forS, one_eq, oneC_eq, oneE_t, oneE_f, oneX_eq, wipeE_nil, wipeE_cons, ev_comp, fnK_ret, fnK_next, mask_nil, mask_0, mask_1, v_addI, v_tupL, v_tupT, v_lstL, v_lstT, v_lenL, v_lenT, v_int, v_seqL, v_seqT, v_bool, v_truB, v_truI, v_eqI, v_eqB, v_neI, v_ixT, v_ixL, v_at0, v_at1, v_at2, v_at3, v_at4, v_at5, List.getElem?_cons_zero, List.getElem?_cons_succ, List.set_cons_zero, List.set_cons_succ, List.length_cons, List.length_nil, Nat.reduceAdd, Nat.reduceLT, Nat.reduceSub, if_true, List.map_cons, List.map_nil, List.cons_append, List.nil_append, List.replicate_succ, List.replicate_zero, Nat.zero_add, Nat.lt_add_left_iff_pos, Nat.zero_lt_succ, bodyK_eq]
theorem st7 (hn : n < 7) (hm : m < 7) : lw7 [some (scrD (ns.map .int)), some f, some (ordD n A), some (ordD m B), some (.int (n : Int)), some (.int (m : Int)), some (.list ((List.range (n + m)).map fun x => natD (chg n m x))), none, none, none, none, none, none, none, none, none, none, none, none, none, none] = .ok .next [some (scrD (ns.map .int)), some f, some (ordD n A), some (ordD m B), some (.int (n : Int)), some (.int (m : Int)), some (.list ((List.range (n + m)).map fun x => natD (chg n m x))), none, none, none, none, none, none, none, none, none, none, none, none, none, none] := by
  have s := same_ev 8 _ (pl_ord 4 (m + n) (topR m (tr B) (tr A)) (by omega))
  have b2 : F__law_moved [ordD (n + m) (tr (topR n A B)), .list ((List.range (n + m)).map fun x => natD (chg n m x))] = .ok (ordD (m + n) (topR m (tr B) (tr A))) [none, none] := by rw [moved_ev (n + m) _ _ _ (chg_bij n m) (by omega), top_tr]
  unfold lw7
  simp -implicitDefEqProofs only [bind_ok, lift_some, okK_eq, liftK_eq, ev_seq, seqK_next, seqK_ret, ev_asg, asgK_eq, ev_ret, ev_expr, ev_skip, ev_ifS, ev_if, ifK_t, ifK_f, ev_c, ev_yes, ev_and, ev_or, ev_not, cK_eq, ev_tb, ev_tru, ev_andV, ev_orV, ev_notV, bK_bool, notK_bool, ev_m2, m2K_eq, ev_m1, ev_nil, ev_cons, consK_eq, ev_tup, ev_lst, ev_slot, slotK_eq, ev_retO, retOK_eq, ev_name, ev_tup2, ev_tup3, ev_tgc, tgK_eq, ev_tgn, ev_call, callK_v1, callK_v2, callK_v3, callK2_v1, callK2_v2, callK2_v3, callK_b1, callK_b2, borK_eq, callK2_b1, callK2_b2, unK_eq, ev_bor, bor1K_eq, ev_lenO, lenOK_eq, listAt_eq, listK_eq, ev_ixO, ixO0_eq, ixO1_eq, ixO1'_eq, ixO2_0, ev_sub, subK0_eq, subK_eq, subK1_eq, subK2_eq, ev_app, appK0_eq, appK_eq, ev_ins, insK0_eq, insK'_eq, insK_eq, ev_ext, extK0_eq, extK_eq, ev_i1, ev_i2, i2K_eq, ev_lrg, ev_trg, ev_forS, one_eq, oneC_eq, oneE_t, oneE_f, oneX_eq, wipeE_nil, wipeE_cons, ev_comp, fnK_ret, fnK_next, mask_nil, mask_0, mask_1, v_addI, v_tupL, v_tupT, v_lstL, v_lstT, v_lenL, v_lenT, v_int, v_seqL, v_seqT, v_bool, v_truB, v_truI, v_eqI, v_eqB, v_neI, v_ixT, v_ixL, v_at0, v_at1, v_at2, v_at3, v_at4, v_at5, List.getElem?_cons_zero, List.getElem?_cons_succ, List.set_cons_zero, List.set_cons_succ, List.length_cons, List.length_nil, Nat.reduceAdd, Nat.reduceLT, Nat.reduceSub, if_true, List.map_cons, List.map_nil, List.cons_append, List.nil_append, List.replicate_succ, List.replicate_zero, Nat.zero_add, Nat.lt_add_left_iff_pos, Nat.zero_lt_succ, bodyK_eq, on_top_ev n m A B (by omega), opposite_ev (n + m) (topR n A B) (by omega), turned_ev n A (by omega), turned_ev m B (by omega), b2, on_top_ev m n (tr B) (tr A) (by omega), s, Bool.not_true]
theorem st8 (hn : n < 7) (hm : m < 7) : lw8 [some (scrD (ns.map .int)), some f, some (ordD n A), some (ordD m B), some (.int (n : Int)), some (.int (m : Int)), some (.list ((List.range (n + m)).map fun x => natD (chg n m x))), none, none, none, none, none, none, none, none, none, none, none, none, none, none] = .ok .next [some (scrD (ns.map .int)), some f, some (ordD n A), some (ordD m B), some (.int (n : Int)), some (.int (m : Int)), some (.list ((List.range (n + m)).map fun x => natD (chg n m x))), some (ordD (n + m) (topR n A B)), none, none, none, none, none, none, none, none, none, none, none, none, none] := by
  unfold lw8
  simp -implicitDefEqProofs only [bind_ok, lift_some, okK_eq, liftK_eq, ev_seq, seqK_next, seqK_ret, ev_asg, asgK_eq, ev_ret, ev_expr, ev_skip, ev_ifS, ev_if, ifK_t, ifK_f, ev_c, ev_yes, ev_and, ev_or, ev_not, cK_eq, ev_tb, ev_tru, ev_andV, ev_orV, ev_notV, bK_bool, notK_bool, ev_m2, m2K_eq, ev_m1, ev_nil, ev_cons, consK_eq, ev_tup, ev_lst, ev_slot, slotK_eq, ev_retO, retOK_eq, ev_name, ev_tup2, ev_tup3, ev_tgc, tgK_eq, ev_tgn, ev_call, callK_v1, callK_v2, callK_v3, callK2_v1, callK2_v2, callK2_v3, callK_b1, callK_b2, borK_eq, callK2_b1, callK2_b2, unK_eq, ev_bor, bor1K_eq, ev_lenO, lenOK_eq, listAt_eq, listK_eq, ev_ixO, ixO0_eq, ixO1_eq, ixO1'_eq, ixO2_0, ev_sub, subK0_eq, subK_eq, subK1_eq, subK2_eq, ev_app, appK0_eq, appK_eq, ev_ins, insK0_eq, insK'_eq, insK_eq, ev_ext, extK0_eq, extK_eq, ev_i1, ev_i2, i2K_eq, ev_lrg, ev_trg, ev_forS, one_eq, oneC_eq, oneE_t, oneE_f, oneX_eq, wipeE_nil, wipeE_cons, ev_comp, fnK_ret, fnK_next, mask_nil, mask_0, mask_1, v_addI, v_tupL, v_tupT, v_lstL, v_lstT, v_lenL, v_lenT, v_int, v_seqL, v_seqT, v_bool, v_truB, v_truI, v_eqI, v_eqB, v_neI, v_ixT, v_ixL, v_at0, v_at1, v_at2, v_at3, v_at4, v_at5, List.getElem?_cons_zero, List.getElem?_cons_succ, List.set_cons_zero, List.set_cons_succ, List.length_cons, List.length_nil, Nat.reduceAdd, Nat.reduceLT, Nat.reduceSub, if_true, List.map_cons, List.map_nil, List.cons_append, List.nil_append, List.replicate_succ, List.replicate_zero, Nat.zero_add, Nat.lt_add_left_iff_pos, Nat.zero_lt_succ, bodyK_eq, on_top_ev n m A B (by omega)]
theorem ind_lo {R : Nat → Nat → Bool} (hn : n < 7) (hm : m < 7) (h : ∀ i j, i < n → j < n → R i j = A i j) : F_induced [ordD (n + m) R, .tuple ((List.range n).map fun k : Nat => .int (k : Int))] = .ok (ordD n A) [none, none] :=
  induced_to (fun i => i) (mono_id (by omega)) (by omega) (by omega) h
theorem ind_hi {R : Nat → Nat → Bool} (hn : n < 7) (hm : m < 7) (h : ∀ i j, i < m → j < m → R (n + i) (n + j) = B i j) : F_induced [ordD (n + m) R, .tuple ((List.range (n + m - n)).map fun k : Nat => .int ((n + k : Nat) : Int))] = .ok (ordD m B) [none, none] := by
  rw [Nat.add_sub_cancel_left]
  exact induced_to (fun i => n + i) (mono_add n (by omega)) (by omega) (by omega) h
theorem top_lo (i j : Nat) (hi : i < n) (hj : j < n) : topR n A B i j = A i j := by unfold topR; rw [if_pos ⟨hi, hj⟩]
theorem top_hi (i j : Nat) : topR n A B (n + i) (n + j) = B i j := by
  unfold topR
  rw [if_neg (by omega), if_pos (by omega), Nat.add_sub_cancel_left, Nat.add_sub_cancel_left]
theorem bes_lo (i j : Nat) (hi : i < n) (hj : j < n) : besR n A B i j = A i j := by unfold besR; rw [if_pos ⟨hi, hj⟩]
theorem bes_hi (i j : Nat) : besR n A B (n + i) (n + j) = B i j := by
  unfold besR
  rw [if_neg (by omega), if_pos (by omega), Nat.add_sub_cancel_left, Nat.add_sub_cancel_left]
theorem st9 (hn : n < 7) (hm : m < 7) : lw9 [some (scrD (ns.map .int)), some f, some (ordD n A), some (ordD m B), some (.int (n : Int)), some (.int (m : Int)), some (.list ((List.range (n + m)).map fun x => natD (chg n m x))), some (ordD (n + m) (topR n A B)), none, none, none, none, none, none, none, none, none, none, none, none, none] = .ok .next [some (scrD (ns.map .int)), some f, some (ordD n A), some (ordD m B), some (.int (n : Int)), some (.int (m : Int)), some (.list ((List.range (n + m)).map fun x => natD (chg n m x))), some (ordD (n + m) (topR n A B)), some (.tuple [ordD n A, ordD m B]), none, none, none, none, none, none, none, none, none, none, none, none] := by
  unfold lw9
  simp -implicitDefEqProofs only [bind_ok, lift_some, okK_eq, liftK_eq, ev_seq, seqK_next, seqK_ret, ev_asg, asgK_eq, ev_ret, ev_expr, ev_skip, ev_ifS, ev_if, ifK_t, ifK_f, ev_c, ev_yes, ev_and, ev_or, ev_not, cK_eq, ev_tb, ev_tru, ev_andV, ev_orV, ev_notV, bK_bool, notK_bool, ev_m2, m2K_eq, ev_m1, ev_nil, ev_cons, consK_eq, ev_tup, ev_lst, ev_slot, slotK_eq, ev_retO, retOK_eq, ev_name, ev_tup2, ev_tup3, ev_tgc, tgK_eq, ev_tgn, ev_call, callK_v1, callK_v2, callK_v3, callK2_v1, callK2_v2, callK2_v3, callK_b1, callK_b2, borK_eq, callK2_b1, callK2_b2, unK_eq, ev_bor, bor1K_eq, ev_lenO, lenOK_eq, listAt_eq, listK_eq, ev_ixO, ixO0_eq, ixO1_eq, ixO1'_eq, ixO2_0, ev_sub, subK0_eq, subK_eq, subK1_eq, subK2_eq, ev_app, appK0_eq, appK_eq, ev_ins, insK0_eq, insK'_eq, insK_eq, ev_ext, extK0_eq, extK_eq, ev_i1, ev_i2, i2K_eq, ev_lrg, ev_trg, ev_forS, one_eq, oneC_eq, oneE_t, oneE_f, oneX_eq, wipeE_nil, wipeE_cons, ev_comp, fnK_ret, fnK_next, mask_nil, mask_0, mask_1, v_addI, v_tupL, v_tupT, v_lstL, v_lstT, v_lenL, v_lenT, v_int, v_seqL, v_seqT, v_bool, v_truB, v_truI, v_eqI, v_eqB, v_neI, v_ixT, v_ixL, v_at0, v_at1, v_at2, v_at3, v_at4, v_at5, List.getElem?_cons_zero, List.getElem?_cons_succ, List.set_cons_zero, List.set_cons_succ, List.length_cons, List.length_nil, Nat.reduceAdd, Nat.reduceLT, Nat.reduceSub, if_true, List.map_cons, List.map_nil, List.cons_append, List.nil_append, List.replicate_succ, List.replicate_zero, Nat.zero_add, Nat.lt_add_left_iff_pos, Nat.zero_lt_succ, bodyK_eq, ← Int.natCast_add, v_rg1 n (show n ≤ 1000000 by omega), v_rg2 n (n + m) (by omega) (by omega), ind_lo hn hm (top_lo (A := A) (B := B)), ind_hi hn hm (fun i j _ _ => top_hi (A := A) (B := B) i j)]
theorem st10 (hn : n < 7) (hm : m < 7) : lw10 [some (scrD (ns.map .int)), some f, some (ordD n A), some (ordD m B), some (.int (n : Int)), some (.int (m : Int)), some (.list ((List.range (n + m)).map fun x => natD (chg n m x))), some (ordD (n + m) (topR n A B)), some (.tuple [ordD n A, ordD m B]), none, none, none, none, none, none, none, none, none, none, none, none] = .ok .next [some (scrD (ns.map .int)), some f, some (ordD n A), some (ordD m B), some (.int (n : Int)), some (.int (m : Int)), some (.list ((List.range (n + m)).map fun x => natD (chg n m x))), some (ordD (n + m) (topR n A B)), some (.tuple [ordD n A, ordD m B]), none, none, none, none, none, none, none, none, none, none, none, none] := by
  have s := same_ev 8 _ (pl2 (pl_ord 3 n A (by omega)) (pl_ord 3 m B (by omega)))
  unfold lw10
  simp -implicitDefEqProofs only [bind_ok, lift_some, okK_eq, liftK_eq, ev_seq, seqK_next, seqK_ret, ev_asg, asgK_eq, ev_ret, ev_expr, ev_skip, ev_ifS, ev_if, ifK_t, ifK_f, ev_c, ev_yes, ev_and, ev_or, ev_not, cK_eq, ev_tb, ev_tru, ev_andV, ev_orV, ev_notV, bK_bool, notK_bool, ev_m2, m2K_eq, ev_m1, ev_nil, ev_cons, consK_eq, ev_tup, ev_lst, ev_slot, slotK_eq, ev_retO, retOK_eq, ev_name, ev_tup2, ev_tup3, ev_tgc, tgK_eq, ev_tgn, ev_call, callK_v1, callK_v2, callK_v3, callK2_v1, callK2_v2, callK2_v3, callK_b1, callK_b2, borK_eq, callK2_b1, callK2_b2, unK_eq, ev_bor, bor1K_eq, ev_lenO, lenOK_eq, listAt_eq, listK_eq, ev_ixO, ixO0_eq, ixO1_eq, ixO1'_eq, ixO2_0, ev_sub, subK0_eq, subK_eq, subK1_eq, subK2_eq, ev_app, appK0_eq, appK_eq, ev_ins, insK0_eq, insK'_eq, insK_eq, ev_ext, extK0_eq, extK_eq, ev_i1, ev_i2, i2K_eq, ev_lrg, ev_trg, ev_forS, one_eq, oneC_eq, oneE_t, oneE_f, oneX_eq, wipeE_nil, wipeE_cons, ev_comp, fnK_ret, fnK_next, mask_nil, mask_0, mask_1, v_addI, v_tupL, v_tupT, v_lstL, v_lstT, v_lenL, v_lenT, v_int, v_seqL, v_seqT, v_bool, v_truB, v_truI, v_eqI, v_eqB, v_neI, v_ixT, v_ixL, v_at0, v_at1, v_at2, v_at3, v_at4, v_at5, List.getElem?_cons_zero, List.getElem?_cons_succ, List.set_cons_zero, List.set_cons_succ, List.length_cons, List.length_nil, Nat.reduceAdd, Nat.reduceLT, Nat.reduceSub, if_true, List.map_cons, List.map_nil, List.cons_append, List.nil_append, List.replicate_succ, List.replicate_zero, Nat.zero_add, Nat.lt_add_left_iff_pos, Nat.zero_lt_succ, bodyK_eq, ← Int.natCast_add, v_rg1 n (show n ≤ 1000000 by omega), v_rg2 n (n + m) (by omega) (by omega), beside_ev n m A B (by omega), ind_lo hn hm (bes_lo (A := A) (B := B)), ind_hi hn hm (fun i j _ _ => bes_hi (A := A) (B := B) i j), s, Bool.not_true]
theorem st11 (hn : n < 7) (hm : m < 7) : lw11 [some (scrD (ns.map .int)), some f, some (ordD n A), some (ordD m B), some (.int (n : Int)), some (.int (m : Int)), some (.list ((List.range (n + m)).map fun x => natD (chg n m x))), some (ordD (n + m) (topR n A B)), some (.tuple [ordD n A, ordD m B]), none, none, none, none, none, none, none, none, none, none, none, none] = .ok .next [some (scrD (ns.map .int)), some f, some (ordD n A), some (ordD m B), some (.int (n : Int)), some (.int (m : Int)), some (.list ((List.range (n + m)).map fun x => natD (chg n m x))), some (ordD (n + m) (topR n A B)), some (.tuple [ordD n A, ordD m B]), some (ordD (n * m) (prodR m A B)), none, none, none, none, none, none, none, none, none, none, none] := by
  have h := nm_le hn hm
  unfold lw11
  simp -implicitDefEqProofs only [bind_ok, lift_some, okK_eq, liftK_eq, ev_seq, seqK_next, seqK_ret, ev_asg, asgK_eq, ev_ret, ev_expr, ev_skip, ev_ifS, ev_if, ifK_t, ifK_f, ev_c, ev_yes, ev_and, ev_or, ev_not, cK_eq, ev_tb, ev_tru, ev_andV, ev_orV, ev_notV, bK_bool, notK_bool, ev_m2, m2K_eq, ev_m1, ev_nil, ev_cons, consK_eq, ev_tup, ev_lst, ev_slot, slotK_eq, ev_retO, retOK_eq, ev_name, ev_tup2, ev_tup3, ev_tgc, tgK_eq, ev_tgn, ev_call, callK_v1, callK_v2, callK_v3, callK2_v1, callK2_v2, callK2_v3, callK_b1, callK_b2, borK_eq, callK2_b1, callK2_b2, unK_eq, ev_bor, bor1K_eq, ev_lenO, lenOK_eq, listAt_eq, listK_eq, ev_ixO, ixO0_eq, ixO1_eq, ixO1'_eq, ixO2_0, ev_sub, subK0_eq, subK_eq, subK1_eq, subK2_eq, ev_app, appK0_eq, appK_eq, ev_ins, insK0_eq, insK'_eq, insK_eq, ev_ext, extK0_eq, extK_eq, ev_i1, ev_i2, i2K_eq, ev_lrg, ev_trg, ev_forS, one_eq, oneC_eq, oneE_t, oneE_f, oneX_eq, wipeE_nil, wipeE_cons, ev_comp, fnK_ret, fnK_next, mask_nil, mask_0, mask_1, v_addI, v_tupL, v_tupT, v_lstL, v_lstT, v_lenL, v_lenT, v_int, v_seqL, v_seqT, v_bool, v_truB, v_truI, v_eqI, v_eqB, v_neI, v_ixT, v_ixL, v_at0, v_at1, v_at2, v_at3, v_at4, v_at5, List.getElem?_cons_zero, List.getElem?_cons_succ, List.set_cons_zero, List.set_cons_succ, List.length_cons, List.length_nil, Nat.reduceAdd, Nat.reduceLT, Nat.reduceSub, if_true, List.map_cons, List.map_nil, List.cons_append, List.nil_append, List.replicate_succ, List.replicate_zero, Nat.zero_add, Nat.lt_add_left_iff_pos, Nat.zero_lt_succ, bodyK_eq, product_ev n m A B (by omega) (by omega) (by omega)]
end
end Mir

set_option Elab.async false
set_option linter.all false
set_option maxRecDepth 100000
set_option maxHeartbeats 4000000
namespace Mir
open PySem PySem.Spec PyProof.Rows L2
section
variable {ns : List Int} {f : D} {n m N k k2 : Nat} {A B Z : Nat → Nat → Bool} {P P2 τ ι : Nat → Nat} {y10 y11 y12 : Option D}
theorem st12 (hf : Feed f) (hn : n < 7) (hm : m < 7) (hA : ∀ x, x < n → A x x = false) (hB : ∀ x, x < m → B x x = false) : ∃ (f' : D) (y10 y11 y12 : Option D), Feed f' ∧ lw12 [some (scrD (ns.map .int)), some f, some (ordD n A), some (ordD m B), some (.int (n : Int)), some (.int (m : Int)), some (.list ((List.range (n + m)).map fun x => natD (chg n m x))), some (ordD (n + m) (topR n A B)), some (.tuple [ordD n A, ordD m B]), some (ordD (n * m) (prodR m A B)), none, none, none, none, none, none, none, none, none, none, none] = .ok .next [some (scrD (ns.map .int)), some f', some (ordD n A), some (ordD m B), some (.int (n : Int)), some (.int (m : Int)), some (.list ((List.range (n + m)).map fun x => natD (chg n m x))), some (ordD (n + m) (topR n A B)), some (.tuple [ordD n A, ordD m B]), some (ordD (n * m) (prodR m A B)), y10, y11, y12, none, none, none, none, none, none, none, none] := by
  have hnm := nm_le hn hm
  unfold lw12
  by_cases hc : 0 < n ∧ 0 < m
  · obtain ⟨h1, h2⟩ := hc
    obtain ⟨x, f1, e1, hx, hf1⟩ := pick_ev hf n h1 (by omega)
    obtain ⟨q, f2, e2, hq, hf2⟩ := pick_ev hf1 m h2 (by omega)
    have s := same_ev 8 _ (pl2 (pl_ord 3 m B (by omega)) (pl_ord 3 n A (by omega)))
    have g1 : fGt (.int (n : Int)) (.int 0) = some (.bool true) := by rw [v_gt, decide_eq_true (by omega)]
    have g2 : fGt (.int (m : Int)) (.int 0) = some (.bool true) := by rw [v_gt, decide_eq_true (by omega)]
    have i1 : F_induced [ordD (n * m) (prodR m A B), .tuple ((List.range m).map fun k : Nat => .int ((x * m + k : Nat) : Int))] = .ok (ordD m B) [none, none] :=
      induced_to (fun k => x * m + k) (row1_mono hx) (by omega) (by omega) (fun i j hi hj => row1_eq A B hB i j hi hj)
    have i2 : F_induced [ordD (n * m) (prodR m A B), .tuple ((List.range n).map fun k : Nat => .int ((k * m + q : Nat) : Int))] = .ok (ordD n A) [none, none] :=
      induced_to (fun k => k * m + q) (row2_mono hq) (by omega) (by omega) (fun i j hi hj => row2_eq A B hA hq i j hi hj)
    refine ⟨f2, some (.int (x : Int)), some (.int (q : Int)), some (.tuple [ordD m B, ordD n A]), hf2, ?_⟩
    simp -implicitDefEqProofs only [bind_ok, lift_some, okK_eq, liftK_eq, ev_seq, seqK_next, seqK_ret, ev_asg, asgK_eq, ev_ret, ev_expr, ev_skip, ev_ifS, ev_if, ifK_t, ifK_f, ev_c, ev_yes, ev_and, ev_or, ev_not, cK_eq, ev_tb, ev_tru, ev_andV, ev_orV, ev_notV, bK_bool, notK_bool, ev_m2, m2K_eq, ev_m1, ev_nil, ev_cons, consK_eq, ev_tup, ev_lst, ev_slot, slotK_eq, ev_retO, retOK_eq, ev_name, ev_tup2, ev_tup3, ev_tgc, tgK_eq, ev_tgn, ev_call, callK_v1, callK_v2, callK_v3, callK2_v1, callK2_v2, callK2_v3, callK_b1, callK_b2, borK_eq, callK2_b1, callK2_b2, unK_eq, ev_bor, bor1K_eq, ev_lenO, lenOK_eq, listAt_eq, listK_eq, ev_ixO, ixO0_eq, ixO1_eq, ixO1'_eq, ixO2_0, ev_sub, subK0_eq, subK_eq, subK1_eq, subK2_eq, ev_app, appK0_eq, appK_eq, ev_ins, insK0_eq, insK'_eq, insK_eq, ev_ext, extK0_eq, extK_eq, ev_i1, ev_i2, i2K_eq, ev_lrg, ev_trg, ev_forS, one_eq, oneC_eq, oneE_t, oneE_f, oneX_eq, wipeE_nil, wipeE_cons, ev_comp, fnK_ret, fnK_next, mask_nil, mask_0, mask_1, v_addI, v_tupL, v_tupT, v_lstL, v_lstT, v_lenL, v_lenT, v_int, v_seqL, v_seqT, v_bool, v_truB, v_truI, v_eqI, v_eqB, v_neI, v_ixT, v_ixL, v_at0, v_at1, v_at2, v_at3, v_at4, v_at5, List.getElem?_cons_zero, List.getElem?_cons_succ, List.set_cons_zero, List.set_cons_succ, List.length_cons, List.length_nil, Nat.reduceAdd, Nat.reduceLT, Nat.reduceSub, if_true, List.map_cons, List.map_nil, List.cons_append, List.nil_append, List.replicate_succ, List.replicate_zero, Nat.zero_add, Nat.lt_add_left_iff_pos, Nat.zero_lt_succ, bodyK_eq, g1, g2, e1, e2, v_rg1 m (show m ≤ 1000000 by omega)]
    rw [compK_map (List.range m) (fun k : Nat => PyData.int (k : Int)) (fun k : Nat => PyData.int ((x * m + k : Nat) : Int)) (by rw [List.length_range]; unfold big; omega) (fun k _ => by simp -implicitDefEqProofs only [bind_ok, lift_some, okK_eq, liftK_eq, ev_seq, seqK_next, seqK_ret, ev_asg, asgK_eq, ev_ret, ev_expr, ev_skip, ev_ifS, ev_if, ifK_t, ifK_f, ev_c, ev_yes, ev_and, ev_or, ev_not, cK_eq, ev_tb, ev_tru, ev_andV, ev_orV, ev_notV, bK_bool, notK_bool, ev_m2, m2K_eq, ev_m1, ev_nil, ev_cons, consK_eq, ev_tup, ev_lst, ev_slot, slotK_eq, ev_retO, retOK_eq, ev_name, ev_tup2, ev_tup3, ev_tgc, tgK_eq, ev_tgn, ev_call, callK_v1, callK_v2, callK_v3, callK2_v1, callK2_v2, callK2_v3, callK_b1, callK_b2, borK_eq, callK2_b1, callK2_b2, unK_eq, ev_bor, bor1K_eq, ev_lenO, lenOK_eq, listAt_eq, listK_eq, ev_ixO, ixO0_eq, ixO1_eq, ixO1'_eq, ixO2_0, ev_sub, subK0_eq, subK_eq, subK1_eq, subK2_eq, ev_app, appK0_eq, appK_eq, ev_ins, insK0_eq, insK'_eq, insK_eq, ev_ext, extK0_eq, extK_eq, ev_i1, ev_i2, i2K_eq, ev_lrg, ev_trg, ev_forS, one_eq, oneC_eq, oneE_t, oneE_f, oneX_eq, wipeE_nil, wipeE_cons, ev_comp, fnK_ret, fnK_next, mask_nil, mask_0, mask_1, v_addI, v_tupL, v_tupT, v_lstL, v_lstT, v_lenL, v_lenT, v_int, v_seqL, v_seqT, v_bool, v_truB, v_truI, v_eqI, v_eqB, v_neI, v_ixT, v_ixL, v_at0, v_at1, v_at2, v_at3, v_at4, v_at5, List.getElem?_cons_zero, List.getElem?_cons_succ, List.set_cons_zero, List.set_cons_succ, List.length_cons, List.length_nil, Nat.reduceAdd, Nat.reduceLT, Nat.reduceSub, if_true, List.map_cons, List.map_nil, List.cons_append, List.nil_append, List.replicate_succ, List.replicate_zero, Nat.zero_add, Nat.lt_add_left_iff_pos, Nat.zero_lt_succ, bodyK_eq, v_mulN x m (by omega), ← Int.natCast_add])]
    simp -implicitDefEqProofs only [bind_ok, lift_some, okK_eq, liftK_eq, ev_seq, seqK_next, seqK_ret, ev_asg, asgK_eq, ev_ret, ev_expr, ev_skip, ev_ifS, ev_if, ifK_t, ifK_f, ev_c, ev_yes, ev_and, ev_or, ev_not, cK_eq, ev_tb, ev_tru, ev_andV, ev_orV, ev_notV, bK_bool, notK_bool, ev_m2, m2K_eq, ev_m1, ev_nil, ev_cons, consK_eq, ev_tup, ev_lst, ev_slot, slotK_eq, ev_retO, retOK_eq, ev_name, ev_tup2, ev_tup3, ev_tgc, tgK_eq, ev_tgn, ev_call, callK_v1, callK_v2, callK_v3, callK2_v1, callK2_v2, callK2_v3, callK_b1, callK_b2, borK_eq, callK2_b1, callK2_b2, unK_eq, ev_bor, bor1K_eq, ev_lenO, lenOK_eq, listAt_eq, listK_eq, ev_ixO, ixO0_eq, ixO1_eq, ixO1'_eq, ixO2_0, ev_sub, subK0_eq, subK_eq, subK1_eq, subK2_eq, ev_app, appK0_eq, appK_eq, ev_ins, insK0_eq, insK'_eq, insK_eq, ev_ext, extK0_eq, extK_eq, ev_i1, ev_i2, i2K_eq, ev_lrg, ev_trg, ev_forS, one_eq, oneC_eq, oneE_t, oneE_f, oneX_eq, wipeE_nil, wipeE_cons, ev_comp, fnK_ret, fnK_next, mask_nil, mask_0, mask_1, v_addI, v_tupL, v_tupT, v_lstL, v_lstT, v_lenL, v_lenT, v_int, v_seqL, v_seqT, v_bool, v_truB, v_truI, v_eqI, v_eqB, v_neI, v_ixT, v_ixL, v_at0, v_at1, v_at2, v_at3, v_at4, v_at5, List.getElem?_cons_zero, List.getElem?_cons_succ, List.set_cons_zero, List.set_cons_succ, List.length_cons, List.length_nil, Nat.reduceAdd, Nat.reduceLT, Nat.reduceSub, if_true, List.map_cons, List.map_nil, List.cons_append, List.nil_append, List.replicate_succ, List.replicate_zero, Nat.zero_add, Nat.lt_add_left_iff_pos, Nat.zero_lt_succ, bodyK_eq, i1, v_rg1 n (show n ≤ 1000000 by omega)]
    rw [compK_map (List.range n) (fun k : Nat => PyData.int (k : Int)) (fun k : Nat => PyData.int ((k * m + q : Nat) : Int)) (by rw [List.length_range]; unfold big; omega) (fun k hk => by
      have := List.mem_range.mp hk
      simp -implicitDefEqProofs only [bind_ok, lift_some, okK_eq, liftK_eq, ev_seq, seqK_next, seqK_ret, ev_asg, asgK_eq, ev_ret, ev_expr, ev_skip, ev_ifS, ev_if, ifK_t, ifK_f, ev_c, ev_yes, ev_and, ev_or, ev_not, cK_eq, ev_tb, ev_tru, ev_andV, ev_orV, ev_notV, bK_bool, notK_bool, ev_m2, m2K_eq, ev_m1, ev_nil, ev_cons, consK_eq, ev_tup, ev_lst, ev_slot, slotK_eq, ev_retO, retOK_eq, ev_name, ev_tup2, ev_tup3, ev_tgc, tgK_eq, ev_tgn, ev_call, callK_v1, callK_v2, callK_v3, callK2_v1, callK2_v2, callK2_v3, callK_b1, callK_b2, borK_eq, callK2_b1, callK2_b2, unK_eq, ev_bor, bor1K_eq, ev_lenO, lenOK_eq, listAt_eq, listK_eq, ev_ixO, ixO0_eq, ixO1_eq, ixO1'_eq, ixO2_0, ev_sub, subK0_eq, subK_eq, subK1_eq, subK2_eq, ev_app, appK0_eq, appK_eq, ev_ins, insK0_eq, insK'_eq, insK_eq, ev_ext, extK0_eq, extK_eq, ev_i1, ev_i2, i2K_eq, ev_lrg, ev_trg, ev_forS, one_eq, oneC_eq, oneE_t, oneE_f, oneX_eq, wipeE_nil, wipeE_cons, ev_comp, fnK_ret, fnK_next, mask_nil, mask_0, mask_1, v_addI, v_tupL, v_tupT, v_lstL, v_lstT, v_lenL, v_lenT, v_int, v_seqL, v_seqT, v_bool, v_truB, v_truI, v_eqI, v_eqB, v_neI, v_ixT, v_ixL, v_at0, v_at1, v_at2, v_at3, v_at4, v_at5, List.getElem?_cons_zero, List.getElem?_cons_succ, List.set_cons_zero, List.set_cons_succ, List.length_cons, List.length_nil, Nat.reduceAdd, Nat.reduceLT, Nat.reduceSub, if_true, List.map_cons, List.map_nil, List.cons_append, List.nil_append, List.replicate_succ, List.replicate_zero, Nat.zero_add, Nat.lt_add_left_iff_pos, Nat.zero_lt_succ, bodyK_eq, v_mulN k m (by omega), ← Int.natCast_add])]
    simp -implicitDefEqProofs only [bind_ok, lift_some, okK_eq, liftK_eq, ev_seq, seqK_next, seqK_ret, ev_asg, asgK_eq, ev_ret, ev_expr, ev_skip, ev_ifS, ev_if, ifK_t, ifK_f, ev_c, ev_yes, ev_and, ev_or, ev_not, cK_eq, ev_tb, ev_tru, ev_andV, ev_orV, ev_notV, bK_bool, notK_bool, ev_m2, m2K_eq, ev_m1, ev_nil, ev_cons, consK_eq, ev_tup, ev_lst, ev_slot, slotK_eq, ev_retO, retOK_eq, ev_name, ev_tup2, ev_tup3, ev_tgc, tgK_eq, ev_tgn, ev_call, callK_v1, callK_v2, callK_v3, callK2_v1, callK2_v2, callK2_v3, callK_b1, callK_b2, borK_eq, callK2_b1, callK2_b2, unK_eq, ev_bor, bor1K_eq, ev_lenO, lenOK_eq, listAt_eq, listK_eq, ev_ixO, ixO0_eq, ixO1_eq, ixO1'_eq, ixO2_0, ev_sub, subK0_eq, subK_eq, subK1_eq, subK2_eq, ev_app, appK0_eq, appK_eq, ev_ins, insK0_eq, insK'_eq, insK_eq, ev_ext, extK0_eq, extK_eq, ev_i1, ev_i2, i2K_eq, ev_lrg, ev_trg, ev_forS, one_eq, oneC_eq, oneE_t, oneE_f, oneX_eq, wipeE_nil, wipeE_cons, ev_comp, fnK_ret, fnK_next, mask_nil, mask_0, mask_1, v_addI, v_tupL, v_tupT, v_lstL, v_lstT, v_lenL, v_lenT, v_int, v_seqL, v_seqT, v_bool, v_truB, v_truI, v_eqI, v_eqB, v_neI, v_ixT, v_ixL, v_at0, v_at1, v_at2, v_at3, v_at4, v_at5, List.getElem?_cons_zero, List.getElem?_cons_succ, List.set_cons_zero, List.set_cons_succ, List.length_cons, List.length_nil, Nat.reduceAdd, Nat.reduceLT, Nat.reduceSub, if_true, List.map_cons, List.map_nil, List.cons_append, List.nil_append, List.replicate_succ, List.replicate_zero, Nat.zero_add, Nat.lt_add_left_iff_pos, Nat.zero_lt_succ, bodyK_eq, i2, s, Bool.not_true]
  · refine ⟨f, none, none, none, hf, ?_⟩
    by_cases h1 : 0 < n
    · have h2 : ¬ 0 < m := fun z => hc ⟨h1, z⟩
      have g1 : fGt (.int (n : Int)) (.int 0) = some (.bool true) := by rw [v_gt, decide_eq_true (by omega)]
      have g2 : fGt (.int (m : Int)) (.int 0) = some (.bool false) := by rw [v_gt, decide_eq_false (by omega)]
      simp -implicitDefEqProofs only [bind_ok, lift_some, okK_eq, liftK_eq, ev_seq, seqK_next, seqK_ret, ev_asg, asgK_eq, ev_ret, ev_expr, ev_skip, ev_ifS, ev_if, ifK_t, ifK_f, ev_c, ev_yes, ev_and, ev_or, ev_not, cK_eq, ev_tb, ev_tru, ev_andV, ev_orV, ev_notV, bK_bool, notK_bool, ev_m2, m2K_eq, ev_m1, ev_nil, ev_cons, consK_eq, ev_tup, ev_lst, ev_slot, slotK_eq, ev_retO, retOK_eq, ev_name, ev_tup2, ev_tup3, ev_tgc, tgK_eq, ev_tgn, ev_call, callK_v1, callK_v2, callK_v3, callK2_v1, callK2_v2, callK2_v3, callK_b1, callK_b2, borK_eq, callK2_b1, callK2_b2, unK_eq, ev_bor, bor1K_eq, ev_lenO, lenOK_eq, listAt_eq, listK_eq, ev_ixO, ixO0_eq, ixO1_eq, ixO1'_eq, ixO2_0, ev_sub, subK0_eq, subK_eq, subK1_eq, subK2_eq, ev_app, appK0_eq, appK_eq, ev_ins, insK0_eq, insK'_eq, insK_eq, ev_ext, extK0_eq, extK_eq, ev_i1, ev_i2, i2K_eq, ev_lrg, ev_trg, ev_forS, one_eq, oneC_eq, oneE_t, oneE_f, oneX_eq, wipeE_nil, wipeE_cons, ev_comp, fnK_ret, fnK_next, mask_nil, mask_0, mask_1, v_addI, v_tupL, v_tupT, v_lstL, v_lstT, v_lenL, v_lenT, v_int, v_seqL, v_seqT, v_bool, v_truB, v_truI, v_eqI, v_eqB, v_neI, v_ixT, v_ixL, v_at0, v_at1, v_at2, v_at3, v_at4, v_at5, List.getElem?_cons_zero, List.getElem?_cons_succ, List.set_cons_zero, List.set_cons_succ, List.length_cons, List.length_nil, Nat.reduceAdd, Nat.reduceLT, Nat.reduceSub, if_true, List.map_cons, List.map_nil, List.cons_append, List.nil_append, List.replicate_succ, List.replicate_zero, Nat.zero_add, Nat.lt_add_left_iff_pos, Nat.zero_lt_succ, bodyK_eq, g1, g2]
    · have g1 : fGt (.int (n : Int)) (.int 0) = some (.bool false) := by rw [v_gt, decide_eq_false (by omega)]
      simp -implicitDefEqProofs only [bind_ok, lift_some, okK_eq, liftK_eq, ev_seq, seqK_next, seqK_ret, ev_asg, asgK_eq, ev_ret, ev_expr, ev_skip, ev_ifS, ev_if, ifK_t, ifK_f, ev_c, ev_yes, ev_and, ev_or, ev_not, cK_eq, ev_tb, ev_tru, ev_andV, ev_orV, ev_notV, bK_bool, notK_bool, ev_m2, m2K_eq, ev_m1, ev_nil, ev_cons, consK_eq, ev_tup, ev_lst, ev_slot, slotK_eq, ev_retO, retOK_eq, ev_name, ev_tup2, ev_tup3, ev_tgc, tgK_eq, ev_tgn, ev_call, callK_v1, callK_v2, callK_v3, callK2_v1, callK2_v2, callK2_v3, callK_b1, callK_b2, borK_eq, callK2_b1, callK2_b2, unK_eq, ev_bor, bor1K_eq, ev_lenO, lenOK_eq, listAt_eq, listK_eq, ev_ixO, ixO0_eq, ixO1_eq, ixO1'_eq, ixO2_0, ev_sub, subK0_eq, subK_eq, subK1_eq, subK2_eq, ev_app, appK0_eq, appK_eq, ev_ins, insK0_eq, insK'_eq, insK_eq, ev_ext, extK0_eq, extK_eq, ev_i1, ev_i2, i2K_eq, ev_lrg, ev_trg, ev_forS, one_eq, oneC_eq, oneE_t, oneE_f, oneX_eq, wipeE_nil, wipeE_cons, ev_comp, fnK_ret, fnK_next, mask_nil, mask_0, mask_1, v_addI, v_tupL, v_tupT, v_lstL, v_lstT, v_lenL, v_lenT, v_int, v_seqL, v_seqT, v_bool, v_truB, v_truI, v_eqI, v_eqB, v_neI, v_ixT, v_ixL, v_at0, v_at1, v_at2, v_at3, v_at4, v_at5, List.getElem?_cons_zero, List.getElem?_cons_succ, List.set_cons_zero, List.set_cons_succ, List.length_cons, List.length_nil, Nat.reduceAdd, Nat.reduceLT, Nat.reduceSub, if_true, List.map_cons, List.map_nil, List.cons_append, List.nil_append, List.replicate_succ, List.replicate_zero, Nat.zero_add, Nat.lt_add_left_iff_pos, Nat.zero_lt_succ, bodyK_eq, g1]
theorem st13 (hf : Feed f) (hn : n < 7) (hm : m < 7) : ∃ (f' : D) (N : Nat) (Z : Nat → Nat → Bool), Feed f' ∧ (N = n * m ∨ N = n + m) ∧ lw13 [some (scrD (ns.map .int)), some f, some (ordD n A), some (ordD m B), some (.int (n : Int)), some (.int (m : Int)), some (.list ((List.range (n + m)).map fun x => natD (chg n m x))), some (ordD (n + m) (topR n A B)), some (.tuple [ordD n A, ordD m B]), some (ordD (n * m) (prodR m A B)), y10, y11, y12, none, none, none, none, none, none, none, none] = .ok .next [some (scrD (ns.map .int)), some f', some (ordD n A), some (ordD m B), some (.int (n : Int)), some (.int (m : Int)), some (.list ((List.range (n + m)).map fun x => natD (chg n m x))), some (ordD (n + m) (topR n A B)), some (.tuple [ordD n A, ordD m B]), some (ordD (n * m) (prodR m A B)), y10, y11, y12, some (ordD N Z), none, none, none, none, none, none, none] := by
  obtain ⟨j, f1, x, e, hx, hf1⟩ := of_ev hf [ordD (n + m) (topR n A B), ordD (n * m) (prodR m A B), ordD (n + m) (besR n A B)] (by simp) (by simp)
  unfold lw13
  have hb := beside_ev n m A B (by omega)
  match j, hx with
  | 0, hx =>
    cases hx
    refine ⟨f1, n + m, topR n A B, hf1, .inr rfl, ?_⟩
    simp -implicitDefEqProofs only [bind_ok, lift_some, okK_eq, liftK_eq, ev_seq, seqK_next, seqK_ret, ev_asg, asgK_eq, ev_ret, ev_expr, ev_skip, ev_ifS, ev_if, ifK_t, ifK_f, ev_c, ev_yes, ev_and, ev_or, ev_not, cK_eq, ev_tb, ev_tru, ev_andV, ev_orV, ev_notV, bK_bool, notK_bool, ev_m2, m2K_eq, ev_m1, ev_nil, ev_cons, consK_eq, ev_tup, ev_lst, ev_slot, slotK_eq, ev_retO, retOK_eq, ev_name, ev_tup2, ev_tup3, ev_tgc, tgK_eq, ev_tgn, ev_call, callK_v1, callK_v2, callK_v3, callK2_v1, callK2_v2, callK2_v3, callK_b1, callK_b2, borK_eq, callK2_b1, callK2_b2, unK_eq, ev_bor, bor1K_eq, ev_lenO, lenOK_eq, listAt_eq, listK_eq, ev_ixO, ixO0_eq, ixO1_eq, ixO1'_eq, ixO2_0, ev_sub, subK0_eq, subK_eq, subK1_eq, subK2_eq, ev_app, appK0_eq, appK_eq, ev_ins, insK0_eq, insK'_eq, insK_eq, ev_ext, extK0_eq, extK_eq, ev_i1, ev_i2, i2K_eq, ev_lrg, ev_trg, ev_forS, one_eq, oneC_eq, oneE_t, oneE_f, oneX_eq, wipeE_nil, wipeE_cons, ev_comp, fnK_ret, fnK_next, mask_nil, mask_0, mask_1, v_addI, v_tupL, v_tupT, v_lstL, v_lstT, v_lenL, v_lenT, v_int, v_seqL, v_seqT, v_bool, v_truB, v_truI, v_eqI, v_eqB, v_neI, v_ixT, v_ixL, v_at0, v_at1, v_at2, v_at3, v_at4, v_at5, List.getElem?_cons_zero, List.getElem?_cons_succ, List.set_cons_zero, List.set_cons_succ, List.length_cons, List.length_nil, Nat.reduceAdd, Nat.reduceLT, Nat.reduceSub, if_true, List.map_cons, List.map_nil, List.cons_append, List.nil_append, List.replicate_succ, List.replicate_zero, Nat.zero_add, Nat.lt_add_left_iff_pos, Nat.zero_lt_succ, bodyK_eq, hb, e]
  | 1, hx =>
    cases hx
    refine ⟨f1, n * m, prodR m A B, hf1, .inl rfl, ?_⟩
    simp -implicitDefEqProofs only [bind_ok, lift_some, okK_eq, liftK_eq, ev_seq, seqK_next, seqK_ret, ev_asg, asgK_eq, ev_ret, ev_expr, ev_skip, ev_ifS, ev_if, ifK_t, ifK_f, ev_c, ev_yes, ev_and, ev_or, ev_not, cK_eq, ev_tb, ev_tru, ev_andV, ev_orV, ev_notV, bK_bool, notK_bool, ev_m2, m2K_eq, ev_m1, ev_nil, ev_cons, consK_eq, ev_tup, ev_lst, ev_slot, slotK_eq, ev_retO, retOK_eq, ev_name, ev_tup2, ev_tup3, ev_tgc, tgK_eq, ev_tgn, ev_call, callK_v1, callK_v2, callK_v3, callK2_v1, callK2_v2, callK2_v3, callK_b1, callK_b2, borK_eq, callK2_b1, callK2_b2, unK_eq, ev_bor, bor1K_eq, ev_lenO, lenOK_eq, listAt_eq, listK_eq, ev_ixO, ixO0_eq, ixO1_eq, ixO1'_eq, ixO2_0, ev_sub, subK0_eq, subK_eq, subK1_eq, subK2_eq, ev_app, appK0_eq, appK_eq, ev_ins, insK0_eq, insK'_eq, insK_eq, ev_ext, extK0_eq, extK_eq, ev_i1, ev_i2, i2K_eq, ev_lrg, ev_trg, ev_forS, one_eq, oneC_eq, oneE_t, oneE_f, oneX_eq, wipeE_nil, wipeE_cons, ev_comp, fnK_ret, fnK_next, mask_nil, mask_0, mask_1, v_addI, v_tupL, v_tupT, v_lstL, v_lstT, v_lenL, v_lenT, v_int, v_seqL, v_seqT, v_bool, v_truB, v_truI, v_eqI, v_eqB, v_neI, v_ixT, v_ixL, v_at0, v_at1, v_at2, v_at3, v_at4, v_at5, List.getElem?_cons_zero, List.getElem?_cons_succ, List.set_cons_zero, List.set_cons_succ, List.length_cons, List.length_nil, Nat.reduceAdd, Nat.reduceLT, Nat.reduceSub, if_true, List.map_cons, List.map_nil, List.cons_append, List.nil_append, List.replicate_succ, List.replicate_zero, Nat.zero_add, Nat.lt_add_left_iff_pos, Nat.zero_lt_succ, bodyK_eq, hb, e]
  | 2, hx =>
    cases hx
    refine ⟨f1, n + m, besR n A B, hf1, .inr rfl, ?_⟩
    simp -implicitDefEqProofs only [bind_ok, lift_some, okK_eq, liftK_eq, ev_seq, seqK_next, seqK_ret, ev_asg, asgK_eq, ev_ret, ev_expr, ev_skip, ev_ifS, ev_if, ifK_t, ifK_f, ev_c, ev_yes, ev_and, ev_or, ev_not, cK_eq, ev_tb, ev_tru, ev_andV, ev_orV, ev_notV, bK_bool, notK_bool, ev_m2, m2K_eq, ev_m1, ev_nil, ev_cons, consK_eq, ev_tup, ev_lst, ev_slot, slotK_eq, ev_retO, retOK_eq, ev_name, ev_tup2, ev_tup3, ev_tgc, tgK_eq, ev_tgn, ev_call, callK_v1, callK_v2, callK_v3, callK2_v1, callK2_v2, callK2_v3, callK_b1, callK_b2, borK_eq, callK2_b1, callK2_b2, unK_eq, ev_bor, bor1K_eq, ev_lenO, lenOK_eq, listAt_eq, listK_eq, ev_ixO, ixO0_eq, ixO1_eq, ixO1'_eq, ixO2_0, ev_sub, subK0_eq, subK_eq, subK1_eq, subK2_eq, ev_app, appK0_eq, appK_eq, ev_ins, insK0_eq, insK'_eq, insK_eq, ev_ext, extK0_eq, extK_eq, ev_i1, ev_i2, i2K_eq, ev_lrg, ev_trg, ev_forS, one_eq, oneC_eq, oneE_t, oneE_f, oneX_eq, wipeE_nil, wipeE_cons, ev_comp, fnK_ret, fnK_next, mask_nil, mask_0, mask_1, v_addI, v_tupL, v_tupT, v_lstL, v_lstT, v_lenL, v_lenT, v_int, v_seqL, v_seqT, v_bool, v_truB, v_truI, v_eqI, v_eqB, v_neI, v_ixT, v_ixL, v_at0, v_at1, v_at2, v_at3, v_at4, v_at5, List.getElem?_cons_zero, List.getElem?_cons_succ, List.set_cons_zero, List.set_cons_succ, List.length_cons, List.length_nil, Nat.reduceAdd, Nat.reduceLT, Nat.reduceSub, if_true, List.map_cons, List.map_nil, List.cons_append, List.nil_append, List.replicate_succ, List.replicate_zero, Nat.zero_add, Nat.lt_add_left_iff_pos, Nat.zero_lt_succ, bodyK_eq, hb, e]
  | j + 3, hx => simp at hx
theorem st14 (hn : n < 7) (hm : m < 7) (hN : N = n * m ∨ N = n + m) : lw14 [some (scrD (ns.map .int)), some f, some (ordD n A), some (ordD m B), some (.int (n : Int)), some (.int (m : Int)), some (.list ((List.range (n + m)).map fun x => natD (chg n m x))), some (ordD (n + m) (topR n A B)), some (.tuple [ordD n A, ordD m B]), some (ordD (n * m) (prodR m A B)), y10, y11, y12, some (ordD N Z), none, none, none, none, none, none, none] = .ok .next [some (scrD (ns.map .int)), some f, some (ordD n A), some (ordD m B), some (.int (n : Int)), some (.int (m : Int)), some (.list ((List.range (n + m)).map fun x => natD (chg n m x))), some (ordD (n + m) (topR n A B)), some (.tuple [ordD n A, ordD m B]), some (ordD (n * m) (prodR m A B)), y10, y11, y12, some (ordD N Z), none, none, none, none, none, none, none] := by
  unfold lw14
  rcases hN with h | h
  · have e : ((N : Int) == ((n * m : Nat) : Int)) = true := by rw [h]; exact beq_self_eq_true _
    simp -implicitDefEqProofs only [bind_ok, lift_some, okK_eq, liftK_eq, ev_seq, seqK_next, seqK_ret, ev_asg, asgK_eq, ev_ret, ev_expr, ev_skip, ev_ifS, ev_if, ifK_t, ifK_f, ev_c, ev_yes, ev_and, ev_or, ev_not, cK_eq, ev_tb, ev_tru, ev_andV, ev_orV, ev_notV, bK_bool, notK_bool, ev_m2, m2K_eq, ev_m1, ev_nil, ev_cons, consK_eq, ev_tup, ev_lst, ev_slot, slotK_eq, ev_retO, retOK_eq, ev_name, ev_tup2, ev_tup3, ev_tgc, tgK_eq, ev_tgn, ev_call, callK_v1, callK_v2, callK_v3, callK2_v1, callK2_v2, callK2_v3, callK_b1, callK_b2, borK_eq, callK2_b1, callK2_b2, unK_eq, ev_bor, bor1K_eq, ev_lenO, lenOK_eq, listAt_eq, listK_eq, ev_ixO, ixO0_eq, ixO1_eq, ixO1'_eq, ixO2_0, ev_sub, subK0_eq, subK_eq, subK1_eq, subK2_eq, ev_app, appK0_eq, appK_eq, ev_ins, insK0_eq, insK'_eq, insK_eq, ev_ext, extK0_eq, extK_eq, ev_i1, ev_i2, i2K_eq, ev_lrg, ev_trg, ev_forS, one_eq, oneC_eq, oneE_t, oneE_f, oneX_eq, wipeE_nil, wipeE_cons, ev_comp, fnK_ret, fnK_next, mask_nil, mask_0, mask_1, v_addI, v_tupL, v_tupT, v_lstL, v_lstT, v_lenL, v_lenT, v_int, v_seqL, v_seqT, v_bool, v_truB, v_truI, v_eqI, v_eqB, v_neI, v_ixT, v_ixL, v_at0, v_at1, v_at2, v_at3, v_at4, v_at5, List.getElem?_cons_zero, List.getElem?_cons_succ, List.set_cons_zero, List.set_cons_succ, List.length_cons, List.length_nil, Nat.reduceAdd, Nat.reduceLT, Nat.reduceSub, if_true, List.map_cons, List.map_nil, List.cons_append, List.nil_append, List.replicate_succ, List.replicate_zero, Nat.zero_add, Nat.lt_add_left_iff_pos, Nat.zero_lt_succ, bodyK_eq, v_ord0, v_mulN n m (by omega), e, Bool.not_true]
  · have e : ((N : Int) == (n : Int) + (m : Int)) = true := by rw [h, Int.natCast_add]; exact beq_self_eq_true _
    cases h2 : ((N : Int) == ((n * m : Nat) : Int))
    · simp -implicitDefEqProofs only [bind_ok, lift_some, okK_eq, liftK_eq, ev_seq, seqK_next, seqK_ret, ev_asg, asgK_eq, ev_ret, ev_expr, ev_skip, ev_ifS, ev_if, ifK_t, ifK_f, ev_c, ev_yes, ev_and, ev_or, ev_not, cK_eq, ev_tb, ev_tru, ev_andV, ev_orV, ev_notV, bK_bool, notK_bool, ev_m2, m2K_eq, ev_m1, ev_nil, ev_cons, consK_eq, ev_tup, ev_lst, ev_slot, slotK_eq, ev_retO, retOK_eq, ev_name, ev_tup2, ev_tup3, ev_tgc, tgK_eq, ev_tgn, ev_call, callK_v1, callK_v2, callK_v3, callK2_v1, callK2_v2, callK2_v3, callK_b1, callK_b2, borK_eq, callK2_b1, callK2_b2, unK_eq, ev_bor, bor1K_eq, ev_lenO, lenOK_eq, listAt_eq, listK_eq, ev_ixO, ixO0_eq, ixO1_eq, ixO1'_eq, ixO2_0, ev_sub, subK0_eq, subK_eq, subK1_eq, subK2_eq, ev_app, appK0_eq, appK_eq, ev_ins, insK0_eq, insK'_eq, insK_eq, ev_ext, extK0_eq, extK_eq, ev_i1, ev_i2, i2K_eq, ev_lrg, ev_trg, ev_forS, one_eq, oneC_eq, oneE_t, oneE_f, oneX_eq, wipeE_nil, wipeE_cons, ev_comp, fnK_ret, fnK_next, mask_nil, mask_0, mask_1, v_addI, v_tupL, v_tupT, v_lstL, v_lstT, v_lenL, v_lenT, v_int, v_seqL, v_seqT, v_bool, v_truB, v_truI, v_eqI, v_eqB, v_neI, v_ixT, v_ixL, v_at0, v_at1, v_at2, v_at3, v_at4, v_at5, List.getElem?_cons_zero, List.getElem?_cons_succ, List.set_cons_zero, List.set_cons_succ, List.length_cons, List.length_nil, Nat.reduceAdd, Nat.reduceLT, Nat.reduceSub, if_true, List.map_cons, List.map_nil, List.cons_append, List.nil_append, List.replicate_succ, List.replicate_zero, Nat.zero_add, Nat.lt_add_left_iff_pos, Nat.zero_lt_succ, bodyK_eq, v_ord0, v_mulN n m (by omega), h2, Bool.not_false, e, Bool.not_true]
    · simp -implicitDefEqProofs only [bind_ok, lift_some, okK_eq, liftK_eq, ev_seq, seqK_next, seqK_ret, ev_asg, asgK_eq, ev_ret, ev_expr, ev_skip, ev_ifS, ev_if, ifK_t, ifK_f, ev_c, ev_yes, ev_and, ev_or, ev_not, cK_eq, ev_tb, ev_tru, ev_andV, ev_orV, ev_notV, bK_bool, notK_bool, ev_m2, m2K_eq, ev_m1, ev_nil, ev_cons, consK_eq, ev_tup, ev_lst, ev_slot, slotK_eq, ev_retO, retOK_eq, ev_name, ev_tup2, ev_tup3, ev_tgc, tgK_eq, ev_tgn, ev_call, callK_v1, callK_v2, callK_v3, callK2_v1, callK2_v2, callK2_v3, callK_b1, callK_b2, borK_eq, callK2_b1, callK2_b2, unK_eq, ev_bor, bor1K_eq, ev_lenO, lenOK_eq, listAt_eq, listK_eq, ev_ixO, ixO0_eq, ixO1_eq, ixO1'_eq, ixO2_0, ev_sub, subK0_eq, subK_eq, subK1_eq, subK2_eq, ev_app, appK0_eq, appK_eq, ev_ins, insK0_eq, insK'_eq, insK_eq, ev_ext, extK0_eq, extK_eq, ev_i1, ev_i2, i2K_eq, ev_lrg, ev_trg, ev_forS, one_eq, oneC_eq, oneE_t, oneE_f, oneX_eq, wipeE_nil, wipeE_cons, ev_comp, fnK_ret, fnK_next, mask_nil, mask_0, mask_1, v_addI, v_tupL, v_tupT, v_lstL, v_lstT, v_lenL, v_lenT, v_int, v_seqL, v_seqT, v_bool, v_truB, v_truI, v_eqI, v_eqB, v_neI, v_ixT, v_ixL, v_at0, v_at1, v_at2, v_at3, v_at4, v_at5, List.getElem?_cons_zero, List.getElem?_cons_succ, List.set_cons_zero, List.set_cons_succ, List.length_cons, List.length_nil, Nat.reduceAdd, Nat.reduceLT, Nat.reduceSub, if_true, List.map_cons, List.map_nil, List.cons_append, List.nil_append, List.replicate_succ, List.replicate_zero, Nat.zero_add, Nat.lt_add_left_iff_pos, Nat.zero_lt_succ, bodyK_eq, v_ord0, v_mulN n m (by omega), h2, Bool.not_true]
theorem v_min12 (N : Nat) : ∃ mm : Nat, fMin2 (.int (N : Int)) (.int 12) = some (.int (mm : Int)) ∧ mm ≤ 12 := by
  by_cases h : (12 : Int) < (N : Int)
  · refine ⟨12, ?_, by omega⟩
    show some (PyData.int (if (12 : Int) < (N : Int) then 12 else (N : Int))) = _
    rw [if_pos h]
    rfl
  · refine ⟨N, ?_, by omega⟩
    show some (PyData.int (if (12 : Int) < (N : Int) then 12 else (N : Int))) = _
    rw [if_neg h]
/-- some of a row that is stirred, in order -/
theorem some_of {f : D} (hf : Feed f) (N : Nat) (hN : N ≤ 1000) : ∃ (f1 : D) (found : List Nat), F__law_mixed [f, .list ((List.range N).map fun k : Nat => .int (k : Int))] = .ok (.list (found.map natD)) [some f1, none] ∧ Feed f1 ∧
    ∀ hi : Option Int, ∃ (k : Nat) (P : Nat → Nat) (ys : List Nat), cutD (found.map natD) none hi = ys.map natD ∧ k ≤ N ∧ Mono k N P ∧ fSorted (.list (ys.map natD)) = some (.list ((List.range k).map fun i => natD (P i))) := by
  obtain ⟨f1, found, e, hp, hf1⟩ := mixed_ev hf natD (List.range N) (by rw [List.length_range]; omega)
  refine ⟨f1, found, e, hf1, fun hi => ?_⟩
  obtain ⟨ys, hc, hs⟩ := cut_map natD found none hi
  have hnd : ys.Nodup := hs.nodup (hp.nodup_iff.mpr List.nodup_range)
  obtain ⟨P, hP, e2⟩ := sort_nats (N := N) hnd fun x hx => List.mem_range.mp (hp.mem_iff.mp (hs.subset hx))
  refine ⟨ys.length, P, ys, hc, ?_, hP, e2⟩
  have := hs.length_le
  rw [hp.length_eq, List.length_range] at this
  exact this
theorem st15 (hf : Feed f) (hN : N ≤ 36) : ∃ (f' : D) (k : Nat) (P : Nat → Nat), Feed f' ∧ k ≤ N ∧ Mono k N P ∧ lw15 [some (scrD (ns.map .int)), some f, some (ordD n A), some (ordD m B), some (.int (n : Int)), some (.int (m : Int)), some (.list ((List.range (n + m)).map fun x => natD (chg n m x))), some (ordD (n + m) (topR n A B)), some (.tuple [ordD n A, ordD m B]), some (ordD (n * m) (prodR m A B)), y10, y11, y12, some (ordD N Z), none, none, none, none, none, none, none] = .ok .next [some (scrD (ns.map .int)), some f', some (ordD n A), some (ordD m B), some (.int (n : Int)), some (.int (m : Int)), some (.list ((List.range (n + m)).map fun x => natD (chg n m x))), some (ordD (n + m) (topR n A B)), some (.tuple [ordD n A, ordD m B]), some (ordD (n * m) (prodR m A B)), y10, y11, y12, some (ordD N Z), some (.tuple ((List.range k).map fun i => natD (P i))), none, none, none, none, none, none] := by
  obtain ⟨f1, found, e1, hf1, hall⟩ := some_of hf N (by omega)
  obtain ⟨mm, em, hmm⟩ := v_min12 N
  obtain ⟨v, f2, e2, _, hf2⟩ := pick_ev hf1 (mm + 1) (by omega) (by omega)
  obtain ⟨k, P, ys, hc, hk, hP, hs⟩ := hall (some (v : Int))
  refine ⟨f2, k, P, hf2, hk, hP, ?_⟩
  have ee : ((mm : Int) + 1) = ((mm + 1 : Nat) : Int) := by omega
  unfold lw15
  simp -implicitDefEqProofs only [bind_ok, lift_some, okK_eq, liftK_eq, ev_seq, seqK_next, seqK_ret, ev_asg, asgK_eq, ev_ret, ev_expr, ev_skip, ev_ifS, ev_if, ifK_t, ifK_f, ev_c, ev_yes, ev_and, ev_or, ev_not, cK_eq, ev_tb, ev_tru, ev_andV, ev_orV, ev_notV, bK_bool, notK_bool, ev_m2, m2K_eq, ev_m1, ev_nil, ev_cons, consK_eq, ev_tup, ev_lst, ev_slot, slotK_eq, ev_retO, retOK_eq, ev_name, ev_tup2, ev_tup3, ev_tgc, tgK_eq, ev_tgn, ev_call, callK_v1, callK_v2, callK_v3, callK2_v1, callK2_v2, callK2_v3, callK_b1, callK_b2, borK_eq, callK2_b1, callK2_b2, unK_eq, ev_bor, bor1K_eq, ev_lenO, lenOK_eq, listAt_eq, listK_eq, ev_ixO, ixO0_eq, ixO1_eq, ixO1'_eq, ixO2_0, ev_sub, subK0_eq, subK_eq, subK1_eq, subK2_eq, ev_app, appK0_eq, appK_eq, ev_ins, insK0_eq, insK'_eq, insK_eq, ev_ext, extK0_eq, extK_eq, ev_i1, ev_i2, i2K_eq, ev_lrg, ev_trg, ev_forS, one_eq, oneC_eq, oneE_t, oneE_f, oneX_eq, wipeE_nil, wipeE_cons, ev_comp, fnK_ret, fnK_next, mask_nil, mask_0, mask_1, v_addI, v_tupL, v_tupT, v_lstL, v_lstT, v_lenL, v_lenT, v_int, v_seqL, v_seqT, v_bool, v_truB, v_truI, v_eqI, v_eqB, v_neI, v_ixT, v_ixL, v_at0, v_at1, v_at2, v_at3, v_at4, v_at5, List.getElem?_cons_zero, List.getElem?_cons_succ, List.set_cons_zero, List.set_cons_succ, List.length_cons, List.length_nil, Nat.reduceAdd, Nat.reduceLT, Nat.reduceSub, if_true, List.map_cons, List.map_nil, List.cons_append, List.nil_append, List.replicate_succ, List.replicate_zero, Nat.zero_add, Nat.lt_add_left_iff_pos, Nat.zero_lt_succ, bodyK_eq, ev_sl, slL_eq, slH_eq, ev_noP, ev_part, v_intD, v_slL, v_ord0, v_rg1 N (show N ≤ 1000000 by omega), e1, em, ee, e2, hc, hs]
theorem st16 (hN : N ≤ 36) (hk : k ≤ N) (hP : Mono k N P) : lw16 [some (scrD (ns.map .int)), some f, some (ordD n A), some (ordD m B), some (.int (n : Int)), some (.int (m : Int)), some (.list ((List.range (n + m)).map fun x => natD (chg n m x))), some (ordD (n + m) (topR n A B)), some (.tuple [ordD n A, ordD m B]), some (ordD (n * m) (prodR m A B)), y10, y11, y12, some (ordD N Z), some (.tuple ((List.range k).map fun i => natD (P i))), none, none, none, none, none, none] = .ok .next [some (scrD (ns.map .int)), some f, some (ordD n A), some (ordD m B), some (.int (n : Int)), some (.int (m : Int)), some (.list ((List.range (n + m)).map fun x => natD (chg n m x))), some (ordD (n + m) (topR n A B)), some (.tuple [ordD n A, ordD m B]), some (ordD (n * m) (prodR m A B)), y10, y11, y12, some (ordD N Z), some (.tuple ((List.range k).map fun i => natD (P i))), some (ordD k (indR P Z)), none, none, none, none, none] := by
  unfold lw16
  simp -implicitDefEqProofs only [bind_ok, lift_some, okK_eq, liftK_eq, ev_seq, seqK_next, seqK_ret, ev_asg, asgK_eq, ev_ret, ev_expr, ev_skip, ev_ifS, ev_if, ifK_t, ifK_f, ev_c, ev_yes, ev_and, ev_or, ev_not, cK_eq, ev_tb, ev_tru, ev_andV, ev_orV, ev_notV, bK_bool, notK_bool, ev_m2, m2K_eq, ev_m1, ev_nil, ev_cons, consK_eq, ev_tup, ev_lst, ev_slot, slotK_eq, ev_retO, retOK_eq, ev_name, ev_tup2, ev_tup3, ev_tgc, tgK_eq, ev_tgn, ev_call, callK_v1, callK_v2, callK_v3, callK2_v1, callK2_v2, callK2_v3, callK_b1, callK_b2, borK_eq, callK2_b1, callK2_b2, unK_eq, ev_bor, bor1K_eq, ev_lenO, lenOK_eq, listAt_eq, listK_eq, ev_ixO, ixO0_eq, ixO1_eq, ixO1'_eq, ixO2_0, ev_sub, subK0_eq, subK_eq, subK1_eq, subK2_eq, ev_app, appK0_eq, appK_eq, ev_ins, insK0_eq, insK'_eq, insK_eq, ev_ext, extK0_eq, extK_eq, ev_i1, ev_i2, i2K_eq, ev_lrg, ev_trg, ev_forS, one_eq, oneC_eq, oneE_t, oneE_f, oneX_eq, wipeE_nil, wipeE_cons, ev_comp, fnK_ret, fnK_next, mask_nil, mask_0, mask_1, v_addI, v_tupL, v_tupT, v_lstL, v_lstT, v_lenL, v_lenT, v_int, v_seqL, v_seqT, v_bool, v_truB, v_truI, v_eqI, v_eqB, v_neI, v_ixT, v_ixL, v_at0, v_at1, v_at2, v_at3, v_at4, v_at5, List.getElem?_cons_zero, List.getElem?_cons_succ, List.set_cons_zero, List.set_cons_succ, List.length_cons, List.length_nil, Nat.reduceAdd, Nat.reduceLT, Nat.reduceSub, if_true, List.map_cons, List.map_nil, List.cons_append, List.nil_append, List.replicate_succ, List.replicate_zero, Nat.zero_add, Nat.lt_add_left_iff_pos, Nat.zero_lt_succ, bodyK_eq, induced_ev N k Z P hP (by omega) (by omega)]
theorem st17 (hN : N ≤ 36) (hk : k ≤ N) (hP : Mono k N P) : lw17 [some (scrD (ns.map .int)), some f, some (ordD n A), some (ordD m B), some (.int (n : Int)), some (.int (m : Int)), some (.list ((List.range (n + m)).map fun x => natD (chg n m x))), some (ordD (n + m) (topR n A B)), some (.tuple [ordD n A, ordD m B]), some (ordD (n * m) (prodR m A B)), y10, y11, y12, some (ordD N Z), some (.tuple ((List.range k).map fun i => natD (P i))), some (ordD k (indR P Z)), none, none, none, none, none] = .ok .next [some (scrD (ns.map .int)), some f, some (ordD n A), some (ordD m B), some (.int (n : Int)), some (.int (m : Int)), some (.list ((List.range (n + m)).map fun x => natD (chg n m x))), some (ordD (n + m) (topR n A B)), some (.tuple [ordD n A, ordD m B]), some (ordD (n * m) (prodR m A B)), y10, y11, y12, some (ordD N Z), some (.tuple ((List.range k).map fun i => natD (P i))), some (ordD k (indR P Z)), none, none, none, none, none] := by
  have s := same_ev 8 _ (pl_ord 4 k (indR P Z) (by omega))
  unfold lw17
  simp -implicitDefEqProofs only [bind_ok, lift_some, okK_eq, liftK_eq, ev_seq, seqK_next, seqK_ret, ev_asg, asgK_eq, ev_ret, ev_expr, ev_skip, ev_ifS, ev_if, ifK_t, ifK_f, ev_c, ev_yes, ev_and, ev_or, ev_not, cK_eq, ev_tb, ev_tru, ev_andV, ev_orV, ev_notV, bK_bool, notK_bool, ev_m2, m2K_eq, ev_m1, ev_nil, ev_cons, consK_eq, ev_tup, ev_lst, ev_slot, slotK_eq, ev_retO, retOK_eq, ev_name, ev_tup2, ev_tup3, ev_tgc, tgK_eq, ev_tgn, ev_call, callK_v1, callK_v2, callK_v3, callK2_v1, callK2_v2, callK2_v3, callK_b1, callK_b2, borK_eq, callK2_b1, callK2_b2, unK_eq, ev_bor, bor1K_eq, ev_lenO, lenOK_eq, listAt_eq, listK_eq, ev_ixO, ixO0_eq, ixO1_eq, ixO1'_eq, ixO2_0, ev_sub, subK0_eq, subK_eq, subK1_eq, subK2_eq, ev_app, appK0_eq, appK_eq, ev_ins, insK0_eq, insK'_eq, insK_eq, ev_ext, extK0_eq, extK_eq, ev_i1, ev_i2, i2K_eq, ev_lrg, ev_trg, ev_forS, one_eq, oneC_eq, oneE_t, oneE_f, oneX_eq, wipeE_nil, wipeE_cons, ev_comp, fnK_ret, fnK_next, mask_nil, mask_0, mask_1, v_addI, v_tupL, v_tupT, v_lstL, v_lstT, v_lenL, v_lenT, v_int, v_seqL, v_seqT, v_bool, v_truB, v_truI, v_eqI, v_eqB, v_neI, v_ixT, v_ixL, v_at0, v_at1, v_at2, v_at3, v_at4, v_at5, List.getElem?_cons_zero, List.getElem?_cons_succ, List.set_cons_zero, List.set_cons_succ, List.length_cons, List.length_nil, Nat.reduceAdd, Nat.reduceLT, Nat.reduceSub, if_true, List.map_cons, List.map_nil, List.cons_append, List.nil_append, List.replicate_succ, List.replicate_zero, Nat.zero_add, Nat.lt_add_left_iff_pos, Nat.zero_lt_succ, bodyK_eq, linduced_ev N k Z P hP.lt (by omega), s, Bool.not_true]
theorem st18 (hf : Feed f) (hk : k ≤ 36) : ∃ (f' : D) (k2 : Nat) (P2 : Nat → Nat), Feed f' ∧ k2 ≤ k ∧ Mono k2 k P2 ∧ lw18 [some (scrD (ns.map .int)), some f, some (ordD n A), some (ordD m B), some (.int (n : Int)), some (.int (m : Int)), some (.list ((List.range (n + m)).map fun x => natD (chg n m x))), some (ordD (n + m) (topR n A B)), some (.tuple [ordD n A, ordD m B]), some (ordD (n * m) (prodR m A B)), y10, y11, y12, some (ordD N Z), some (.tuple ((List.range k).map fun i => natD (P i))), some (ordD k (indR P Z)), none, none, none, none, none] = .ok .next [some (scrD (ns.map .int)), some f', some (ordD n A), some (ordD m B), some (.int (n : Int)), some (.int (m : Int)), some (.list ((List.range (n + m)).map fun x => natD (chg n m x))), some (ordD (n + m) (topR n A B)), some (.tuple [ordD n A, ordD m B]), some (ordD (n * m) (prodR m A B)), y10, y11, y12, some (ordD N Z), some (.tuple ((List.range k).map fun i => natD (P i))), some (ordD k (indR P Z)), some (.tuple ((List.range k2).map fun i => natD (P2 i))), none, none, none, none] := by
  obtain ⟨f1, found, e1, hf1, hall⟩ := some_of hf k (by omega)
  obtain ⟨v, f2, e2, _, hf2⟩ := pick_ev hf1 (k + 1) (by omega) (by omega)
  obtain ⟨k2, P2, ys, hc, hk2, hP2, hs⟩ := hall (some (v : Int))
  refine ⟨f2, k2, P2, hf2, hk2, hP2, ?_⟩
  have ee : ((k : Int) + 1) = ((k + 1 : Nat) : Int) := by omega
  unfold lw18
  simp -implicitDefEqProofs only [bind_ok, lift_some, okK_eq, liftK_eq, ev_seq, seqK_next, seqK_ret, ev_asg, asgK_eq, ev_ret, ev_expr, ev_skip, ev_ifS, ev_if, ifK_t, ifK_f, ev_c, ev_yes, ev_and, ev_or, ev_not, cK_eq, ev_tb, ev_tru, ev_andV, ev_orV, ev_notV, bK_bool, notK_bool, ev_m2, m2K_eq, ev_m1, ev_nil, ev_cons, consK_eq, ev_tup, ev_lst, ev_slot, slotK_eq, ev_retO, retOK_eq, ev_name, ev_tup2, ev_tup3, ev_tgc, tgK_eq, ev_tgn, ev_call, callK_v1, callK_v2, callK_v3, callK2_v1, callK2_v2, callK2_v3, callK_b1, callK_b2, borK_eq, callK2_b1, callK2_b2, unK_eq, ev_bor, bor1K_eq, ev_lenO, lenOK_eq, listAt_eq, listK_eq, ev_ixO, ixO0_eq, ixO1_eq, ixO1'_eq, ixO2_0, ev_sub, subK0_eq, subK_eq, subK1_eq, subK2_eq, ev_app, appK0_eq, appK_eq, ev_ins, insK0_eq, insK'_eq, insK_eq, ev_ext, extK0_eq, extK_eq, ev_i1, ev_i2, i2K_eq, ev_lrg, ev_trg, ev_forS, one_eq, oneC_eq, oneE_t, oneE_f, oneX_eq, wipeE_nil, wipeE_cons, ev_comp, fnK_ret, fnK_next, mask_nil, mask_0, mask_1, v_addI, v_tupL, v_tupT, v_lstL, v_lstT, v_lenL, v_lenT, v_int, v_seqL, v_seqT, v_bool, v_truB, v_truI, v_eqI, v_eqB, v_neI, v_ixT, v_ixL, v_at0, v_at1, v_at2, v_at3, v_at4, v_at5, List.getElem?_cons_zero, List.getElem?_cons_succ, List.set_cons_zero, List.set_cons_succ, List.length_cons, List.length_nil, Nat.reduceAdd, Nat.reduceLT, Nat.reduceSub, if_true, List.map_cons, List.map_nil, List.cons_append, List.nil_append, List.replicate_succ, List.replicate_zero, Nat.zero_add, Nat.lt_add_left_iff_pos, Nat.zero_lt_succ, bodyK_eq, ev_sl, slL_eq, slH_eq, ev_noP, ev_part, v_intD, v_slL, List.length_map, List.length_range, v_rg1 k (show k ≤ 1000000 by omega), e1, ee, e2, hc, hs]
theorem st19 (hN : N ≤ 36) (hk : k ≤ N) (hP : Mono k N P) (hk2 : k2 ≤ k) (hP2 : Mono k2 k P2) : lw19 [some (scrD (ns.map .int)), some f, some (ordD n A), some (ordD m B), some (.int (n : Int)), some (.int (m : Int)), some (.list ((List.range (n + m)).map fun x => natD (chg n m x))), some (ordD (n + m) (topR n A B)), some (.tuple [ordD n A, ordD m B]), some (ordD (n * m) (prodR m A B)), y10, y11, y12, some (ordD N Z), some (.tuple ((List.range k).map fun i => natD (P i))), some (ordD k (indR P Z)), some (.tuple ((List.range k2).map fun i => natD (P2 i))), none, none, none, none] = .ok .next [some (scrD (ns.map .int)), some f, some (ordD n A), some (ordD m B), some (.int (n : Int)), some (.int (m : Int)), some (.list ((List.range (n + m)).map fun x => natD (chg n m x))), some (ordD (n + m) (topR n A B)), some (.tuple [ordD n A, ordD m B]), some (ordD (n * m) (prodR m A B)), y10, y11, y12, some (ordD N Z), some (.tuple ((List.range k).map fun i => natD (P i))), some (ordD k (indR P Z)), some (.tuple ((List.range k2).map fun i => natD (P2 i))), none, none, none, none] := by
  have s := same_ev 8 _ (pl2 (pl_ord 3 k2 (indR P2 (indR P Z)) (by omega)) (pl_ord 3 k (tr (indR P Z)) (by omega)))
  have o1 : F_induced [ordD N (tr Z), .tuple ((List.range k).map fun i => natD (P i))] = .ok (ordD k (tr (indR P Z))) [none, none] := induced_ev N k (tr Z) P hP (by omega) (by omega)
  have o2 : F_induced [ordD N Z, .tuple ((List.range k2).map fun i => natD (P (P2 i)))] = .ok (ordD k2 (indR P2 (indR P Z))) [none, none] := induced_ev N k2 Z (fun i => P (P2 i)) (mono_comp hP2 hP) (by omega) (by omega)
  unfold lw19
  simp -implicitDefEqProofs only [bind_ok, lift_some, okK_eq, liftK_eq, ev_seq, seqK_next, seqK_ret, ev_asg, asgK_eq, ev_ret, ev_expr, ev_skip, ev_ifS, ev_if, ifK_t, ifK_f, ev_c, ev_yes, ev_and, ev_or, ev_not, cK_eq, ev_tb, ev_tru, ev_andV, ev_orV, ev_notV, bK_bool, notK_bool, ev_m2, m2K_eq, ev_m1, ev_nil, ev_cons, consK_eq, ev_tup, ev_lst, ev_slot, slotK_eq, ev_retO, retOK_eq, ev_name, ev_tup2, ev_tup3, ev_tgc, tgK_eq, ev_tgn, ev_call, callK_v1, callK_v2, callK_v3, callK2_v1, callK2_v2, callK2_v3, callK_b1, callK_b2, borK_eq, callK2_b1, callK2_b2, unK_eq, ev_bor, bor1K_eq, ev_lenO, lenOK_eq, listAt_eq, listK_eq, ev_ixO, ixO0_eq, ixO1_eq, ixO1'_eq, ixO2_0, ev_sub, subK0_eq, subK_eq, subK1_eq, subK2_eq, ev_app, appK0_eq, appK_eq, ev_ins, insK0_eq, insK'_eq, insK_eq, ev_ext, extK0_eq, extK_eq, ev_i1, ev_i2, i2K_eq, ev_lrg, ev_trg, ev_forS, one_eq, oneC_eq, oneE_t, oneE_f, oneX_eq, wipeE_nil, wipeE_cons, ev_comp, fnK_ret, fnK_next, mask_nil, mask_0, mask_1, v_addI, v_tupL, v_tupT, v_lstL, v_lstT, v_lenL, v_lenT, v_int, v_seqL, v_seqT, v_bool, v_truB, v_truI, v_eqI, v_eqB, v_neI, v_ixT, v_ixL, v_at0, v_at1, v_at2, v_at3, v_at4, v_at5, List.getElem?_cons_zero, List.getElem?_cons_succ, List.set_cons_zero, List.set_cons_succ, List.length_cons, List.length_nil, Nat.reduceAdd, Nat.reduceLT, Nat.reduceSub, if_true, List.map_cons, List.map_nil, List.cons_append, List.nil_append, List.replicate_succ, List.replicate_zero, Nat.zero_add, Nat.lt_add_left_iff_pos, Nat.zero_lt_succ, bodyK_eq, induced_ev k k2 (indR P Z) P2 hP2 (by omega) (by omega), opposite_ev N Z (by omega), o1]
  rw [compK_map (List.range k2) (fun i => natD (P2 i)) (fun i => natD (P (P2 i))) (by rw [List.length_range]; unfold big; omega) (fun i hi => by
    have hi := List.mem_range.mp hi
    have ha : fIxA (.tuple ((List.range k).map fun i => natD (P i))) (natD (P2 i)) = some (natD (P (P2 i))) := atI_rng k (fun i => natD (P i)) (hP2.lt _ hi)
    simp -implicitDefEqProofs only [bind_ok, lift_some, okK_eq, liftK_eq, ev_seq, seqK_next, seqK_ret, ev_asg, asgK_eq, ev_ret, ev_expr, ev_skip, ev_ifS, ev_if, ifK_t, ifK_f, ev_c, ev_yes, ev_and, ev_or, ev_not, cK_eq, ev_tb, ev_tru, ev_andV, ev_orV, ev_notV, bK_bool, notK_bool, ev_m2, m2K_eq, ev_m1, ev_nil, ev_cons, consK_eq, ev_tup, ev_lst, ev_slot, slotK_eq, ev_retO, retOK_eq, ev_name, ev_tup2, ev_tup3, ev_tgc, tgK_eq, ev_tgn, ev_call, callK_v1, callK_v2, callK_v3, callK2_v1, callK2_v2, callK2_v3, callK_b1, callK_b2, borK_eq, callK2_b1, callK2_b2, unK_eq, ev_bor, bor1K_eq, ev_lenO, lenOK_eq, listAt_eq, listK_eq, ev_ixO, ixO0_eq, ixO1_eq, ixO1'_eq, ixO2_0, ev_sub, subK0_eq, subK_eq, subK1_eq, subK2_eq, ev_app, appK0_eq, appK_eq, ev_ins, insK0_eq, insK'_eq, insK_eq, ev_ext, extK0_eq, extK_eq, ev_i1, ev_i2, i2K_eq, ev_lrg, ev_trg, ev_forS, one_eq, oneC_eq, oneE_t, oneE_f, oneX_eq, wipeE_nil, wipeE_cons, ev_comp, fnK_ret, fnK_next, mask_nil, mask_0, mask_1, v_addI, v_tupL, v_tupT, v_lstL, v_lstT, v_lenL, v_lenT, v_int, v_seqL, v_seqT, v_bool, v_truB, v_truI, v_eqI, v_eqB, v_neI, v_ixT, v_ixL, v_at0, v_at1, v_at2, v_at3, v_at4, v_at5, List.getElem?_cons_zero, List.getElem?_cons_succ, List.set_cons_zero, List.set_cons_succ, List.length_cons, List.length_nil, Nat.reduceAdd, Nat.reduceLT, Nat.reduceSub, if_true, List.map_cons, List.map_nil, List.cons_append, List.nil_append, List.replicate_succ, List.replicate_zero, Nat.zero_add, Nat.lt_add_left_iff_pos, Nat.zero_lt_succ, bodyK_eq, ha])]
  simp -implicitDefEqProofs only [bind_ok, lift_some, okK_eq, liftK_eq, ev_seq, seqK_next, seqK_ret, ev_asg, asgK_eq, ev_ret, ev_expr, ev_skip, ev_ifS, ev_if, ifK_t, ifK_f, ev_c, ev_yes, ev_and, ev_or, ev_not, cK_eq, ev_tb, ev_tru, ev_andV, ev_orV, ev_notV, bK_bool, notK_bool, ev_m2, m2K_eq, ev_m1, ev_nil, ev_cons, consK_eq, ev_tup, ev_lst, ev_slot, slotK_eq, ev_retO, retOK_eq, ev_name, ev_tup2, ev_tup3, ev_tgc, tgK_eq, ev_tgn, ev_call, callK_v1, callK_v2, callK_v3, callK2_v1, callK2_v2, callK2_v3, callK_b1, callK_b2, borK_eq, callK2_b1, callK2_b2, unK_eq, ev_bor, bor1K_eq, ev_lenO, lenOK_eq, listAt_eq, listK_eq, ev_ixO, ixO0_eq, ixO1_eq, ixO1'_eq, ixO2_0, ev_sub, subK0_eq, subK_eq, subK1_eq, subK2_eq, ev_app, appK0_eq, appK_eq, ev_ins, insK0_eq, insK'_eq, insK_eq, ev_ext, extK0_eq, extK_eq, ev_i1, ev_i2, i2K_eq, ev_lrg, ev_trg, ev_forS, one_eq, oneC_eq, oneE_t, oneE_f, oneX_eq, wipeE_nil, wipeE_cons, ev_comp, fnK_ret, fnK_next, mask_nil, mask_0, mask_1, v_addI, v_tupL, v_tupT, v_lstL, v_lstT, v_lenL, v_lenT, v_int, v_seqL, v_seqT, v_bool, v_truB, v_truI, v_eqI, v_eqB, v_neI, v_ixT, v_ixL, v_at0, v_at1, v_at2, v_at3, v_at4, v_at5, List.getElem?_cons_zero, List.getElem?_cons_succ, List.set_cons_zero, List.set_cons_succ, List.length_cons, List.length_nil, Nat.reduceAdd, Nat.reduceLT, Nat.reduceSub, if_true, List.map_cons, List.map_nil, List.cons_append, List.nil_append, List.replicate_succ, List.replicate_zero, Nat.zero_add, Nat.lt_add_left_iff_pos, Nat.zero_lt_succ, bodyK_eq, o2, turned_ev k (indR P Z) (by omega), s, Bool.not_true]
theorem st20 (hf : Feed f) (hn : n < 7) : ∃ (f' : D) (τ ι : Nat → Nat), Feed f' ∧ Bij n τ ι ∧ lw20 [some (scrD (ns.map .int)), some f, some (ordD n A), some (ordD m B), some (.int (n : Int)), some (.int (m : Int)), some (.list ((List.range (n + m)).map fun x => natD (chg n m x))), some (ordD (n + m) (topR n A B)), some (.tuple [ordD n A, ordD m B]), some (ordD (n * m) (prodR m A B)), y10, y11, y12, some (ordD N Z), some (.tuple ((List.range k).map fun i => natD (P i))), some (ordD k (indR P Z)), some (.tuple ((List.range k2).map fun i => natD (P2 i))), none, none, none, none] = .ok .next [some (scrD (ns.map .int)), some f', some (ordD n A), some (ordD m B), some (.int (n : Int)), some (.int (m : Int)), some (.list ((List.range (n + m)).map fun x => natD (chg n m x))), some (ordD (n + m) (topR n A B)), some (.tuple [ordD n A, ordD m B]), some (ordD (n * m) (prodR m A B)), y10, y11, y12, some (ordD N Z), some (.tuple ((List.range k).map fun i => natD (P i))), some (ordD k (indR P Z)), some (.tuple ((List.range k2).map fun i => natD (P2 i))), some (.list ((List.range n).map fun x => natD (τ x))), none, none, none] := by
  obtain ⟨f1, τ, ι, e, hb, hf1⟩ := mixedR_ev hf n (by omega)
  have e : F__law_mixed [f, .list ((List.range n).map fun k : Nat => .int (k : Int))] = _ := e
  refine ⟨f1, τ, ι, hf1, hb, ?_⟩
  unfold lw20
  simp -implicitDefEqProofs only [bind_ok, lift_some, okK_eq, liftK_eq, ev_seq, seqK_next, seqK_ret, ev_asg, asgK_eq, ev_ret, ev_expr, ev_skip, ev_ifS, ev_if, ifK_t, ifK_f, ev_c, ev_yes, ev_and, ev_or, ev_not, cK_eq, ev_tb, ev_tru, ev_andV, ev_orV, ev_notV, bK_bool, notK_bool, ev_m2, m2K_eq, ev_m1, ev_nil, ev_cons, consK_eq, ev_tup, ev_lst, ev_slot, slotK_eq, ev_retO, retOK_eq, ev_name, ev_tup2, ev_tup3, ev_tgc, tgK_eq, ev_tgn, ev_call, callK_v1, callK_v2, callK_v3, callK2_v1, callK2_v2, callK2_v3, callK_b1, callK_b2, borK_eq, callK2_b1, callK2_b2, unK_eq, ev_bor, bor1K_eq, ev_lenO, lenOK_eq, listAt_eq, listK_eq, ev_ixO, ixO0_eq, ixO1_eq, ixO1'_eq, ixO2_0, ev_sub, subK0_eq, subK_eq, subK1_eq, subK2_eq, ev_app, appK0_eq, appK_eq, ev_ins, insK0_eq, insK'_eq, insK_eq, ev_ext, extK0_eq, extK_eq, ev_i1, ev_i2, i2K_eq, ev_lrg, ev_trg, ev_forS, one_eq, oneC_eq, oneE_t, oneE_f, oneX_eq, wipeE_nil, wipeE_cons, ev_comp, fnK_ret, fnK_next, mask_nil, mask_0, mask_1, v_addI, v_tupL, v_tupT, v_lstL, v_lstT, v_lenL, v_lenT, v_int, v_seqL, v_seqT, v_bool, v_truB, v_truI, v_eqI, v_eqB, v_neI, v_ixT, v_ixL, v_at0, v_at1, v_at2, v_at3, v_at4, v_at5, List.getElem?_cons_zero, List.getElem?_cons_succ, List.set_cons_zero, List.set_cons_succ, List.length_cons, List.length_nil, Nat.reduceAdd, Nat.reduceLT, Nat.reduceSub, if_true, List.map_cons, List.map_nil, List.cons_append, List.nil_append, List.replicate_succ, List.replicate_zero, Nat.zero_add, Nat.lt_add_left_iff_pos, Nat.zero_lt_succ, bodyK_eq, v_rg1 n (show n ≤ 1000000 by omega), e]
theorem st21 (hn : n < 7) (hb : Bij n τ ι) : lw21 [some (scrD (ns.map .int)), some f, some (ordD n A), some (ordD m B), some (.int (n : Int)), some (.int (m : Int)), some (.list ((List.range (n + m)).map fun x => natD (chg n m x))), some (ordD (n + m) (topR n A B)), some (.tuple [ordD n A, ordD m B]), some (ordD (n * m) (prodR m A B)), y10, y11, y12, some (ordD N Z), some (.tuple ((List.range k).map fun i => natD (P i))), some (ordD k (indR P Z)), some (.tuple ((List.range k2).map fun i => natD (P2 i))), some (.list ((List.range n).map fun x => natD (τ x))), none, none, none] = .ok .next [some (scrD (ns.map .int)), some f, some (ordD n A), some (ordD m B), some (.int (n : Int)), some (.int (m : Int)), some (.list ((List.range (n + m)).map fun x => natD (chg n m x))), some (ordD (n + m) (topR n A B)), some (.tuple [ordD n A, ordD m B]), some (ordD (n * m) (prodR m A B)), y10, y11, y12, some (ordD N Z), some (.tuple ((List.range k).map fun i => natD (P i))), some (ordD k (indR P Z)), some (.tuple ((List.range k2).map fun i => natD (P2 i))), some (.list ((List.range n).map fun x => natD (τ x))), some (ordD n (movR ι A)), none, none] := by
  unfold lw21
  simp -implicitDefEqProofs only [bind_ok, lift_some, okK_eq, liftK_eq, ev_seq, seqK_next, seqK_ret, ev_asg, asgK_eq, ev_ret, ev_expr, ev_skip, ev_ifS, ev_if, ifK_t, ifK_f, ev_c, ev_yes, ev_and, ev_or, ev_not, cK_eq, ev_tb, ev_tru, ev_andV, ev_orV, ev_notV, bK_bool, notK_bool, ev_m2, m2K_eq, ev_m1, ev_nil, ev_cons, consK_eq, ev_tup, ev_lst, ev_slot, slotK_eq, ev_retO, retOK_eq, ev_name, ev_tup2, ev_tup3, ev_tgc, tgK_eq, ev_tgn, ev_call, callK_v1, callK_v2, callK_v3, callK2_v1, callK2_v2, callK2_v3, callK_b1, callK_b2, borK_eq, callK2_b1, callK2_b2, unK_eq, ev_bor, bor1K_eq, ev_lenO, lenOK_eq, listAt_eq, listK_eq, ev_ixO, ixO0_eq, ixO1_eq, ixO1'_eq, ixO2_0, ev_sub, subK0_eq, subK_eq, subK1_eq, subK2_eq, ev_app, appK0_eq, appK_eq, ev_ins, insK0_eq, insK'_eq, insK_eq, ev_ext, extK0_eq, extK_eq, ev_i1, ev_i2, i2K_eq, ev_lrg, ev_trg, ev_forS, one_eq, oneC_eq, oneE_t, oneE_f, oneX_eq, wipeE_nil, wipeE_cons, ev_comp, fnK_ret, fnK_next, mask_nil, mask_0, mask_1, v_addI, v_tupL, v_tupT, v_lstL, v_lstT, v_lenL, v_lenT, v_int, v_seqL, v_seqT, v_bool, v_truB, v_truI, v_eqI, v_eqB, v_neI, v_ixT, v_ixL, v_at0, v_at1, v_at2, v_at3, v_at4, v_at5, List.getElem?_cons_zero, List.getElem?_cons_succ, List.set_cons_zero, List.set_cons_succ, List.length_cons, List.length_nil, Nat.reduceAdd, Nat.reduceLT, Nat.reduceSub, if_true, List.map_cons, List.map_nil, List.cons_append, List.nil_append, List.replicate_succ, List.replicate_zero, Nat.zero_add, Nat.lt_add_left_iff_pos, Nat.zero_lt_succ, bodyK_eq, moved_ev n A τ ι hb (by omega)]
theorem st22 (hn : n < 7) (hb : Bij n τ ι) : lw22 [some (scrD (ns.map .int)), some f, some (ordD n A), some (ordD m B), some (.int (n : Int)), some (.int (m : Int)), some (.list ((List.range (n + m)).map fun x => natD (chg n m x))), some (ordD (n + m) (topR n A B)), some (.tuple [ordD n A, ordD m B]), some (ordD (n * m) (prodR m A B)), y10, y11, y12, some (ordD N Z), some (.tuple ((List.range k).map fun i => natD (P i))), some (ordD k (indR P Z)), some (.tuple ((List.range k2).map fun i => natD (P2 i))), some (.list ((List.range n).map fun x => natD (τ x))), some (ordD n (movR ι A)), none, none] = .ok .next [some (scrD (ns.map .int)), some f, some (ordD n A), some (ordD m B), some (.int (n : Int)), some (.int (m : Int)), some (.list ((List.range (n + m)).map fun x => natD (chg n m x))), some (ordD (n + m) (topR n A B)), some (.tuple [ordD n A, ordD m B]), some (ordD (n * m) (prodR m A B)), y10, y11, y12, some (ordD N Z), some (.tuple ((List.range k).map fun i => natD (P i))), some (ordD k (indR P Z)), some (.tuple ((List.range k2).map fun i => natD (P2 i))), some (.list ((List.range n).map fun x => natD (τ x))), some (ordD n (movR ι A)), none, none] := by
  have s := same_ev 8 _ (pl3 (pl_ord 3 n A (by omega)) pl_empty (pl_ord 3 n (tr (movR ι A)) (by omega)))
  have i1 : F_induced [ordD n A, .tuple ((List.range n).map fun k : Nat => .int (k : Int))] = .ok (ordD n A) [none, none] := induced_to (fun i => i) (mono_id (by omega)) (by omega) (by omega) (fun _ _ _ _ => rfl)
  have i2 : F_induced [ordD n A, .tuple []] = .ok (.tuple [.int 0, .tuple []]) [none, none] := induced_ev n 0 A (fun i => i) (mono_id (by omega)) (by omega) (by omega)
  have o1 : F__law_moved [ordD n (tr A), .list ((List.range n).map fun x => natD (τ x))] = .ok (ordD n (tr (movR ι A))) [none, none] := moved_ev n (tr A) τ ι hb (by omega)
  unfold lw22
  simp -implicitDefEqProofs only [bind_ok, lift_some, okK_eq, liftK_eq, ev_seq, seqK_next, seqK_ret, ev_asg, asgK_eq, ev_ret, ev_expr, ev_skip, ev_ifS, ev_if, ifK_t, ifK_f, ev_c, ev_yes, ev_and, ev_or, ev_not, cK_eq, ev_tb, ev_tru, ev_andV, ev_orV, ev_notV, bK_bool, notK_bool, ev_m2, m2K_eq, ev_m1, ev_nil, ev_cons, consK_eq, ev_tup, ev_lst, ev_slot, slotK_eq, ev_retO, retOK_eq, ev_name, ev_tup2, ev_tup3, ev_tgc, tgK_eq, ev_tgn, ev_call, callK_v1, callK_v2, callK_v3, callK2_v1, callK2_v2, callK2_v3, callK_b1, callK_b2, borK_eq, callK2_b1, callK2_b2, unK_eq, ev_bor, bor1K_eq, ev_lenO, lenOK_eq, listAt_eq, listK_eq, ev_ixO, ixO0_eq, ixO1_eq, ixO1'_eq, ixO2_0, ev_sub, subK0_eq, subK_eq, subK1_eq, subK2_eq, ev_app, appK0_eq, appK_eq, ev_ins, insK0_eq, insK'_eq, insK_eq, ev_ext, extK0_eq, extK_eq, ev_i1, ev_i2, i2K_eq, ev_lrg, ev_trg, ev_forS, one_eq, oneC_eq, oneE_t, oneE_f, oneX_eq, wipeE_nil, wipeE_cons, ev_comp, fnK_ret, fnK_next, mask_nil, mask_0, mask_1, v_addI, v_tupL, v_tupT, v_lstL, v_lstT, v_lenL, v_lenT, v_int, v_seqL, v_seqT, v_bool, v_truB, v_truI, v_eqI, v_eqB, v_neI, v_ixT, v_ixL, v_at0, v_at1, v_at2, v_at3, v_at4, v_at5, List.getElem?_cons_zero, List.getElem?_cons_succ, List.set_cons_zero, List.set_cons_succ, List.length_cons, List.length_nil, Nat.reduceAdd, Nat.reduceLT, Nat.reduceSub, if_true, List.map_cons, List.map_nil, List.cons_append, List.nil_append, List.replicate_succ, List.replicate_zero, Nat.zero_add, Nat.lt_add_left_iff_pos, Nat.zero_lt_succ, bodyK_eq, v_rg1 n (show n ≤ 1000000 by omega), i1, i2, opposite_ev n (movR ι A) (by omega), turned_ev n A (by omega), o1, s, Bool.not_true]
theorem st23 : lw23 [some (scrD (ns.map .int)), some f, some (ordD n A), some (ordD m B), some (.int (n : Int)), some (.int (m : Int)), some (.list ((List.range (n + m)).map fun x => natD (chg n m x))), some (ordD (n + m) (topR n A B)), some (.tuple [ordD n A, ordD m B]), some (ordD (n * m) (prodR m A B)), y10, y11, y12, some (ordD N Z), some (.tuple ((List.range k).map fun i => natD (P i))), some (ordD k (indR P Z)), some (.tuple ((List.range k2).map fun i => natD (P2 i))), some (.list ((List.range n).map fun x => natD (τ x))), some (ordD n (movR ι A)), none, none] = .ok .next [some (scrD (ns.map .int)), some f, some (ordD n A), some (ordD m B), some (.int (n : Int)), some (.int (m : Int)), some (.list ((List.range (n + m)).map fun x => natD (chg n m x))), some (ordD (n + m) (topR n A B)), some (.tuple [ordD n A, ordD m B]), some (ordD (n * m) (prodR m A B)), y10, y11, y12, some (ordD N Z), some (.tuple ((List.range k).map fun i => natD (P i))), some (ordD k (indR P Z)), some (.tuple ((List.range k2).map fun i => natD (P2 i))), some (.list ((List.range n).map fun x => natD (τ x))), some (ordD n (movR ι A)), some (.list []), none] := by
  unfold lw23
  simp -implicitDefEqProofs only [bind_ok, lift_some, okK_eq, liftK_eq, ev_seq, seqK_next, seqK_ret, ev_asg, asgK_eq, ev_ret, ev_expr, ev_skip, ev_ifS, ev_if, ifK_t, ifK_f, ev_c, ev_yes, ev_and, ev_or, ev_not, cK_eq, ev_tb, ev_tru, ev_andV, ev_orV, ev_notV, bK_bool, notK_bool, ev_m2, m2K_eq, ev_m1, ev_nil, ev_cons, consK_eq, ev_tup, ev_lst, ev_slot, slotK_eq, ev_retO, retOK_eq, ev_name, ev_tup2, ev_tup3, ev_tgc, tgK_eq, ev_tgn, ev_call, callK_v1, callK_v2, callK_v3, callK2_v1, callK2_v2, callK2_v3, callK_b1, callK_b2, borK_eq, callK2_b1, callK2_b2, unK_eq, ev_bor, bor1K_eq, ev_lenO, lenOK_eq, listAt_eq, listK_eq, ev_ixO, ixO0_eq, ixO1_eq, ixO1'_eq, ixO2_0, ev_sub, subK0_eq, subK_eq, subK1_eq, subK2_eq, ev_app, appK0_eq, appK_eq, ev_ins, insK0_eq, insK'_eq, insK_eq, ev_ext, extK0_eq, extK_eq, ev_i1, ev_i2, i2K_eq, ev_lrg, ev_trg, ev_forS, one_eq, oneC_eq, oneE_t, oneE_f, oneX_eq, wipeE_nil, wipeE_cons, ev_comp, fnK_ret, fnK_next, mask_nil, mask_0, mask_1, v_addI, v_tupL, v_tupT, v_lstL, v_lstT, v_lenL, v_lenT, v_int, v_seqL, v_seqT, v_bool, v_truB, v_truI, v_eqI, v_eqB, v_neI, v_ixT, v_ixL, v_at0, v_at1, v_at2, v_at3, v_at4, v_at5, List.getElem?_cons_zero, List.getElem?_cons_succ, List.set_cons_zero, List.set_cons_succ, List.length_cons, List.length_nil, Nat.reduceAdd, Nat.reduceLT, Nat.reduceSub, if_true, List.map_cons, List.map_nil, List.cons_append, List.nil_append, List.replicate_succ, List.replicate_zero, Nat.zero_add, Nat.lt_add_left_iff_pos, Nat.zero_lt_succ, bodyK_eq]
theorem ren_snoc (m : Nat) (τ : Nat → Nat) (i : Nat) : ((List.range (i * m)).map fun u => natD (ren m τ u)) ++ ((List.range m).map fun q : Nat => .int ((τ i * m + q : Nat) : Int)) = (List.range ((i + 1) * m)).map fun u => natD (ren m τ u) := by
  rw [Nat.succ_mul, List.range_add, List.map_append, List.map_map]
  congr 1
  refine List.map_congr_left fun q hq => ?_
  have hq := List.mem_range.mp hq
  show PyData.int _ = PyData.int ((ren m τ (i * m + q) : Nat) : Int)
  unfold ren
  rw [dm1 i hq, dm2 i hq]
theorem st24 (hn : n < 7) (hm : m < 7) (hb : Bij n τ ι) : ∃ w10 w11, lw24 [some (scrD (ns.map .int)), some f, some (ordD n A), some (ordD m B), some (.int (n : Int)), some (.int (m : Int)), some (.list ((List.range (n + m)).map fun x => natD (chg n m x))), some (ordD (n + m) (topR n A B)), some (.tuple [ordD n A, ordD m B]), some (ordD (n * m) (prodR m A B)), y10, y11, y12, some (ordD N Z), some (.tuple ((List.range k).map fun i => natD (P i))), some (ordD k (indR P Z)), some (.tuple ((List.range k2).map fun i => natD (P2 i))), some (.list ((List.range n).map fun x => natD (τ x))), some (ordD n (movR ι A)), some (.list []), none] = .ok .next [some (scrD (ns.map .int)), some f, some (ordD n A), some (ordD m B), some (.int (n : Int)), some (.int (m : Int)), some (.list ((List.range (n + m)).map fun x => natD (chg n m x))), some (ordD (n + m) (topR n A B)), some (.tuple [ordD n A, ordD m B]), some (ordD (n * m) (prodR m A B)), w10, w11, y12, some (ordD N Z), some (.tuple ((List.range k).map fun i => natD (P i))), some (ordD k (indR P Z)), some (.tuple ((List.range k2).map fun i => natD (P2 i))), some (.list ((List.range n).map fun x => natD (τ x))), some (ordD n (movR ι A)), some (.list ((List.range (n * m)).map fun u => natD (ren m τ u))), none] := by
  obtain ⟨ρ', e, w10, w11, hI⟩ := for_ix (fun k : Nat => PyData.int (k : Int)) (tgName 10) (mAsg (m2 fAdd (mSlot 19) (mComp [11] (mI1 fRange1 (mSlot 5)) (tgName 11) (mYes) (m2 fAdd (m2 fMul (m2 fIxA (mSlot 17) (mSlot 10)) (mSlot 5)) (mSlot 11)))) (tgName 19))
    (fun i ρ => ∃ w10 w11 : Option D, ρ = [some (scrD (ns.map .int)), some f, some (ordD n A), some (ordD m B), some (.int (n : Int)), some (.int (m : Int)), some (.list ((List.range (n + m)).map fun x => natD (chg n m x))), some (ordD (n + m) (topR n A B)), some (.tuple [ordD n A, ordD m B]), some (ordD (n * m) (prodR m A B)), w10, w11, y12, some (ordD N Z), some (.tuple ((List.range k).map fun i => natD (P i))), some (ordD k (indR P Z)), some (.tuple ((List.range k2).map fun i => natD (P2 i))), some (.list ((List.range n).map fun x => natD (τ x))), some (ordD n (movR ι A)), some (.list ((List.range (i * m)).map fun u => natD (ren m τ u))), none]) (List.range n) [some (scrD (ns.map .int)), some f, some (ordD n A), some (ordD m B), some (.int (n : Int)), some (.int (m : Int)), some (.list ((List.range (n + m)).map fun x => natD (chg n m x))), some (ordD (n + m) (topR n A B)), some (.tuple [ordD n A, ordD m B]), some (ordD (n * m) (prodR m A B)), y10, y11, y12, some (ordD N Z), some (.tuple ((List.range k).map fun i => natD (P i))), some (ordD k (indR P Z)), some (.tuple ((List.range k2).map fun i => natD (P2 i))), some (.list ((List.range n).map fun x => natD (τ x))), some (ordD n (movR ι A)), some (.list []), none] ⟨y10, y11, by rw [Nat.zero_mul]; rfl⟩ (by
      rintro i i' ρ hi ⟨w10, w11, rfl⟩
      obtain ⟨rfl, hi⟩ := rng_get hi
      refine ⟨[some (scrD (ns.map .int)), some f, some (ordD n A), some (ordD m B), some (.int (n : Int)), some (.int (m : Int)), some (.list ((List.range (n + m)).map fun x => natD (chg n m x))), some (ordD (n + m) (topR n A B)), some (.tuple [ordD n A, ordD m B]), some (ordD (n * m) (prodR m A B)), some (.int (i' : Int)), none, y12, some (ordD N Z), some (.tuple ((List.range k).map fun i => natD (P i))), some (ordD k (indR P Z)), some (.tuple ((List.range k2).map fun i => natD (P2 i))), some (.list ((List.range n).map fun x => natD (τ x))), some (ordD n (movR ι A)), some (.list ((List.range ((i' + 1) * m)).map fun u => natD (ren m τ u))), none], ?_, _, _, rfl⟩
      have ht := hb.to _ hi
      simp -implicitDefEqProofs only [bind_ok, lift_some, okK_eq, liftK_eq, ev_seq, seqK_next, seqK_ret, ev_asg, asgK_eq, ev_ret, ev_expr, ev_skip, ev_ifS, ev_if, ifK_t, ifK_f, ev_c, ev_yes, ev_and, ev_or, ev_not, cK_eq, ev_tb, ev_tru, ev_andV, ev_orV, ev_notV, bK_bool, notK_bool, ev_m2, m2K_eq, ev_m1, ev_nil, ev_cons, consK_eq, ev_tup, ev_lst, ev_slot, slotK_eq, ev_retO, retOK_eq, ev_name, ev_tup2, ev_tup3, ev_tgc, tgK_eq, ev_tgn, ev_call, callK_v1, callK_v2, callK_v3, callK2_v1, callK2_v2, callK2_v3, callK_b1, callK_b2, borK_eq, callK2_b1, callK2_b2, unK_eq, ev_bor, bor1K_eq, ev_lenO, lenOK_eq, listAt_eq, listK_eq, ev_ixO, ixO0_eq, ixO1_eq, ixO1'_eq, ixO2_0, ev_sub, subK0_eq, subK_eq, subK1_eq, subK2_eq, ev_app, appK0_eq, appK_eq, ev_ins, insK0_eq, insK'_eq, insK_eq, ev_ext, extK0_eq, extK_eq, ev_i1, ev_i2, i2K_eq, ev_lrg, ev_trg, ev_forS, one_eq, oneC_eq, oneE_t, oneE_f, oneX_eq, wipeE_nil, wipeE_cons, ev_comp, fnK_ret, fnK_next, mask_nil, mask_0, mask_1, v_addI, v_tupL, v_tupT, v_lstL, v_lstT, v_lenL, v_lenT, v_int, v_seqL, v_seqT, v_bool, v_truB, v_truI, v_eqI, v_eqB, v_neI, v_ixT, v_ixL, v_at0, v_at1, v_at2, v_at3, v_at4, v_at5, List.getElem?_cons_zero, List.getElem?_cons_succ, List.set_cons_zero, List.set_cons_succ, List.length_cons, List.length_nil, Nat.reduceAdd, Nat.reduceLT, Nat.reduceSub, if_true, List.map_cons, List.map_nil, List.cons_append, List.nil_append, List.replicate_succ, List.replicate_zero, Nat.zero_add, Nat.lt_add_left_iff_pos, Nat.zero_lt_succ, bodyK_eq, v_rg1 m (show m ≤ 1000000 by omega)]
      rw [compK_map (List.range m) (fun k : Nat => PyData.int (k : Int)) (fun q : Nat => PyData.int ((τ i' * m + q : Nat) : Int)) (by rw [List.length_range]; unfold big; omega) (fun q _ => by
        have ha : fIxA (.list ((List.range n).map fun x => natD (τ x))) (.int (i' : Int)) = some (.int ((τ i' : Nat) : Int)) := atI_rng n (fun x => natD (τ x)) hi
        simp -implicitDefEqProofs only [bind_ok, lift_some, okK_eq, liftK_eq, ev_seq, seqK_next, seqK_ret, ev_asg, asgK_eq, ev_ret, ev_expr, ev_skip, ev_ifS, ev_if, ifK_t, ifK_f, ev_c, ev_yes, ev_and, ev_or, ev_not, cK_eq, ev_tb, ev_tru, ev_andV, ev_orV, ev_notV, bK_bool, notK_bool, ev_m2, m2K_eq, ev_m1, ev_nil, ev_cons, consK_eq, ev_tup, ev_lst, ev_slot, slotK_eq, ev_retO, retOK_eq, ev_name, ev_tup2, ev_tup3, ev_tgc, tgK_eq, ev_tgn, ev_call, callK_v1, callK_v2, callK_v3, callK2_v1, callK2_v2, callK2_v3, callK_b1, callK_b2, borK_eq, callK2_b1, callK2_b2, unK_eq, ev_bor, bor1K_eq, ev_lenO, lenOK_eq, listAt_eq, listK_eq, ev_ixO, ixO0_eq, ixO1_eq, ixO1'_eq, ixO2_0, ev_sub, subK0_eq, subK_eq, subK1_eq, subK2_eq, ev_app, appK0_eq, appK_eq, ev_ins, insK0_eq, insK'_eq, insK_eq, ev_ext, extK0_eq, extK_eq, ev_i1, ev_i2, i2K_eq, ev_lrg, ev_trg, ev_forS, one_eq, oneC_eq, oneE_t, oneE_f, oneX_eq, wipeE_nil, wipeE_cons, ev_comp, fnK_ret, fnK_next, mask_nil, mask_0, mask_1, v_addI, v_tupL, v_tupT, v_lstL, v_lstT, v_lenL, v_lenT, v_int, v_seqL, v_seqT, v_bool, v_truB, v_truI, v_eqI, v_eqB, v_neI, v_ixT, v_ixL, v_at0, v_at1, v_at2, v_at3, v_at4, v_at5, List.getElem?_cons_zero, List.getElem?_cons_succ, List.set_cons_zero, List.set_cons_succ, List.length_cons, List.length_nil, Nat.reduceAdd, Nat.reduceLT, Nat.reduceSub, if_true, List.map_cons, List.map_nil, List.cons_append, List.nil_append, List.replicate_succ, List.replicate_zero, Nat.zero_add, Nat.lt_add_left_iff_pos, Nat.zero_lt_succ, bodyK_eq]
        rw [show atI ((List.range n).map fun x => natD (τ x)) (i' : Int) = some (.int ((τ i' : Nat) : Int)) from atI_rng n (fun x => natD (τ x)) hi]
        simp -implicitDefEqProofs only [bind_ok, lift_some, okK_eq, liftK_eq, ev_seq, seqK_next, seqK_ret, ev_asg, asgK_eq, ev_ret, ev_expr, ev_skip, ev_ifS, ev_if, ifK_t, ifK_f, ev_c, ev_yes, ev_and, ev_or, ev_not, cK_eq, ev_tb, ev_tru, ev_andV, ev_orV, ev_notV, bK_bool, notK_bool, ev_m2, m2K_eq, ev_m1, ev_nil, ev_cons, consK_eq, ev_tup, ev_lst, ev_slot, slotK_eq, ev_retO, retOK_eq, ev_name, ev_tup2, ev_tup3, ev_tgc, tgK_eq, ev_tgn, ev_call, callK_v1, callK_v2, callK_v3, callK2_v1, callK2_v2, callK2_v3, callK_b1, callK_b2, borK_eq, callK2_b1, callK2_b2, unK_eq, ev_bor, bor1K_eq, ev_lenO, lenOK_eq, listAt_eq, listK_eq, ev_ixO, ixO0_eq, ixO1_eq, ixO1'_eq, ixO2_0, ev_sub, subK0_eq, subK_eq, subK1_eq, subK2_eq, ev_app, appK0_eq, appK_eq, ev_ins, insK0_eq, insK'_eq, insK_eq, ev_ext, extK0_eq, extK_eq, ev_i1, ev_i2, i2K_eq, ev_lrg, ev_trg, ev_forS, one_eq, oneC_eq, oneE_t, oneE_f, oneX_eq, wipeE_nil, wipeE_cons, ev_comp, fnK_ret, fnK_next, mask_nil, mask_0, mask_1, v_addI, v_tupL, v_tupT, v_lstL, v_lstT, v_lenL, v_lenT, v_int, v_seqL, v_seqT, v_bool, v_truB, v_truI, v_eqI, v_eqB, v_neI, v_ixT, v_ixL, v_at0, v_at1, v_at2, v_at3, v_at4, v_at5, List.getElem?_cons_zero, List.getElem?_cons_succ, List.set_cons_zero, List.set_cons_succ, List.length_cons, List.length_nil, Nat.reduceAdd, Nat.reduceLT, Nat.reduceSub, if_true, List.map_cons, List.map_nil, List.cons_append, List.nil_append, List.replicate_succ, List.replicate_zero, Nat.zero_add, Nat.lt_add_left_iff_pos, Nat.zero_lt_succ, bodyK_eq, v_mulN (τ i') m (by omega), ← Int.natCast_add])]
      have h3 : i' * m ≤ 7 * 7 := Nat.mul_le_mul (by omega) (by omega)
      simp -implicitDefEqProofs only [bind_ok, lift_some, okK_eq, liftK_eq, ev_seq, seqK_next, seqK_ret, ev_asg, asgK_eq, ev_ret, ev_expr, ev_skip, ev_ifS, ev_if, ifK_t, ifK_f, ev_c, ev_yes, ev_and, ev_or, ev_not, cK_eq, ev_tb, ev_tru, ev_andV, ev_orV, ev_notV, bK_bool, notK_bool, ev_m2, m2K_eq, ev_m1, ev_nil, ev_cons, consK_eq, ev_tup, ev_lst, ev_slot, slotK_eq, ev_retO, retOK_eq, ev_name, ev_tup2, ev_tup3, ev_tgc, tgK_eq, ev_tgn, ev_call, callK_v1, callK_v2, callK_v3, callK2_v1, callK2_v2, callK2_v3, callK_b1, callK_b2, borK_eq, callK2_b1, callK2_b2, unK_eq, ev_bor, bor1K_eq, ev_lenO, lenOK_eq, listAt_eq, listK_eq, ev_ixO, ixO0_eq, ixO1_eq, ixO1'_eq, ixO2_0, ev_sub, subK0_eq, subK_eq, subK1_eq, subK2_eq, ev_app, appK0_eq, appK_eq, ev_ins, insK0_eq, insK'_eq, insK_eq, ev_ext, extK0_eq, extK_eq, ev_i1, ev_i2, i2K_eq, ev_lrg, ev_trg, ev_forS, one_eq, oneC_eq, oneE_t, oneE_f, oneX_eq, wipeE_nil, wipeE_cons, ev_comp, fnK_ret, fnK_next, mask_nil, mask_0, mask_1, v_addI, v_tupL, v_tupT, v_lstL, v_lstT, v_lenL, v_lenT, v_int, v_seqL, v_seqT, v_bool, v_truB, v_truI, v_eqI, v_eqB, v_neI, v_ixT, v_ixL, v_at0, v_at1, v_at2, v_at3, v_at4, v_at5, List.getElem?_cons_zero, List.getElem?_cons_succ, List.set_cons_zero, List.set_cons_succ, List.length_cons, List.length_nil, Nat.reduceAdd, Nat.reduceLT, Nat.reduceSub, if_true, List.map_cons, List.map_nil, List.cons_append, List.nil_append, List.replicate_succ, List.replicate_zero, Nat.zero_add, Nat.lt_add_left_iff_pos, Nat.zero_lt_succ, bodyK_eq]
      rw [v_addL _ _ (by simp only [List.length_map, List.length_range]; unfold big; omega), ren_snoc]
      simp -implicitDefEqProofs only [bind_ok, lift_some, okK_eq, liftK_eq, ev_seq, seqK_next, seqK_ret, ev_asg, asgK_eq, ev_ret, ev_expr, ev_skip, ev_ifS, ev_if, ifK_t, ifK_f, ev_c, ev_yes, ev_and, ev_or, ev_not, cK_eq, ev_tb, ev_tru, ev_andV, ev_orV, ev_notV, bK_bool, notK_bool, ev_m2, m2K_eq, ev_m1, ev_nil, ev_cons, consK_eq, ev_tup, ev_lst, ev_slot, slotK_eq, ev_retO, retOK_eq, ev_name, ev_tup2, ev_tup3, ev_tgc, tgK_eq, ev_tgn, ev_call, callK_v1, callK_v2, callK_v3, callK2_v1, callK2_v2, callK2_v3, callK_b1, callK_b2, borK_eq, callK2_b1, callK2_b2, unK_eq, ev_bor, bor1K_eq, ev_lenO, lenOK_eq, listAt_eq, listK_eq, ev_ixO, ixO0_eq, ixO1_eq, ixO1'_eq, ixO2_0, ev_sub, subK0_eq, subK_eq, subK1_eq, subK2_eq, ev_app, appK0_eq, appK_eq, ev_ins, insK0_eq, insK'_eq, insK_eq, ev_ext, extK0_eq, extK_eq, ev_i1, ev_i2, i2K_eq, ev_lrg, ev_trg, ev_forS, one_eq, oneC_eq, oneE_t, oneE_f, oneX_eq, wipeE_nil, wipeE_cons, ev_comp, fnK_ret, fnK_next, mask_nil, mask_0, mask_1, v_addI, v_tupL, v_tupT, v_lstL, v_lstT, v_lenL, v_lenT, v_int, v_seqL, v_seqT, v_bool, v_truB, v_truI, v_eqI, v_eqB, v_neI, v_ixT, v_ixL, v_at0, v_at1, v_at2, v_at3, v_at4, v_at5, List.getElem?_cons_zero, List.getElem?_cons_succ, List.set_cons_zero, List.set_cons_succ, List.length_cons, List.length_nil, Nat.reduceAdd, Nat.reduceLT, Nat.reduceSub, if_true, List.map_cons, List.map_nil, List.cons_append, List.nil_append, List.replicate_succ, List.replicate_zero, Nat.zero_add, Nat.lt_add_left_iff_pos, Nat.zero_lt_succ, bodyK_eq])
  refine ⟨w10, w11, ?_⟩
  unfold lw24
  simp -implicitDefEqProofs only [bind_ok, lift_some, okK_eq, liftK_eq, ev_seq, seqK_next, seqK_ret, ev_asg, asgK_eq, ev_ret, ev_expr, ev_skip, ev_ifS, ev_if, ifK_t, ifK_f, ev_c, ev_yes, ev_and, ev_or, ev_not, cK_eq, ev_tb, ev_tru, ev_andV, ev_orV, ev_notV, bK_bool, notK_bool, ev_m2, m2K_eq, ev_m1, ev_nil, ev_cons, consK_eq, ev_tup, ev_lst, ev_slot, slotK_eq, ev_retO, retOK_eq, ev_name, ev_tup2, ev_tup3, ev_tgc, tgK_eq, ev_tgn, ev_call, callK_v1, callK_v2, callK_v3, callK2_v1, callK2_v2, callK2_v3, callK_b1, callK_b2, borK_eq, callK2_b1, callK2_b2, unK_eq, ev_bor, bor1K_eq, ev_lenO, lenOK_eq, listAt_eq, listK_eq, ev_ixO, ixO0_eq, ixO1_eq, ixO1'_eq, ixO2_0, ev_sub, subK0_eq, subK_eq, subK1_eq, subK2_eq, ev_app, appK0_eq, appK_eq, ev_ins, insK0_eq, insK'_eq, insK_eq, ev_ext, extK0_eq, extK_eq, ev_i1, ev_i2, i2K_eq, ev_lrg, ev_trg, ev_forS, one_eq, oneC_eq, oneE_t, oneE_f, oneX_eq, wipeE_nil, wipeE_cons, ev_comp, fnK_ret, fnK_next, mask_nil, mask_0, mask_1, v_addI, v_tupL, v_tupT, v_lstL, v_lstT, v_lenL, v_lenT, v_int, v_seqL, v_seqT, v_bool, v_truB, v_truI, v_eqI, v_eqB, v_neI, v_ixT, v_ixL, v_at0, v_at1, v_at2, v_at3, v_at4, v_at5, List.getElem?_cons_zero, List.getElem?_cons_succ, List.set_cons_zero, List.set_cons_succ, List.length_cons, List.length_nil, Nat.reduceAdd, Nat.reduceLT, Nat.reduceSub, if_true, List.map_cons, List.map_nil, List.cons_append, List.nil_append, List.replicate_succ, List.replicate_zero, Nat.zero_add, Nat.lt_add_left_iff_pos, Nat.zero_lt_succ, bodyK_eq, v_rg1 n (show n ≤ 1000000 by omega), e]
  rw [hI, List.length_range]
theorem st25 (hn : n < 7) (hm : m < 7) (hb : Bij n τ ι) : lw25 [some (scrD (ns.map .int)), some f, some (ordD n A), some (ordD m B), some (.int (n : Int)), some (.int (m : Int)), some (.list ((List.range (n + m)).map fun x => natD (chg n m x))), some (ordD (n + m) (topR n A B)), some (.tuple [ordD n A, ordD m B]), some (ordD (n * m) (prodR m A B)), y10, y11, y12, some (ordD N Z), some (.tuple ((List.range k).map fun i => natD (P i))), some (ordD k (indR P Z)), some (.tuple ((List.range k2).map fun i => natD (P2 i))), some (.list ((List.range n).map fun x => natD (τ x))), some (ordD n (movR ι A)), some (.list ((List.range (n * m)).map fun u => natD (ren m τ u))), none] = .ok (.ret (.bool true)) [some (scrD (ns.map .int)), some f, some (ordD n A), some (ordD m B), some (.int (n : Int)), some (.int (m : Int)), some (.list ((List.range (n + m)).map fun x => natD (chg n m x))), some (ordD (n + m) (topR n A B)), some (.tuple [ordD n A, ordD m B]), some (ordD (n * m) (prodR m A B)), y10, y11, y12, some (ordD N Z), some (.tuple ((List.range k).map fun i => natD (P i))), some (ordD k (indR P Z)), some (.tuple ((List.range k2).map fun i => natD (P2 i))), some (.list ((List.range n).map fun x => natD (τ x))), some (ordD n (movR ι A)), some (.list ((List.range (n * m)).map fun u => natD (ren m τ u))), none] := by
  have h := nm_le hn hm
  have s := same_ev 8 _ (pl_ord 4 (n * m) (prodR m (movR ι A) B) (by omega))
  have o1 : F__law_moved [ordD (n * m) (prodR m A B), .list ((List.range (n * m)).map fun u => natD (ren m τ u))] = .ok (ordD (n * m) (prodR m (movR ι A) B)) [none, none] := by rw [moved_ev (n * m) _ _ _ (ren_bij hb) (by omega), ren_eq hb]
  unfold lw25
  simp -implicitDefEqProofs only [bind_ok, lift_some, okK_eq, liftK_eq, ev_seq, seqK_next, seqK_ret, ev_asg, asgK_eq, ev_ret, ev_expr, ev_skip, ev_ifS, ev_if, ifK_t, ifK_f, ev_c, ev_yes, ev_and, ev_or, ev_not, cK_eq, ev_tb, ev_tru, ev_andV, ev_orV, ev_notV, bK_bool, notK_bool, ev_m2, m2K_eq, ev_m1, ev_nil, ev_cons, consK_eq, ev_tup, ev_lst, ev_slot, slotK_eq, ev_retO, retOK_eq, ev_name, ev_tup2, ev_tup3, ev_tgc, tgK_eq, ev_tgn, ev_call, callK_v1, callK_v2, callK_v3, callK2_v1, callK2_v2, callK2_v3, callK_b1, callK_b2, borK_eq, callK2_b1, callK2_b2, unK_eq, ev_bor, bor1K_eq, ev_lenO, lenOK_eq, listAt_eq, listK_eq, ev_ixO, ixO0_eq, ixO1_eq, ixO1'_eq, ixO2_0, ev_sub, subK0_eq, subK_eq, subK1_eq, subK2_eq, ev_app, appK0_eq, appK_eq, ev_ins, insK0_eq, insK'_eq, insK_eq, ev_ext, extK0_eq, extK_eq, ev_i1, ev_i2, i2K_eq, ev_lrg, ev_trg, ev_forS, one_eq, oneC_eq, oneE_t, oneE_f, oneX_eq, wipeE_nil, wipeE_cons, ev_comp, fnK_ret, fnK_next, mask_nil, mask_0, mask_1, v_addI, v_tupL, v_tupT, v_lstL, v_lstT, v_lenL, v_lenT, v_int, v_seqL, v_seqT, v_bool, v_truB, v_truI, v_eqI, v_eqB, v_neI, v_ixT, v_ixL, v_at0, v_at1, v_at2, v_at3, v_at4, v_at5, List.getElem?_cons_zero, List.getElem?_cons_succ, List.set_cons_zero, List.set_cons_succ, List.length_cons, List.length_nil, Nat.reduceAdd, Nat.reduceLT, Nat.reduceSub, if_true, List.map_cons, List.map_nil, List.cons_append, List.nil_append, List.replicate_succ, List.replicate_zero, Nat.zero_add, Nat.lt_add_left_iff_pos, Nat.zero_lt_succ, bodyK_eq, product_ev n m (movR ι A) B (by omega) (by omega) (by omega), o1, s]
end
theorem law_true (ns : List Int) (hl : ns.length ≤ 63) (hbits : ∀ z ∈ ns, Builtin.Int.intBits z ≤ 1048576) : ∃ fin, F_law [scrD (ns.map .int)] = .ok (.bool true) fin := by
  obtain ⟨f0, hf0, h0⟩ := st0 ns hl
  obtain ⟨f1, n, m, A, B, hf1, hn, hm, hA, hB, h1⟩ := st1 (ns := ns) hf0
  obtain ⟨f2, y10, y11, y12, hf2, h12⟩ := st12 (ns := ns) hf1 hn hm hA hB
  obtain ⟨f3, N, Z, hf3, hN, h13⟩ := st13 (ns := ns) (A := A) (B := B) (y10 := y10) (y11 := y11) (y12 := y12) hf2 hn hm
  have hnm := nm_le hn hm
  have hN36 : N ≤ 36 := by omega
  obtain ⟨f4, k, P, hf4, hk, hP, h15⟩ := st15 (ns := ns) (n := n) (m := m) (A := A) (B := B) (Z := Z) (y10 := y10) (y11 := y11) (y12 := y12) hf3 hN36
  obtain ⟨f5, k2, P2, hf5, hk2, hP2, h18⟩ := st18 (ns := ns) (n := n) (m := m) (N := N) (A := A) (B := B) (Z := Z) (P := P) (y10 := y10) (y11 := y11) (y12 := y12) hf4 (show k ≤ 36 by omega)
  obtain ⟨f6, τ, ι, hf6, hb, h20⟩ := st20 (ns := ns) (n := n) (m := m) (N := N) (k := k) (k2 := k2) (A := A) (B := B) (Z := Z) (P := P) (P2 := P2) (y10 := y10) (y11 := y11) (y12 := y12) hf5 hn
  obtain ⟨w10, w11, h24⟩ := st24 (ns := ns) (f := f6) (n := n) (m := m) (N := N) (k := k) (k2 := k2) (A := A) (B := B) (Z := Z) (P := P) (P2 := P2) (y10 := y10) (y11 := y11) (y12 := y12) hn hm hb
  unfold F_law
  rw [ev_fn, m_law_lq]
  show ∃ fin, fnK [0] (lq0 [some (scrD (ns.map .int)), none, none, none, none, none, none, none, none, none, none, none, none, none, none, none, none, none, none, none, none]) = _
  rw [lq0_go h0, lq1_go h1, lq2_go st2, lq3_go (st3 hn), lq4_go (st4 hn hm), lq5_go (st5 hn hm), lq6_go (st6 hn hm), lq7_go (st7 hn hm), lq8_go (st8 hn hm), lq9_go (st9 hn hm), lq10_go (st10 hn hm), lq11_go (st11 hn hm), lq12_go h12, lq13_go h13, lq14_go (st14 hn hm hN), lq15_go h15,
    lq16_go (st16 hN36 hk hP), lq17_go (st17 hN36 hk hP), lq18_go h18, lq19_go (st19 hN36 hk hP hk2 hP2), lq20_go h20, lq21_go (st21 hn hb), lq22_go (st22 hn hb), lq23_go st23, lq24_go h24]
  show ∃ fin, fnK [0] (lw25 _) = _
  rw [st25 hn hm hb]
  exact ⟨_, rfl⟩
end Mir

set_option maxHeartbeats 0
namespace Mir
open PySem PySem.Spec PyProof.Rows L2
theorem noCX {P : Program} {w : World} {H : Hp} {s : Shared} {e : Value} {s1 : Shared} (z : L2.CX P w [] H s (fun _ _ _ => False) e s1) : False := by
  obtain ⟨_, _, _, _, _, _, _, _, _, _, _, _, z⟩ := z
  exact z
def spLaw (K : PySem.W.Frag) : Sp := fun vs H Q _ => ∃ (a : Addr) (ns : List Int), vs = [.ref a] ∧ SqL K H a (ns.map V.int) ∧ ns.length ≤ 63 ∧ (∀ z ∈ ns, Builtin.Int.intBits z ≤ 1048576) ∧ ∀ H, Q (.bl true) H
theorem law_ok {P : Program} {w : World} {K : PySem.W.Frag} {mg : Str → Option Value} {base : Heap} {f : Addr} {fd : FuncData} (Fl : Fun K "law" "law" s_law f fd) (T : Tx K mg) : FnOk P w K mg base (L2.CX P w) 9 f fd ["script"] (spLaw K) :=
  (ok_law Fl T).imp fun vs H Q E h => by
    obtain ⟨a, ns, rfl, hS, hl, hb, k⟩ := h
    obtain ⟨fin, e⟩ := law_true ns hl hb
    refine ⟨rfl, H, fun _ => none, [scrD (ns.map .int)], ?_, ?_⟩
    · refine ⟨⟨fun _ => none, ?_, ?_, ?_⟩, fun _ _ z => z, ?_, ?_⟩
      · exact ⟨fun _ => none, fun _ => none, fun _ => .inl ⟨rfl, rfl⟩, ⟨.scr hS (RepL.of_ints ns), fun _ => rfl⟩, fun _ => rfl⟩
      all_goals first | (intro a o z; cases z; done) | (intro a o z; rfl) | (intro a o z y; cases z; done) | (intro a o z y; cases y; done)
    · rw [e]
      intro F' H' v _ s
      obtain ⟨r, _⟩ := s.flat rfl
      cases r
      exact k _
theorem all_mk {l : PySem.W.OpenLaw} {w : World} {K : PySem.W.Frag} {h : Heap} {mg : Str → Option Value} {fa f1 f2 f3 f4 f5 f6 f7 f8 f9 f10 f11 f12 f13 f14 f15 f16 f17 f18 f19 f20 f21 f22 : Addr} {tk_MOST : Tok} (X : K.In h) (G : h.Ns mainGlobals mg) (hfa : mg "law" = some (.ref fa))
    {od1 an1 od2 an2 od3 an3 od4 an4 od5 an5 od6 an6 od7 an7 od8 an8 od9 an9 od10 an10 od11 an11 od12 an12 od13 an13 od14 an14 od15 an15 od16 an16 od17 an17 od18 an18 od19 an19 od20 an20 od21 an21 od22 an22 : Option Addr} {sl1 sl2 sl3 sl4 sl5 sl6 sl7 sl8 sl9 sl10 sl11 sl12 sl13 sl14 sl15 sl16 sl17 sl18 sl19 sl20 sl21 sl22 : Array (Option Value)} {oc1 kV1 dc1 pm1 cd1 ct1 oc2 kV2 dc2 pm2 cd2 ct2 oc3 kV3 dc3 pm3 cd3 ct3 oc4 kV4 dc4 pm4 cd4 ct4 oc5 kV5 dc5 pm5 cd5 ct5 oc6 kV6 dc6 pm6 cd6 ct6 oc7 kV7 dc7 pm7 cd7 ct7 oc8 kV8 dc8 pm8 cd8 ct8 oc9 kV9 dc9 pm9 cd9 ct9 oc10 kV10 dc10 pm10 cd10 ct10 oc11 kV11 dc11 pm11 cd11 ct11 oc12 kV12 dc12 pm12 cd12 ct12 oc13 kV13 dc13 pm13 cd13 ct13 oc14 kV14 dc14 pm14 cd14 ct14 oc15 kV15 dc15 pm15 cd15 ct15 oc16 kV16 dc16 pm16 cd16 ct16 oc17 kV17 dc17 pm17 cd17 ct17 oc18 kV18 dc18 pm18 cd18 ct18 oc19 kV19 dc19 pm19 cd19 ct19 oc20 kV20 dc20 pm20 cd20 ct20 oc21 kV21 dc21 pm21 cd21 ct21 oc22 kV22 dc22 pm22 cd22 ct22 : Value}
    (a1 : PySem.W.nsIn K mainGlobals "points_in" = some (some (.ref f1))) (l1 : K.lookup f1 = some ⟨oc1, od1, .func (PySem.W.fnOf "points_in" "points_in" (defArgs s_points_in) (defBody s_points_in) (defScope s_points_in) .none kV1 dc1 pm1 an1 cd1 ct1), sl1⟩) (c1 : PySem.W.codeIn K cd1 "points_in" = true) (k1 : PySem.W.keepIn K (.ref f1) = true)
    (a2 : PySem.W.nsIn K mainGlobals "high_masks" = some (some (.ref f2))) (l2 : K.lookup f2 = some ⟨oc2, od2, .func (PySem.W.fnOf "high_masks" "high_masks" (defArgs s_high_masks) (defBody s_high_masks) (defScope s_high_masks) .none kV2 dc2 pm2 an2 cd2 ct2), sl2⟩) (c2 : PySem.W.codeIn K cd2 "high_masks" = true) (k2 : PySem.W.keepIn K (.ref f2) = true)
    (a3 : PySem.W.nsIn K mainGlobals "at_least_masks" = some (some (.ref f3))) (l3 : K.lookup f3 = some ⟨oc3, od3, .func (PySem.W.fnOf "at_least_masks" "at_least_masks" (defArgs s_at_least_masks) (defBody s_at_least_masks) (defScope s_at_least_masks) .none kV3 dc3 pm3 an3 cd3 ct3), sl3⟩) (c3 : PySem.W.codeIn K cd3 "at_least_masks" = true) (k3 : PySem.W.keepIn K (.ref f3) = true)
    (a4 : PySem.W.nsIn K mainGlobals "induced" = some (some (.ref f4))) (l4 : K.lookup f4 = some ⟨oc4, od4, .func (PySem.W.fnOf "induced" "induced" (defArgs s_induced) (defBody s_induced) (defScope s_induced) .none kV4 dc4 pm4 an4 cd4 ct4), sl4⟩) (c4 : PySem.W.codeIn K cd4 "induced" = true) (k4 : PySem.W.keepIn K (.ref f4) = true)
    (a5 : PySem.W.nsIn K mainGlobals "opposite" = some (some (.ref f5))) (l5 : K.lookup f5 = some ⟨oc5, od5, .func (PySem.W.fnOf "opposite" "opposite" (defArgs s_opposite) (defBody s_opposite) (defScope s_opposite) .none kV5 dc5 pm5 an5 cd5 ct5), sl5⟩) (c5 : PySem.W.codeIn K cd5 "opposite" = true) (k5 : PySem.W.keepIn K (.ref f5) = true)
    (a6 : PySem.W.nsIn K mainGlobals "_check_size" = some (some (.ref f6))) (l6 : K.lookup f6 = some ⟨oc6, od6, .func (PySem.W.fnOf "_check_size" "_check_size" (defArgs s__check_size) (defBody s__check_size) (defScope s__check_size) .none kV6 dc6 pm6 an6 cd6 ct6), sl6⟩) (c6 : PySem.W.codeIn K cd6 "_check_size" = true) (k6 : PySem.W.keepIn K (.ref f6) = true)
    (a7 : PySem.W.nsIn K mainGlobals "beside" = some (some (.ref f7))) (l7 : K.lookup f7 = some ⟨oc7, od7, .func (PySem.W.fnOf "beside" "beside" (defArgs s_beside) (defBody s_beside) (defScope s_beside) .none kV7 dc7 pm7 an7 cd7 ct7), sl7⟩) (c7 : PySem.W.codeIn K cd7 "beside" = true) (k7 : PySem.W.keepIn K (.ref f7) = true)
    (a8 : PySem.W.nsIn K mainGlobals "on_top" = some (some (.ref f8))) (l8 : K.lookup f8 = some ⟨oc8, od8, .func (PySem.W.fnOf "on_top" "on_top" (defArgs s_on_top) (defBody s_on_top) (defScope s_on_top) .none kV8 dc8 pm8 an8 cd8 ct8), sl8⟩) (c8 : PySem.W.codeIn K cd8 "on_top" = true) (k8 : PySem.W.keepIn K (.ref f8) = true)
    (a9 : PySem.W.nsIn K mainGlobals "_at_least" = some (some (.ref f9))) (l9 : K.lookup f9 = some ⟨oc9, od9, .func (PySem.W.fnOf "_at_least" "_at_least" (defArgs s__at_least) (defBody s__at_least) (defScope s__at_least) .none kV9 dc9 pm9 an9 cd9 ct9), sl9⟩) (c9 : PySem.W.codeIn K cd9 "_at_least" = true) (k9 : PySem.W.keepIn K (.ref f9) = true)
    (a10 : PySem.W.nsIn K mainGlobals "product" = some (some (.ref f10))) (l10 : K.lookup f10 = some ⟨oc10, od10, .func (PySem.W.fnOf "product" "product" (defArgs s_product) (defBody s_product) (defScope s_product) .none kV10 dc10 pm10 an10 cd10 ct10), sl10⟩) (c10 : PySem.W.codeIn K cd10 "product" = true) (k10 : PySem.W.keepIn K (.ref f10) = true)
    (a11 : PySem.W.nsIn K mainGlobals "_law_mix" = some (some (.ref f11))) (l11 : K.lookup f11 = some ⟨oc11, od11, .func (PySem.W.fnOf "_law_mix" "_law_mix" (defArgs s__law_mix) (defBody s__law_mix) (defScope s__law_mix) .none kV11 dc11 pm11 an11 cd11 ct11), sl11⟩) (c11 : PySem.W.codeIn K cd11 "_law_mix" = true) (k11 : PySem.W.keepIn K (.ref f11) = true)
    (a12 : PySem.W.nsIn K mainGlobals "_law_open" = some (some (.ref f12))) (l12 : K.lookup f12 = some ⟨oc12, od12, .func (PySem.W.fnOf "_law_open" "_law_open" (defArgs s__law_open) (defBody s__law_open) (defScope s__law_open) .none kV12 dc12 pm12 an12 cd12 ct12), sl12⟩) (c12 : PySem.W.codeIn K cd12 "_law_open" = true) (k12 : PySem.W.keepIn K (.ref f12) = true)
    (a13 : PySem.W.nsIn K mainGlobals "_law_pick" = some (some (.ref f13))) (l13 : K.lookup f13 = some ⟨oc13, od13, .func (PySem.W.fnOf "_law_pick" "_law_pick" (defArgs s__law_pick) (defBody s__law_pick) (defScope s__law_pick) .none kV13 dc13 pm13 an13 cd13 ct13), sl13⟩) (c13 : PySem.W.codeIn K cd13 "_law_pick" = true) (k13 : PySem.W.keepIn K (.ref f13) = true)
    (a14 : PySem.W.nsIn K mainGlobals "_law_of" = some (some (.ref f14))) (l14 : K.lookup f14 = some ⟨oc14, od14, .func (PySem.W.fnOf "_law_of" "_law_of" (defArgs s__law_of) (defBody s__law_of) (defScope s__law_of) .none kV14 dc14 pm14 an14 cd14 ct14), sl14⟩) (c14 : PySem.W.codeIn K cd14 "_law_of" = true) (k14 : PySem.W.keepIn K (.ref f14) = true)
    (a15 : PySem.W.nsIn K mainGlobals "_law_mixed" = some (some (.ref f15))) (l15 : K.lookup f15 = some ⟨oc15, od15, .func (PySem.W.fnOf "_law_mixed" "_law_mixed" (defArgs s__law_mixed) (defBody s__law_mixed) (defScope s__law_mixed) .none kV15 dc15 pm15 an15 cd15 ct15), sl15⟩) (c15 : PySem.W.codeIn K cd15 "_law_mixed" = true) (k15 : PySem.W.keepIn K (.ref f15) = true)
    (a16 : PySem.W.nsIn K mainGlobals "_law_same" = some (some (.ref f16))) (l16 : K.lookup f16 = some ⟨oc16, od16, .func (PySem.W.fnOf "_law_same" "_law_same" (defArgs s__law_same) (defBody s__law_same) (defScope s__law_same) .none kV16 dc16 pm16 an16 cd16 ct16), sl16⟩) (c16 : PySem.W.codeIn K cd16 "_law_same" = true) (k16 : PySem.W.keepIn K (.ref f16) = true)
    (a17 : PySem.W.nsIn K mainGlobals "_law_closed" = some (some (.ref f17))) (l17 : K.lookup f17 = some ⟨oc17, od17, .func (PySem.W.fnOf "_law_closed" "_law_closed" (defArgs s__law_closed) (defBody s__law_closed) (defScope s__law_closed) .none kV17 dc17 pm17 an17 cd17 ct17), sl17⟩) (c17 : PySem.W.codeIn K cd17 "_law_closed" = true) (k17 : PySem.W.keepIn K (.ref f17) = true)
    (a18 : PySem.W.nsIn K mainGlobals "_law_moved" = some (some (.ref f18))) (l18 : K.lookup f18 = some ⟨oc18, od18, .func (PySem.W.fnOf "_law_moved" "_law_moved" (defArgs s__law_moved) (defBody s__law_moved) (defScope s__law_moved) .none kV18 dc18 pm18 an18 cd18 ct18), sl18⟩) (c18 : PySem.W.codeIn K cd18 "_law_moved" = true) (k18 : PySem.W.keepIn K (.ref f18) = true)
    (a19 : PySem.W.nsIn K mainGlobals "_law_drawn" = some (some (.ref f19))) (l19 : K.lookup f19 = some ⟨oc19, od19, .func (PySem.W.fnOf "_law_drawn" "_law_drawn" (defArgs s__law_drawn) (defBody s__law_drawn) (defScope s__law_drawn) .none kV19 dc19 pm19 an19 cd19 ct19), sl19⟩) (c19 : PySem.W.codeIn K cd19 "_law_drawn" = true) (k19 : PySem.W.keepIn K (.ref f19) = true)
    (a20 : PySem.W.nsIn K mainGlobals "_law_turned" = some (some (.ref f20))) (l20 : K.lookup f20 = some ⟨oc20, od20, .func (PySem.W.fnOf "_law_turned" "_law_turned" (defArgs s__law_turned) (defBody s__law_turned) (defScope s__law_turned) .none kV20 dc20 pm20 an20 cd20 ct20), sl20⟩) (c20 : PySem.W.codeIn K cd20 "_law_turned" = true) (k20 : PySem.W.keepIn K (.ref f20) = true)
    (a21 : PySem.W.nsIn K mainGlobals "_law_induced" = some (some (.ref f21))) (l21 : K.lookup f21 = some ⟨oc21, od21, .func (PySem.W.fnOf "_law_induced" "_law_induced" (defArgs s__law_induced) (defBody s__law_induced) (defScope s__law_induced) .none kV21 dc21 pm21 an21 cd21 ct21), sl21⟩) (c21 : PySem.W.codeIn K cd21 "_law_induced" = true) (k21 : PySem.W.keepIn K (.ref f21) = true)
    (a22 : PySem.W.nsIn K mainGlobals "law" = some (some (.ref f22))) (l22 : K.lookup f22 = some ⟨oc22, od22, .func (PySem.W.fnOf "law" "law" (defArgs s_law) (defBody s_law) (defScope s_law) .none kV22 dc22 pm22 an22 cd22 ct22), sl22⟩) (c22 : PySem.W.codeIn K cd22 "law" = true) (k22 : PySem.W.keepIn K (.ref f22) = true)
    (z_all : PySem.W.nsIn K mainGlobals "all" = some none)
    (z_bool : PySem.W.nsIn K mainGlobals "bool" = some none)
    (z_enumerate : PySem.W.nsIn K mainGlobals "enumerate" = some none)
    (z_int : PySem.W.nsIn K mainGlobals "int" = some none)
    (z_isinstance : PySem.W.nsIn K mainGlobals "isinstance" = some none)
    (z_len : PySem.W.nsIn K mainGlobals "len" = some none)
    (z_list : PySem.W.nsIn K mainGlobals "list" = some none)
    (z_min : PySem.W.nsIn K mainGlobals "min" = some none)
    (z_range : PySem.W.nsIn K mainGlobals "range" = some none)
    (z_sorted : PySem.W.nsIn K mainGlobals "sorted" = some none)
    (z_str : PySem.W.nsIn K mainGlobals "str" = some none)
    (z_tuple : PySem.W.nsIn K mainGlobals "tuple" = some none)
    (z_zip : PySem.W.nsIn K mainGlobals "zip" = some none)
    (c_MOST : PySem.W.nsIn K mainGlobals "MOST" = some (some (.int 64 tk_MOST)))
    : ∃ fd : FuncData, (∀ (s : Shared) (v : Value), BindsTo s fd ⟨[v], []⟩ [("script", v)]) ∧ ∀ base : Heap, K.In base → base.Ns mainGlobals mg → FnOk l.prog w K mg base (L2.CX l.prog w) 9 fa fd ["script"] (spLaw K) := by
  have e := hfa.symm.trans (PySem.W.mg_of X G a22)
  cases e
  have U1 := fun_mk (st := s_points_in) l1 c1 k1
  have U2 := fun_mk (st := s_high_masks) l2 c2 k2
  have U3 := fun_mk (st := s_at_least_masks) l3 c3 k3
  have U4 := fun_mk (st := s_induced) l4 c4 k4
  have U5 := fun_mk (st := s_opposite) l5 c5 k5
  have U6 := fun_mk (st := s__check_size) l6 c6 k6
  have U7 := fun_mk (st := s_beside) l7 c7 k7
  have U8 := fun_mk (st := s_on_top) l8 c8 k8
  have U9 := fun_mk (st := s__at_least) l9 c9 k9
  have U10 := fun_mk (st := s_product) l10 c10 k10
  have U11 := fun_mk (st := s__law_mix) l11 c11 k11
  have U12 := fun_mk (st := s__law_open) l12 c12 k12
  have U13 := fun_mk (st := s__law_pick) l13 c13 k13
  have U14 := fun_mk (st := s__law_of) l14 c14 k14
  have U15 := fun_mk (st := s__law_mixed) l15 c15 k15
  have U16 := fun_mk (st := s__law_same) l16 c16 k16
  have U17 := fun_mk (st := s__law_closed) l17 c17 k17
  have U18 := fun_mk (st := s__law_moved) l18 c18 k18
  have U19 := fun_mk (st := s__law_drawn) l19 c19 k19
  have U20 := fun_mk (st := s__law_turned) l20 c20 k20
  have U21 := fun_mk (st := s__law_induced) l21 c21 k21
  have U22 := fun_mk (st := s_law) l22 c22 k22
  have b1 := U1.binds (ps := ["mask"]) fun _ _ _ _ _ _ us hl => match us, hl with | [_], _ => rfl
  have b2 := U2.binds (ps := ["order"]) fun _ _ _ _ _ _ us hl => match us, hl with | [_], _ => rfl
  have b3 := U3.binds (ps := ["order"]) fun _ _ _ _ _ _ us hl => match us, hl with | [_], _ => rfl
  have b4 := U4.binds (ps := ["order", "points"]) fun _ _ _ _ _ _ us hl => match us, hl with | [_, _], _ => rfl
  have b5 := U5.binds (ps := ["order"]) fun _ _ _ _ _ _ us hl => match us, hl with | [_], _ => rfl
  have b6 := U6.binds (ps := ["n"]) fun _ _ _ _ _ _ us hl => match us, hl with | [_], _ => rfl
  have b7 := U7.binds (ps := ["first", "second"]) fun _ _ _ _ _ _ us hl => match us, hl with | [_, _], _ => rfl
  have b8 := U8.binds (ps := ["first", "second"]) fun _ _ _ _ _ _ us hl => match us, hl with | [_, _], _ => rfl
  have b9 := U9.binds (ps := ["order"]) fun _ _ _ _ _ _ us hl => match us, hl with | [_], _ => rfl
  have b10 := U10.binds (ps := ["first", "second"]) fun _ _ _ _ _ _ us hl => match us, hl with | [_, _], _ => rfl
  have b11 := U11.binds (ps := ["seed", "turn"]) fun _ _ _ _ _ _ us hl => match us, hl with | [_, _], _ => rfl
  have b12 := U12.binds (ps := ["script"]) fun _ _ _ _ _ _ us hl => match us, hl with | [_], _ => rfl
  have b13 := U13.binds (ps := ["feed", "many"]) fun _ _ _ _ _ _ us hl => match us, hl with | [_, _], _ => rfl
  have b14 := U14.binds (ps := ["feed", "row"]) fun _ _ _ _ _ _ us hl => match us, hl with | [_, _], _ => rfl
  have b15 := U15.binds (ps := ["feed", "row"]) fun _ _ _ _ _ _ us hl => match us, hl with | [_, _], _ => rfl
  have b16 := U16.binds (ps := ["told", "due"]) fun _ _ _ _ _ _ us hl => match us, hl with | [_, _], _ => rfl
  have b17 := U17.binds (ps := ["n", "links"]) fun _ _ _ _ _ _ us hl => match us, hl with | [_, _], _ => rfl
  have b18 := U18.binds (ps := ["order", "to"]) fun _ _ _ _ _ _ us hl => match us, hl with | [_, _], _ => rfl
  have b19 := U19.binds (ps := ["feed", "n", "share"]) fun _ _ _ _ _ _ us hl => match us, hl with | [_, _, _], _ => rfl
  have b20 := U20.binds (ps := ["order"]) fun _ _ _ _ _ _ us hl => match us, hl with | [_], _ => rfl
  have b21 := U21.binds (ps := ["order", "points"]) fun _ _ _ _ _ _ us hl => match us, hl with | [_, _], _ => rfl
  have T : Tx K mg := {
    z_all := PySem.W.mg_none_of X G z_all
    z_bool := PySem.W.mg_none_of X G z_bool
    z_enumerate := PySem.W.mg_none_of X G z_enumerate
    z_int := PySem.W.mg_none_of X G z_int
    z_isinstance := PySem.W.mg_none_of X G z_isinstance
    z_len := PySem.W.mg_none_of X G z_len
    z_list := PySem.W.mg_none_of X G z_list
    z_min := PySem.W.mg_none_of X G z_min
    z_range := PySem.W.mg_none_of X G z_range
    z_sorted := PySem.W.mg_none_of X G z_sorted
    z_str := PySem.W.mg_none_of X G z_str
    z_tuple := PySem.W.mg_none_of X G z_tuple
    z_zip := PySem.W.mg_none_of X G z_zip
    c_MOST := ⟨_, PySem.W.mg_of X G c_MOST⟩
    a_points_in := f1
    d_points_in := _
    u_points_in := U1
    g_points_in := PySem.W.mg_of X G a1
    k_points_in := k1
    b_points_in := b1
    a_high_masks := f2
    d_high_masks := _
    u_high_masks := U2
    g_high_masks := PySem.W.mg_of X G a2
    k_high_masks := k2
    b_high_masks := b2
    a_at_least_masks := f3
    d_at_least_masks := _
    u_at_least_masks := U3
    g_at_least_masks := PySem.W.mg_of X G a3
    k_at_least_masks := k3
    b_at_least_masks := b3
    a_induced := f4
    d_induced := _
    u_induced := U4
    g_induced := PySem.W.mg_of X G a4
    k_induced := k4
    b_induced := b4
    a_opposite := f5
    d_opposite := _
    u_opposite := U5
    g_opposite := PySem.W.mg_of X G a5
    k_opposite := k5
    b_opposite := b5
    a__check_size := f6
    d__check_size := _
    u__check_size := U6
    g__check_size := PySem.W.mg_of X G a6
    k__check_size := k6
    b__check_size := b6
    a_beside := f7
    d_beside := _
    u_beside := U7
    g_beside := PySem.W.mg_of X G a7
    k_beside := k7
    b_beside := b7
    a_on_top := f8
    d_on_top := _
    u_on_top := U8
    g_on_top := PySem.W.mg_of X G a8
    k_on_top := k8
    b_on_top := b8
    a__at_least := f9
    d__at_least := _
    u__at_least := U9
    g__at_least := PySem.W.mg_of X G a9
    k__at_least := k9
    b__at_least := b9
    a_product := f10
    d_product := _
    u_product := U10
    g_product := PySem.W.mg_of X G a10
    k_product := k10
    b_product := b10
    a__law_mix := f11
    d__law_mix := _
    u__law_mix := U11
    g__law_mix := PySem.W.mg_of X G a11
    k__law_mix := k11
    b__law_mix := b11
    a__law_open := f12
    d__law_open := _
    u__law_open := U12
    g__law_open := PySem.W.mg_of X G a12
    k__law_open := k12
    b__law_open := b12
    a__law_pick := f13
    d__law_pick := _
    u__law_pick := U13
    g__law_pick := PySem.W.mg_of X G a13
    k__law_pick := k13
    b__law_pick := b13
    a__law_of := f14
    d__law_of := _
    u__law_of := U14
    g__law_of := PySem.W.mg_of X G a14
    k__law_of := k14
    b__law_of := b14
    a__law_mixed := f15
    d__law_mixed := _
    u__law_mixed := U15
    g__law_mixed := PySem.W.mg_of X G a15
    k__law_mixed := k15
    b__law_mixed := b15
    a__law_same := f16
    d__law_same := _
    u__law_same := U16
    g__law_same := PySem.W.mg_of X G a16
    k__law_same := k16
    b__law_same := b16
    a__law_closed := f17
    d__law_closed := _
    u__law_closed := U17
    g__law_closed := PySem.W.mg_of X G a17
    k__law_closed := k17
    b__law_closed := b17
    a__law_moved := f18
    d__law_moved := _
    u__law_moved := U18
    g__law_moved := PySem.W.mg_of X G a18
    k__law_moved := k18
    b__law_moved := b18
    a__law_drawn := f19
    d__law_drawn := _
    u__law_drawn := U19
    g__law_drawn := PySem.W.mg_of X G a19
    k__law_drawn := k19
    b__law_drawn := b19
    a__law_turned := f20
    d__law_turned := _
    u__law_turned := U20
    g__law_turned := PySem.W.mg_of X G a20
    k__law_turned := k20
    b__law_turned := b20
    a__law_induced := f21
    d__law_induced := _
    u__law_induced := U21
    g__law_induced := PySem.W.mg_of X G a21
    k__law_induced := k21
    b__law_induced := b21
  }
  exact ⟨PySem.W.fnOf "law" "law" (defArgs s_law) (defBody s_law) (defScope s_law) .none kV22 dc22 pm22 an22 cd22 ct22, fun s v => .of_eq rfl, fun base _ _ => law_ok U22 T⟩
end Mir
open PySem PySem.W PyProof.Rows in
set_option maxRecDepth 100000 in
set_option maxHeartbeats 0 in
set_option pp.maxSteps 300 in
theorem PySem.Challenge.cw_chaincore_k04_parts_and_turns_of_makers_holds : PySem.Challenge.rw_chaincore_k04_parts_and_turns_of_makers.Holds := by
  w_on; o_law; k_head; (case hw => w_witness2)
  k_fill
  refine L2.walk_ofB (l := PySem.Challenge.rw_chaincore_k04_parts_and_turns_of_makers) (n := 63) (k := 9) (x := "script") (CX := fun w => L2.CX PySem.Challenge.rw_chaincore_k04_parts_and_turns_of_makers.prog w) (sp := fun w => Mir.spLaw _) rfl (by decide) rfl ⟨rfl, by decide, by decide⟩ (fun w h Y => PySem.W.kIn_of Y) ?F (fun _ _ a ns hl hb _ hS => ⟨a, ns, rfl, hS, hl, hb, fun _ => rfl⟩) (fun _ _ _ _ _ z => Mir.noCX z)
  case F =>
    intro w mg fa h KX G hmg
    refine' Mir.all_mk KX G hmg ?a1 ?l1 ?c1 ?k1 ?a2 ?l2 ?c2 ?k2 ?a3 ?l3 ?c3 ?k3 ?a4 ?l4 ?c4 ?k4 ?a5 ?l5 ?c5 ?k5 ?a6 ?l6 ?c6 ?k6 ?a7 ?l7 ?c7 ?k7 ?a8 ?l8 ?c8 ?k8 ?a9 ?l9 ?c9 ?k9 ?a10 ?l10 ?c10 ?k10 ?a11 ?l11 ?c11 ?k11 ?a12 ?l12 ?c12 ?k12 ?a13 ?l13 ?c13 ?k13 ?a14 ?l14 ?c14 ?k14 ?a15 ?l15 ?c15 ?k15 ?a16 ?l16 ?c16 ?k16 ?a17 ?l17 ?c17 ?k17 ?a18 ?l18 ?c18 ?k18 ?a19 ?l19 ?c19 ?k19 ?a20 ?l20 ?c20 ?k20 ?a21 ?l21 ?c21 ?k21 ?a22 ?l22 ?c22 ?k22 ?z_all ?z_bool ?z_enumerate ?z_int ?z_isinstance ?z_len ?z_list ?z_min ?z_range ?z_sorted ?z_str ?z_tuple ?z_zip ?c_MOST
    (case a1 => k_is)
    (case l1 => k_is)
    (case c1 => k_is)
    (case k1 => k_is)
    (case a2 => k_is)
    (case l2 => k_is)
    (case c2 => k_is)
    (case k2 => k_is)
    (case a3 => k_is)
    (case l3 => k_is)
    (case c3 => k_is)
    (case k3 => k_is)
    (case a4 => k_is)
    (case l4 => k_is)
    (case c4 => k_is)
    (case k4 => k_is)
    (case a5 => k_is)
    (case l5 => k_is)
    (case c5 => k_is)
    (case k5 => k_is)
    (case a6 => k_is)
    (case l6 => k_is)
    (case c6 => k_is)
    (case k6 => k_is)
    (case a7 => k_is)
    (case l7 => k_is)
    (case c7 => k_is)
    (case k7 => k_is)
    (case a8 => k_is)
    (case l8 => k_is)
    (case c8 => k_is)
    (case k8 => k_is)
    (case a9 => k_is)
    (case l9 => k_is)
    (case c9 => k_is)
    (case k9 => k_is)
    (case a10 => k_is)
    (case l10 => k_is)
    (case c10 => k_is)
    (case k10 => k_is)
    (case a11 => k_is)
    (case l11 => k_is)
    (case c11 => k_is)
    (case k11 => k_is)
    (case a12 => k_is)
    (case l12 => k_is)
    (case c12 => k_is)
    (case k12 => k_is)
    (case a13 => k_is)
    (case l13 => k_is)
    (case c13 => k_is)
    (case k13 => k_is)
    (case a14 => k_is)
    (case l14 => k_is)
    (case c14 => k_is)
    (case k14 => k_is)
    (case a15 => k_is)
    (case l15 => k_is)
    (case c15 => k_is)
    (case k15 => k_is)
    (case a16 => k_is)
    (case l16 => k_is)
    (case c16 => k_is)
    (case k16 => k_is)
    (case a17 => k_is)
    (case l17 => k_is)
    (case c17 => k_is)
    (case k17 => k_is)
    (case a18 => k_is)
    (case l18 => k_is)
    (case c18 => k_is)
    (case k18 => k_is)
    (case a19 => k_is)
    (case l19 => k_is)
    (case c19 => k_is)
    (case k19 => k_is)
    (case a20 => k_is)
    (case l20 => k_is)
    (case c20 => k_is)
    (case k20 => k_is)
    (case a21 => k_is)
    (case l21 => k_is)
    (case c21 => k_is)
    (case k21 => k_is)
    (case a22 => k_is)
    (case l22 => k_is)
    (case c22 => k_is)
    (case k22 => k_is)
    (case z_all => k_is)
    (case z_bool => k_is)
    (case z_enumerate => k_is)
    (case z_int => k_is)
    (case z_isinstance => k_is)
    (case z_len => k_is)
    (case z_list => k_is)
    (case z_min => k_is)
    (case z_range => k_is)
    (case z_sorted => k_is)
    (case z_str => k_is)
    (case z_tuple => k_is)
    (case z_zip => k_is)
    (case c_MOST => k_is)