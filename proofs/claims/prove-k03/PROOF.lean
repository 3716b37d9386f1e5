import PyProof.Rows.All
import Wide.All
import OpenK.AllK
import Wide.FinOn
import HandS.ForMost
import HandS.HeadHook2
import HandS.TupLe
import HandS.SortKw
import KE.SortKeyHeap
import HandS.IsInst
import HandS.Style
import HandS.Zip
import HandS.DictComp
import HandS.TryOnly
import HandS.Defaults
import HandS.TupAny
import HandS.Comp
import HandS.Small
import HandS.ExcOwn
import HandS.Head0
import HandS.Head1
import HandS.Head2
import HandS.HeadEnd
import HandS.EndBits
import PySem.Challenge.RW_canlead_k03_rules_and_books_told
section
set_option Elab.async false
set_option linter.all false
set_option maxRecDepth 100000
namespace Z
open PySem PySem.Spec PyProof.Rows L2

/-! ### data, owned things -/
abbrev D := PyData
inductive O where
  | v (d : D)
  | lst (xs : List D)
  | dic (kvs : List (Key × D))
  | obj (c : Str) (fs : List (Str × O))
  | exn (c : Str) (fs : List (Str × D))
  | hole

/-- as plain data -/
def O.fz : O → Option D
  | .v d => some d
  | .lst xs => some (.list xs)
  | _ => none

/-! ### sub-heaps -/
def Sub (G H : Hp) : Prop := ∀ a o, G a = some o → H a = some o
theorem Sub.refl (H : Hp) : Sub H H := fun _ _ e => e
theorem Sub.trans {A B C : Hp} (h : Sub A B) (k : Sub B C) : Sub A C := fun a o e => k a o (h a o e)
theorem Sub.upd {H : Hp} {p : Addr} {o : HO} (h : H p = none) : Sub H (upd H p o) := fun b x e => by
  rw [upd_ne (ne_of_none e h)]
  exact e
theorem Sub.seqL {K : PySem.W.Frag} {G H : Hp} (k : Sub G H) {a : Addr} {xs : List V} (h : SqL K G a xs) : SqL K H a xs := by
  rcases h with (e | ⟨o, e⟩) | h
  · exact .inl (.inl (k _ _ e))
  · exact .inl (.inr ⟨o, k _ _ e⟩)
  · exact .inr h
theorem Sub.seqT {K : PySem.W.Frag} {G H : Hp} (k : Sub G H) {a : Addr} {xs : List V} (h : SqT K G a xs) : SqT K H a xs := by
  rcases h with (e | ⟨o, e⟩) | h
  · exact .inl (.inl (k _ _ e))
  · exact .inl (.inr ⟨o, k _ _ e⟩)
  · exact .inr h
mutual
theorem Sub.dp {K : PySem.W.Frag} {G H : Hp} (k : Sub G H) : ∀ {v : V} {d : D}, Dp K G v d → Dp K H v d
  | _, _, .non => .non
  | _, _, .bl b => .bl b
  | _, _, .int i => .int i
  | _, _, .str x => .str x
  | _, _, .lst h r => .lst (k.seqL h) (k.dpAll r)
  | _, _, .tup h r => .tup (k.seqT h) (k.dpAll r)
theorem Sub.dpAll {K : PySem.W.Frag} {G H : Hp} (k : Sub G H) : ∀ {vs : List V} {ds : List D}, DpAll K G vs ds → DpAll K H vs ds
  | _, _, .nil => .nil
  | _, _, .cons h r => .cons (k.dp h) (k.dpAll r)
end
theorem dpAll_length {K : PySem.W.Frag} {H : Hp} : ∀ {vs : List V} {ds : List D}, DpAll K H vs ds → vs.length = ds.length
  | _, _, .nil => rfl
  | _, _, .cons _ r => congrArg Nat.succ (dpAll_length r)
theorem dpAll_append {K : PySem.W.Frag} {H : Hp} : ∀ {vs ws : List V} {ds es : List D}, DpAll K H vs ds → DpAll K H ws es → DpAll K H (vs ++ ws) (ds ++ es)
  | _, _, _, _, .nil, s => s
  | _, _, _, _, .cons h r, s => .cons h (dpAll_append r s)
theorem dpAll_get {K : PySem.W.Frag} {H : Hp} : ∀ {vs : List V} {ds : List D} {i : Nat} {d : D}, DpAll K H vs ds → ds[i]? = some d → ∃ v, vs[i]? = some v ∧ Dp K H v d
  | _, _, _, _, .nil, e => by cases e
  | _, _, 0, _, .cons h _, e => by cases e; exact ⟨_, rfl, h⟩
  | _, _, i + 1, d, .cons _ r, e => by
    obtain ⟨v, h1, h2⟩ := dpAll_get (i := i) (d := d) r (by simpa using e)
    exact ⟨v, by simpa using h1, h2⟩

/-- a dict's entries -/
inductive KvAll (K : PySem.W.Frag) (H : Hp) : List (Key × V) → List (Key × D) → Prop
  | nil : KvAll K H [] []
  | cons {k : Key} {v : V} {d : D} {r : List (Key × V)} {s : List (Key × D)} : Dp K H v d → KvAll K H r s → KvAll K H ((k, v) :: r) ((k, d) :: s)
theorem Sub.kv {K : PySem.W.Frag} {G H : Hp} (k : Sub G H) : ∀ {r : List (Key × V)} {s : List (Key × D)}, KvAll K G r s → KvAll K H r s
  | _, _, .nil => .nil
  | _, _, .cons h r => .cons (k.dp h) (k.kv r)

/-! ### how an owned thing stands: Hv what may be seen by all, H all, as the addresses that are its own -/
mutual
def Rp (K : PySem.W.Frag) (Hv H : Hp) : O → V → List Addr → Prop
  | .v d, x, as => Dp K Hv x d ∧ as = []
  | .lst ds, x, as => ∃ a vs, x = .ref a ∧ as = [a] ∧ H a = some (.lst vs) ∧ DpAll K Hv vs ds
  | .dic kvs, x, as => ∃ a ks, x = .ref a ∧ as = [a] ∧ H a = some (.dK ks) ∧ KvAll K Hv ks kvs
  | .obj c fs, x, as => ∃ a dx gs bs, x = .ref a ∧ as = a :: dx :: bs ∧ H a = some (.ins (He.ga K c) dx gs) ∧ H dx = some (.own a) ∧ RpF K Hv H fs gs bs
  | .exn _ _, _, _ => False
  | .hole, _, as => as = []
def RpF (K : PySem.W.Frag) (Hv H : Hp) : List (Str × O) → List (Str × V) → List Addr → Prop
  | [], gs, as => gs = [] ∧ as = []
  | (x, o) :: fs, gs, as => ∃ v r a b, gs = (x, v) :: r ∧ as = a ++ b ∧ Rp K Hv H o v a ∧ RpF K Hv H fs r b
end
/-- a slot -/
def RpO (K : PySem.W.Frag) (Hv H : Hp) (o : O) (s : Option V) (as : List Addr) : Prop := (o = .hole ∧ as = []) ∨ ∃ v, s = some v ∧ Rp K Hv H o v as
def RpL (K : PySem.W.Frag) (Hv H : Hp) : List O → List (Option V) → List Addr → Prop
  | [], ss, as => ss = [] ∧ as = []
  | o :: L, ss, as => ∃ s r a b, ss = s :: r ∧ as = a ++ b ∧ RpO K Hv H o s a ∧ RpL K Hv H L r b
end Z
end
section
set_option Elab.async false
set_option linter.all false
set_option maxRecDepth 100000
namespace Z
open PySem PySem.Spec PyProof.Rows L2

/-- the entry of a def: all, what may be seen, what is handed in as one's own -/
structure Fr0 where
  H : Hp
  V : Hp
  inn : List Addr

structure Own (F : Fr0) (Hv H : Hp) (as : List Addr) : Prop where
  sub : Sub Hv H
  nd : as.Nodup
  hid : ∀ a ∈ as, Hv a = none
  keep : ∀ a o, F.H a = some o → a ∉ F.inn → H a = some o
  vis : Sub F.V Hv
  new : ∀ a o, Hv a = some o → F.V a = some o ∨ F.H a = none ∨ a ∈ F.inn
  own : ∀ a ∈ as, F.H a = none ∨ a ∈ F.inn
  there : ∀ a o, F.H a = some o → ∃ o', H a = some o'
  at_ : ∀ a ∈ as, ∃ o, H a = some o

theorem Own.sublist {F : Fr0} {Hv H : Hp} {as bs : List Addr} (h : Own F Hv H as) (k : bs.Sublist as) : Own F Hv H bs :=
  ⟨h.sub, h.nd.sublist k, fun a m => h.hid a (k.subset m), h.keep, h.vis, h.new, fun a m => h.own a (k.subset m), h.there, fun a m => h.at_ a (k.subset m)⟩
theorem Own.perm {F : Fr0} {Hv H : Hp} {as bs : List Addr} (h : Own F Hv H as) (k : as.Perm bs) : Own F Hv H bs :=
  ⟨h.sub, (k.nodup_iff).mp h.nd, fun a m => h.hid a (k.mem_iff.mpr m), h.keep, h.vis, h.new, fun a m => h.own a (k.mem_iff.mpr m), h.there, fun a m => h.at_ a (k.mem_iff.mpr m)⟩
theorem Own.start {H V : Hp} {as : List Addr} (s : Sub V H) (nd : as.Nodup) (hid : ∀ a ∈ as, V a = none) (at_ : ∀ a ∈ as, ∃ o, H a = some o) : Own ⟨H, V, as⟩ V H as :=
  ⟨s, nd, hid, fun _ _ e _ => e, Sub.refl V, fun _ _ e => .inl e, fun _ m => .inr m, fun _ o e => ⟨o, e⟩, at_⟩
theorem Own.vnone {F : Fr0} {Hv H : Hp} {as : List Addr} {p : Addr} (h : Own F Hv H as) (hp : H p = none) : Hv p = none := by
  cases e : Hv p with
  | none => rfl
  | some u => rw [h.sub _ _ e] at hp; cases hp
theorem Own.fnone {F : Fr0} {Hv H : Hp} {as : List Addr} {p : Addr} (h : Own F Hv H as) (hp : H p = none) : F.H p = none := by
  cases e : F.H p with
  | none => rfl
  | some u =>
    obtain ⟨o', z⟩ := h.there _ _ e
    rw [hp] at z; cases z
theorem Own.nmem {F : Fr0} {Hv H : Hp} {as : List Addr} {p : Addr} (h : Own F Hv H as) (hp : H p = none) : p ∉ as := fun m => by
  obtain ⟨o, e⟩ := h.at_ _ m
  rw [hp] at e; cases e
/-- what is new at p is seen -/
theorem Own.seen {F : Fr0} {Hv H : Hp} {as : List Addr} {p : Addr} {o : HO} (h : Own F Hv H as) (hp : H p = none) : Own F (upd Hv p o) (upd H p o) as := by
  have vp := h.vnone hp
  have fp := h.fnone hp
  refine ⟨fun a u e => ?_, h.nd, fun a m => ?_, fun a u e n => ?_, fun a u e => ?_, fun a u e => ?_, h.own, fun a u e => ?_, fun a m => ?_⟩
  · by_cases q : a = p
    · subst q; rw [upd_same] at e ⊢; exact e
    · rw [upd_ne q] at e ⊢; exact h.sub _ _ e
  · rw [upd_ne (show a ≠ p from fun z => h.nmem hp (z ▸ m))]; exact h.hid a m
  · rw [upd_ne (ne_of_none e fp)]; exact h.keep _ _ e n
  · rw [upd_ne (ne_of_none (h.vis _ _ e) vp)]; exact h.vis _ _ e
  · by_cases q : a = p
    · subst q; exact .inr (.inl fp)
    · rw [upd_ne q] at e; exact h.new _ _ e
  · rw [upd_ne (ne_of_none e fp)]; exact h.there _ _ e
  · rw [upd_ne (show a ≠ p from fun z => h.nmem hp (z ▸ m))]; exact h.at_ a m
/-- what is new at p is one's own -/
theorem Own.fresh {F : Fr0} {Hv H : Hp} {as : List Addr} {p : Addr} {o : HO} (h : Own F Hv H as) (hp : H p = none) : Own F Hv (upd H p o) (p :: as) := by
  have vp := h.vnone hp
  have fp := h.fnone hp
  refine ⟨h.sub.trans (Sub.upd hp), List.nodup_cons.mpr ⟨h.nmem hp, h.nd⟩, fun a m => ?_, fun a u e n => ?_, h.vis, h.new, fun a m => ?_, fun a u e => ?_, fun a m => ?_⟩
  · rcases List.mem_cons.mp m with e | m
    · rw [e]; exact vp
    · exact h.hid a m
  · rw [upd_ne (ne_of_none e fp)]; exact h.keep _ _ e n
  · rcases List.mem_cons.mp m with e | m
    · rw [e]; exact .inl fp
    · exact h.own a m
  · rw [upd_ne (ne_of_none e fp)]; exact h.there _ _ e
  · rcases List.mem_cons.mp m with e | m
    · rw [e]; exact ⟨o, upd_same⟩
    · rw [upd_ne (show a ≠ p from fun z => h.nmem hp (z ▸ m))]; exact h.at_ a m
/-- a thing of one's own is changed -/
theorem Own.write {F : Fr0} {Hv H : Hp} {as : List Addr} {p : Addr} {o : HO} (h : Own F Hv H as) (hp : p ∈ as) : Own F Hv (upd H p o) as := by
  have vp := h.hid _ hp
  refine ⟨fun a u e => ?_, h.nd, h.hid, fun a u e n => ?_, h.vis, h.new, h.own, fun a u e => ?_, fun a m => ?_⟩
  · rw [upd_ne (ne_of_none e vp)]; exact h.sub _ _ e
  · rw [upd_ne (show a ≠ p from fun z => ?_)]
    · exact h.keep _ _ e n
    · subst z
      rcases h.own _ hp with q | q
      · rw [e] at q; cases q
      · exact n q
  · by_cases q : a = p
    · subst q; exact ⟨o, upd_same⟩
    · rw [upd_ne q]; exact h.there _ _ e
  · by_cases q : a = p
    · subst q; exact ⟨o, upd_same⟩
    · rw [upd_ne q]; exact h.at_ _ m
/-- what is one's own is laid open -/
def opened (Hv H : Hp) (xs : List Addr) : Hp := fun a => if a ∈ xs then H a else Hv a
theorem opened_sub {F : Fr0} {Hv H : Hp} {xs bs : List Addr} (h : Own F Hv H (xs ++ bs)) : Sub Hv (opened Hv H xs) := fun a o e => by
  unfold opened
  split
  · exact h.sub _ _ e
  · exact e
theorem Own.opens {F : Fr0} {Hv H : Hp} {xs bs : List Addr} (h : Own F Hv H (xs ++ bs)) : Own F (opened Hv H xs) H bs := by
  have nd := List.nodup_append.mp h.nd
  refine ⟨fun a o e => ?_, nd.2.1, fun a m => ?_, h.keep, h.vis.trans (opened_sub h), fun a o e => ?_, fun a m => h.own a (List.mem_append_right _ m), h.there, fun a m => h.at_ a (List.mem_append_right _ m)⟩
  · unfold opened at e
    split at e
    · exact e
    · exact h.sub _ _ e
  · unfold opened
    rw [if_neg (fun z => nd.2.2 a z a m rfl)]
    exact h.hid a (List.mem_append_right _ m)
  · unfold opened at e
    split at e
    · rename_i m
      exact .inr (h.own a (List.mem_append_left _ m))
    · exact h.new _ _ e

/-! ### what a thing leans on -/
mutual
theorem Rp.keep {K : PySem.W.Frag} {Hv H Hv' H' : Hp} (k : Sub Hv Hv') : ∀ {o : O} {x : V} {as : List Addr}, (∀ a ∈ as, H' a = H a) → Rp K Hv H o x as → Rp K Hv' H' o x as
  | .v d, x, as, _, h => by
    unfold Rp at h ⊢
    exact ⟨k.dp h.1, h.2⟩
  | .lst ds, x, as, q, h => by
    unfold Rp at h ⊢
    obtain ⟨a, vs, e1, e2, e3, r⟩ := h
    refine ⟨a, vs, e1, e2, ?_, k.dpAll r⟩
    rw [q a (by rw [e2]; simp)]; exact e3
  | .dic kvs, x, as, q, h => by
    unfold Rp at h ⊢
    obtain ⟨a, ks, e1, e2, e3, r⟩ := h
    refine ⟨a, ks, e1, e2, ?_, k.kv r⟩
    rw [q a (by rw [e2]; simp)]; exact e3
  | .obj c fs, x, as, q, h => by
    unfold Rp at h ⊢
    obtain ⟨a, dx, gs, bs, e1, e2, e3, e4, r⟩ := h
    refine ⟨a, dx, gs, bs, e1, e2, ?_, ?_, RpF.keep k (fun b m => q b (by rw [e2]; simp [m])) r⟩
    · rw [q a (by rw [e2]; simp)]; exact e3
    · rw [q dx (by rw [e2]; simp)]; exact e4
  | .exn _ _, x, as, _, h => by
    unfold Rp at h
    exact h.elim
  | .hole, x, as, _, h => by
    unfold Rp at h ⊢
    exact h
theorem RpF.keep {K : PySem.W.Frag} {Hv H Hv' H' : Hp} (k : Sub Hv Hv') : ∀ {fs : List (Str × O)} {gs : List (Str × V)} {as : List Addr}, (∀ a ∈ as, H' a = H a) → RpF K Hv H fs gs as → RpF K Hv' H' fs gs as
  | [], gs, as, _, h => by
    unfold RpF at h ⊢
    exact h
  | (y, o) :: fs, gs, as, q, h => by
    unfold RpF at h ⊢
    obtain ⟨v, r, a, b, e1, e2, h1, h2⟩ := h
    exact ⟨v, r, a, b, e1, e2, Rp.keep k (fun z m => q z (by rw [e2]; simp [m])) h1, RpF.keep k (fun z m => q z (by rw [e2]; simp [m])) h2⟩
end
theorem RpO.keep {K : PySem.W.Frag} {Hv H Hv' H' : Hp} (k : Sub Hv Hv') {o : O} {s : Option V} {as : List Addr} (q : ∀ a ∈ as, H' a = H a) (h : RpO K Hv H o s as) : RpO K Hv' H' o s as := by
  rcases h with h | ⟨v, e, h⟩
  · exact .inl h
  · exact .inr ⟨v, e, h.keep k q⟩
theorem RpL.keep {K : PySem.W.Frag} {Hv H Hv' H' : Hp} (k : Sub Hv Hv') : ∀ {L : List O} {ss : List (Option V)} {as : List Addr}, (∀ a ∈ as, H' a = H a) → RpL K Hv H L ss as → RpL K Hv' H' L ss as
  | [], _, _, _, h => h
  | o :: L, ss, as, q, h => by
    obtain ⟨s, r, a, b, e1, e2, h1, h2⟩ := h
    exact ⟨s, r, a, b, e1, e2, h1.keep k (fun z m => q z (by rw [e2]; simp [m])), RpL.keep k (fun z m => q z (by rw [e2]; simp [m])) h2⟩
theorem RpL.length {K : PySem.W.Frag} {Hv H : Hp} : ∀ {L : List O} {ss : List (Option V)} {as : List Addr}, RpL K Hv H L ss as → ss.length = L.length
  | [], _, _, h => by rw [h.1]; rfl
  | o :: L, ss, as, h => by
    obtain ⟨s, r, a, b, e1, e2, h1, h2⟩ := h
    rw [e1]
    exact congrArg Nat.succ (RpL.length h2)
theorem RpL.append {K : PySem.W.Frag} {Hv H : Hp} : ∀ {L M : List O} {ss tt : List (Option V)} {as bs : List Addr}, RpL K Hv H L ss as → RpL K Hv H M tt bs → RpL K Hv H (L ++ M) (ss ++ tt) (as ++ bs)
  | [], _, _, _, _, _, h, k => by
    obtain ⟨e1, e2⟩ := h
    subst e1 e2
    exact k
  | o :: L, M, ss, tt, as, bs, h, k => by
    obtain ⟨s, r, a, b, e1, e2, h1, h2⟩ := h
    subst e1 e2
    exact ⟨s, r ++ tt, a, b ++ bs, rfl, List.append_assoc .., h1, RpL.append h2 k⟩
theorem RpL.split {K : PySem.W.Frag} {Hv H : Hp} : ∀ {L M : List O} {ss : List (Option V)} {as : List Addr}, RpL K Hv H (L ++ M) ss as → ∃ s1 s2 a1 a2, ss = s1 ++ s2 ∧ as = a1 ++ a2 ∧ RpL K Hv H L s1 a1 ∧ RpL K Hv H M s2 a2
  | [], _, ss, as, h => ⟨[], ss, [], as, rfl, rfl, ⟨rfl, rfl⟩, h⟩
  | o :: L, M, ss, as, h => by
    obtain ⟨s, r, a, b, e1, e2, h1, h2⟩ := h
    obtain ⟨s1, s2, a1, a2, q1, q2, k1, k2⟩ := RpL.split h2
    subst e1 e2 q1 q2
    exact ⟨s :: s1, s2, a ++ a1, a2, rfl, (List.append_assoc ..).symm, ⟨s, s1, a, a1, rfl, rfl, h1, k1⟩, k2⟩
/-- one slot, and another thing in its place -/
theorem RpL.at_ {K : PySem.W.Frag} {Hv H : Hp} : ∀ {L : List O} {ss : List (Option V)} {as : List Addr} {i : Nat} {o : O}, RpL K Hv H L ss as → L[i]? = some o →
    ∃ s a b, ss[i]? = some s ∧ as.Perm (a ++ b) ∧ RpO K Hv H o s a ∧ ∀ (Hv' H' : Hp), Sub Hv Hv' → (∀ z ∈ b, H' z = H z) → ∀ o' s' a', RpO K Hv' H' o' s' a' → ∃ c, c.Perm (a' ++ b) ∧ RpL K Hv' H' (L.set i o') (ss.set i s') c
  | [], _, _, i, o, _, e => by cases e
  | p :: L, ss, as, 0, o, h, e => by
    cases e
    obtain ⟨s, r, a, b, e1, e2, h1, h2⟩ := h
    subst e1 e2
    exact ⟨s, a, b, rfl, List.Perm.refl _, h1, fun Hv' H' k q o' s' a' h' => ⟨a' ++ b, List.Perm.refl _, s', r, a', b, rfl, rfl, h', h2.keep k q⟩⟩
  | p :: L, ss, as, i + 1, o, h, e => by
    obtain ⟨s, r, a, b, e1, e2, h1, h2⟩ := h
    subst e1 e2
    obtain ⟨s0, a0, b0, g1, g2, g3, g4⟩ := RpL.at_ (i := i) (o := o) h2 (by simpa using e)
    have pm : ∀ (x : List Addr), (a ++ (x ++ b0)).Perm (x ++ (a ++ b0)) := fun x => by
      rw [← List.append_assoc, ← List.append_assoc]
      exact (List.perm_append_comm).append_right b0
    refine ⟨s0, a0, a ++ b0, by simpa using g1, (g2.append_left a).trans (pm a0), g3, fun Hv' H' k q o' s' a' h' => ?_⟩
    obtain ⟨c, c1, c2⟩ := g4 Hv' H' k (fun z m => q z (List.mem_append_right _ m)) o' s' a' h'
    refine ⟨a ++ c, (c1.append_left a).trans (pm a'), s, r.set i s', a, c, rfl, rfl, h1.keep k (fun z m => q z (List.mem_append_left _ m)), c2⟩
end Z
end
section
set_option Elab.async false
set_option linter.all false
set_option maxRecDepth 100000
namespace Z
open PySem PySem.Spec PyProof.Rows L2

def SI (K : PySem.W.Frag) (F : Fr0) (Hv H : Hp) (L : List O) (ss : List (Option V)) : Prop := ∃ as, RpL K Hv H L ss as ∧ Own F Hv H as

section
variable {K : PySem.W.Frag} {F : Fr0} {Hv H : Hp} {L : List O} {ss : List (Option V)} {o : O} {s : Option V} {x : V} {d : D}
theorem SI.length (h : SI K F Hv H L ss) : ss.length = L.length := let ⟨_, r, _⟩ := h; r.length
theorem SI.sub (h : SI K F Hv H L ss) : Sub Hv H := let ⟨_, _, w⟩ := h; w.sub
theorem SI.pushV (h : SI K F Hv H L ss) (r : Dp K Hv x d) : SI K F Hv H (.v d :: L) (some x :: ss) := by
  obtain ⟨as, r1, w⟩ := h
  refine ⟨[] ++ as, ⟨some x, ss, [], as, rfl, rfl, .inr ⟨x, rfl, ?_⟩, r1⟩, w⟩
  unfold Rp
  exact ⟨r, rfl⟩
theorem SI.pushHole (h : SI K F Hv H L ss) : SI K F Hv H (.hole :: L) (s :: ss) := by
  obtain ⟨as, r1, w⟩ := h
  exact ⟨[] ++ as, ⟨s, ss, [], as, rfl, rfl, .inl ⟨rfl, rfl⟩, r1⟩, w⟩
theorem SI.pop (h : SI K F Hv H (o :: L) (s :: ss)) : SI K F Hv H L ss := by
  obtain ⟨as, ⟨s', r, a, b, e1, e2, h1, h2⟩, w⟩ := h
  obtain ⟨rfl, rfl⟩ := List.cons.inj e1
  subst e2
  exact ⟨b, h2, w.sublist (List.sublist_append_right a b)⟩
theorem SI.headV (h : SI K F Hv H (.v d :: L) (some x :: ss)) : Dp K Hv x d := by
  obtain ⟨as, ⟨s', r, a, b, e1, e2, h1, h2⟩, w⟩ := h
  obtain ⟨rfl, rfl⟩ := List.cons.inj e1
  rcases h1 with ⟨e, _⟩ | ⟨v, e, h1⟩
  · cases e
  · cases e
    unfold Rp at h1
    exact h1.1
theorem SI.freshT {p : Addr} {vs : List V} {ds : List D} (h : SI K F Hv H L ss) (r : DpAll K Hv vs ds) (hp : H p = none) : SI K F (upd Hv p (.tup vs)) (upd H p (.tup vs)) (.v (.tuple ds) :: L) (some (.ref p) :: ss) := by
  obtain ⟨as, r1, w⟩ := h
  have w' := w.seen (o := .tup vs) hp
  have k : Sub Hv (upd Hv p (.tup vs)) := Sub.upd (w.vnone hp)
  refine SI.pushV ⟨as, r1.keep k fun a m => ?_, w'⟩ (.tup (SqT.of upd_same) (k.dpAll r))
  rw [upd_ne (show a ≠ p from fun z => w.nmem hp (z ▸ m))]
theorem SI.freshL {p : Addr} {vs : List V} {ds : List D} (h : SI K F Hv H L ss) (r : DpAll K Hv vs ds) (hp : H p = none) : SI K F Hv (upd H p (.lst vs)) (.lst ds :: L) (some (.ref p) :: ss) := by
  obtain ⟨as, r1, w⟩ := h
  refine ⟨[p] ++ as, ⟨some (.ref p), ss, [p], as, rfl, rfl, .inr ⟨_, rfl, ?_⟩, r1.keep (Sub.refl _) fun a m => ?_⟩, w.fresh hp⟩
  · unfold Rp
    exact ⟨p, vs, rfl, rfl, upd_same, r⟩
  · rw [upd_ne (show a ≠ p from fun z => w.nmem hp (z ▸ m))]
theorem SI.freshD {p : Addr} {vs : List (Key × V)} {ds : List (Key × D)} (h : SI K F Hv H L ss) (r : KvAll K Hv vs ds) (hp : H p = none) : SI K F Hv (upd H p (.dK vs)) (.dic ds :: L) (some (.ref p) :: ss) := by
  obtain ⟨as, r1, w⟩ := h
  refine ⟨[p] ++ as, ⟨some (.ref p), ss, [p], as, rfl, rfl, .inr ⟨_, rfl, ?_⟩, r1.keep (Sub.refl _) fun a m => ?_⟩, w.fresh hp⟩
  · unfold Rp
    exact ⟨p, vs, rfl, rfl, upd_same, r⟩
  · rw [upd_ne (show a ≠ p from fun z => w.nmem hp (z ▸ m))]
/-- the heap grows by what nobody tracks here -/
theorem SI.grow {p : Addr} {u : HO} (h : SI K F Hv H L ss) (hp : H p = none) : SI K F Hv (upd H p u) L ss := by
  obtain ⟨as, r1, w⟩ := h
  refine ⟨as, r1.keep (Sub.refl _) fun a m => ?_, (w.fresh hp).sublist (List.sublist_cons_self _ _)⟩
  rw [upd_ne (show a ≠ p from fun z => w.nmem hp (z ▸ m))]
/-- a thing of one's own becomes plain data -/
theorem SI.fz (h : SI K F Hv H (o :: L) (some x :: ss)) (e : o.fz = some d) : ∃ Hv', Sub Hv Hv' ∧ SI K F Hv' H (.v d :: L) (some x :: ss) := by
  cases o with
  | v d' => cases e; exact ⟨Hv, Sub.refl _, h⟩
  | lst xs =>
    cases e
    obtain ⟨as, ⟨s', r, a, b, e1, e2, h1, h2⟩, w⟩ := h
    obtain ⟨rfl, rfl⟩ := List.cons.inj e1
    rcases h1 with ⟨e, _⟩ | ⟨v, e, h1⟩
    · cases e
    · cases e
      unfold Rp at h1
      obtain ⟨p, vs, rfl, rfl, hp, r⟩ := h1
      subst e2
      have k := opened_sub w
      refine ⟨opened Hv H [p], k, SI.pushV ⟨b, h2.keep k fun _ _ => rfl, w.opens⟩ (.lst (SqL.of ?_) (k.dpAll r))⟩
      unfold opened
      rw [if_pos (by simp)]
      exact hp
  | dic _ => cases e
  | obj _ _ => cases e
  | exn _ _ => cases e
  | hole => cases e
/-- slot i is data: it is there -/
theorem SI.getV {i : Nat} (h : SI K F Hv H L ss) (e : L[i]? = some (.v d)) : ∃ x, ss[i]? = some (some x) ∧ Dp K Hv x d := by
  obtain ⟨as, r, w⟩ := h
  obtain ⟨s, a, b, e1, _, h1, _⟩ := r.at_ e
  rcases h1 with ⟨q, _⟩ | ⟨x, q, h1⟩
  · cases q
  · subst q
    unfold Rp at h1
    exact ⟨x, e1, h1.1⟩
theorem SI.getL {i : Nat} {ds : List D} (h : SI K F Hv H L ss) (e : L[i]? = some (.lst ds)) : ∃ a vs, ss[i]? = some (some (.ref a)) ∧ H a = some (.lst vs) ∧ DpAll K Hv vs ds ∧
    ∀ vs' ds', DpAll K Hv vs' ds' → SI K F Hv (upd H a (.lst vs')) (L.set i (.lst ds')) ss := by
  obtain ⟨as, r, w⟩ := h
  obtain ⟨s, a, b, e1, pm, h1, st⟩ := r.at_ e
  rcases h1 with ⟨q, _⟩ | ⟨x, q, h1⟩
  · cases q
  · subst q
    unfold Rp at h1
    obtain ⟨p, vs, rfl, rfl, hp, r⟩ := h1
    refine ⟨p, vs, e1, hp, r, fun vs' ds' r' => ?_⟩
    have w1 := w.perm pm
    have np : p ∉ b := (List.nodup_cons.mp w1.nd).1
    obtain ⟨c, c1, c2⟩ := st Hv (upd H p (.lst vs')) (Sub.refl _) (fun z m => upd_ne (show z ≠ p from fun q => np (q ▸ m))) (.lst ds') (some (.ref p)) [p] (.inr ⟨_, rfl, by unfold Rp; exact ⟨p, vs', rfl, rfl, upd_same, r'⟩⟩)
    have es : ss.set i (some (.ref p)) = ss := by
      apply List.ext_getElem?
      intro j
      by_cases q : i = j
      · subst q
        rw [List.getElem?_set_self (by
          rw [List.getElem?_eq_some_iff] at e1
          exact e1.1), e1]
      · rw [List.getElem?_set_ne q]
    rw [es] at c2
    exact ⟨c, c2, (w1.write (by simp)).perm c1.symm⟩
theorem SI.getK {i : Nat} {ds : List (Key × D)} (h : SI K F Hv H L ss) (e : L[i]? = some (.dic ds)) : ∃ a vs, ss[i]? = some (some (.ref a)) ∧ H a = some (.dK vs) ∧ KvAll K Hv vs ds ∧
    ∀ vs' ds', KvAll K Hv vs' ds' → SI K F Hv (upd H a (.dK vs')) (L.set i (.dic ds')) ss := by
  obtain ⟨as, r, w⟩ := h
  obtain ⟨s, a, b, e1, pm, h1, st⟩ := r.at_ e
  rcases h1 with ⟨q, _⟩ | ⟨x, q, h1⟩
  · cases q
  · subst q
    unfold Rp at h1
    obtain ⟨p, vs, rfl, rfl, hp, r⟩ := h1
    refine ⟨p, vs, e1, hp, r, fun vs' ds' r' => ?_⟩
    have w1 := w.perm pm
    have np : p ∉ b := (List.nodup_cons.mp w1.nd).1
    obtain ⟨c, c1, c2⟩ := st Hv (upd H p (.dK vs')) (Sub.refl _) (fun z m => upd_ne (show z ≠ p from fun q => np (q ▸ m))) (.dic ds') (some (.ref p)) [p] (.inr ⟨_, rfl, by unfold Rp; exact ⟨p, vs', rfl, rfl, upd_same, r'⟩⟩)
    have es : ss.set i (some (.ref p)) = ss := by
      apply List.ext_getElem?
      intro j
      by_cases q : i = j
      · subst q
        rw [List.getElem?_set_self (by
          rw [List.getElem?_eq_some_iff] at e1
          exact e1.1), e1]
      · rw [List.getElem?_set_ne q]
    rw [es] at c2
    exact ⟨c, c2, (w1.write (by simp)).perm c1.symm⟩
/-- slot i goes to the front, a hole stays -/
theorem SI.take {i : Nat} (h : SI K F Hv H L ss) (e : L[i]? = some o) : ∃ s, ss[i]? = some s ∧ SI K F Hv H (o :: L.set i .hole) (s :: ss) := by
  obtain ⟨as, r, w⟩ := h
  obtain ⟨s, a, b, e1, pm, h1, st⟩ := r.at_ e
  obtain ⟨c, c1, c2⟩ := st Hv H (Sub.refl _) (fun _ _ => rfl) .hole s [] (.inl ⟨rfl, rfl⟩)
  have es : ss.set i s = ss := by
    apply List.ext_getElem?
    intro j
    by_cases q : i = j
    · subst q
      rw [List.getElem?_set_self (by
        rw [List.getElem?_eq_some_iff] at e1
        exact e1.1), e1]
    · rw [List.getElem?_set_ne q]
  rw [es] at c2
  exact ⟨s, e1, a ++ c, ⟨s, ss, a, c, rfl, rfl, h1, c2⟩, w.perm (pm.trans ((c1.symm).append_left a))⟩
/-- the front thing is stored in slot i -/
theorem SI.put {i : Nat} (h : SI K F Hv H (o :: L) (s :: ss)) (hi : i < L.length) : SI K F Hv H (L.set i o) (ss.set i s) := by
  obtain ⟨as, ⟨s', r, a, b, e1, e2, h1, h2⟩, w⟩ := h
  obtain ⟨rfl, rfl⟩ := List.cons.inj e1
  subst e2
  obtain ⟨s0, a0, b0, g1, g2, g3, g4⟩ := h2.at_ (List.getElem?_eq_getElem hi)
  obtain ⟨c, c1, c2⟩ := g4 Hv H (Sub.refl _) (fun _ _ => rfl) o s a h1
  refine ⟨c, c2, (Own.sublist (w.perm (g2.append_left a)) ?_).perm c1.symm⟩
  exact (List.sublist_append_right a0 b0).append_left a
end
end Z
end
section
set_option Elab.async false
set_option linter.all false
set_option maxRecDepth 100000
namespace Z
open PySem PySem.Spec PyProof.Rows L2

/-! ### data in the model's own heap -/
mutual
def Sees (h : Heap) : D → Value → Prop
  | .none, u => u = .none
  | .bool b, u => u = .bool b
  | .int i, u => ∃ t, u = .int i t
  | .str x, u => ∃ t, u = .str x t
  | .list ds, u => ∃ a its, u = .ref a ∧ h.IsList a its ∧ SeesAll h ds its.toList
  | .tuple ds, u => ∃ a its, u = .ref a ∧ h.IsTuple a its ∧ SeesAll h ds its.toList
  | .dict _, _ => False
def SeesAll (h : Heap) : List D → List Value → Prop
  | [], us => us = []
  | d :: ds, us => ∃ u r, us = u :: r ∧ Sees h d u ∧ SeesAll h ds r
end
section
variable {X : Cx} {pins : List (Addr × Obj)} {σ : L2.St} {H : Hp} {s : Shared}
mutual
theorem Dp.sees (I : Inv X pins σ H s) : ∀ (d : D) (v : V) (u : Value), Dp X.K H v d → RelV v u → Sees s.heap d u
  | .none, _, _, h, r => by cases h; cases r; unfold Sees; rfl
  | .bool b, _, _, h, r => by cases h; cases r; unfold Sees; rfl
  | .int i, _, _, h, r => by cases h; unfold Sees; exact r
  | .str x, _, _, h, r => by cases h; unfold Sees; exact r
  | .list ds, _, _, h, r => by
    cases h with
    | lst hs ha =>
      cases r
      obtain ⟨its, rv, p, _⟩ := I.list hs
      unfold Sees
      exact ⟨_, its.toArray, rfl, p.isList, by simpa using Dp.seesAll I ds _ its ha rv⟩
  | .tuple ds, _, _, h, r => by
    cases h with
    | tup hs ha =>
      cases r
      obtain ⟨its, rv, p, _⟩ := I.tuple hs
      unfold Sees
      exact ⟨_, its.toArray, rfl, p, by simpa using Dp.seesAll I ds _ its ha rv⟩
  | .dict _, _, _, h, _ => by cases h
theorem Dp.seesAll (I : Inv X pins σ H s) : ∀ (ds : List D) (vs : List V) (us : List Value), DpAll X.K H vs ds → Vals vs us → SeesAll s.heap ds us
  | [], _, _, h, r => by cases h; cases r; unfold SeesAll; rfl
  | d :: ds, _, _, h, r => by
    cases h with
    | cons h1 h2 =>
      cases r with
      | cons r1 r2 =>
        unfold SeesAll
        exact ⟨_, _, rfl, Dp.sees I d _ _ h1 r1, Dp.seesAll I ds _ _ h2 r2⟩
end
end
theorem SeesAll.length {h : Heap} : ∀ {ds : List D} {us : List Value}, SeesAll h ds us → us.length = ds.length
  | [], us, e => by unfold SeesAll at e; rw [e]; rfl
  | d :: ds, us, e => by
    unfold SeesAll at e
    obtain ⟨u, r, e1, _, e2⟩ := e
    rw [e1]
    exact congrArg Nat.succ e2.length
theorem SeesAll.get {h : Heap} : ∀ {ds : List D} {us : List Value} {i : Nat} (h1 : i < ds.length) (h2 : i < us.length), SeesAll h ds us → Sees h ds[i] us[i]
  | d :: ds, us, 0, h1, h2, e => by
    unfold SeesAll at e
    obtain ⟨u, r, e1, e2, _⟩ := e
    subst e1
    exact e2
  | d :: ds, us, i + 1, h1, h2, e => by
    unfold SeesAll at e
    obtain ⟨u, r, e1, _, e2⟩ := e
    subst e1
    exact SeesAll.get (i := i) (by simpa using h1) (by simpa using h2) e2

/-! ### depth -/
mutual
def dp : D → Nat
  | .list ds | .tuple ds => dpAll ds + 1
  | _ => 0
def dpAll : List D → Nat
  | [] => 0
  | d :: ds => max (dp d) (dpAll ds)
end
theorem dp_le {ds : List D} {d : D} (h : d ∈ ds) : dp d ≤ dpAll ds := by
  induction ds with
  | nil => cases h
  | cons e es ih =>
    unfold dpAll
    rcases List.mem_cons.mp h with q | q
    · subst q; omega
    · have := ih q; omega
theorem eqvAll_iff : ∀ (ds es : List D), PyData.eqvAll ds es = ((List.range (min ds.length es.length)).all (fun j => PyData.eqv (ds.getD j .none) (es.getD j .none)) && ds.length == es.length)
  | [], [] => by simp [PyData.eqvAll]
  | [], e :: es => by simp [PyData.eqvAll]
  | d :: ds, [] => by simp [PyData.eqvAll]
  | d :: ds, e :: es => by
    have ih := eqvAll_iff ds es
    unfold PyData.eqvAll
    rw [ih]
    have hm : min (d :: ds).length (e :: es).length = min ds.length es.length + 1 := by
      simp only [List.length_cons]; omega
    rw [hm, List.range_succ_eq_map, List.all_cons, List.all_map]
    have hl : ((d :: ds).length == (e :: es).length) = (ds.length == es.length) := by
      simp [List.length_cons]
    rw [hl, Bool.and_assoc]
    rfl

mutual
theorem Sees.inj {h : Heap} : ∀ {d e : D} {u : Value}, Sees h d u → Sees h e u → d = e
  | .none, e, u, k, q => by
    unfold Sees at k; subst k
    cases e <;> unfold Sees at q <;> first | rfl | (cases q; done) | (obtain ⟨t, z⟩ := q; cases z; done) | (obtain ⟨a, its, z, _⟩ := q; cases z; done)
  | .bool b, e, u, k, q => by
    unfold Sees at k; subst k
    cases e <;> unfold Sees at q <;> first | (cases q; rfl) | (cases q; done) | (obtain ⟨t, z⟩ := q; cases z; done) | (obtain ⟨a, its, z, _⟩ := q; cases z; done)
  | .int i, e, u, k, q => by
    unfold Sees at k; obtain ⟨t0, rfl⟩ := k
    cases e <;> unfold Sees at q <;> first | (cases q; done) | (obtain ⟨t, z⟩ := q; cases z; rfl) | (obtain ⟨t, z⟩ := q; cases z; done) | (obtain ⟨a, its, z, _⟩ := q; cases z; done)
  | .str x, e, u, k, q => by
    unfold Sees at k; obtain ⟨t0, rfl⟩ := k
    cases e <;> unfold Sees at q <;> first | (cases q; done) | (obtain ⟨t, z⟩ := q; cases z; rfl) | (obtain ⟨t, z⟩ := q; cases z; done) | (obtain ⟨a, its, z, _⟩ := q; cases z; done)
  | .list ds, e, u, k, q => by
    unfold Sees at k; obtain ⟨a0, its0, rfl, p0, r0⟩ := k
    cases e with
    | list es =>
      unfold Sees at q
      obtain ⟨a, its, z, p, r⟩ := q
      cases z
      obtain ⟨o, h1, c1, n1, d1⟩ := p0
      obtain ⟨o2, h2, c2, n2, d2⟩ := p
      rw [h1] at h2; cases h2
      rw [d1] at d2; injection d2 with d2 _
      subst d2
      rw [SeesAll.inj r0 r]
    | tuple es =>
      unfold Sees at q
      obtain ⟨a, its, z, p, r⟩ := q
      cases z
      obtain ⟨o, h1, c1, _⟩ := p0
      obtain ⟨o2, h2, c2, _⟩ := p
      rw [h1] at h2; cases h2
      rw [c1] at c2
      exact absurd (Value.type.inj c2) (by decide)
    | _ => unfold Sees at q; first | (cases q; done) | (obtain ⟨t, z⟩ := q; cases z; done)
  | .tuple ds, e, u, k, q => by
    unfold Sees at k; obtain ⟨a0, its0, rfl, p0, r0⟩ := k
    cases e with
    | tuple es =>
      unfold Sees at q
      obtain ⟨a, its, z, p, r⟩ := q
      cases z
      obtain ⟨o, h1, c1, n1, d1⟩ := p0
      obtain ⟨o2, h2, c2, n2, d2⟩ := p
      rw [h1] at h2; cases h2
      rw [d1] at d2; injection d2 with d2 _
      subst d2
      rw [SeesAll.inj r0 r]
    | list es =>
      unfold Sees at q
      obtain ⟨a, its, z, p, r⟩ := q
      cases z
      obtain ⟨o, h1, c1, _⟩ := p0
      obtain ⟨o2, h2, c2, _⟩ := p
      rw [h1] at h2; cases h2
      rw [c1] at c2
      exact absurd (Value.type.inj c2) (by decide)
    | _ => unfold Sees at q; first | (cases q; done) | (obtain ⟨t, z⟩ := q; cases z; done)
  | .dict _, _, _, k, _ => by unfold Sees at k; exact k.elim
theorem SeesAll.inj {h : Heap} : ∀ {ds es : List D} {us : List Value}, SeesAll h ds us → SeesAll h es us → ds = es
  | [], es, us, k, q => by
    unfold SeesAll at k; subst k
    cases es with
    | nil => rfl
    | cons e es => unfold SeesAll at q; obtain ⟨u, r, z, _⟩ := q; cases z
  | d :: ds, es, us, k, q => by
    unfold SeesAll at k; obtain ⟨u, r, rfl, k1, k2⟩ := k
    cases es with
    | nil => unfold SeesAll at q; cases q
    | cons e es =>
      unfold SeesAll at q
      obtain ⟨u', r', z, q1, q2⟩ := q
      cases z
      rw [Sees.inj k1 q1, SeesAll.inj k2 q2]
end
mutual
theorem Sees.eqv_refl {h : Heap} : ∀ {d : D} {u : Value}, Sees h d u → PyData.eqv d d = true
  | .none, _, _ => by simp [PyData.eqv]
  | .bool _, _, _ => by simp [PyData.eqv]
  | .int _, _, _ => by simp [PyData.eqv]
  | .str _, _, _ => by simp [PyData.eqv]
  | .list ds, u, k => by
    unfold Sees at k; obtain ⟨_, _, _, _, r⟩ := k
    unfold PyData.eqv
    exact SeesAll.eqv_refl r
  | .tuple ds, u, k => by
    unfold Sees at k; obtain ⟨_, _, _, _, r⟩ := k
    unfold PyData.eqv
    exact SeesAll.eqv_refl r
  | .dict _, _, k => by unfold Sees at k; exact k.elim
theorem SeesAll.eqv_refl {h : Heap} : ∀ {ds : List D} {us : List Value}, SeesAll h ds us → PyData.eqvAll ds ds = true
  | [], _, _ => by simp [PyData.eqvAll]
  | d :: ds, us, k => by
    unfold SeesAll at k; obtain ⟨u, r, _, k1, k2⟩ := k
    unfold PyData.eqvAll
    rw [k1.eqv_refl, k2.eqv_refl]; rfl
end

/-! ### == -/

open SeqAt in
theorem Sees.eqN {s : Shared} : ∀ (n : Nat) (d e : D) (u v : Value) (A : Around), dp d ≤ n → A.units + min (dp d) (dp e) < cLine → Sees s.heap d u → Sees s.heap e v → EqAt A s u v (PyData.eqv d e)
  | _, .none, e, u, v, A, _, hu, h, k => by
    unfold Sees at h; subst h
    cases e with
    | none => unfold Sees at k; subst k; unfold PyData.eqv; exact EqAt.same _
    | bool b => unfold Sees at k; subst k; unfold PyData.eqv; exact EqAt.none_bool b
    | int i => unfold Sees at k; obtain ⟨t, rfl⟩ := k; unfold PyData.eqv; exact EqAt.none_int i t
    | str x => unfold Sees at k; obtain ⟨t, rfl⟩ := k; unfold PyData.eqv; exact EqAt.none_str x t
    | list es => unfold Sees at k; obtain ⟨a, its, rfl, p, _⟩ := k; unfold PyData.eqv; exact EqAt.none_list p (by omega)
    | tuple es => unfold Sees at k; obtain ⟨a, its, rfl, p, _⟩ := k; unfold PyData.eqv; exact EqAt.none_tuple p (by omega)
    | dict es => unfold Sees at k; exact k.elim
  | _, .bool b, e, u, v, A, _, hu, h, k => by
    unfold Sees at h; subst h
    cases e with
    | none => unfold Sees at k; subst k; unfold PyData.eqv; exact EqAt.bool_none b
    | bool c => unfold Sees at k; subst k; unfold PyData.eqv; exact EqAt.bool_bool b c
    | int i => unfold Sees at k; obtain ⟨t, rfl⟩ := k; unfold PyData.eqv; exact EqAt.bool_int b i t
    | str x => unfold Sees at k; obtain ⟨t, rfl⟩ := k; unfold PyData.eqv; exact EqAt.bool_str b x t
    | list es => unfold Sees at k; obtain ⟨a, its, rfl, p, _⟩ := k; unfold PyData.eqv; exact EqAt.bool_list b p (by omega)
    | tuple es => unfold Sees at k; obtain ⟨a, its, rfl, p, _⟩ := k; unfold PyData.eqv; exact EqAt.bool_tuple b p (by omega)
    | dict es => unfold Sees at k; exact k.elim
  | _, .int j, e, u, v, A, _, hu, h, k => by
    unfold Sees at h; obtain ⟨t', rfl⟩ := h
    cases e with
    | none => unfold Sees at k; subst k; unfold PyData.eqv; exact EqAt.int_none j t'
    | bool c => unfold Sees at k; subst k; unfold PyData.eqv; exact EqAt.int_bool j t' c
    | int i => unfold Sees at k; obtain ⟨t, rfl⟩ := k; unfold PyData.eqv; exact EqAt.int_int j t' i t
    | str x => unfold Sees at k; obtain ⟨t, rfl⟩ := k; unfold PyData.eqv; exact EqAt.int_str j t' x t
    | list es => unfold Sees at k; obtain ⟨a, its, rfl, p, _⟩ := k; unfold PyData.eqv; exact EqAt.int_list j t' p (by omega)
    | tuple es => unfold Sees at k; obtain ⟨a, its, rfl, p, _⟩ := k; unfold PyData.eqv; exact EqAt.int_tuple j t' p (by omega)
    | dict es => unfold Sees at k; exact k.elim
  | _, .str y, e, u, v, A, _, hu, h, k => by
    unfold Sees at h; obtain ⟨t', rfl⟩ := h
    cases e with
    | none => unfold Sees at k; subst k; unfold PyData.eqv; exact EqAt.str_none y t'
    | bool c => unfold Sees at k; subst k; unfold PyData.eqv; exact EqAt.str_bool y t' c
    | int i => unfold Sees at k; obtain ⟨t, rfl⟩ := k; unfold PyData.eqv; exact EqAt.str_int y t' i t
    | str x => unfold Sees at k; obtain ⟨t, rfl⟩ := k; unfold PyData.eqv; exact EqAt.str_str y t' x t
    | list es => unfold Sees at k; obtain ⟨a, its, rfl, p, _⟩ := k; unfold PyData.eqv; exact EqAt.str_list y t' p (by omega)
    | tuple es => unfold Sees at k; obtain ⟨a, its, rfl, p, _⟩ := k; unfold PyData.eqv; exact EqAt.str_tuple y t' p (by omega)
    | dict es => unfold Sees at k; exact k.elim
  | 0, .list ds, e, u, v, A, hn, hu, h, k => by
    unfold dp at hn; omega
  | n + 1, .list ds, e, u, v, A, hn, hu, h, k => by
    unfold Sees at h; obtain ⟨a', its', rfl, p', r'⟩ := h
    cases e with
    | none => unfold Sees at k; subst k; unfold PyData.eqv; exact EqAt.list_none p' (by omega)
    | bool c => unfold Sees at k; subst k; unfold PyData.eqv; exact EqAt.list_bool c p' (by omega)
    | int i => unfold Sees at k; obtain ⟨t, rfl⟩ := k; unfold PyData.eqv; exact EqAt.list_int i t p' (by omega)
    | str x => unfold Sees at k; obtain ⟨t, rfl⟩ := k; unfold PyData.eqv; exact EqAt.list_str x t p' (by omega)
    | list es =>
      unfold Sees at k; obtain ⟨a, its, rfl, p, r⟩ := k
      unfold PyData.eqv
      have l1 := r'.length
      have l2 := r.length
      by_cases q : a' = a
      · subst q
        have h' : Sees s.heap (.list ds) (.ref a') := by unfold Sees; exact ⟨a', its', rfl, p', r'⟩
        have k' : Sees s.heap (.list es) (.ref a') := by unfold Sees; exact ⟨a', its, rfl, p, r⟩
        have z := h'.inj k'
        injection z with z
        subst z
        rw [r'.eqv_refl]
        exact EqAt.same _
      · refine EqAt.of_refs q ?_
        rw [eqvAll_iff]
        by_cases hz : its'.size = its.size
        · have hl : ds.length = es.length := by
            rw [← l1, ← l2]; simpa using hz
          have z := RcAt.lists (A := A) (s := s) (e := fun j => PyData.eqv (ds.getD j .none) (es.getD j .none)) p' p hz (by omega) fun j h1 h2 => by
            have j1 : j < ds.length := by rw [← l1]; simpa using h1
            have j2 : j < es.length := by rw [← l2]; simpa using h2
            have g1 := r'.get j1 (by simpa using h1)
            have g2 := r.get j2 (by simpa using h2)
            have y := Sees.eqN n ds[j] es[j] _ _ A.in1 (by
              have m1 := dp_le (List.getElem_mem j1)
              have e1 : dp (.list ds) = dpAll ds + 1 := by unfold dp; rfl
              rw [e1] at hn; omega) (by
              have m1 := dp_le (List.getElem_mem j1)
              have m2 := dp_le (List.getElem_mem j2)
              have e1 : dp (.list ds) = dpAll ds + 1 := by unfold dp; rfl
              have e2 : dp (.list es) = dpAll es + 1 := by unfold dp; rfl
              rw [e1, e2] at hu
              show A.units + 1 + _ < cLine
              omega) g1 g2
            simpa [j1, j2] using y
          have e3 : min ds.length es.length = its'.size := by
            rw [← hl, Nat.min_self, ← l1]; simp
          rw [e3, hl, beq_self_eq_true, Bool.and_true]
          exact z
        · have hl : (ds.length == es.length) = false := by
            rw [beq_eq_false_iff_ne, ← l1, ← l2]; simpa using hz
          rw [hl, Bool.and_false]
          exact RcAt.lists_lengths p' p (by simpa using hz) (by omega)
    | tuple es => unfold Sees at k; obtain ⟨a, its, rfl, p, _⟩ := k; unfold PyData.eqv; exact EqAt.list_tuple p' p (by omega)
    | dict es => unfold Sees at k; exact k.elim
  | 0, .tuple ds, e, u, v, A, hn, hu, h, k => by
    unfold dp at hn; omega
  | n + 1, .tuple ds, e, u, v, A, hn, hu, h, k => by
    unfold Sees at h; obtain ⟨a', its', rfl, p', r'⟩ := h
    cases e with
    | none => unfold Sees at k; subst k; unfold PyData.eqv; exact EqAt.tuple_none p' (by omega)
    | bool c => unfold Sees at k; subst k; unfold PyData.eqv; exact EqAt.tuple_bool c p' (by omega)
    | int i => unfold Sees at k; obtain ⟨t, rfl⟩ := k; unfold PyData.eqv; exact EqAt.tuple_int i t p' (by omega)
    | str x => unfold Sees at k; obtain ⟨t, rfl⟩ := k; unfold PyData.eqv; exact EqAt.tuple_str x t p' (by omega)
    | list es => unfold Sees at k; obtain ⟨a, its, rfl, p, _⟩ := k; unfold PyData.eqv; exact EqAt.tuple_list p' p (by omega)
    | tuple es =>
      unfold Sees at k; obtain ⟨a, its, rfl, p, r⟩ := k
      unfold PyData.eqv
      have l1 := r'.length
      have l2 := r.length
      by_cases q : a' = a
      · subst q
        have h' : Sees s.heap (.tuple ds) (.ref a') := by unfold Sees; exact ⟨a', its', rfl, p', r'⟩
        have k' : Sees s.heap (.tuple es) (.ref a') := by unfold Sees; exact ⟨a', its, rfl, p, r⟩
        have z := h'.inj k'
        injection z with z
        subst z
        rw [r'.eqv_refl]
        exact EqAt.same _
      · refine EqAt.of_refs q ?_
        rw [eqvAll_iff]
        have z := RcAt.tuples (A := A) (s := s) (e := fun j => PyData.eqv (ds.getD j .none) (es.getD j .none)) p' p (by omega) fun j h1 h2 => by
          have j1 : j < ds.length := by rw [← l1]; simpa using h1
          have j2 : j < es.length := by rw [← l2]; simpa using h2
          have g1 := r'.get j1 (by simpa using h1)
          have g2 := r.get j2 (by simpa using h2)
          have y := Sees.eqN n ds[j] es[j] _ _ A.in1 (by
              have m1 := dp_le (List.getElem_mem j1)
              have e1 : dp (.tuple ds) = dpAll ds + 1 := by unfold dp; rfl
              rw [e1] at hn; omega) (by
            have m1 := dp_le (List.getElem_mem j1)
            have m2 := dp_le (List.getElem_mem j2)
            have e1 : dp (.tuple ds) = dpAll ds + 1 := by unfold dp; rfl
            have e2 : dp (.tuple es) = dpAll es + 1 := by unfold dp; rfl
            rw [e1, e2] at hu
            show A.units + 1 + _ < cLine
            omega) g1 g2
          simpa [j1, j2] using y
        have e3 : ds.length = its'.size := by rw [← l1]; simp
        have e4 : es.length = its.size := by rw [← l2]; simp
        rw [e3, e4]
        exact z
    | dict es => unfold Sees at k; exact k.elim
  | _, .dict _, _, _, _, _, _, _, h, _ => by unfold Sees at h; exact h.elim
theorem Sees.eq {s : Shared} {d e : D} {u v : Value} {A : Around} (hu : A.units + min (dp d) (dp e) < cLine) (h : Sees s.heap d u) (k : Sees s.heap e v) : SeqAt.EqAt A s u v (PyData.eqv d e) := Sees.eqN _ d e u v A (Nat.le_refl _) hu h k
end Z
end
section
set_option Elab.async false
set_option linter.all false
set_option maxRecDepth 100000
namespace Z
open PySem PySem.Spec PyProof.Rows L2

/-! ### the small language -/
inductive Ty where | int | bool | str | list | tuple
  deriving DecidableEq
/-- operations on data that change nothing -/
inductive Pr where
  | add | sub | mul | fdiv | mod | pow | neg
  | eq | ne | lt | le | gt | ge | in_ | nin | isN | notN
  | idx | rev
  | isi (ts : List Ty)
  | len | abs | int | tuple | list | sorted | all | any | sum | max2 | min2
  deriving DecidableEq
inductive Tg where
  | v (i : Nat)
  | t (ts : List Tg)
mutual
inductive E where
  | var (i : Nat)
  | mv (i : Nat)
  | ow (e : E)
  | cst (d : D)
  | glb (x : Str)
  | pr (p : Pr) (es : Es)
  | tup (es : Es)
  | lst (es : Es)
  | rep (es : Es) (e : E)
  | slc (as : Es) (lo hi : Oe)
  | chn (c c' : Pr) (a b e : E)
  | not (a : E)
  | and_ (a b : E)
  | or_ (a b : E)
  | oro (a b : E)
  | ite (c a b : E)
  | srtk (a : E) (f : Nat)
  | lc (own : List Nat) (t : Tg) (it : It) (c : Oe) (e : E)
  | dc (own : List Nat) (t : Tg) (it : It) (k e : E)
  | dget (i : Nat) (k : E)
  | call (f : Nat) (as : Es) (ds : List D)
  | nox (e : E)
inductive Es where
  | nil
  | cons (e : E) (es : Es)
inductive Oe where
  | no
  | so (e : E)
inductive It where
  | e (x : E)
  | rng (x : E)
  | enm (x : E)
  | zip (a b : E)
end
mutual
inductive S where
  | set (t : Tg) (e : E)
  | par (is : List Nat) (es : Es)
  | put (i : Nat) (k e : E)
  | app (i : Nat) (e : E)
  | exp (e : E)
  | ret (e : E)
  | ret0
  | ite (c : E) (a b : Ss)
  | for_ (t : Tg) (it : It) (b : Ss)
  | while_ (c : E) (b : Ss)
  | brk | cnt | pass
  | raise (c : Str)
  | try_ (b : Ss) (c : Str) (h : E)
inductive Ss where
  | nil
  | cons (s : S) (ss : Ss)
end

/-! ### what is computed -/
abbrev Env := List O
abbrev Exc := Str
inductive R (α : Type) where
  | ok (a : α)
  | ex (c : Exc) (Γ : Env)
  | bad
inductive CRes where
  | ok (o : O) (outs : List O)
  | ex (c : Exc) (outs : List O)
  | bad
def R.bind {α β : Type} : R α → (α → R β) → R β
  | .ok a, f => f a
  | .ex c Γ, _ => .ex c Γ
  | .bad, _ => .bad
def R.nox {α : Type} : R α → R α
  | .ok a => .ok a
  | _ => .bad
structure Cfg where
  call : Nat → List O → CRes
  glob : Str → Option D
  ro : List Nat
  fuel : Nat
  exm : Str → Str → Option Bool

def intO : D → Option Int
  | .int i => some i
  | _ => none
def lstO : D → Option (List D)
  | .list xs => some xs
  | _ => none
def seq : D → Option (List D)
  | .list xs => some xs
  | .tuple xs => some xs
  | _ => none
/-- what is walked -/
def walkD : D → Option (List D)
  | .list xs => some xs
  | .tuple xs => some xs
  | .str x => if x.length ≤ sizeLine then some (x.cps.toList.map fun c => .str ⟨#[c]⟩) else none
  | _ => none
def truth : D → Bool
  | .none => false
  | .bool b => b
  | .int i => i != 0
  | .str x => (x.length : Int) != 0
  | .list xs => !xs.isEmpty
  | .tuple xs => !xs.isEmpty
  | .dict xs => !xs.isEmpty
def LIM : Nat := sizeLine
/-- a test -/
def tst : D → Option Bool
  | .str x => if x.length ≤ sizeLine then some (truth (.str x)) else none
  | d => some (truth d)
def mulOk (i j : Int) : Bool := decide ((-(2 ^ 64) < i ∧ i < 2 ^ 64) ∨ (-(2 ^ 64) < j ∧ j < 2 ^ 64))
def eqOk (a b : D) : Bool := decide (min (dp a) (dp b) ≤ 60)
def bI (b : Bool) : Int := if b then 1 else 0
def ltOk (a b : D) : Bool := PySem.W.alike a b && decide (min (dp a) (dp b) ≤ 60)
/-- texts: one in another one -/
def inStr (x y : Str) : Bool := !(Builtin.Str.occurrences y x 0 y.length 1).isEmpty
def isTy (d : D) : Ty → Bool
  | .int => match d with | .int _ => true | .bool _ => true | _ => false
  | .bool => match d with | .bool _ => true | _ => false
  | .str => match d with | .str _ => true | _ => false
  | .list => match d with | .list _ => true | _ => false
  | .tuple => match d with | .tuple _ => true | _ => false
def intsD : List D → Option (List Int)
  | [] => some []
  | .int i :: r => (intsD r).map (i :: ·)
  | _ => none
def bools : List D → Option (List Bool)
  | [] => some []
  | .bool b :: r => (bools r).map (b :: ·)
  | _ => none
/-- may be sorted -/
def alikeTo (d : D) : List D → Bool
  | [] => true
  | e :: r => PySem.W.alike d e && PySem.W.alike e d && alikeTo d r
def pairAlike : List D → Bool
  | [] => true
  | d :: r => PySem.W.alike d d && alikeTo d r && pairAlike r
def isTup1 : D → Bool
  | .tuple (_ :: _) => true
  | _ => false
def noTup : D → Bool
  | .none => false
  | .tuple _ => false
  | _ => true
def sortOk (xs : List D) : Bool := pairAlike xs && (xs.all isTup1 || xs.all noTup) && xs.all fun d => decide (d.depth ≤ 60)
def sortD (xs : List D) : List D := xs.mergeSort (PySem.W.dataLe false id)
def cutD (xs : List D) (lo hi : Option Int) : List D := (xs.drop (HT.sIx xs.length 0 lo)).take (HT.sIx xs.length xs.length hi - HT.sIx xs.length 0 lo)

def fAdd : D → D → Option O
  | .int i, .int j => some (.v (.int (i + j)))
  | .str x, .str y => if x.length + y.length ≤ LIM then some (.v (.str (x ++ y))) else none
  | .list xs, .list ys => if xs.length + ys.length ≤ LIM then some (.lst (xs ++ ys)) else none
  | .tuple xs, .tuple ys => if xs.length + ys.length ≤ LIM then some (.v (.tuple (xs ++ ys))) else none
  | _, _ => none
def fSub : D → D → Option O
  | .int i, .int j => some (.v (.int (i - j)))
  | _, _ => none
def fMul : D → D → Option O
  | .int i, .int j => if mulOk i j then some (.v (.int (i * j))) else none
  | _, _ => none
def fFdiv : D → D → Option O
  | .int i, .int j => if 0 < j ∧ j < 1073741824 then some (.v (.int (i / j))) else none
  | _, _ => none
def fMod : D → D → Option O
  | .int i, .int j => if 0 < j then some (.v (.int (i % j))) else none
  | _, _ => none
def fPow : D → D → Option O
  | .int i, .int j => if 0 ≤ j ∧ j ≤ 1000 ∧ i.natAbs < 2 ^ 64 then some (.v (.int (i ^ j.toNat))) else none
  | _, _ => none
def fNeg : D → Option O
  | .int i => some (.v (.int (-i)))
  | _ => none
def fEq (a b : D) : Option O := if eqOk a b then some (.v (.bool (PyData.eqv a b))) else none
def fNe (a b : D) : Option O := if eqOk a b then some (.v (.bool (!PyData.eqv a b))) else none
def fLt : D → D → Option O
  | .int i, .int j => some (.v (.bool (decide (i < j))))
  | .str x, .str y => some (.v (.bool (decide (x.cps.toList < y.cps.toList))))
  | _, _ => none
def fLe : D → D → Option O
  | .int i, .int j => some (.v (.bool (decide (i ≤ j))))
  | _, _ => none
def fGt : D → D → Option O
  | .int i, .int j => some (.v (.bool (decide (j < i))))
  | _, _ => none
def fGe : D → D → Option O
  | .int i, .int j => some (.v (.bool (decide (j ≤ i))))
  | _, _ => none
def inD (a : D) : D → Option Bool
  | .list ys => if ys.all (eqOk · a) then some (ys.any (PyData.eqv · a)) else none
  | .tuple ys => if ys.all (eqOk · a) then some (ys.any (PyData.eqv · a)) else none
  | .str y => match a with | .str x => some (inStr x y) | _ => none
  | _ => none
def fIn (a b : D) : Option O := (inD a b).map fun k => .v (.bool k)
def fNin (a b : D) : Option O := (inD a b).map fun k => .v (.bool (!k))
def isNone : D → Bool
  | .none => true
  | _ => false
def fIsN (a : D) : Option O := some (.v (.bool (isNone a)))
def fNotN (a : D) : Option O := some (.v (.bool (!isNone a)))
def fIdx : D → D → Option O
  | .list xs, .int i => (atI xs i).map .v
  | .tuple xs, .int i => (atI xs i).map .v
  | _, _ => none
def fSlc (a : D) (lo hi : Option Int) : Option O := match a with
  | .list xs => some (.lst (cutD xs lo hi))
  | .tuple xs => if HT.sIx xs.length 0 lo = 0 ∧ HT.sIx xs.length xs.length hi = xs.length then none else some (.v (.tuple (cutD xs lo hi)))
  | _ => none
def fRev : D → Option O
  | .list xs => some (.lst xs.reverse)
  | .tuple xs => some (.v (.tuple xs.reverse))
  | _ => none
def fIsi (ts : List Ty) (a : D) : Option O := some (.v (.bool (ts.any (isTy a))))
def fLen : D → Option O
  | .list xs => some (.v (.int xs.length))
  | .tuple xs => some (.v (.int xs.length))
  | .str x => if x.length ≤ LIM then some (.v (.int x.length)) else none
  | _ => none
def fAbs : D → Option O
  | .int i => some (.v (.int (if i < 0 then -i else i)))
  | _ => none
def fInt : D → Option O
  | .int i => some (.v (.int i))
  | .bool b => some (.v (.int (bI b)))
  | _ => none
def fTuple : D → Option O
  | .list xs => some (.v (.tuple xs))
  | .tuple xs => some (.v (.tuple xs))
  | _ => none
def fList : D → Option O
  | .list xs => some (.lst xs)
  | .tuple xs => some (.lst xs)
  | _ => none
def fSorted : D → Option O
  | .list xs => if sortOk xs then some (.lst (sortD xs)) else none
  | _ => none
def fAll : D → Option O
  | .list xs => (bools xs).map fun bs => .v (.bool (bs.all id))
  | _ => none
def fAny : D → Option O
  | .list xs => (bools xs).map fun bs => .v (.bool (bs.any id))
  | _ => none
def fSum : D → Option O
  | .list xs => (intsD xs).map fun is => .v (.int is.sum)
  | _ => none
def fMax2 : D → D → Option O
  | .int i, .int j => some (.v (.int (if j > i then j else i)))
  | _, _ => none
def fMin2 : D → D → Option O
  | .int i, .int j => some (.v (.int (if j < i then j else i)))
  | _, _ => none
def fTup (ds : List D) : Option O := if ds.length ≤ LIM then some (.v (.tuple ds)) else none
def fLst (ds : List D) : Option O := if ds.length ≤ LIM then some (.lst ds) else none
def f1 (f : D → Option O) : List D → Option O
  | [a] => f a
  | _ => none
def f2 (f : D → D → Option O) : List D → Option O
  | [a, b] => f a b
  | _ => none
def prF : Pr → List D → Option O
  | .add => f2 fAdd
  | .sub => f2 fSub
  | .mul => f2 fMul
  | .fdiv => f2 fFdiv
  | .mod => f2 fMod
  | .pow => f2 fPow
  | .neg => f1 fNeg
  | .eq => f2 fEq
  | .ne => f2 fNe
  | .lt => f2 fLt
  | .le => f2 fLe
  | .gt => f2 fGt
  | .ge => f2 fGe
  | .in_ => f2 fIn
  | .nin => f2 fNin
  | .isN => f1 fIsN
  | .notN => f1 fNotN
  | .idx => f2 fIdx
  | .rev => f1 fRev
  | .isi ts => f1 (fIsi ts)
  | .len => f1 fLen
  | .abs => f1 fAbs
  | .int => f1 fInt
  | .tuple => f1 fTuple
  | .list => f1 fList
  | .sorted => f1 fSorted
  | .all => f1 fAll
  | .any => f1 fAny
  | .sum => f1 fSum
  | .max2 => f2 fMax2
  | .min2 => f2 fMin2

/-- slot i -/
def slot (Γ : Env) (i : Nat) : O := Γ.getD i .hole
def dicO : O → Option (List (Key × D))
  | .dic kvs => some kvs
  | _ => none
def isLst : O → Bool
  | .lst _ => true
  | _ => false
def isHole : O → Bool
  | .hole => true
  | _ => false
/-- the data behind the operands: a variable's as it stands now -/
def peeks (Γ : Env) : List (Nat ⊕ O) → Option (List D)
  | [] => some []
  | .inl i :: r => match (slot Γ i).fz, peeks Γ r with
    | some d, some ds => some (d :: ds)
    | _, _ => none
  | .inr o :: r => match o.fz, peeks Γ r with
    | some d, some ds => some (d :: ds)
    | _, _ => none
/-- a value is stored -/
def setS (ro : List Nat) (Γ : Env) (i : Nat) (o : O) : Option Env := if i < Γ.length ∧ i ∉ ro then some (Γ.set i o) else none
mutual
def setT (ro : List Nat) (Γ : Env) : Tg → O → Option Env
  | .v i, o => setS ro Γ i o
  | .t ts, .v (.tuple xs) => setTs ro Γ ts xs
  | .t ts, .v (.list xs) => setTs ro Γ ts xs
  | .t _, _ => none
def setTs (ro : List Nat) (Γ : Env) : List Tg → List D → Option Env
  | [], [] => some Γ
  | t :: ts, d :: ds => match setT ro Γ t (.v d) with
    | some Γ' => setTs ro Γ' ts ds
    | none => none
  | _, _ => none
end
def owV : E → Option Nat
  | .ow (.var i) => some i
  | _ => none
/-- the arguments with what is handed in; what is left -/
def fill : Es → List O → Env → List O × Env
  | .nil, os, Γ => (os, Γ)
  | .cons _ _, [], Γ => ([], Γ)
  | .cons e es, o :: os, Γ => match owV e with
    | some i => (slot Γ i :: (fill es os (Γ.set i .hole)).1, (fill es os (Γ.set i .hole)).2)
    | none => (o :: (fill es os Γ).1, (fill es os Γ).2)
/-- what is handed in goes back to its slot -/
def unfill : Es → List O → Env → Env
  | .nil, _, Γ => Γ
  | .cons _ _, [], Γ => Γ
  | .cons e es, o :: os, Γ => match owV e with
    | some i => unfill es os (Γ.set i o)
    | none => unfill es os Γ
def holes (Γ : Env) : List Nat → Env
  | [] => Γ
  | i :: r => (holes Γ r).set i .hole
def onlyV : O → O
  | .v d => .v d
  | _ => .hole
def backs (Γ Γ0 : Env) : List Nat → Env
  | [] => Γ
  | i :: r => (backs Γ Γ0 r).set i (onlyV (slot Γ0 i))
/-- behind a comprehension's block: its own names are gone -/
def R.fin {α : Type} (own : List Nat) (Γ0 : Env) (mk : α → O) (r : R (α × Env)) : R (O × Env) := match r with
  | .ok z => .ok (mk z.1, backs z.2 Γ0 own)
  | .ex c Γ => .ex c (backs Γ Γ0 own)
  | .bad => .bad
def zipD : List D → List D → List D
  | a :: r, b :: s => .tuple [a, b] :: zipD r s
  | _, _ => []
def enumD (n : Nat) : List D → List D
  | [] => []
  | a :: r => .tuple [.int n, a] :: enumD (n + 1) r
def rngD (n : Nat) : List D := (List.range n).map fun (i : Nat) => PyData.int (i : Int)
/-- a dict with key k put -/
def keyD : D → Option Key
  | .int i => some (.inl i)
  | .str x => some (.inr x)
  | _ => none
def putD (kvs : List (Key × D)) (k : Key) (d : D) : List (Key × D) :=
  if kvs.any (fun kv => decide (kv.1 = k)) then kvs.map (fun kv => if kv.1 = k then (kv.1, d) else kv) else kvs ++ [(k, d)]
def getK : List (Key × D) → Key → Option D
  | [], _ => none
  | (k', d') :: r, k => if k' = k then some d' else getK r k

def keysOf (k : D → Option D) : List D → Option (List D)
  | [] => some []
  | d :: r => match k d, keysOf k r with
    | some x, some xs => some (x :: xs)
    | _, _ => none
/-- as data -/
def toD (r : R (O × Env)) : R (D × Env) := r.bind fun p => match p.1.fz with
  | some d => .ok (d, p.2)
  | none => .bad
def lcL (f : D → Env → R (List D × Env)) : List D → Env → R (List D × Env)
  | [], Γ => .ok ([], Γ)
  | d :: r, Γ => (f d Γ).bind fun p => (lcL f r p.2).bind fun q => .ok (p.1 ++ q.1, q.2)
def dcL (f : D → Env → R ((D × D) × Env)) : List D → List (Key × D) → Env → R (List (Key × D) × Env)
  | [], kvs, Γ => .ok (kvs, Γ)
  | d :: r, kvs, Γ => (f d Γ).bind fun p => match keyD p.1.1 with
    | some k => dcL f r (putD kvs k p.1.2) p.2
    | none => .bad
def isOw : E → Bool
  | .ow _ => true
  | _ => false
def CRes.back (r : CRes) (as : Es) (Γ : Env) : R (O × Env) := match r with
  | .ok o outs => .ok (o, unfill as outs Γ)
  | .ex c outs => .ex c (unfill as outs Γ)
  | .bad => .bad
def keyR : CRes → Option D
  | .ok (.v k) _ => some k
  | _ => none
def opt {α β : Type} (x : Option α) (f : α → R β) : R β := match x with
  | some a => f a
  | none => .bad
section
variable (C : Cfg)
mutual
/-- an expression: what comes, the slots behind it -/
def ev : E → Env → R (O × Env)
  | .var i, Γ => opt (slot Γ i).fz fun d => .ok (.v d, Γ.set i (.v d))
  | .mv i, Γ => if isHole (slot Γ i) then .bad else .ok (slot Γ i, Γ.set i .hole)
  | .ow e, Γ => match e with
    | .var i => if isHole (slot Γ i) then .bad else .ok (.hole, Γ)
    | _ => ev e Γ
  | .cst d, Γ => .ok (.v d, Γ)
  | .glb x, Γ => opt (C.glob x) fun d => .ok (.v d, Γ)
  | .pr p es, Γ => (evB es Γ).bind fun q => opt (peeks q.2 q.1) fun ds => opt (prF p ds) fun o => .ok (o, q.2)
  | .tup es, Γ => (evF es Γ).bind fun q => opt (fTup q.1) fun o => .ok (o, q.2)
  | .lst es, Γ => (evF es Γ).bind fun q => opt (fLst q.1) fun o => .ok (o, q.2)
  | .rep es e, Γ => (evF es Γ).bind fun q => opt (fLst q.1) fun _ => (toD (ev e q.2)).bind fun n => match n.1 with
    | .int k => if 0 ≤ k ∧ k ≤ 1000 ∧ q.1.length ≤ 1000 then .ok (.lst (List.replicate k.toNat q.1).flatten, n.2) else .bad
    | _ => .bad
  | .slc as lo hi, Γ => (evB as Γ).bind fun q => (evP lo q.2).bind fun l => (evP hi l.2).bind fun h => opt (peeks h.2 q.1) fun ds => opt (f1 (fun d => fSlc d l.1 h.1) ds) fun o => .ok (o, h.2)
  | .chn c c' a b e, Γ => (toD (ev a Γ)).bind fun x => (toD (ev b x.2)).bind fun y => match prF c [x.1, y.1] with
    | some (.v (.bool true)) => (toD (ev e y.2)).bind fun z => opt (prF c' [y.1, z.1]) fun o => .ok (o, z.2)
    | some (.v (.bool false)) => .ok (.v (.bool false), y.2)
    | _ => .bad
  | .not a, Γ => (toD (ev a Γ)).bind fun x => opt (tst x.1) fun k => .ok (.v (.bool (!k)), x.2)
  | .and_ a b, Γ => (toD (ev a Γ)).bind fun x => opt (tst x.1) fun k => if k then ev b x.2 else .ok (.v x.1, x.2)
  | .or_ a b, Γ => (toD (ev a Γ)).bind fun x => opt (tst x.1) fun k => if k then .ok (.v x.1, x.2) else ev b x.2
  | .oro a b, Γ => (ev a Γ).bind fun p => match p.1 with
    | .lst ds => if ds.isEmpty then ev b p.2 else .ok p
    | _ => .bad
  | .ite c a b, Γ => (toD (ev c Γ)).bind fun x => opt (tst x.1) fun k => if k then ev a x.2 else ev b x.2
  | .srtk a f, Γ => (toD (ev a Γ)).bind fun x => opt (lstO x.1) fun xs =>
      opt (keysOf (fun d => keyR (C.call f [.v d])) xs) fun ks =>
      if sortOk ks then .ok (.lst (((xs.zip ks).mergeSort (PySem.W.dataLe false (·.2))).map (·.1)), x.2) else .bad
  | .lc own t it c e, Γ => (evI it Γ).bind fun q =>
    (lcL (fun d Γ' => opt (setT C.ro (holes Γ' own) t (.v d)) fun Γ2 =>
      (evO c Γ2).bind fun b => if b.1 then (toD (ev e b.2)).bind fun y => .ok ([y.1], y.2) else .ok ([], b.2)) q.1 (holes q.2 own)).fin own q.2 O.lst
  | .dc own t it k e, Γ => (evI it Γ).bind fun q =>
    (dcL (fun d Γ' => opt (setT C.ro (holes Γ' own) t (.v d)) fun Γ2 =>
      (toD (ev k Γ2)).bind fun x => (toD (ev e x.2)).bind fun y => .ok ((x.1, y.1), y.2)) q.1 [] (holes q.2 own)).fin own q.2 O.dic
  | .dget i k, Γ => if isHole (slot Γ i) then .bad else (toD (ev k Γ)).bind fun x => opt (dicO (slot x.2 i)) fun kvs => opt (keyD x.1) fun k => opt (getK kvs k) fun d => .ok (.v d, x.2)
  | .call f as ds, Γ => (evA as Γ).bind fun q => (C.call f ((fill as q.1 q.2).1 ++ ds.map .v)).back as (fill as q.1 q.2).2
  | .nox e, Γ => (ev e Γ).nox
termination_by structural e => e
def evO : Oe → Env → R (Bool × Env)
  | .no, Γ => .ok (true, Γ)
  | .so e, Γ => (toD (ev e Γ)).bind fun d => opt (tst d.1) fun k => .ok (k, d.2)
termination_by structural e => e
/-- a slice's part -/
def evP : Oe → Env → R (Option Int × Env)
  | .no, Γ => .ok (none, Γ)
  | .so e, Γ => (toD (ev e Γ)).bind fun d => opt (intO d.1) fun i => .ok (some i, d.2)
termination_by structural e => e
/-- operands -/
def evB : Es → Env → R (List (Nat ⊕ O) × Env)
  | .nil, Γ => .ok ([], Γ)
  | .cons e es, Γ => match e with
    | .var i => if isHole (slot Γ i) then .bad else (evB es Γ).bind fun r => .ok (.inl i :: r.1, r.2)
    | _ => (ev e Γ).bind fun d => (evB es d.2).bind fun r => .ok (.inr d.1 :: r.1, r.2)
termination_by structural e => e
/-- parts of a tuple, a list -/
def evF : Es → Env → R (List D × Env)
  | .nil, Γ => .ok ([], Γ)
  | .cons e es, Γ => (toD (ev e Γ)).bind fun d => (evF es d.2).bind fun r => .ok (d.1 :: r.1, r.2)
termination_by structural e => e
/-- arguments -/
def evA : Es → Env → R (List O × Env)
  | .nil, Γ => .ok ([], Γ)
  | .cons e es, Γ => match isOw e with
    | true => (ev e Γ).bind fun o => (evA es o.2).bind fun r => .ok (o.1 :: r.1, r.2)
    | false => (toD (ev e Γ)).bind fun d => (evA es d.2).bind fun r => .ok (.v d.1 :: r.1, r.2)
termination_by structural e => e
def evI : It → Env → R (List D × Env)
  | .e x, Γ => (toD (ev x Γ)).bind fun d => opt (walkD d.1) fun xs => .ok (xs, d.2)
  | .rng x, Γ => (toD (ev x Γ)).bind fun d => match d.1 with
    | .int i => if i ≤ 16777216 ∧ -(2 ^ 62) ≤ i then .ok (rngD i.toNat, d.2) else .bad
    | _ => .bad
  | .enm x, Γ => (toD (ev x Γ)).bind fun d => match d.1 with
    | .list xs => .ok (enumD 0 xs, d.2)
    | _ => .bad
  | .zip a b, Γ => (toD (ev a Γ)).bind fun d => (toD (ev b d.2)).bind fun e => match d.1, e.1 with
    | .list xs, .list ys => .ok (zipD xs ys, e.2)
    | .tuple xs, .tuple ys => .ok (zipD xs ys, e.2)
    | _, _ => .bad
termination_by structural e => e
end
/-- several values -/
def evM : Es → Env → R (List O × Env)
  | .nil, Γ => .ok ([], Γ)
  | .cons e es, Γ => (ev C e Γ).bind fun o => (evM es o.2).bind fun r => .ok (o.1 :: r.1, r.2)
end

inductive Out where
  | nx (Γ : Env) | rt (o : O) (Γ : Env) | bk (Γ : Env) | ct (Γ : Env) | ex (c : Exc) (Γ : Env) | bad
def R.out {α : Type} : R α → (α → Out) → Out
  | .ok a, f => f a
  | .ex c Γ, _ => .ex c Γ
  | .bad, _ => .bad
def Out.of : Option Env → Out
  | some Γ => .nx Γ
  | none => .bad
/-- behind a block's first statement -/
def Out.seq : Out → (Env → Out) → Out
  | .nx Γ, f => f Γ
  | o, _ => o
def setAll (ro : List Nat) : List Nat → List O → Env → Option Env
  | [], [], Γ => some Γ
  | i :: is, o :: os, Γ => match setS ro Γ i o with
    | some Γ' => setAll ro is os Γ'
    | none => none
  | _, _, _ => none
/-- the place of an index -/
def putL (xs : List D) (i : Int) (d : D) : Option (List D) := (ixN xs.length i).map fun j => xs.set j d
def putO : O → D → D → Option O
  | .lst xs, .int i, d => (putL xs i d).map .lst
  | .dic kvs, k, d => match keyD k with
    | some k => if kvs.length < LIM then some (.dic (putD kvs k d)) else none
    | none => none
  | _, _, _ => none
def appO : O → D → Option O
  | .lst xs, d => if xs.length < LIM then some (.lst (xs ++ [d])) else none
  | _, _ => none
/-- what follows a loop's turn -/
def forL (f : D → Env → Out) : List D → Env → Out
  | [], Γ => .nx Γ
  | d :: r, Γ => match f d Γ with
    | .nx Γ' => forL f r Γ'
    | .ct Γ' => forL f r Γ'
    | .bk Γ' => .nx Γ'
    | o => o
def whileN (c : Env → R (D × Env)) (b : Env → Out) : Nat → Env → Out
  | 0, _ => .bad
  | n + 1, Γ => (c Γ).out fun p => match tst p.1 with
    | none => .bad
    | some false => .nx p.2
    | some true => (match b p.2 with
      | .nx Γ' => whileN c b n Γ'
      | .ct Γ' => whileN c b n Γ'
      | .bk Γ' => .nx Γ'
      | o => o)
/-- the exception is caught by the clause for c -/
def Out.catch (m : Str → Str → Option Bool) (o : Out) (c : Str) (h : Env → Out) : Out := match o with
  | .ex c' Γ => (match m c' c with
    | some true => h Γ
    | some false => .ex c' Γ
    | none => .bad)
  | o => o
section
variable (C : Cfg)
mutual
def evS : S → Env → Out
  | .set t e, Γ => (ev C e Γ).out fun p => .of (setT C.ro p.2 t p.1)
  | .par is es, Γ => (evM C es Γ).out fun p => .of (setAll C.ro is p.1 p.2)
  | .put i k e, Γ => (toD (ev C e Γ)).out fun d => if isHole (slot d.2 i) then .bad else (toD (ev C k d.2)).out fun x => Out.of ((putO (slot x.2 i) x.1 d.1).map fun o => x.2.set i o)
  | .app i e, Γ => if isLst (slot Γ i) then (toD (ev C e Γ)).out fun d => Out.of ((appO (slot d.2 i) d.1).map fun o => d.2.set i o) else .bad
  | .exp e, Γ => (ev C e Γ).out fun p => .nx p.2
  | .ret e, Γ => (ev C e Γ).out fun p => .rt p.1 p.2
  | .ret0, Γ => .rt (.v .none) Γ
  | .ite c a b, Γ => (toD (ev C c Γ)).out fun d => match tst d.1 with
    | some true => evSs a d.2
    | some false => evSs b d.2
    | none => .bad
  | .for_ t it b, Γ => (evI C it Γ).out fun q => forL (fun d Γ' => match setT C.ro Γ' t (.v d) with
      | some Γ2 => evSs b Γ2
      | none => .bad) q.1 q.2
  | .while_ c b, Γ => whileN (fun Γ' => toD (ev C c Γ')) (fun Γ' => evSs b Γ') C.fuel Γ
  | .brk, Γ => .bk Γ
  | .cnt, Γ => .ct Γ
  | .pass, Γ => .nx Γ
  | .raise c, Γ => .ex c Γ
  | .try_ b c h, Γ => (evSs b Γ).catch C.exm c fun Γ' => ((ev C h Γ').nox).out fun p => .rt p.1 p.2
termination_by structural s => s
def evSs : Ss → Env → Out
  | .nil, Γ => .nx Γ
  | .cons s ss, Γ => (evS s Γ).seq fun Γ1 => evSs ss Γ1
termination_by structural s => s
end
end
/-- a def: how many slots, which parameters are handed in as one's own, how many parameters, the body -/
structure Fn where
  n : Nat
  io : List Nat
  arity : Nat
  body : Ss
structure Prog where
  fns : List Fn
  glob : Str → Option D
  fuel : Nat
  exm : Str → Str → Option Bool
def padTo (n : Nat) (os : List O) : Env := os ++ List.replicate (n - os.length) .hole
/-- what is handed back: the parameters that are one's own -/
def outsA (io : List Nat) : Nat → Nat → Env → List O
  | _, 0, _ => []
  | k, n + 1, [] => .hole :: outsA io (k + 1) n []
  | k, n + 1, o :: Γ => (if k ∈ io then o else .hole) :: outsA io (k + 1) n Γ
def outs (io : List Nat) (n : Nat) (Γ : Env) : List O := outsA io 0 n Γ
def Out.res (io : List Nat) (n : Nat) : Out → CRes
  | .nx Γ => .ok (.v .none) (outs io n Γ)
  | .rt o Γ => .ok o (outs io n Γ)
  | .ex c Γ => .ex c (outs io n Γ)
  | _ => .bad
def callN (P : Prog) : Nat → Nat → List O → CRes
  | 0, _, _ => .bad
  | n + 1, f, os => match P.fns[f]? with
    | none => .bad
    | some d => if os.length = d.arity ∧ d.arity ≤ d.n ∧ d.io.all (· < d.arity) then (evSs ⟨callN P n, P.glob, d.io, P.fuel, P.exm⟩ d.body (padTo d.n os)).res d.io d.arity else .bad
end Z
end
section
set_option Elab.async false
set_option linter.all false
set_option maxRecDepth 100000
namespace Z
open PySem PySem.Spec PyProof.Rows L2

/-! ### outcomes -/
def R.sat {α : Type} (r : R α) (p : α → Prop) (q : Exc → Env → Prop) : Prop := match r with
  | .ok a => p a
  | .ex c Γ => q c Γ
  | .bad => False
theorem R.sat_bind {α β : Type} {r : R α} {f : α → R β} {p : β → Prop} {q : Exc → Env → Prop} : (r.bind f).sat p q ↔ r.sat (fun a => (f a).sat p q) q := by
  cases r <;> rfl
theorem R.sat.imp {α : Type} {r : R α} {p p' : α → Prop} {q q' : Exc → Env → Prop} (h : r.sat p q) (hp : ∀ a, p a → p' a) (hq : ∀ c Γ, q c Γ → q' c Γ) : r.sat p' q' := by
  cases r with
  | ok a => exact hp a h
  | ex c Γ => exact hq c Γ h
  | bad => exact h
theorem opt_sat {α β : Type} {x : Option α} {f : α → R β} {p : β → Prop} {q : Exc → Env → Prop} (h : (opt x f).sat p q) : ∃ a, x = some a ∧ (f a).sat p q := by
  cases x with
  | none => exact h.elim
  | some a => exact ⟨a, rfl, h⟩
theorem sat_toD {r : R (O × Env)} {p : D × Env → Prop} {q : Exc → Env → Prop} (h : (toD r).sat p q) : r.sat (fun a => ∃ d, a.1.fz = some d ∧ p (d, a.2)) q := by
  unfold toD at h
  rw [R.sat_bind] at h
  refine h.imp (fun a h => ?_) fun _ _ h => h
  cases e : a.1.fz with
  | none => rw [e] at h; exact h.elim
  | some d => rw [e] at h; exact ⟨d, rfl, h⟩

/-! ### the state of a def's run -/
/-- what stays through a def's run: the module, the entry, the slots that are not stored to, their values, the wish about exceptions, the slots' values -/
structure Cz where
  K : PySem.W.Frag
  F : Fr0
  ro : List Nat
  us : L2.St
  W : WX
  σ : L2.St
structure Cz.S (c : Cz) (Hv H : Hp) (tp : List (O × Option V)) (Γ : Env) : Prop where
  si : SI c.K c.F Hv H (tp.map (·.1) ++ Γ) (tp.map (·.2) ++ c.σ)
  ro : ∀ i ∈ c.ro, c.σ[i]? = c.us[i]?
/-- the class of an exception, its dict -/
def ExV (K : PySem.W.Frag) (cls : Value) (d : Option Addr) (c : Exc) : Prop := cls = .ref (He.ga K c) ∧ d = none
def Cz.ok (c : Cz) (tp : List (O × Option V)) (Q : VK) : O × Env → Prop := fun p => ∀ v Hv H, c.S Hv H ((p.1, some v) :: tp) p.2 → Q v H
def Cz.exq (c : Cz) (tp : List (O × Option V)) : Exc → Env → Prop := fun e Γ => ∀ cls d Hv H, ExV c.K cls d e → c.S Hv H tp Γ → c.W cls d c.σ H
/-- a reading by what is computed -/
def tE (K : PySem.W.Frag) (ro : List Nat) (W : WX) (f : Env → R (O × Env)) : TE := fun σ H Q => ∃ F us Hv tp Γ, (Cz.mk K F ro us W σ).S Hv H tp Γ ∧ (f Γ).sat ((Cz.mk K F ro us W σ).ok tp Q) ((Cz.mk K F ro us W σ).exq tp)
/-- an operand -/
def itO : Nat ⊕ O → O
  | .inl _ => .hole
  | .inr o => o
def Cz.okB (c : Cz) (tp : List (O × Option V)) (Q : VK) : (Nat ⊕ O) × Env → Prop := fun p => ∀ v Hv H, c.S Hv H ((itO p.1, some v) :: tp) p.2 → (∀ i, p.1 = .inl i → c.σ[i]? = some (some v)) → Q v H
def tB (K : PySem.W.Frag) (ro : List Nat) (W : WX) (f : Env → R ((Nat ⊕ O) × Env)) : TE := fun σ H Q => ∃ F us Hv tp Γ, (Cz.mk K F ro us W σ).S Hv H tp Γ ∧ (f Γ).sat ((Cz.mk K F ro us W σ).okB tp Q) ((Cz.mk K F ro us W σ).exq tp)
/-- as frozen data -/
def tD (K : PySem.W.Frag) (ro : List Nat) (W : WX) (f : Env → R (D × Env)) : TE := fun σ H Q => ∃ F us Hv tp Γ, (Cz.mk K F ro us W σ).S Hv H tp Γ ∧ (f Γ).sat (fun p => ∀ v Hv H, (Cz.mk K F ro us W σ).S Hv H ((.v p.1, some v) :: tp) p.2 → Q v H) ((Cz.mk K F ro us W σ).exq tp)
def evb1 (C : Cfg) (e : E) (Γ : Env) : R ((Nat ⊕ O) × Env) := match e with
  | .var i => if isHole (slot Γ i) then .bad else .ok (.inl i, Γ)
  | _ => (ev C e Γ).bind fun d => .ok (.inr d.1, d.2)

theorem R.bind_bind {α β γ : Type} (r : R α) (f : α → R β) (g : β → R γ) : (r.bind f).bind g = r.bind fun a => (f a).bind g := by cases r <;> rfl
theorem evB_cons {C : Cfg} {e : E} {es : Es} {Γ : Env} : evB C (.cons e es) Γ = (evb1 C e Γ).bind fun q => (evB C es q.2).bind fun r => .ok (q.1 :: r.1, r.2) := by
  cases e with
  | var i =>
    simp only [evB, evb1]
    by_cases h : isHole (slot Γ i) = true
    · simp only [h, if_true]; rfl
    · simp only [if_neg h]; rfl
  | _ =>
    simp only [evB, evb1, R.bind_bind]
    rfl

section
variable {c : Cz} {Hv H : Hp} {tp tq : List (O × Option V)} {Γ : Env} {o : O} {v : V} {s : Option V} {d : D}
theorem Cz.S.sub (h : c.S Hv H tp Γ) : Sub Hv H := h.si.sub
theorem Cz.S.pop (h : c.S Hv H ((o, s) :: tp) Γ) : c.S Hv H tp Γ := ⟨h.si.pop, h.ro⟩
theorem Cz.S.len (h : c.S Hv H tp Γ) : c.σ.length = Γ.length := by
  have z := h.si.length
  simp only [List.length_append, List.length_map] at z
  omega
theorem Cz.S.fz (h : c.S Hv H ((o, some v) :: tp) Γ) (e : o.fz = some d) : ∃ Hv', Sub Hv Hv' ∧ c.S Hv' H ((.v d, some v) :: tp) Γ := by
  obtain ⟨Hv', k, s⟩ := h.si.fz e
  exact ⟨Hv', k, s, h.ro⟩
theorem Cz.S.headV (h : c.S Hv H ((.v d, some v) :: tp) Γ) : Dp c.K Hv v d := h.si.headV
theorem RpL_perm {K : PySem.W.Frag} {Γ : Env} {σ : List (Option V)} : ∀ {ps qs : List (O × Option V)}, ps.Perm qs → ∀ {as : List Addr}, RpL K Hv H (ps.map (·.1) ++ Γ) (ps.map (·.2) ++ σ) as → ∃ bs, as.Perm bs ∧ RpL K Hv H (qs.map (·.1) ++ Γ) (qs.map (·.2) ++ σ) bs := by
  intro ps qs hp
  induction hp with
  | nil => exact fun h => ⟨_, List.Perm.refl _, h⟩
  | cons x _ ih =>
    intro as h
    obtain ⟨s, r, a, b, e1, e2, h1, h2⟩ := h
    obtain ⟨rfl, rfl⟩ := List.cons.inj e1
    obtain ⟨bs, p, q⟩ := ih h2
    subst e2
    exact ⟨a ++ bs, p.append_left a, _, _, a, bs, rfl, rfl, h1, q⟩
  | swap x y l =>
    intro as h
    obtain ⟨s, r, a, b, e1, e2, h1, h2⟩ := h
    obtain ⟨s', r', a', b', e1', e2', h1', h2'⟩ := h2
    subst e2 e2'
    obtain ⟨rfl, rfl⟩ := List.cons.inj e1
    obtain ⟨rfl, rfl⟩ := List.cons.inj e1'
    refine ⟨a' ++ (a ++ b'), ?_, _, _, a', a ++ b', rfl, rfl, h1', _, _, a, b', rfl, rfl, h1, h2'⟩
    rw [← List.append_assoc, ← List.append_assoc]
    exact List.perm_append_comm.append_right b'
  | trans _ _ ih1 ih2 =>
    intro as h
    obtain ⟨bs, p, q⟩ := ih1 h
    obtain ⟨cs, p', q'⟩ := ih2 q
    exact ⟨cs, p.trans p', q'⟩
theorem Cz.S.perm (h : c.S Hv H tp Γ) (p : tp.Perm tq) : c.S Hv H tq Γ := by
  obtain ⟨as, r, w⟩ := h.si
  obtain ⟨bs, p', r'⟩ := RpL_perm p r
  exact ⟨⟨bs, r', w.perm p'⟩, h.ro⟩
theorem Cz.S.pop2 {x y : O × Option V} (h : c.S Hv H (x :: y :: tp) Γ) : c.S Hv H tp Γ := by
  obtain ⟨_, _⟩ := x; obtain ⟨_, _⟩ := y
  exact h.pop.pop
theorem Cz.S.swap {x y : O × Option V} (h : c.S Hv H (x :: y :: tp) Γ) : c.S Hv H (y :: x :: tp) Γ := h.perm (List.Perm.swap _ _ _)
theorem Cz.exq.push {x : O × Option V} {e : Exc} (h : c.exq tp e Γ) : c.exq (x :: tp) e Γ := fun cls d Hv H ev s => h cls d Hv H ev (by obtain ⟨_, _⟩ := x; exact s.pop)

/-! ### what is read at this moment -/
def Sh (K : PySem.W.Frag) (Hv H : Hp) (v : V) (d : D) : Prop := Dp K Hv v d ∨ ∃ xs a vs, d = .list xs ∧ v = .ref a ∧ H a = some (.lst vs) ∧ DpAll K Hv vs xs
theorem Sh.dp {K : PySem.W.Frag} (h : Sh K Hv H v d) (k : Sub Hv H) : Dp K H v d := by
  rcases h with h | ⟨xs, a, vs, rfl, rfl, h, r⟩
  · exact k.dp h
  · exact .lst (SqL.of h) (k.dpAll r)
/-- a list, a tuple as items -/
theorem Sh.list {K : PySem.W.Frag} {xs : List D} (h : Sh K Hv H v (.list xs)) (k : Sub Hv H) : ∃ a vs, v = .ref a ∧ SqL K H a vs ∧ DpAll K Hv vs xs := by
  rcases h with h | ⟨ys, a, vs, e, rfl, h, r⟩
  · cases h with
    | lst hs ha => exact ⟨_, _, rfl, k.seqL hs, ha⟩
  · cases e
    exact ⟨a, vs, rfl, SqL.of h, r⟩
theorem Sh.tup {K : PySem.W.Frag} {xs : List D} (h : Sh K Hv H v (.tuple xs)) (k : Sub Hv H) : ∃ a vs, v = .ref a ∧ SqT K H a vs ∧ DpAll K Hv vs xs := by
  rcases h with h | ⟨ys, a, vs, e, rfl, h, r⟩
  · cases h with
    | tup hs ha => exact ⟨_, _, rfl, k.seqT hs, ha⟩
  · cases e
theorem Sh.int {K : PySem.W.Frag} {i : Int} (h : Sh K Hv H v (.int i)) : v = .int i := by
  rcases h with h | ⟨ys, a, vs, e, _⟩
  · cases h; rfl
  · cases e
theorem Sh.str {K : PySem.W.Frag} {i : Str} (h : Sh K Hv H v (.str i)) : v = .str i := by
  rcases h with h | ⟨ys, a, vs, e, _⟩
  · cases h; rfl
  · cases e
theorem Sh.bl {K : PySem.W.Frag} {i : Bool} (h : Sh K Hv H v (.bool i)) : v = .bl i := by
  rcases h with h | ⟨ys, a, vs, e, _⟩
  · cases h; rfl
  · cases e
theorem Sh.non {K : PySem.W.Frag} (h : Sh K Hv H v .none) : v = .non := by
  rcases h with h | ⟨ys, a, vs, e, _⟩
  · cases h; rfl
  · cases e
theorem Sh.dict {K : PySem.W.Frag} {l : List (D × D)} (h : Sh K Hv H v (.dict l)) : False := by
  rcases h with h | ⟨ys, a, vs, e, _⟩
  · cases h
  · cases e
/-- what an operation leaves -/
inductive Res (K : PySem.W.Frag) (Hv H : Hp) : O → V → Hp → Prop
  | old {d : D} {v : V} : Dp K Hv v d → Res K Hv H (.v d) v H
  | tup {ds : List D} {vs : List V} {p : Addr} : DpAll K Hv vs ds → H p = none → Res K Hv H (.v (.tuple ds)) (.ref p) (upd H p (.tup vs))
  | lst {ds : List D} {vs : List V} {p : Addr} : DpAll K Hv vs ds → H p = none → Res K Hv H (.lst ds) (.ref p) (upd H p (.lst vs))
theorem Cz.S.res {H' : Hp} (h : c.S Hv H tp Γ) (r : Res c.K Hv H o v H') : ∃ Hv', Sub Hv Hv' ∧ c.S Hv' H' ((o, some v) :: tp) Γ := by
  cases r with
  | old r => exact ⟨Hv, Sub.refl _, h.si.pushV r, h.ro⟩
  | tup r hp =>
    refine ⟨upd Hv _ _, Sub.upd ?_, h.si.freshT r hp, h.ro⟩
    obtain ⟨as, _, w⟩ := h.si
    exact w.vnone hp
  | lst r hp => exact ⟨Hv, Sub.refl _, h.si.freshL r hp, h.ro⟩

/-- slot i -/
theorem slot_some {i : Nat} (h : slot Γ i = o) (n : isHole o = false) : Γ[i]? = some o := by
  unfold slot at h
  rw [List.getD_eq_getElem?_getD] at h
  cases e : Γ[i]? with
  | none => rw [e] at h; subst h; cases n
  | some u => rw [e] at h; exact congrArg some h
theorem getElem?_append_map {α β : Type} (f : α → β) (tp : List α) (Γ : List β) (i : Nat) : (tp.map f ++ Γ)[tp.length + i]? = Γ[i]? := by
  rw [List.getElem?_append_right (by simp)]
  simp
theorem set_append_map {α β : Type} (f : α → β) (tp : List α) (Γ : List β) (i : Nat) (x : β) : (tp.map f ++ Γ).set (tp.length + i) x = tp.map f ++ Γ.set i x := by
  rw [List.set_append_right _ _ (by simp)]
  simp
theorem Cz.S.val {i : Nat} (h : c.S Hv H tp Γ) (e : slot Γ i = o) (n : isHole o = false) : ∃ v as, c.σ[i]? = some (some v) ∧ Rp c.K Hv H o v as := by
  obtain ⟨as, r, w⟩ := h.si
  have e' := slot_some e n
  obtain ⟨s, a, b, e1, _, h1, _⟩ := r.at_ (i := tp.length + i) (o := o) (by rw [getElem?_append_map]; exact e')
  rw [getElem?_append_map] at e1
  rcases h1 with ⟨q, _⟩ | ⟨x, q, h1⟩
  · subst q; cases n
  · subst q
    exact ⟨x, a, e1, h1⟩
theorem fz_hole (e : o.fz = some d) : isHole o = false := by cases o <;> first | rfl | cases e
theorem Rp.sh {K : PySem.W.Frag} {as : List Addr} (h : Rp K Hv H o v as) (e : o.fz = some d) : Sh K Hv H v d := by
  cases o with
  | v d' => cases e; unfold Rp at h; exact .inl h.1
  | lst xs =>
    cases e
    unfold Rp at h
    obtain ⟨a, vs, rfl, _, h, r⟩ := h
    exact .inr ⟨xs, a, vs, rfl, rfl, h, r⟩
  | dic _ => cases e
  | obj _ _ => cases e
  | exn _ _ => cases e
  | hole => cases e
theorem Cz.S.headSh (h : c.S Hv H ((o, some v) :: tp) Γ) (e : o.fz = some d) : Sh c.K Hv H v d := by
  obtain ⟨as, ⟨s', r, a, b, e1, e2, h1, h2⟩, w⟩ := h.si
  obtain ⟨rfl, rfl⟩ := List.cons.inj e1
  rcases h1 with ⟨q, _⟩ | ⟨x, q, h1⟩
  · have q' : o = .hole := q
    subst q'; cases e
  · cases q
    exact h1.sh e
/-- an operand as it stands now -/
def peek1 (Γ : Env) : Nat ⊕ O → Option D
  | .inl i => (slot Γ i).fz
  | .inr o => o.fz
theorem peeks_cons {it : Nat ⊕ O} {r : List (Nat ⊕ O)} {ds : List D} (h : peeks Γ (it :: r) = some ds) : ∃ d es, ds = d :: es ∧ peek1 Γ it = some d ∧ peeks Γ r = some es := by
  cases it with
  | inl i =>
    unfold peeks at h
    split at h
    · rename_i d es h1 h2
      cases h
      exact ⟨d, es, rfl, h1, h2⟩
    · cases h
  | inr o =>
    unfold peeks at h
    split at h
    · rename_i d es h1 h2
      cases h
      exact ⟨d, es, rfl, h1, h2⟩
    · cases h
theorem Cz.S.peek {it : Nat ⊕ O} (h : c.S Hv H ((itO it, some v) :: tp) Γ) (hv : ∀ i, it = .inl i → c.σ[i]? = some (some v)) (e : peek1 Γ it = some d) : Sh c.K Hv H v d := by
  cases it with
  | inl i =>
    obtain ⟨x, as, h1, h2⟩ := h.val (i := i) rfl (fz_hole (o := slot Γ i) e)
    rw [hv i rfl] at h1
    cases h1
    exact h2.sh e
  | inr o => exact h.headSh e
end

/-! ### readings -/
section
variable {X : Cx} {e : Expr} {t t' : TE}
theorem _root_.L2.PE.imp (h : PE X e t') (k : ∀ σ H Q, t σ H Q → t' σ H Q) : PE X e t := ⟨fun pins s σ H Q I hw => h.run pins s σ H Q I (k σ H Q hw)⟩
theorem _root_.L2.PT.imp {t t' : TT} (h : PT X e t') (k : ∀ σ H Q, t σ H Q → t' σ H Q) : PT X e t := ⟨fun pins s σ H Q I hw => h.run pins s σ H Q I (k σ H Q hw)⟩
theorem _root_.L2.PS.imp {st : Stmt} {t t' : TS} (h : PS X st t') (k : ∀ D σ H, t D σ H → t' D σ H) : PS X st t := ⟨fun pins s σ H D I hw => h.run pins s σ H D I (k D σ H hw)⟩
end
/-- expression e is z -/
abbrev Ez (X : Cx) (C : Cfg) (W : WX) (e : Expr) (z : E) : Prop := PE X e (tE X.K C.ro W (ev C z))
abbrev Bz (X : Cx) (C : Cfg) (W : WX) (e : Expr) (z : E) : Prop := PE X e (tB X.K C.ro W (evb1 C z))
abbrev Dz (X : Cx) (C : Cfg) (W : WX) (e : Expr) (z : E) : Prop := PE X e (tD X.K C.ro W (fun Γ => toD (ev C z Γ)))
section
variable {X : Cx} {C : Cfg} {W : WX} {e : Expr} {z : E}
theorem Ez.d (h : Ez X C W e z) : Dz X C W e z := h.imp fun σ H Q ⟨F, us, Hv, tp, Γ, s, hs⟩ => by
  refine ⟨F, us, Hv, tp, Γ, s, (sat_toD hs).imp (fun p ⟨d, e, q⟩ v Hv' H' s' => ?_) fun _ _ h => h⟩
  obtain ⟨Hv2, k, s2⟩ := s'.fz e
  exact q v Hv2 H' s2
theorem Ez.b (h : Ez X C W e z) (n : ∀ i, z ≠ .var i) : Bz X C W e z := h.imp fun σ H Q ⟨F, us, Hv, tp, Γ, s, hs⟩ => by
  refine ⟨F, us, Hv, tp, Γ, s, ?_⟩
  have e1 : evb1 C z Γ = (ev C z Γ).bind fun d => .ok (.inr d.1, d.2) := by
    cases z <;> first | rfl | exact absurd rfl (n _)
  rw [e1, R.sat_bind] at hs
  exact hs.imp (fun p q v Hv' H' s' => q v Hv' H' s' fun i z => nomatch z) fun _ _ h => h
theorem bz_var {i : Nat} {x : Str} {pos : Pos} (hN : X.N[i]? = some x) (hv : Vis X.env.scope x) (hd : (x == ("__debug__" : Str)) = false := by decide) (hcd : (x == ("__classdict__" : Str)) = false := by decide) : Bz X C W (.Name x pos) (.var i) :=
  (pe_var hN hv hd hcd).imp fun σ H Q ⟨F, us, Hv, tp, Γ, s, hs⟩ => by
    unfold evb1 at hs
    by_cases n : isHole (slot Γ i) = true
    · simp only [n, if_true] at hs
      exact hs.elim
    · simp only [if_neg n] at hs
      obtain ⟨v, as, e1, r⟩ := s.val rfl (by simpa using n)
      refine ⟨v, e1, hs v Hv H ⟨?_, s.ro⟩ fun j ej => ?_⟩
      · exact s.si.pushHole
      · cases ej; exact e1
/-- a variable's value, its list frozen -/
theorem ez_var {i : Nat} {x : Str} {pos : Pos} (hN : X.N[i]? = some x) (hv : Vis X.env.scope x) (hd : (x == ("__debug__" : Str)) = false := by decide) (hcd : (x == ("__classdict__" : Str)) = false := by decide) : Ez X C W (.Name x pos) (.var i) :=
  (pe_var hN hv hd hcd).imp fun σ H Q ⟨F, us, Hv, tp, Γ, s, hs⟩ => by
    unfold ev at hs
    obtain ⟨d, ed, hs⟩ := opt_sat hs
    have n := fz_hole ed
    have e' := slot_some (Γ := Γ) (i := i) rfl n
    obtain ⟨v, as, e1, r⟩ := s.val rfl n
    refine ⟨v, e1, ?_⟩
    -- to the front, frozen, a copy back
    obtain ⟨s1, es1, t1⟩ := s.si.take (i := tp.length + i) (o := slot Γ i) (by rw [getElem?_append_map]; exact e')
    rw [getElem?_append_map] at es1
    have e1' : σ[i]? = some (some v) := e1
    have es1' : σ[i]? = some s1 := es1
    rw [e1'] at es1'
    cases es1'
    obtain ⟨Hv2, k2, t2⟩ := t1.fz ed
    have r2 := t2.headV
    have hi : i < Γ.length := (List.getElem?_eq_some_iff.mp e').1
    have t3 := t2.put (i := tp.length + i) (by simp; omega)
    have t4 := t3.pushV r2
    rw [List.set_set, set_append_map, set_append_map] at t4
    have es : σ.set i (some v) = σ := by
      apply List.ext_getElem?
      intro j
      by_cases q : i = j
      · subst q
        rw [List.getElem?_set_self (List.getElem?_eq_some_iff.mp e1').1, e1']
      · rw [List.getElem?_set_ne q]
    refine hs v Hv2 H ⟨?_, s.ro⟩
    have t4' : SI X.K F Hv2 H (.v d :: (tp.map (·.1) ++ Γ.set i (.v d))) (some v :: (tp.map (·.2) ++ σ.set i (some v))) := t4
    rw [es] at t4'
    exact t4'
/-- a variable's own thing goes -/
theorem ez_mv {i : Nat} {x : Str} {pos : Pos} (hN : X.N[i]? = some x) (hv : Vis X.env.scope x) (hd : (x == ("__debug__" : Str)) = false := by decide) (hcd : (x == ("__classdict__" : Str)) = false := by decide) : Ez X C W (.Name x pos) (.mv i) :=
  (pe_var hN hv hd hcd).imp fun σ H Q ⟨F, us, Hv, tp, Γ, s, hs⟩ => by
    unfold ev at hs
    by_cases n : isHole (slot Γ i) = true
    · simp only [n, if_true] at hs
      exact hs.elim
    · simp only [if_neg n] at hs
      have n' : isHole (slot Γ i) = false := by simpa using n
      have e' := slot_some (Γ := Γ) (i := i) rfl n'
      obtain ⟨v, as, e1, r⟩ := s.val rfl n'
      refine ⟨v, e1, ?_⟩
      obtain ⟨s1, es1, t1⟩ := s.si.take (i := tp.length + i) (o := slot Γ i) (by rw [getElem?_append_map]; exact e')
      rw [getElem?_append_map] at es1
      have e1' : σ[i]? = some (some v) := e1
      have es1' : σ[i]? = some s1 := es1
      rw [e1'] at es1'
      cases es1'
      rw [set_append_map] at t1
      exact hs v Hv H ⟨t1, s.ro⟩
/-- a constant -/
theorem ez_c {v : V} {d : D} (h : PE X e (tC v)) (r : ∀ G : Hp, Dp X.K G v d) : Ez X C W e (.cst d) := h.imp fun σ H Q ⟨F, us, Hv, tp, Γ, s, hs⟩ => hs v Hv H ⟨s.si.pushV (r Hv), s.ro⟩
theorem ez_glb {x : Str} {v : V} {d : D} (h : PE X e (tC v)) (r : ∀ G : Hp, Dp X.K G v d) (g : C.glob x = some d) : Ez X C W e (.glb x) := h.imp fun σ H Q ⟨F, us, Hv, tp, Γ, s, hs⟩ => by
  unfold ev at hs
  obtain ⟨d', e', hs⟩ := opt_sat hs
  rw [g] at e'; cases e'
  exact hs v Hv H ⟨s.si.pushV (r Hv), s.ro⟩

/-! ### operations -/
/-- an operation of two values, by data -/
def r2 (K : PySem.W.Frag) (f : D → D → Option O) : R2 := fun x y H Q => ∃ Hv a b o, Sub Hv H ∧ Sh K Hv H x a ∧ Sh K Hv H y b ∧ f a b = some o ∧ ∀ z H', Res K Hv H o z H' → Q z H'
def r1 (K : PySem.W.Frag) (f : D → Option O) : V → Hp → VK → Prop := fun x H Q => ∃ Hv a o, Sub Hv H ∧ Sh K Hv H x a ∧ f a = some o ∧ ∀ z H', Res K Hv H o z H' → Q z H'
theorem tB2 {K : PySem.W.Frag} {p : Pr} {f : D → D → Option O} {za zb : E} (hf : prF p = f2 f) {σ : L2.St} {H : Hp} {Q : VK} (h : tE K C.ro W (ev C (.pr p (.cons za (.cons zb .nil)))) σ H Q) :
    tB K C.ro W (evb1 C za) σ H fun x H1 => tB K C.ro W (evb1 C zb) σ H1 fun y H2 => r2 K f x y H2 Q := by
  obtain ⟨F, us, Hv, tp, Γ, s, hs⟩ := h
  unfold ev at hs
  rw [evB_cons, R.sat_bind, R.sat_bind] at hs
  refine ⟨F, us, Hv, tp, Γ, s, hs.imp (fun q1 hq v Hv1 H1 s1 hv1 => ?_) fun _ _ h => h⟩
  rw [R.sat_bind, evB_cons, R.sat_bind] at hq
  refine ⟨F, us, Hv1, _, q1.2, s1, hq.imp (fun q2 hq u Hv2 H2 s2 hv2 => ?_) fun _ _ h => Cz.exq.push h⟩
  have hq : (opt (peeks q2.2 [q1.1, q2.1]) fun ds => opt (prF p ds) fun o => .ok (o, q2.2)).sat _ _ := hq
  obtain ⟨ds, e1, hq'⟩ := opt_sat hq
  clear hq
  obtain ⟨o, e2, hz⟩ := opt_sat hq'
  clear hq'
  obtain ⟨d1, es, rfl, p1, e1⟩ := peeks_cons e1
  obtain ⟨d2, es', rfl, p2, e1⟩ := peeks_cons e1
  cases e1
  rw [hf] at e2
  have sx := s2.swap.peek hv1 p1
  have sy := s2.peek hv2 p2
  refine ⟨Hv2, d1, d2, o, s2.sub, sx, sy, e2, fun z H' r => ?_⟩
  obtain ⟨Hv3, _, s3⟩ := s2.pop2.res r
  exact hz z Hv3 H' s3
theorem tB1 {K : PySem.W.Frag} {p : Pr} {f : D → Option O} {za : E} (hf : prF p = f1 f) {σ : L2.St} {H : Hp} {Q : VK} (h : tE K C.ro W (ev C (.pr p (.cons za .nil))) σ H Q) :
    tB K C.ro W (evb1 C za) σ H fun x H1 => r1 K f x H1 Q := by
  obtain ⟨F, us, Hv, tp, Γ, s, hs⟩ := h
  unfold ev at hs
  rw [evB_cons, R.sat_bind, R.sat_bind] at hs
  refine ⟨F, us, Hv, tp, Γ, s, hs.imp (fun q1 hq v Hv1 H1 s1 hv1 => ?_) fun _ _ h => h⟩
  have hq : (opt (peeks q1.2 [q1.1]) fun ds => opt (prF p ds) fun o => .ok (o, q1.2)).sat _ _ := hq
  obtain ⟨ds, e1, hq'⟩ := opt_sat hq
  clear hq
  obtain ⟨o, e2, hz⟩ := opt_sat hq'
  clear hq'
  obtain ⟨d1, es, rfl, p1, e1⟩ := peeks_cons e1
  cases e1
  rw [hf] at e2
  refine ⟨Hv1, d1, o, s1.sub, s1.peek hv1 p1, e2, fun z H' r => ?_⟩
  obtain ⟨Hv3, _, s3⟩ := s1.pop.res r
  exact hz z Hv3 H' s3
variable {a b : Expr} {za zb : E} {pos : Pos} {p : Pr} {f : D → D → Option O} {f' : D → Option O}
theorem ez_op {op : Operator} (hf : prF p = f2 f) (ho : OpR X (binaryOp op) (r2 X.K f)) (ha : Bz X C W a za) (hb : Bz X C W b zb) : Ez X C W (.BinOp a op b pos) (.pr p (.cons za (.cons zb .nil))) :=
  (pe_op ho ha hb).imp fun σ H Q h => tB2 hf h
theorem ez_cmp {op : CmpOp} (hf : prF p = f2 f) (ho : OpR X (compareOp op) (r2 X.K f)) (ha : Bz X C W a za) (hb : Bz X C W b zb) (hm : behindInMarks op b = false) : Ez X C W (.Compare a [op] [b] pos) (.pr p (.cons za (.cons zb .nil))) :=
  (pe_cmpR ho ha hb hm).imp fun σ H Q h => tB2 hf h
theorem ez_ix (hf : prF p = f2 f) (ho : IxR X (r2 X.K f)) (ha : Bz X C W a za) (hb : Bz X C W b zb) (hs : PlainIx b) : Ez X C W (.Subscript a b pos) (.pr p (.cons za (.cons zb .nil))) :=
  (pe_ix ho ha hb hs).imp fun σ H Q h => tB2 hf h
theorem ez_un {op : UnaryOp} (hf : prF p = f1 f') (ho : UnR X (unaryOp op) (r1 X.K f')) (ha : Bz X C W a za) : Ez X C W (.UnaryOp op a pos) (.pr p (.cons za .nil)) :=
  (pe_un ho ha).imp fun σ H Q h => tB1 hf h
end
end Z
end
section
set_option Elab.async false
set_option linter.all false
set_option maxRecDepth 100000
namespace Z
open PySem PySem.Spec PyProof.Rows L2

open SeqAt in
theorem Sees.rc {s : Shared} {d e : D} {u v : Value} {A : Around} (hu : A.units + min (dp d) (dp e) < cLine) (h : Sees s.heap d u) (k : Sees s.heap e v) : RcAt A s u v (PyData.eqv d e) := by
  cases d with
  | none =>
    unfold Sees at h; subst h
    cases e with
    | none => unfold Sees at k; subst k; unfold PyData.eqv; exact RcAt.none_none
    | bool y => unfold Sees at k; subst k; unfold PyData.eqv; exact RcAt.none_bool y
    | int y => unfold Sees at k; obtain ⟨t, rfl⟩ := k; unfold PyData.eqv; exact RcAt.none_int y t
    | str y => unfold Sees at k; obtain ⟨t, rfl⟩ := k; unfold PyData.eqv; exact RcAt.none_str y t
    | list es => unfold Sees at k; obtain ⟨a, its, rfl, p, r⟩ := k; unfold PyData.eqv; exact RcAt.none_list p (by omega)
    | tuple es => unfold Sees at k; obtain ⟨a, its, rfl, p, r⟩ := k; unfold PyData.eqv; exact RcAt.none_tuple p (by omega)
    | dict es => unfold Sees at k; exact k.elim
  | bool x =>
    unfold Sees at h; subst h
    cases e with
    | none => unfold Sees at k; subst k; unfold PyData.eqv; exact RcAt.bool_none x
    | bool y => unfold Sees at k; subst k; unfold PyData.eqv; exact RcAt.bool_bool x y
    | int y => unfold Sees at k; obtain ⟨t, rfl⟩ := k; unfold PyData.eqv; exact RcAt.bool_int x y t
    | str y => unfold Sees at k; obtain ⟨t, rfl⟩ := k; unfold PyData.eqv; exact RcAt.bool_str x y t
    | list es => unfold Sees at k; obtain ⟨a, its, rfl, p, r⟩ := k; unfold PyData.eqv; exact RcAt.bool_list x p (by omega)
    | tuple es => unfold Sees at k; obtain ⟨a, its, rfl, p, r⟩ := k; unfold PyData.eqv; exact RcAt.bool_tuple x p (by omega)
    | dict es => unfold Sees at k; exact k.elim
  | int x =>
    unfold Sees at h; obtain ⟨t', rfl⟩ := h
    cases e with
    | none => unfold Sees at k; subst k; unfold PyData.eqv; exact RcAt.int_none x t'
    | bool y => unfold Sees at k; subst k; unfold PyData.eqv; exact RcAt.int_bool x t' y
    | int y => unfold Sees at k; obtain ⟨t, rfl⟩ := k; unfold PyData.eqv; exact RcAt.int_int x t' y t
    | str y => unfold Sees at k; obtain ⟨t, rfl⟩ := k; unfold PyData.eqv; exact RcAt.int_str x t' y t
    | list es => unfold Sees at k; obtain ⟨a, its, rfl, p, r⟩ := k; unfold PyData.eqv; exact RcAt.int_list x t' p (by omega)
    | tuple es => unfold Sees at k; obtain ⟨a, its, rfl, p, r⟩ := k; unfold PyData.eqv; exact RcAt.int_tuple x t' p (by omega)
    | dict es => unfold Sees at k; exact k.elim
  | str x =>
    unfold Sees at h; obtain ⟨t', rfl⟩ := h
    cases e with
    | none => unfold Sees at k; subst k; unfold PyData.eqv; exact RcAt.str_none x t'
    | bool y => unfold Sees at k; subst k; unfold PyData.eqv; exact RcAt.str_bool x t' y
    | int y => unfold Sees at k; obtain ⟨t, rfl⟩ := k; unfold PyData.eqv; exact RcAt.str_int x t' y t
    | str y => unfold Sees at k; obtain ⟨t, rfl⟩ := k; unfold PyData.eqv; exact RcAt.str_str x t' y t
    | list es => unfold Sees at k; obtain ⟨a, its, rfl, p, r⟩ := k; unfold PyData.eqv; exact RcAt.str_list x t' p (by omega)
    | tuple es => unfold Sees at k; obtain ⟨a, its, rfl, p, r⟩ := k; unfold PyData.eqv; exact RcAt.str_tuple x t' p (by omega)
    | dict es => unfold Sees at k; exact k.elim
  | list ds =>
    unfold Sees at h; obtain ⟨a', its', rfl, p', r'⟩ := h
    cases e with
    | none => unfold Sees at k; subst k; unfold PyData.eqv; exact RcAt.list_none p' (by omega)
    | bool y => unfold Sees at k; subst k; unfold PyData.eqv; exact RcAt.list_bool y p' (by omega)
    | int y => unfold Sees at k; obtain ⟨t, rfl⟩ := k; unfold PyData.eqv; exact RcAt.list_int y t p' (by omega)
    | str y => unfold Sees at k; obtain ⟨t, rfl⟩ := k; unfold PyData.eqv; exact RcAt.list_str y t p' (by omega)
    | list es =>
      unfold Sees at k; obtain ⟨a, its, rfl, p, r⟩ := k
      unfold PyData.eqv
      have l1 := r'.length
      have l2 := r.length
      have e1 : dp (.list ds) = dpAll ds + 1 := by unfold dp; rfl
      have e2 : dp (.list es) = dpAll es + 1 := by unfold dp; rfl
      rw [e1, e2] at hu
      have he : ∀ j (h1 : j < its'.size) (h2 : j < its.size), EqAt A.in1 s its'[j] its[j] (PyData.eqv (ds.getD j .none) (es.getD j .none)) := fun j h1 h2 => by
        have j1 : j < ds.length := by rw [← l1]; simpa using h1
        have j2 : j < es.length := by rw [← l2]; simpa using h2
        have g1 := r'.get j1 (by simpa using h1)
        have g2 := r.get j2 (by simpa using h2)
        have y := Sees.eq (A := A.in1) (by
          have m1 := dp_le (List.getElem_mem j1)
          have m2 := dp_le (List.getElem_mem j2)
          show A.units + 1 + _ < cLine
          omega) g1 g2
        simpa [j1, j2] using y
      rw [eqvAll_iff]
      by_cases hz : its'.size = its.size
      · have hl : ds.length = es.length := by
          rw [← l1, ← l2]; simpa using hz
        have e3 : min ds.length es.length = its'.size := by
          rw [← hl, Nat.min_self, ← l1]; simp
        rw [e3, hl, beq_self_eq_true, Bool.and_true]
        exact RcAt.lists p' p hz (by omega) he
      · have hl : (ds.length == es.length) = false := by
          rw [beq_eq_false_iff_ne, ← l1, ← l2]; simpa using hz
        rw [hl, Bool.and_false]
        exact RcAt.lists_lengths p' p (by simpa using hz) (by omega)
    | tuple es => unfold Sees at k; obtain ⟨a, its, rfl, p, r⟩ := k; unfold PyData.eqv; exact RcAt.list_tuple p' p (by omega)
    | dict es => unfold Sees at k; exact k.elim
  | tuple ds =>
    unfold Sees at h; obtain ⟨a', its', rfl, p', r'⟩ := h
    cases e with
    | none => unfold Sees at k; subst k; unfold PyData.eqv; exact RcAt.tuple_none p' (by omega)
    | bool y => unfold Sees at k; subst k; unfold PyData.eqv; exact RcAt.tuple_bool y p' (by omega)
    | int y => unfold Sees at k; obtain ⟨t, rfl⟩ := k; unfold PyData.eqv; exact RcAt.tuple_int y t p' (by omega)
    | str y => unfold Sees at k; obtain ⟨t, rfl⟩ := k; unfold PyData.eqv; exact RcAt.tuple_str y t p' (by omega)
    | list es => unfold Sees at k; obtain ⟨a, its, rfl, p, r⟩ := k; unfold PyData.eqv; exact RcAt.tuple_list p' p (by omega)
    | tuple es =>
      unfold Sees at k; obtain ⟨a, its, rfl, p, r⟩ := k
      unfold PyData.eqv
      have l1 := r'.length
      have l2 := r.length
      have e1 : dp (.tuple ds) = dpAll ds + 1 := by unfold dp; rfl
      have e2 : dp (.tuple es) = dpAll es + 1 := by unfold dp; rfl
      rw [e1, e2] at hu
      have he : ∀ j (h1 : j < its'.size) (h2 : j < its.size), EqAt A.in1 s its'[j] its[j] (PyData.eqv (ds.getD j .none) (es.getD j .none)) := fun j h1 h2 => by
        have j1 : j < ds.length := by rw [← l1]; simpa using h1
        have j2 : j < es.length := by rw [← l2]; simpa using h2
        have g1 := r'.get j1 (by simpa using h1)
        have g2 := r.get j2 (by simpa using h2)
        have y := Sees.eq (A := A.in1) (by
          have m1 := dp_le (List.getElem_mem j1)
          have m2 := dp_le (List.getElem_mem j2)
          show A.units + 1 + _ < cLine
          omega) g1 g2
        simpa [j1, j2] using y
      rw [eqvAll_iff]
      have e3 : ds.length = its'.size := by rw [← l1]; simp
      have e4 : es.length = its.size := by rw [← l2]; simp
      rw [e3, e4]
      exact RcAt.tuples p' p (by omega) he
    | dict es => unfold Sees at k; exact k.elim
  | dict ds => unfold Sees at h; exact h.elim
open SeqAt in
theorem Sees.rcNe {s : Shared} {d e : D} {u v : Value} {A : Around} (hu : A.units + min (dp d) (dp e) < cLine) (h : Sees s.heap d u) (k : Sees s.heap e v) : RcNeAt A s u v (!PyData.eqv d e) := by
  cases d with
  | none =>
    unfold Sees at h; subst h
    cases e with
    | none => unfold Sees at k; subst k; unfold PyData.eqv; exact RcNeAt.none_none
    | bool y => unfold Sees at k; subst k; unfold PyData.eqv; exact RcNeAt.none_bool y
    | int y => unfold Sees at k; obtain ⟨t, rfl⟩ := k; unfold PyData.eqv; exact RcNeAt.none_int y t
    | str y => unfold Sees at k; obtain ⟨t, rfl⟩ := k; unfold PyData.eqv; exact RcNeAt.none_str y t
    | list es => unfold Sees at k; obtain ⟨a, its, rfl, p, r⟩ := k; unfold PyData.eqv; exact RcNeAt.none_list p (by omega)
    | tuple es => unfold Sees at k; obtain ⟨a, its, rfl, p, r⟩ := k; unfold PyData.eqv; exact RcNeAt.none_tuple p (by omega)
    | dict es => unfold Sees at k; exact k.elim
  | bool x =>
    unfold Sees at h; subst h
    cases e with
    | none => unfold Sees at k; subst k; unfold PyData.eqv; exact RcNeAt.bool_none x
    | bool y => unfold Sees at k; subst k; unfold PyData.eqv; exact RcNeAt.bool_bool x y
    | int y => unfold Sees at k; obtain ⟨t, rfl⟩ := k; unfold PyData.eqv; exact RcNeAt.bool_int x y t
    | str y => unfold Sees at k; obtain ⟨t, rfl⟩ := k; unfold PyData.eqv; exact RcNeAt.bool_str x y t
    | list es => unfold Sees at k; obtain ⟨a, its, rfl, p, r⟩ := k; unfold PyData.eqv; exact RcNeAt.bool_list x p (by omega)
    | tuple es => unfold Sees at k; obtain ⟨a, its, rfl, p, r⟩ := k; unfold PyData.eqv; exact RcNeAt.bool_tuple x p (by omega)
    | dict es => unfold Sees at k; exact k.elim
  | int x =>
    unfold Sees at h; obtain ⟨t', rfl⟩ := h
    cases e with
    | none => unfold Sees at k; subst k; unfold PyData.eqv; exact RcNeAt.int_none x t'
    | bool y => unfold Sees at k; subst k; unfold PyData.eqv; exact RcNeAt.int_bool x t' y
    | int y => unfold Sees at k; obtain ⟨t, rfl⟩ := k; unfold PyData.eqv; exact RcNeAt.int_int x t' y t
    | str y => unfold Sees at k; obtain ⟨t, rfl⟩ := k; unfold PyData.eqv; exact RcNeAt.int_str x t' y t
    | list es => unfold Sees at k; obtain ⟨a, its, rfl, p, r⟩ := k; unfold PyData.eqv; exact RcNeAt.int_list x t' p (by omega)
    | tuple es => unfold Sees at k; obtain ⟨a, its, rfl, p, r⟩ := k; unfold PyData.eqv; exact RcNeAt.int_tuple x t' p (by omega)
    | dict es => unfold Sees at k; exact k.elim
  | str x =>
    unfold Sees at h; obtain ⟨t', rfl⟩ := h
    cases e with
    | none => unfold Sees at k; subst k; unfold PyData.eqv; exact RcNeAt.str_none x t'
    | bool y => unfold Sees at k; subst k; unfold PyData.eqv; exact RcNeAt.str_bool x t' y
    | int y => unfold Sees at k; obtain ⟨t, rfl⟩ := k; unfold PyData.eqv; exact RcNeAt.str_int x t' y t
    | str y => unfold Sees at k; obtain ⟨t, rfl⟩ := k; unfold PyData.eqv; exact RcNeAt.str_str x t' y t
    | list es => unfold Sees at k; obtain ⟨a, its, rfl, p, r⟩ := k; unfold PyData.eqv; exact RcNeAt.str_list x t' p (by omega)
    | tuple es => unfold Sees at k; obtain ⟨a, its, rfl, p, r⟩ := k; unfold PyData.eqv; exact RcNeAt.str_tuple x t' p (by omega)
    | dict es => unfold Sees at k; exact k.elim
  | list ds =>
    unfold Sees at h; obtain ⟨a', its', rfl, p', r'⟩ := h
    cases e with
    | none => unfold Sees at k; subst k; unfold PyData.eqv; exact RcNeAt.list_none p' (by omega)
    | bool y => unfold Sees at k; subst k; unfold PyData.eqv; exact RcNeAt.list_bool y p' (by omega)
    | int y => unfold Sees at k; obtain ⟨t, rfl⟩ := k; unfold PyData.eqv; exact RcNeAt.list_int y t p' (by omega)
    | str y => unfold Sees at k; obtain ⟨t, rfl⟩ := k; unfold PyData.eqv; exact RcNeAt.list_str y t p' (by omega)
    | list es =>
      unfold Sees at k; obtain ⟨a, its, rfl, p, r⟩ := k
      unfold PyData.eqv
      have l1 := r'.length
      have l2 := r.length
      have e1 : dp (.list ds) = dpAll ds + 1 := by unfold dp; rfl
      have e2 : dp (.list es) = dpAll es + 1 := by unfold dp; rfl
      rw [e1, e2] at hu
      have he : ∀ j (h1 : j < its'.size) (h2 : j < its.size), EqAt A.in1 s its'[j] its[j] (PyData.eqv (ds.getD j .none) (es.getD j .none)) := fun j h1 h2 => by
        have j1 : j < ds.length := by rw [← l1]; simpa using h1
        have j2 : j < es.length := by rw [← l2]; simpa using h2
        have g1 := r'.get j1 (by simpa using h1)
        have g2 := r.get j2 (by simpa using h2)
        have y := Sees.eq (A := A.in1) (by
          have m1 := dp_le (List.getElem_mem j1)
          have m2 := dp_le (List.getElem_mem j2)
          show A.units + 1 + _ < cLine
          omega) g1 g2
        simpa [j1, j2] using y
      rw [eqvAll_iff]
      by_cases hz : its'.size = its.size
      · have hl : ds.length = es.length := by
          rw [← l1, ← l2]; simpa using hz
        have e3 : min ds.length es.length = its'.size := by
          rw [← hl, Nat.min_self, ← l1]; simp
        rw [e3, hl, beq_self_eq_true, Bool.and_true]
        exact RcNeAt.lists p' p hz (by omega) he
      · have hl : (ds.length == es.length) = false := by
          rw [beq_eq_false_iff_ne, ← l1, ← l2]; simpa using hz
        rw [hl, Bool.and_false]
        exact RcNeAt.lists_lengths p' p (by simpa using hz) (by omega)
    | tuple es => unfold Sees at k; obtain ⟨a, its, rfl, p, r⟩ := k; unfold PyData.eqv; exact RcNeAt.list_tuple p' p (by omega)
    | dict es => unfold Sees at k; exact k.elim
  | tuple ds =>
    unfold Sees at h; obtain ⟨a', its', rfl, p', r'⟩ := h
    cases e with
    | none => unfold Sees at k; subst k; unfold PyData.eqv; exact RcNeAt.tuple_none p' (by omega)
    | bool y => unfold Sees at k; subst k; unfold PyData.eqv; exact RcNeAt.tuple_bool y p' (by omega)
    | int y => unfold Sees at k; obtain ⟨t, rfl⟩ := k; unfold PyData.eqv; exact RcNeAt.tuple_int y t p' (by omega)
    | str y => unfold Sees at k; obtain ⟨t, rfl⟩ := k; unfold PyData.eqv; exact RcNeAt.tuple_str y t p' (by omega)
    | list es => unfold Sees at k; obtain ⟨a, its, rfl, p, r⟩ := k; unfold PyData.eqv; exact RcNeAt.tuple_list p' p (by omega)
    | tuple es =>
      unfold Sees at k; obtain ⟨a, its, rfl, p, r⟩ := k
      unfold PyData.eqv
      have l1 := r'.length
      have l2 := r.length
      have e1 : dp (.tuple ds) = dpAll ds + 1 := by unfold dp; rfl
      have e2 : dp (.tuple es) = dpAll es + 1 := by unfold dp; rfl
      rw [e1, e2] at hu
      have he : ∀ j (h1 : j < its'.size) (h2 : j < its.size), EqAt A.in1 s its'[j] its[j] (PyData.eqv (ds.getD j .none) (es.getD j .none)) := fun j h1 h2 => by
        have j1 : j < ds.length := by rw [← l1]; simpa using h1
        have j2 : j < es.length := by rw [← l2]; simpa using h2
        have g1 := r'.get j1 (by simpa using h1)
        have g2 := r.get j2 (by simpa using h2)
        have y := Sees.eq (A := A.in1) (by
          have m1 := dp_le (List.getElem_mem j1)
          have m2 := dp_le (List.getElem_mem j2)
          show A.units + 1 + _ < cLine
          omega) g1 g2
        simpa [j1, j2] using y
      rw [eqvAll_iff]
      have e3 : ds.length = its'.size := by rw [← l1]; simp
      have e4 : es.length = its.size := by rw [← l2]; simp
      rw [e3, e4]
      exact RcNeAt.tuples p' p (by omega) he
    | dict es => unfold Sees at k; exact k.elim
  | dict ds => unfold Sees at h; exact h.elim
end Z
end
section
set_option Elab.async false
set_option linter.all false
set_option maxRecDepth 100000
namespace Z
open PySem PySem.Spec PyProof.Rows L2

/-! ### operations of two values -/
section
variable {X : Cx}
theorem zo_of {g : Value → Value → Sem Value} {f : D → D → Option O} {r : R2} (h : OpR X g r)
    (hr : ∀ Hv H x y a b o Q, Sub Hv H → Sh X.K Hv H x a → Sh X.K Hv H y b → f a b = some o → (∀ z H', Res X.K Hv H o z H' → Q z H') → r x y H Q) : OpR X g (r2 X.K f) :=
  fun pins s σ H x y v u Q I rx ry ⟨Hv, a, b, o, k, hx, hy, hf, q⟩ => h pins s σ H x y v u Q I rx ry (hr Hv H x y a b o Q k hx hy hf q)
theorem dpAll_len {K : PySem.W.Frag} {H : Hp} {vs : List V} {ds : List D} (h : DpAll K H vs ds) : vs.length = ds.length := dpAll_length h
theorem lim_eq : LIM = sizeLine := rfl
/-- list + list -/
theorem op_catL : OpR X (binaryOp .Add) (fun x y H Q => ∃ l b xs zs, x = .ref l ∧ y = .ref b ∧ SqL X.K H l xs ∧ SqL X.K H b zs ∧ xs.length + zs.length ≤ sizeLine ∧ ∀ p, H p = none → Q (.ref p) (upd H p (.lst (xs ++ zs)))) := by
  intro pins s σ H x y v u Q I rx ry h
  obtain ⟨l, b, xs, zs, rfl, rfl, hH, hB, hz, q⟩ := h
  cases rx
  cases ry
  obtain ⟨its, r, pl, z⟩ := I.list hH
  obtain ⟨its2, r2, pl2, z2⟩ := I.list hB
  obtain ⟨⟨cls, dd, data, sl⟩, ho, hc, n, hd⟩ := id pl.isList
  obtain ⟨⟨cls2, dd2, data2, sl2⟩, ho2, hc2, n2, hd2⟩ := id pl2.isList
  simp only at hc hd hc2 hd2
  subst hc hd hc2 hd2
  have e1 := r.length
  have e2 := r2.length
  refine concat_meets ⟨_, ho, rfl⟩ ⟨_, ho2, rfl⟩ noFill_list_add seq_list_add PySem.F.slot_list_add PySem.F.entry_list_add (PySem.F.args_list_add_2 _ _) (list_addW l b its.toArray its2.toArray n n2 dd dd2 sl sl2 (by rw [List.size_toArray, List.size_toArray]; omega)) ⟨ho, ho2, ?_⟩
  have ea : its.toArray ++ its2.toArray = (its ++ its2).toArray := by simp
  rw [ea]
  exact ⟨.ref _, _, I.lnew (t' := s.toks) (r.append r2) (by rw [List.length_append]; omega), rfl, q _ I.fresh⟩
theorem zo_add : OpR X (binaryOp .Add) (r2 X.K fAdd) := by
  refine zo_of (op_add.or (op_add_str.or (op_catL.or op_catA))) fun Hv H x y a b o Q k hx hy hf q => ?_
  unfold fAdd at hf
  split at hf
  · cases hf
    exact .inl ⟨_, _, hx.int, hy.int, q _ _ (.old (.int _))⟩
  · split at hf
    · rename_i h
      cases hf
      exact .inr (.inl ⟨_, _, hx.str, hy.str, h, q _ _ (.old (.str _))⟩)
    · cases hf
  · split at hf
    · rename_i h
      cases hf
      obtain ⟨l, vs, rfl, h1, r1⟩ := hx.list k
      obtain ⟨l', vs', rfl, h2, r2⟩ := hy.list k
      exact .inr (.inr (.inl ⟨_, _, _, _, rfl, rfl, h1, h2, by rw [dpAll_length r1, dpAll_length r2]; exact h, fun p hp => q _ _ (.lst (dpAll_append r1 r2) hp)⟩))
    · cases hf
  · split at hf
    · rename_i h
      cases hf
      obtain ⟨l, vs, rfl, h1, r1⟩ := hx.tup k
      obtain ⟨l', vs', rfl, h2, r2⟩ := hy.tup k
      refine .inr (.inr (.inr ⟨_, _, _, _, rfl, rfl, h1, h2, by rw [dpAll_length r1, dpAll_length r2]; exact h, fun e => ?_, fun e e' => ?_, fun e e' p hp => q _ _ (.tup (dpAll_append r1 r2) hp)⟩))
      · subst e
        cases r1
        rcases hy with hy | ⟨_, _, _, e, _⟩
        · exact q _ _ (.old hy)
        · cases e
      · subst e'
        cases r2
        rw [List.append_nil] at q
        rcases hx with hx | ⟨_, _, _, e, _⟩
        · exact q _ _ (.old hx)
        · cases e
    · cases hf
  · cases hf
theorem zo_sub : OpR X (binaryOp .Sub) (r2 X.K fSub) := zo_of op_sub fun Hv H x y a b o Q k hx hy hf q => by
  unfold fSub at hf
  split at hf
  · cases hf
    exact ⟨_, _, hx.int, hy.int, q _ _ (.old (.int _))⟩
  · cases hf
theorem zo_mul : OpR X (binaryOp .Mult) (r2 X.K fMul) := zo_of op_mul fun Hv H x y a b o Q k hx hy hf q => by
  unfold fMul at hf
  split at hf
  · split at hf
    · rename_i h
      cases hf
      unfold mulOk at h
      have h2 := of_decide_eq_true h
      exact ⟨_, _, hx.int, hy.int, h2, q _ _ (.old (.int _))⟩
    · cases hf
  · cases hf
theorem zo_fdiv : OpR X (binaryOp .FloorDiv) (r2 X.K fFdiv) := zo_of op_fdiv fun Hv H x y a b o Q k hx hy hf q => by
  unfold fFdiv at hf
  split at hf
  · split at hf
    · rename_i h
      cases hf
      exact ⟨_, _, hx.int, hy.int, h, q _ _ (.old (.int _))⟩
    · cases hf
  · cases hf
theorem zo_mod : OpR X (binaryOp .Mod) (r2 X.K fMod) := zo_of op_mod fun Hv H x y a b o Q k hx hy hf q => by
  unfold fMod at hf
  split at hf
  · split at hf
    · rename_i h
      cases hf
      exact ⟨_, _, hx.int, hy.int, h, q _ _ (.old (.int _))⟩
    · cases hf
  · cases hf
theorem zo_pow : OpR X (binaryOp .Pow) (r2 X.K fPow) := zo_of op_pow fun Hv H x y a b o Q k hx hy hf q => by
  unfold fPow at hf
  split at hf
  · split at hf
    · rename_i h
      cases hf
      exact ⟨_, _, hx.int, hy.int, ⟨h.1, by omega, h.2.2⟩, q _ _ (.old (.int _))⟩
    · cases hf
  · cases hf
theorem zo_le : OpR X (compareOp .LtE) (r2 X.K fLe) := zo_of op_le fun Hv H x y a b o Q k hx hy hf q => by
  unfold fLe at hf
  split at hf
  · cases hf
    exact ⟨_, _, hx.int, hy.int, q _ _ (.old (.bl _))⟩
  · cases hf
theorem zo_gt : OpR X (compareOp .Gt) (r2 X.K fGt) := zo_of op_gt fun Hv H x y a b o Q k hx hy hf q => by
  unfold fGt at hf
  split at hf
  · cases hf
    exact ⟨_, _, hx.int, hy.int, q _ _ (.old (.bl _))⟩
  · cases hf
theorem zo_ge : OpR X (compareOp .GtE) (r2 X.K fGe) := zo_of op_ge fun Hv H x y a b o Q k hx hy hf q => by
  unfold fGe at hf
  split at hf
  · cases hf
    exact ⟨_, _, hx.int, hy.int, q _ _ (.old (.bl _))⟩
  · cases hf
theorem zo_lt : OpR X (compareOp .Lt) (r2 X.K fLt) := zo_of (op_lt.or op_lt_str) fun Hv H x y a b o Q k hx hy hf q => by
  unfold fLt at hf
  split at hf
  · cases hf
    exact .inl ⟨_, _, hx.int, hy.int, q _ _ (.old (.bl _))⟩
  · cases hf
    exact .inr ⟨_, _, hx.str, hy.str, q _ _ (.old (.bl _))⟩
  · cases hf
/-- room for a comparison -/
def Rm (X : Cx) : Prop := X.A.units + 200 < cLine
theorem zo_eq (hu : Rm X) : OpR X (compareOp .Eq) (r2 X.K fEq) := by
  intro pins s σ H x y v u Q I rx ry ⟨Hv, a, b, o, k, hx, hy, hf, q⟩
  unfold fEq at hf
  split at hf
  · rename_i h
    cases hf
    have h' : min (dp a) (dp b) ≤ 60 := of_decide_eq_true h
    have h1 := Dp.sees I _ _ _ (hx.dp k) rx
    have h2 := Dp.sees I _ _ _ (hy.dp k) ry
    exact (Sees.rc (A := X.A) (by unfold Rm at hu; omega) h1 h2) _ _ _ _ ⟨.bl _, H, I, rfl, q _ _ (.old (.bl _))⟩
  · cases hf
theorem zo_ne (hu : Rm X) : OpR X (compareOp .NotEq) (r2 X.K fNe) := by
  intro pins s σ H x y v u Q I rx ry ⟨Hv, a, b, o, k, hx, hy, hf, q⟩
  unfold fNe at hf
  split at hf
  · rename_i h
    cases hf
    have h' : min (dp a) (dp b) ≤ 60 := of_decide_eq_true h
    have h1 := Dp.sees I _ _ _ (hx.dp k) rx
    have h2 := Dp.sees I _ _ _ (hy.dp k) ry
    exact (Sees.rcNe (A := X.A) (by unfold Rm at hu; omega) h1 h2) _ _ _ _ ⟨.bl _, H, I, rfl, q _ _ (.old (.bl _))⟩
  · cases hf
/-- which items equal a value -/
def eqItem (h : Heap) (ys : List D) (us : List Value) (a : D) (u : Value) : Bool := ((us.zip ys).find? fun p => p.1 == u).elim false fun p => PyData.eqv p.2 a
theorem seesAll_zip {h : Heap} : ∀ {ds : List D} {us : List Value}, SeesAll h ds us → ∀ p ∈ us.zip ds, Sees h p.2 p.1
  | [], us, _, p, m => by simp at m
  | d :: ds, us, e, p, m => by
    unfold SeesAll at e
    obtain ⟨u, r, rfl, e1, e2⟩ := e
    rw [List.zip_cons_cons] at m
    rcases List.mem_cons.mp m with q | q
    · subst q; exact e1
    · exact seesAll_zip e2 p q
theorem eqItem_mem {h : Heap} {ys : List D} {us : List Value} {a : D} (e : SeesAll h ys us) {u : Value} (m : u ∈ us) : ∃ d, d ∈ ys ∧ Sees h d u ∧ eqItem h ys us a u = PyData.eqv d a := by
  unfold eqItem
  have hl := e.length
  cases q : (us.zip ys).find? fun p => p.1 == u with
  | none =>
    exfalso
    rw [List.find?_eq_none] at q
    obtain ⟨i, hi, ei⟩ := List.getElem_of_mem m
    have hz : i < (us.zip ys).length := by simp [List.length_zip]; omega
    have z := q ((us.zip ys)[i]) (List.getElem_mem hz)
    simp [ei] at z
  | some p =>
    have m1 := List.mem_of_find?_eq_some q
    have m2 := List.find?_some q
    have e2 : p.1 = u := by simpa using m2
    refine ⟨p.2, (List.of_mem_zip m1).2, ?_, rfl⟩
    rw [← e2]
    exact seesAll_zip e p m1
theorem eqItem_any {h : Heap} {ys : List D} {us : List Value} {a : D} (e : SeesAll h ys us) : us.any (eqItem h ys us a) = ys.any (PyData.eqv · a) := by
  have hl := e.length
  rw [Bool.eq_iff_iff, List.any_eq_true, List.any_eq_true]
  constructor
  · rintro ⟨u, m, z⟩
    obtain ⟨d, md, _, e1⟩ := eqItem_mem (a := a) e m
    exact ⟨d, md, by rw [← e1]; exact z⟩
  · rintro ⟨d, m, z⟩
    obtain ⟨i, hi, ei⟩ := List.getElem_of_mem m
    have hu : i < us.length := by omega
    refine ⟨us[i], List.getElem_mem hu, ?_⟩
    obtain ⟨d', md, s', e1⟩ := eqItem_mem (a := a) e (List.getElem_mem hu)
    have s1 := e.get hi hu
    rw [e1, s'.inj s1, ei]
    exact z
theorem inD_seq {a : D} {ys : List D} {k : Bool} (h : (if ys.all (eqOk · a) then some (ys.any (PyData.eqv · a)) else none) = some k) : (∀ d ∈ ys, min (dp d) (dp a) ≤ 60) ∧ k = ys.any (PyData.eqv · a) := by
  split at h
  · rename_i q
    cases h
    rw [List.all_eq_true] at q
    exact ⟨fun d m => of_decide_eq_true (q d m), rfl⟩
  · cases h
theorem zo_inG (neg : Bool) (hu : Rm X) : OpR X (compareOp (if neg then .NotIn else .In)) (r2 X.K fun a b => (inD a b).map fun k => .v (.bool (if neg then !k else k))) := by
  intro pins s σ H x y v u Q I rx ry ⟨Hv, a, b, o, k, hx, hy, hf, q⟩
  have hx' := Dp.sees I _ _ _ (hx.dp k) rx
  cases e : inD a b with
  | none => simp only [e] at hf; cases hf
  | some kk =>
    simp only [e, Option.map_some] at hf
    cases hf
    have fin : EP X pins σ Q (.bool (if neg then !kk else kk)) s := ⟨.bl _, H, I, rfl, q _ _ (.old (.bl _))⟩
    unfold inD at e
    split at e
    · rename_i ys
      obtain ⟨h1, h2⟩ := inD_seq e
      obtain ⟨l, vs, rfl, hl, r1⟩ := hy.list k
      cases ry
      obtain ⟨its, rv, pl, hz⟩ := I.list hl
      have sa := Dp.seesAll I _ _ _ ((k.dpAll r1)) rv
      have he : ∀ y, y ∈ its.toArray → SeqAt.EqAt X.A.in1 s y v (eqItem s.heap ys its a y) := fun y m => by
        obtain ⟨d, md, sd, e1⟩ := eqItem_mem (a := a) sa (show y ∈ its by simpa using m)
        rw [e1]
        refine Sees.eq ?_ sd hx'
        have := h1 d md
        unfold Rm at hu
        show X.A.units + 1 + _ < cLine
        omega
      have ea : its.toArray.any (eqItem s.heap ys its a) = ys.any (PyData.eqv · a) := by rw [List.any_toArray]; exact eqItem_any sa
      cases neg with
      | false => exact SeqAt.in_listAt _ pl.isList he (by rw [ea, ← h2]; exact fin)
      | true => exact SeqAt.notIn_listAt _ pl.isList he (by rw [ea, ← h2]; exact fin)
    · rename_i ys
      obtain ⟨h1, h2⟩ := inD_seq e
      obtain ⟨l, vs, rfl, hl, r1⟩ := hy.tup k
      cases ry
      obtain ⟨its, rv, pl, hz⟩ := I.tuple hl
      have sa := Dp.seesAll I _ _ _ ((k.dpAll r1)) rv
      have he : ∀ y, y ∈ its.toArray → SeqAt.EqAt X.A.in1 s y v (eqItem s.heap ys its a y) := fun y m => by
        obtain ⟨d, md, sd, e1⟩ := eqItem_mem (a := a) sa (show y ∈ its by simpa using m)
        rw [e1]
        refine Sees.eq ?_ sd hx'
        have := h1 d md
        unfold Rm at hu
        show X.A.units + 1 + _ < cLine
        omega
      have ea : its.toArray.any (eqItem s.heap ys its a) = ys.any (PyData.eqv · a) := by rw [List.any_toArray]; exact eqItem_any sa
      cases neg with
      | false => exact SeqAt.in_tupleAt _ pl he (by rw [ea, ← h2]; exact fin)
      | true => exact SeqAt.notIn_tupleAt _ pl he (by rw [ea, ← h2]; exact fin)
    · split at e
      · rename_i z _ x0
        cases e
        have hx1 := hx.str
        have hy1 := hy.str
        subst hx1
        subst hy1
        cases neg with
        | false => exact op_in_str pins s σ H _ _ _ _ Q I rx ry ⟨_, _, rfl, rfl, q _ _ (.old (.bl _))⟩
        | true => exact op_notin_str pins s σ H _ _ _ _ Q I rx ry ⟨_, _, rfl, rfl, q _ _ (.old (.bl _))⟩
      · cases e
    · cases e
theorem zo_in (hu : Rm X) : OpR X (compareOp .In) (r2 X.K fIn) := zo_inG false hu
theorem zo_nin (hu : Rm X) : OpR X (compareOp .NotIn) (r2 X.K fNin) := zo_inG true hu
theorem zo_idx : IxR X (r2 X.K fIdx) := by
  intro value slice pins s σ H x y v u Q I rx ry ⟨Hv, a, b, o, k, hx, hy, hf, q⟩ hs
  refine ix_seq value slice pins s σ H x y v u Q I rx ry ?_ hs
  unfold fIdx at hf
  split at hf
  · rename_i xs i
    obtain ⟨l, vs, rfl, h1, r1⟩ := hx.list k
    cases e : atI xs i with
    | none => rw [e] at hf; cases hf
    | some d =>
      rw [e] at hf
      cases hf
      unfold atI at e
      rw [← dpAll_length r1] at e
      cases e2 : ixN vs.length i with
      | none => rw [e2] at e; cases e
      | some j =>
        rw [e2] at e
        obtain ⟨w, h3, h4⟩ := dpAll_get r1 (show xs[j]? = some d from e)
        exact .inl ⟨l, vs, i, w, rfl, hy.int, h1, by unfold atI; rw [e2]; exact h3, q _ _ (.old h4)⟩
  · rename_i xs i
    obtain ⟨l, vs, rfl, h1, r1⟩ := hx.tup k
    cases e : atI xs i with
    | none => rw [e] at hf; cases hf
    | some d =>
      rw [e] at hf
      cases hf
      unfold atI at e
      rw [← dpAll_length r1] at e
      cases e2 : ixN vs.length i with
      | none => rw [e2] at e; cases e
      | some j =>
        rw [e2] at e
        obtain ⟨w, h3, h4⟩ := dpAll_get r1 (show xs[j]? = some d from e)
        exact .inr (.inl ⟨l, vs, i, w, rfl, hy.int, h1, by unfold atI; rw [e2]; exact h3, q _ _ (.old h4)⟩)
  · cases hf

/-! ### operations of one value -/
theorem zu_neg : UnR X (unaryOp .USub) (r1 X.K fNeg) := fun pins s σ H x v Q I rx ⟨Hv, a, o, k, hx, hf, q⟩ => un_neg pins s σ H x v Q I rx (by
  unfold fNeg at hf
  split at hf
  · cases hf
    exact ⟨_, hx.int, q _ _ (.old (.int _))⟩
  · cases hf)
/-- truth -/
theorem z_truV {K : PySem.W.Frag} {Hv H : Hp} {x : V} {d : D} (k : Sub Hv H) (hx : Sh K Hv H x d) (hs : ∀ y, d = .str y → y.length ≤ sizeLine) : TruV K x H (truth d) := by
  cases d with
  | none => rw [hx.non]; rfl
  | bool b => rw [hx.bl]; rfl
  | int i => rw [hx.int]; rfl
  | str y => rw [hx.str]; exact ⟨hs y rfl, rfl⟩
  | list xs =>
    obtain ⟨l, vs, rfl, h1, r1⟩ := hx.list k
    refine .inl ⟨vs, h1, ?_⟩
    unfold truth
    cases r1 <;> rfl
  | tuple xs =>
    obtain ⟨l, vs, rfl, h1, r1⟩ := hx.tup k
    refine .inr (.inl ⟨vs, h1, ?_⟩)
    unfold truth
    cases r1 <;> rfl
  | dict l => exact hx.dict.elim

/-! ### calls of what is built in -/
def rc (K : PySem.W.Frag) (f : D → Option O) : List V → Hp → VK → Prop := fun xs H Q => ∃ x, xs = [x] ∧ r1 K f x H Q
def rc2 (K : PySem.W.Frag) (f : D → D → Option O) : List V → Hp → VK → Prop := fun xs H Q => ∃ x y, xs = [x, y] ∧ r2 K f x y H Q
theorem zc_of {g : Value} {f : D → Option O} {r : List V → Hp → VK → Prop} (h : CallR X g r)
    (hr : ∀ Hv H x a o Q, Sub Hv H → Sh X.K Hv H x a → f a = some o → (∀ z H', Res X.K Hv H o z H' → Q z H') → r [x] H Q) : CallR X g (rc X.K f) := by
  intro pins s σ H xs us Q I rs ⟨x, e, Hv, a, o, k, hx, hf, q⟩
  subst e
  exact h pins s σ H _ us Q I rs (hr Hv H x a o Q k hx hf q)
theorem zc2_of {g : Value} {f : D → D → Option O} {r : List V → Hp → VK → Prop} (h : CallR X g r)
    (hr : ∀ Hv H x y a b o Q, Sub Hv H → Sh X.K Hv H x a → Sh X.K Hv H y b → f a b = some o → (∀ z H', Res X.K Hv H o z H' → Q z H') → r [x, y] H Q) : CallR X g (rc2 X.K f) := by
  intro pins s σ H xs us Q I rs ⟨x, y, e, Hv, a, b, o, k, hx, hy, hf, q⟩
  subst e
  exact h pins s σ H _ us Q I rs (hr Hv H x y a b o Q k hx hy hf q)
theorem zc_len : CallR X (.builtin "len") (rc X.K fLen) := zc_of (call_len_seq.or call_len_str) fun Hv H x a o Q k hx hf q => by
  unfold fLen at hf
  split at hf
  · cases hf
    obtain ⟨l, vs, rfl, h1, r1⟩ := hx.list k
    exact .inl ⟨l, vs, rfl, .inl h1, by rw [dpAll_length r1]; exact q _ _ (.old (.int _))⟩
  · cases hf
    obtain ⟨l, vs, rfl, h1, r1⟩ := hx.tup k
    exact .inl ⟨l, vs, rfl, .inr h1, by rw [dpAll_length r1]; exact q _ _ (.old (.int _))⟩
  · split at hf
    · rename_i h
      cases hf
      have e := hx.str
      subst e
      exact .inr ⟨_, rfl, h, q _ _ (.old (.int _))⟩
    · cases hf
  · cases hf
theorem zc_abs : CallR X (.builtin "abs") (rc X.K fAbs) := zc_of call_abs fun Hv H x a o Q k hx hf q => by
  unfold fAbs at hf
  split at hf
  · cases hf
    have e := hx.int
    subst e
    exact ⟨_, rfl, q _ _ (.old (.int _))⟩
  · cases hf
theorem zc_int : CallR X (.type "int") (rc X.K fInt) := zc_of call_int1 fun Hv H x a o Q k hx hf q => by
  unfold fInt at hf
  split at hf
  · cases hf
    have e := hx.int
    subst e
    exact .inl ⟨_, rfl, q _ _ (.old (.int _))⟩
  · cases hf
    have e := hx.bl
    subst e
    exact .inr ⟨_, rfl, q _ _ (.old (.int _))⟩
  · cases hf
theorem zc_tuple : CallR X (.type "tuple") (rc X.K fTuple) := zc_of call_tuple_of fun Hv H x a o Q k hx hf q => by
  unfold fTuple at hf
  split at hf
  · cases hf
    obtain ⟨l, vs, rfl, h1, r1⟩ := hx.list k
    exact ⟨l, vs, rfl, .inl ⟨h1, fun p hp => q _ _ (.tup r1 hp)⟩⟩
  · cases hf
    rcases hx with hx | ⟨_, _, _, e, _⟩
    · obtain ⟨l, vs, rfl, h1, r1⟩ := Sh.tup (show Sh X.K Hv H x _ from Or.inl hx) k
      exact ⟨l, vs, rfl, .inr ⟨h1, q _ _ (.old hx)⟩⟩
    · cases e
  · cases hf
theorem zc_list : CallR X (.type "list") (rc X.K fList) := zc_of call_list_of fun Hv H x a o Q k hx hf q => by
  unfold fList at hf
  split at hf
  · cases hf
    obtain ⟨l, vs, rfl, h1, r1⟩ := hx.list k
    exact ⟨l, vs, rfl, .inl h1, fun p hp => q _ _ (.lst r1 hp)⟩
  · cases hf
    obtain ⟨l, vs, rfl, h1, r1⟩ := hx.tup k
    exact ⟨l, vs, rfl, .inr h1, fun p hp => q _ _ (.lst r1 hp)⟩
  · cases hf
theorem dp_bools {K : PySem.W.Frag} {H : Hp} : ∀ {vs : List V} {xs : List D} {bs : List Bool}, DpAll K H vs xs → bools xs = some bs → vs = bs.map V.bl
  | _, _, _, .nil, e => by cases e; rfl
  | _, _, _, .cons (d := d) h r, e => by
    cases d with
    | bool b =>
      unfold bools at e
      obtain ⟨bs', e1, e2⟩ := Option.map_eq_some_iff.mp e
      subst e2
      cases h
      rw [dp_bools r e1]
      rfl
    | _ => cases e
theorem dp_ints {K : PySem.W.Frag} {H : Hp} : ∀ {vs : List V} {xs : List D} {bs : List Int}, DpAll K H vs xs → intsD xs = some bs → vs = bs.map V.int
  | _, _, _, .nil, e => by cases e; rfl
  | _, _, _, .cons (d := d) h r, e => by
    cases d with
    | int b =>
      unfold intsD at e
      obtain ⟨bs', e1, e2⟩ := Option.map_eq_some_iff.mp e
      subst e2
      cases h
      rw [dp_ints r e1]
      rfl
    | _ => cases e
theorem zc_all (hc : X.calm = true) : CallR X (.builtin "all") (rc X.K fAll) := zc_of (cr_all hc) fun Hv H x a o Q k hx hf q => by
  unfold fAll at hf
  split at hf
  · obtain ⟨bs, e1, e2⟩ := Option.map_eq_some_iff.mp hf
    subst e2
    obtain ⟨l, vs, rfl, h1, r1⟩ := hx.list k
    rw [dp_bools r1 e1] at h1
    exact ⟨l, bs, rfl, h1, q _ _ (.old (.bl _))⟩
  · cases hf
theorem zc_any (hc : X.calm = true) : CallR X (.builtin "any") (rc X.K fAny) := zc_of (cr_any hc) fun Hv H x a o Q k hx hf q => by
  unfold fAny at hf
  split at hf
  · obtain ⟨bs, e1, e2⟩ := Option.map_eq_some_iff.mp hf
    subst e2
    obtain ⟨l, vs, rfl, h1, r1⟩ := hx.list k
    rw [dp_bools r1 e1] at h1
    exact ⟨l, bs, rfl, h1, q _ _ (.old (.bl _))⟩
  · cases hf
theorem zc_sum (hc : X.calm = true) : CallR X (.builtin "sum") (rc X.K fSum) := zc_of (cr_sum hc) fun Hv H x a o Q k hx hf q => by
  unfold fSum at hf
  split at hf
  · obtain ⟨bs, e1, e2⟩ := Option.map_eq_some_iff.mp hf
    subst e2
    obtain ⟨l, vs, rfl, h1, r1⟩ := hx.list k
    rw [dp_ints r1 e1] at h1
    exact ⟨l, bs, rfl, h1, q _ _ (.old (.int _))⟩
  · cases hf
theorem zc_max2 (hc : X.calm = true) : CallR X (.builtin "max") (rc2 X.K fMax2) := zc2_of (call_max2 hc) fun Hv H x y a b o Q k hx hy hf q => by
  unfold fMax2 at hf
  split at hf
  · cases hf
    have e := hx.int
    have e' := hy.int
    subst e
    subst e'
    exact ⟨_, _, rfl, q _ _ (.old (.int _))⟩
  · cases hf
theorem zc_min2 (hc : X.calm = true) : CallR X (.builtin "min") (rc2 X.K fMin2) := zc2_of (call_min2 hc) fun Hv H x y a b o Q k hx hy hf q => by
  unfold fMin2 at hf
  split at hf
  · cases hf
    have e := hx.int
    have e' := hy.int
    subst e
    subst e'
    exact ⟨_, _, rfl, q _ _ (.old (.int _))⟩
  · cases hf
end
end Z
end
section
set_option Elab.async false
set_option linter.all false
set_option maxRecDepth 100000
namespace Z
open PySem PySem.Spec PyProof.Rows L2

/-- parts, in a row -/
def tF (K : PySem.W.Frag) (ro : List Nat) (W : WX) (f : Env → R (List D × Env)) : TA := fun σ H Q => ∃ F us Hv tp Γ, (Cz.mk K F ro us W σ).S Hv H tp Γ ∧
  (f Γ).sat (fun p => ∀ vs Hv H, DpAll K Hv vs p.1 → (Cz.mk K F ro us W σ).S Hv H tp p.2 → Q vs H) ((Cz.mk K F ro us W σ).exq tp)
/-- a test -/
def tT (K : PySem.W.Frag) (ro : List Nat) (W : WX) (f : Env → R (Bool × Env)) : TT := fun σ H Q => ∃ F us Hv tp Γ, (Cz.mk K F ro us W σ).S Hv H tp Γ ∧
  (f Γ).sat (fun p => ∀ Hv H, (Cz.mk K F ro us W σ).S Hv H tp p.2 → Q p.1 H) ((Cz.mk K F ro us W σ).exq tp)
abbrev Fz (X : Cx) (C : Cfg) (W : WX) (es : List Expr) (zs : Es) : Prop := PA X es (tF X.K C.ro W (evF C zs))
abbrev Tz (X : Cx) (C : Cfg) (W : WX) (e : Expr) (z : E) : Prop := PT X e (tT X.K C.ro W (evO C (.so z)))
abbrev Wz (X : Cx) (C : Cfg) (W : WX) (e : Expr) (z : E) : Prop := PW X e (tT X.K C.ro W (evO C (.so z)))

theorem _root_.L2.PA.imp {X : Cx} {es : List Expr} {t t' : TA} (h : PA X es t') (k : ∀ σ H Q, t σ H Q → t' σ H Q) : PA X es t := ⟨fun pos pins s σ H Q I hw => h.run pos pins s σ H Q I (k σ H Q hw)⟩
theorem _root_.L2.PW.imp {X : Cx} {e : Expr} {t t' : TT} (h : PW X e t') (k : ∀ σ H Q, t σ H Q → t' σ H Q) : PW X e t := ⟨fun wh pins s σ H Q I hw => h.run wh pins s σ H Q I (k σ H Q hw)⟩

theorem tst_some {d : D} {k : Bool} (h : tst d = some k) : k = truth d ∧ ∀ y, d = .str y → y.length ≤ sizeLine := by
  cases d with
  | str x =>
    have h : (if x.length ≤ sizeLine then some (truth (.str x)) else none) = some k := h
    by_cases q : x.length ≤ sizeLine
    · rw [if_pos q] at h
      refine ⟨(Option.some.inj h).symm, fun y e => ?_⟩
      cases e
      exact q
    · rw [if_neg q] at h
      cases h
  | none => cases h; exact ⟨rfl, fun y e => nomatch e⟩
  | bool b => cases h; exact ⟨rfl, fun y e => nomatch e⟩
  | int i => cases h; exact ⟨rfl, fun y e => nomatch e⟩
  | list l => cases h; exact ⟨rfl, fun y e => nomatch e⟩
  | tuple l => cases h; exact ⟨rfl, fun y e => nomatch e⟩
  | dict l => cases h; exact ⟨rfl, fun y e => nomatch e⟩

section
variable {X : Cx} {C : Cfg} {W : WX} {e a b c : Expr} {z za zb zc : E} {es rest : List Expr} {zs : Es} {pos : Pos}

/-- the state behind a first value, for what follows -/
theorem ds_of {σ : L2.St} {H : Hp} {f : Env → R (O × Env)} {g : D × Env → R (O × Env)} {Q : VK} (h : tE X.K C.ro W (fun Γ => (toD (f Γ)).bind g) σ H Q) :
    tD X.K C.ro W (fun Γ => toD (f Γ)) σ H fun x H1 => ∃ (F : Fr0) (us : L2.St) (Hv : Hp) (tp : List (O × Option V)) (p : D × Env), (Cz.mk X.K F C.ro us W σ).S Hv H1 ((.v p.1, some x) :: tp) p.2 ∧
      (g p).sat ((Cz.mk X.K F C.ro us W σ).ok tp Q) ((Cz.mk X.K F C.ro us W σ).exq tp) := by
  obtain ⟨F, us, Hv, tp, Γ, s, hs⟩ := h
  rw [R.sat_bind] at hs
  exact ⟨F, us, Hv, tp, Γ, s, hs.imp (fun p q v Hv' H' s' => ⟨F, us, Hv', tp, p, s', q⟩) fun _ _ h => h⟩

/-! ### parts, tuples, lists -/
theorem fz_nil : Fz X C W [] .nil := pa_nil.imp fun σ H Q ⟨F, us, Hv, tp, Γ, s, hs⟩ => hs [] Hv H .nil s
theorem fz_cons (he : Dz X C W e z) (hr : Fz X C W es zs) (hs : starEach (e :: es) X.env = (false, eval e X.env) :: starEach es X.env := by rfl) : Fz X C W (e :: es) (.cons z zs) :=
  (pa_cons he hr hs).imp fun σ H Q ⟨F, us, Hv, tp, Γ, s, hs⟩ => by
    simp only [evF] at hs
    rw [R.sat_bind] at hs
    refine ⟨F, us, Hv, tp, Γ, s, hs.imp (fun p hq v Hv1 H1 s1 => ?_) fun _ _ h => h⟩
    rw [R.sat_bind] at hq
    refine ⟨F, us, Hv1, _, p.2, s1, hq.imp (fun q hq vs Hv2 H2 r2 s2 => ?_) fun _ _ h => Cz.exq.push h⟩
    exact hq (v :: vs) Hv2 H2 (.cons s2.headV r2) s2.pop
theorem ez_tup {k : Nat} (h : Fz X C W es zs) : Ez X C W (.Tuple es k pos) (.tup zs) := (pe_tup h).imp fun σ H Q ⟨F, us, Hv, tp, Γ, s, hs⟩ => by
  simp only [ev] at hs
  rw [R.sat_bind] at hs
  refine ⟨F, us, Hv, tp, Γ, s, hs.imp (fun p hq vs Hv1 H1 r s1 => ?_) fun _ _ h => h⟩
  obtain ⟨o, e1, hq⟩ := opt_sat hq
  unfold fTup at e1
  split at e1
  · rename_i hl
    cases e1
    refine ⟨by rw [dpAll_length r]; exact hl, fun q hq' => ?_⟩
    obtain ⟨Hv2, _, s2⟩ := s1.res (.tup r hq')
    exact hq _ Hv2 _ s2
  · cases e1
theorem ez_lst (h : Fz X C W es zs) : Ez X C W (.List es pos) (.lst zs) := (pe_lst h).imp fun σ H Q ⟨F, us, Hv, tp, Γ, s, hs⟩ => by
  simp only [ev] at hs
  rw [R.sat_bind] at hs
  refine ⟨F, us, Hv, tp, Γ, s, hs.imp (fun p hq vs Hv1 H1 r s1 => ?_) fun _ _ h => h⟩
  obtain ⟨o, e1, hq⟩ := opt_sat hq
  unfold fLst at e1
  split at e1
  · rename_i hl
    cases e1
    refine ⟨by rw [dpAll_length r]; exact hl, fun q hq' => ?_⟩
    obtain ⟨Hv2, _, s2⟩ := s1.res (.lst r hq')
    exact hq _ Hv2 _ s2
  · cases e1
theorem dpAll_rep {K : PySem.W.Frag} {G : Hp} {vs : List V} {ds : List D} (r : DpAll K G vs ds) : ∀ n : Nat, DpAll K G (List.replicate n vs).flatten (List.replicate n ds).flatten
  | 0 => .nil
  | n + 1 => by
    rw [List.replicate_succ, List.replicate_succ, List.flatten_cons, List.flatten_cons]
    exact dpAll_append r (dpAll_rep r n)
theorem flat_len {α : Type} (xs : List α) : ∀ n : Nat, (List.replicate n xs).flatten.length = n * xs.length
  | 0 => by simp
  | n + 1 => by rw [List.replicate_succ, List.flatten_cons, List.length_append, flat_len xs n, Nat.succ_mul, Nat.add_comm]
theorem ez_rep {p2 : Pos} (h : Fz X C W es zs) (hn : Dz X C W b zb) : Ez X C W (.BinOp (.List es p2) .Mult b pos) (.rep zs zb) := (pe_op op_rep (pe_lst h) hn).imp fun σ H Q ⟨F, us, Hv, tp, Γ, s, hs⟩ => by
  simp only [ev] at hs
  rw [R.sat_bind] at hs
  refine ⟨F, us, Hv, tp, Γ, s, hs.imp (fun p hq vs Hv1 H1 r s1 => ?_) fun _ _ h => h⟩
  obtain ⟨o, e1, hq⟩ := opt_sat hq
  unfold fLst at e1
  split at e1
  · rename_i hl
    refine ⟨by rw [dpAll_length r]; exact hl, fun q hq' => ?_⟩
    obtain ⟨Hv2, _, s2⟩ := s1.res (o := .lst p.1) (.lst r hq')
    rw [R.sat_bind] at hq
    refine ⟨F, us, Hv2, _, p.2, s2, hq.imp (fun n hq v Hv3 H3 s3 => ?_) fun _ _ h => Cz.exq.push h⟩
    have z := s3.swap
    obtain ⟨n1, n2⟩ := n
    cases n1 with
    | int k =>
      by_cases hk : 0 ≤ k ∧ k ≤ 1000 ∧ p.1.length ≤ 1000
      · simp only [if_pos hk] at hq
        have ev' : v = .int k := Sh.int (Hv := Hv3) (H := H3) (.inl s3.headV)
        subst ev'
        obtain ⟨as, ⟨s', r', a', b', e1', e2', h1', h2'⟩, w⟩ := z.si
        obtain ⟨rfl, rfl⟩ := List.cons.inj e1'
        rcases h1' with ⟨q', _⟩ | ⟨x, q', h1'⟩
        · cases q'
        · cases q'
          unfold Rp at h1'
          obtain ⟨l, ws, el, _, hl', rr⟩ := h1'
          cases el
          have e3 := dpAll_length rr
          refine ⟨q, k, ws, rfl, rfl, hl', by omega, by omega, ?_, fun p0 hp0 => ?_⟩
          · rw [e3, sizeLine_eq]
            have h1 : k.toNat ≤ 1000 := by omega
            calc p.1.length * k.toNat ≤ 1000 * 1000 := Nat.mul_le_mul hk.2.2 h1
              _ ≤ _ := by decide
          · obtain ⟨Hv4, _, s4⟩ := s3.pop2.res (o := .lst (List.replicate k.toNat p.1).flatten) (.lst (dpAll_rep rr k.toNat) hp0)
            exact hq _ Hv4 _ s4
      · simp only [if_neg hk] at hq
        exact hq.elim
    | _ => exact hq.elim
  · cases e1

/-! ### tests -/
theorem tz_val (h : Dz X C W e z) (he : ∀ whole, isTrue e X.env whole = (do let v ← whole; standAt e.pos; holding [v] (truthy v)) := by intro _; rfl) : Tz X C W e z := (pt_truth h he).imp fun σ H Q ⟨F, us, Hv, tp, Γ, s, hs⟩ => by
  simp only [evO] at hs
  rw [R.sat_bind] at hs
  refine ⟨F, us, Hv, tp, Γ, s, hs.imp (fun p hq v Hv1 H1 s1 => ?_) fun _ _ h => h⟩
  obtain ⟨k, e1, hq⟩ := opt_sat hq
  obtain ⟨e2, e3⟩ := tst_some e1
  exact ⟨k, by rw [e2]; exact z_truV s1.sub (.inl s1.headV) e3, hq Hv1 H1 s1.pop⟩
/-- a value that is a truth value -/
def BoolE (C : Cfg) (z : E) : Prop := ∀ Γ p, ev C z Γ = .ok p → ∃ k, p.1 = .v (.bool k)
theorem t_test {t : TE} (hb : BoolE C z) (ht : ∀ σ H Q, tE X.K C.ro W (ev C z) σ H Q → t σ H Q) {σ : L2.St} {H : Hp} {Q : Bool → Hp → Prop} (h : tT X.K C.ro W (evO C (.so z)) σ H Q) : tTest t σ H Q := by
  obtain ⟨F, us, Hv, tp, Γ, s, hs⟩ := h
  simp only [evO] at hs
  rw [R.sat_bind] at hs
  refine ht σ H _ ⟨F, us, Hv, tp, Γ, s, ?_⟩
  cases e : ev C z Γ with
  | ok p =>
    obtain ⟨k, ek⟩ := hb Γ p e
    rw [e] at hs
    obtain ⟨p1, p2⟩ := p
    have ek' : p1 = .v (.bool k) := ek
    subst ek'
    have hs' : (opt (tst (.bool k)) fun k => R.ok (k, p2)).sat (fun p => ∀ Hv H, (Cz.mk X.K F C.ro us W σ).S Hv H tp p.2 → Q p.1 H) ((Cz.mk X.K F C.ro us W σ).exq tp) := hs
    intro v Hv1 H1 s1
    have ev' : v = .bl k := Sh.bl (Hv := Hv1) (H := H1) (.inl s1.headV)
    exact ⟨k, ev', hs' Hv1 H1 s1.pop⟩
  | ex c0 Γ0 => rw [e] at hs; exact hs
  | bad => rw [e] at hs; exact hs
theorem boolE_pr {p : Pr} (h : ∀ ds o, prF p ds = some o → ∃ k, o = .v (.bool k)) : BoolE C (.pr p zs) := fun Γ q e => by
  simp only [ev] at e
  cases e1 : evB C zs Γ with
  | ok r =>
    rw [e1] at e
    have e : (opt (peeks r.2 r.1) fun ds => opt (prF p ds) fun o => R.ok (o, r.2)) = .ok q := e
    cases e2 : peeks r.2 r.1 with
    | none => rw [e2] at e; cases e
    | some ds =>
      rw [e2] at e
      have e : (opt (prF p ds) fun o => R.ok (o, r.2)) = .ok q := e
      cases e3 : prF p ds with
      | none => rw [e3] at e; cases e
      | some o =>
        rw [e3] at e
        cases e
        exact h ds o e3
  | ex c Γ => rw [e1] at e; cases e
  | bad => rw [e1] at e; cases e
theorem f2_bool {f : D → D → Option O} (h : ∀ a b o, f a b = some o → ∃ k, o = .v (.bool k)) : ∀ ds o, f2 f ds = some o → ∃ k, o = .v (.bool k)
  | [a, b], o, e => h a b o e
  | [], _, e => nomatch e
  | [_], _, e => nomatch e
  | _ :: _ :: _ :: _, _, e => nomatch e
theorem f1_bool {f : D → Option O} (h : ∀ a o, f a = some o → ∃ k, o = .v (.bool k)) : ∀ ds o, f1 f ds = some o → ∃ k, o = .v (.bool k)
  | [a], o, e => h a o e
  | [], _, e => nomatch e
  | _ :: _ :: _, _, e => nomatch e
theorem bool_eq : ∀ a b o, fEq a b = some o → ∃ k, o = .v (.bool k) := fun a b o e => by unfold fEq at e; split at e <;> cases e; exact ⟨_, rfl⟩
theorem bool_ne : ∀ a b o, fNe a b = some o → ∃ k, o = .v (.bool k) := fun a b o e => by unfold fNe at e; split at e <;> cases e; exact ⟨_, rfl⟩
theorem bool_lt : ∀ a b o, fLt a b = some o → ∃ k, o = .v (.bool k) := fun a b o e => by unfold fLt at e; split at e <;> cases e <;> exact ⟨_, rfl⟩
theorem bool_le : ∀ a b o, fLe a b = some o → ∃ k, o = .v (.bool k) := fun a b o e => by unfold fLe at e; split at e <;> cases e; exact ⟨_, rfl⟩
theorem bool_gt : ∀ a b o, fGt a b = some o → ∃ k, o = .v (.bool k) := fun a b o e => by unfold fGt at e; split at e <;> cases e; exact ⟨_, rfl⟩
theorem bool_ge : ∀ a b o, fGe a b = some o → ∃ k, o = .v (.bool k) := fun a b o e => by unfold fGe at e; split at e <;> cases e; exact ⟨_, rfl⟩
theorem bool_in : ∀ a b o, fIn a b = some o → ∃ k, o = .v (.bool k) := fun a b o e => by
  unfold fIn at e
  obtain ⟨k, _, e2⟩ := Option.map_eq_some_iff.mp e
  exact ⟨_, e2.symm⟩
theorem bool_nin : ∀ a b o, fNin a b = some o → ∃ k, o = .v (.bool k) := fun a b o e => by
  unfold fNin at e
  obtain ⟨k, _, e2⟩ := Option.map_eq_some_iff.mp e
  exact ⟨_, e2.symm⟩
theorem bool_isN : ∀ a o, fIsN a = some o → ∃ k, o = .v (.bool k) := fun a o e => by unfold fIsN at e; cases e; exact ⟨_, rfl⟩
theorem bool_notN : ∀ a o, fNotN a = some o → ∃ k, o = .v (.bool k) := fun a o e => by unfold fNotN at e; cases e; exact ⟨_, rfl⟩
/-- a comparison as a test -/
theorem tz_cmp {op : CmpOp} {p : Pr} {f : D → D → Option O} (hf : prF p = f2 f) (hk : ∀ a b o, f a b = some o → ∃ k, o = .v (.bool k)) (ho : OpR X (compareOp op) (r2 X.K f)) (ha : Bz X C W a za) (hb : Bz X C W b zb) (hm : behindInMarks op b = false) : Tz X C W (.Compare a [op] [b] pos) (.pr p (.cons za (.cons zb .nil))) :=
  (pt_cmpR ho ha hb hm).imp fun σ H Q h => t_test (X := X) (boolE_pr (by rw [hf]; exact f2_bool hk)) (fun σ H Q h => tB2 hf h) h
theorem ez_isN {j : Nat} {p2 : Pos} (ha : Bz X C W a za) : Ez X C W (.Compare a [.Is] [.Constant .none j p2] pos) (.pr .isN (.cons za .nil)) :=
  (pe_cmpR op_isN ha pe_non (nomark _)).imp fun σ H Q h => by
    obtain ⟨F, us, Hv, tp, Γ, s, hs⟩ := tB1 (C := C) (p := .isN) (f := fIsN) rfl h
    refine ⟨F, us, Hv, tp, Γ, s, hs.imp (fun p q v Hv1 H1 s1 hv => ?_) fun _ _ h => h⟩
    obtain ⟨Hv', d, o, k, sh, e, q⟩ := q v Hv1 H1 s1 hv
    refine ⟨rfl, ?_⟩
    unfold fIsN at e
    cases e
    have e2 : isNone d = decide (v = .non) := by
      cases d with
      | none => rw [sh.non]; rfl
      | bool b => rw [sh.bl]; rfl
      | int b => rw [sh.int]; rfl
      | str b => rw [sh.str]; rfl
      | list b => obtain ⟨l, vs, rfl, _⟩ := sh.list k; rfl
      | tuple b => obtain ⟨l, vs, rfl, _⟩ := sh.tup k; rfl
      | dict l => exact sh.dict.elim
    rw [e2] at q
    exact q _ _ (.old (.bl _))
theorem ez_notN {j : Nat} {p2 : Pos} (ha : Bz X C W a za) : Ez X C W (.Compare a [.IsNot] [.Constant .none j p2] pos) (.pr .notN (.cons za .nil)) :=
  (pe_cmpR op_notN ha pe_non (nomark _)).imp fun σ H Q h => by
    obtain ⟨F, us, Hv, tp, Γ, s, hs⟩ := tB1 (C := C) (p := .notN) (f := fNotN) rfl h
    refine ⟨F, us, Hv, tp, Γ, s, hs.imp (fun p q v Hv1 H1 s1 hv => ?_) fun _ _ h => h⟩
    obtain ⟨Hv', d, o, k, sh, e, q⟩ := q v Hv1 H1 s1 hv
    refine ⟨rfl, ?_⟩
    unfold fNotN at e
    cases e
    have e2 : isNone d = decide (v = .non) := by
      cases d with
      | none => rw [sh.non]; rfl
      | bool b => rw [sh.bl]; rfl
      | int b => rw [sh.int]; rfl
      | str b => rw [sh.str]; rfl
      | list b => obtain ⟨l, vs, rfl, _⟩ := sh.list k; rfl
      | tuple b => obtain ⟨l, vs, rfl, _⟩ := sh.tup k; rfl
      | dict l => exact sh.dict.elim
    rw [e2] at q
    exact q _ _ (.old (.bl _))

/-! ### not, and, or, if -/
theorem evT_not (Γ : Env) : evO C (.so (.not za)) Γ = (evO C (.so za) Γ).bind fun k => .ok (!k.1, k.2) := by
  simp only [evO, ev]
  cases toD (ev C za Γ) with
  | ok x =>
    show (toD (opt (tst x.1) fun k => .ok (.v (.bool (!k)), x.2))).bind _ = (opt (tst x.1) fun k => .ok (k, x.2)).bind _
    cases tst x.1 <;> rfl
  | ex c Γ => rfl
  | bad => rfl
theorem evT_and (Γ : Env) : evO C (.so (.and_ za zb)) Γ = (evO C (.so za) Γ).bind fun k => if k.1 then evO C (.so zb) k.2 else .ok (false, k.2) := by
  simp only [evO, ev]
  cases toD (ev C za Γ) with
  | ok x =>
    show (toD (opt (tst x.1) fun k => if k then ev C zb x.2 else .ok (.v x.1, x.2))).bind _ = (opt (tst x.1) fun k => .ok (k, x.2)).bind _
    cases e : tst x.1 with
    | none => rfl
    | some k =>
      cases k with
      | true => rfl
      | false =>
        show (opt (tst x.1) fun k => .ok (k, x.2)) = R.ok (false, x.2)
        rw [e]; rfl
  | ex c Γ => rfl
  | bad => rfl
theorem evT_or (Γ : Env) : evO C (.so (.or_ za zb)) Γ = (evO C (.so za) Γ).bind fun k => if k.1 then .ok (true, k.2) else evO C (.so zb) k.2 := by
  simp only [evO, ev]
  cases toD (ev C za Γ) with
  | ok x =>
    show (toD (opt (tst x.1) fun k => if k then .ok (.v x.1, x.2) else ev C zb x.2)).bind _ = (opt (tst x.1) fun k => .ok (k, x.2)).bind _
    cases e : tst x.1 with
    | none => rfl
    | some k =>
      cases k with
      | false => rfl
      | true =>
        show (opt (tst x.1) fun k => .ok (k, x.2)) = R.ok (true, x.2)
        rw [e]; rfl
  | ex c Γ => rfl
  | bad => rfl
theorem tz_not (h : Tz X C W a za) : Tz X C W (.UnaryOp .Not a pos) (.not za) := (pt_not h).imp fun σ H Q ⟨F, us, Hv, tp, Γ, s, hs⟩ => by
  rw [evT_not, R.sat_bind] at hs
  exact ⟨F, us, Hv, tp, Γ, s, hs⟩
theorem tz_w (h : Wz X C W a za) : Tz X C W a za := h.pt
theorem wz_and1 (h : Tz X C W a za) : Wz X C W (.BoolOp .And [a] pos) za := pw_and1 h
theorem wz_or1 (h : Tz X C W a za) : Wz X C W (.BoolOp .Or [a] pos) za := pw_or1 h
theorem wz_and (h : Tz X C W a za) (hb : Wz X C W (.BoolOp .And (b :: rest) pos) zb) : Wz X C W (.BoolOp .And (a :: b :: rest) pos) (.and_ za zb) := (pw_and h hb).imp fun σ H Q ⟨F, us, Hv, tp, Γ, s, hs⟩ => by
  rw [evT_and, R.sat_bind] at hs
  refine ⟨F, us, Hv, tp, Γ, s, hs.imp (fun p hq Hv1 H1 s1 => ?_) fun _ _ h => h⟩
  obtain ⟨p1, p2⟩ := p
  cases p1 with
  | true => exact ⟨F, us, Hv1, tp, p2, s1, hq⟩
  | false => exact hq Hv1 H1 s1
theorem wz_or (h : Tz X C W a za) (hb : Wz X C W (.BoolOp .Or (b :: rest) pos) zb) : Wz X C W (.BoolOp .Or (a :: b :: rest) pos) (.or_ za zb) := (pw_or h hb).imp fun σ H Q ⟨F, us, Hv, tp, Γ, s, hs⟩ => by
  rw [evT_or, R.sat_bind] at hs
  refine ⟨F, us, Hv, tp, Γ, s, hs.imp (fun p hq Hv1 H1 s1 => ?_) fun _ _ h => h⟩
  obtain ⟨p1, p2⟩ := p
  cases p1 with
  | false => exact ⟨F, us, Hv1, tp, p2, s1, hq⟩
  | true => exact hq Hv1 H1 s1
theorem ez_if (h : Tz X C W c zc) (ha : Ez X C W a za) (hb : Ez X C W b zb) : Ez X C W (.IfExp c a b pos) (.ite zc za zb) := (pe_ifExp h ha hb).imp fun σ H Q ⟨F, us, Hv, tp, Γ, s, hs⟩ => by
  have e : ev C (.ite zc za zb) Γ = (evO C (.so zc) Γ).bind fun k => if k.1 then ev C za k.2 else ev C zb k.2 := by
    simp only [evO, ev]
    cases toD (ev C zc Γ) with
    | ok x =>
      show (opt (tst x.1) fun k => if k then ev C za x.2 else ev C zb x.2) = (opt (tst x.1) fun k => .ok (k, x.2)).bind _
      cases tst x.1 <;> rfl
    | ex c Γ => rfl
    | bad => rfl
  rw [e, R.sat_bind] at hs
  refine ⟨F, us, Hv, tp, Γ, s, hs.imp (fun p hq Hv1 H1 s1 => ?_) fun _ _ h => h⟩
  obtain ⟨p1, p2⟩ := p
  cases p1 with
  | true => exact ⟨F, us, Hv1, tp, p2, s1, hq⟩
  | false => exact ⟨F, us, Hv1, tp, p2, s1, hq⟩
/-- .. as values -/
theorem ez_not (h : Dz X C W a za) : Ez X C W (.UnaryOp .Not a pos) (.not za) := by
  refine ⟨fun pins s σ H Q I h0 => ?_⟩
  have e : ∀ Γ, ev C (.not za) Γ = (toD (ev C za Γ)).bind fun x => opt (tst x.1) fun k => .ok (.v (.bool (!k)), x.2) := fun Γ => by simp only [ev]
  have h0 : tE X.K C.ro W (fun Γ => (toD (ev C za Γ)).bind fun x => opt (tst x.1) fun k => .ok (.v (.bool (!k)), x.2)) σ H Q := by
    obtain ⟨F, us, Hv, tp, Γ, s, hs⟩ := h0
    rw [e] at hs
    exact ⟨F, us, Hv, tp, Γ, s, hs⟩
  refine UnaryOp_ (thn (h.run pins s σ H _ I (ds_of h0)) fun v s1 ⟨x, H1, I1, r1, F, us, Hv, tp, p, s2, hq⟩ => ?_)
  obtain ⟨k, e1, hq⟩ := opt_sat hq
  obtain ⟨e2, e3⟩ := tst_some e1
  refine not_of (thn (tru_ok pins s1 σ H1 x v (fun k' H' => k' = k ∧ H' = H1) I1 r1 ⟨k, by rw [e2]; exact z_truV s2.sub (.inl s2.headV) e3, rfl, rfl⟩) fun b s3 ⟨H3, I3, q1, q2⟩ => ?_)
  subst q1 q2
  obtain ⟨Hv4, _, s4⟩ := s2.pop.res (o := .v (.bool (!b))) (.old (.bl _))
  exact ⟨.bl (!b), H3, I3, rfl, hq _ Hv4 _ s4⟩
theorem ez_one {op : BoolOp} (h : Ez X C W a za) : Ez X C W (.BoolOp op [a] pos) za := pe_one h
theorem ez_and (ha : Dz X C W a za) (hb : Ez X C W (.BoolOp .And (b :: rest) pos) zb) : Ez X C W (.BoolOp .And (a :: b :: rest) pos) (.and_ za zb) := by
  refine ⟨fun pins s σ H Q I h0 => ?_⟩
  have e : ∀ Γ, ev C (.and_ za zb) Γ = (toD (ev C za Γ)).bind fun x => opt (tst x.1) fun k => if k then ev C zb x.2 else .ok (.v x.1, x.2) := fun Γ => by simp only [ev]
  have h0 : tE X.K C.ro W (fun Γ => (toD (ev C za Γ)).bind fun x => opt (tst x.1) fun k => if k then ev C zb x.2 else .ok (.v x.1, x.2)) σ H Q := by
    obtain ⟨F, us, Hv, tp, Γ, s, hs⟩ := h0
    rw [e] at hs
    exact ⟨F, us, Hv, tp, Γ, s, hs⟩
  refine BoolOp_and (thn (ha.run pins s σ H _ I (ds_of h0)) fun v s1 ⟨x, H1, I1, r1, F, us, Hv, tp, p, s2, hq⟩ => ?_)
  obtain ⟨k, e1, hq⟩ := opt_sat hq
  obtain ⟨e2, e3⟩ := tst_some e1
  refine thn (tru_ok pins s1 σ H1 x v (fun k' H' => k' = k ∧ H' = H1) I1 r1 ⟨k, by rw [e2]; exact z_truV s2.sub (.inl s2.headV) e3, rfl, rfl⟩) fun b s3 ⟨H3, I3, q1, q2⟩ => ?_
  subst q1 q2
  cases b with
  | true => exact hb.run pins s3 σ H3 Q I3 ⟨F, us, Hv, tp, p.2, s2.pop, hq⟩
  | false => exact ⟨x, H3, I3, r1, hq x Hv H3 s2⟩
theorem ez_or (ha : Dz X C W a za) (hb : Ez X C W (.BoolOp .Or (b :: rest) pos) zb) : Ez X C W (.BoolOp .Or (a :: b :: rest) pos) (.or_ za zb) := by
  refine ⟨fun pins s σ H Q I h0 => ?_⟩
  have e : ∀ Γ, ev C (.or_ za zb) Γ = (toD (ev C za Γ)).bind fun x => opt (tst x.1) fun k => if k then .ok (.v x.1, x.2) else ev C zb x.2 := fun Γ => by simp only [ev]
  have h0 : tE X.K C.ro W (fun Γ => (toD (ev C za Γ)).bind fun x => opt (tst x.1) fun k => if k then .ok (.v x.1, x.2) else ev C zb x.2) σ H Q := by
    obtain ⟨F, us, Hv, tp, Γ, s, hs⟩ := h0
    rw [e] at hs
    exact ⟨F, us, Hv, tp, Γ, s, hs⟩
  refine BoolOp_or (thn (ha.run pins s σ H _ I (ds_of h0)) fun v s1 ⟨x, H1, I1, r1, F, us, Hv, tp, p, s2, hq⟩ => ?_)
  obtain ⟨k, e1, hq⟩ := opt_sat hq
  obtain ⟨e2, e3⟩ := tst_some e1
  refine thn (tru_ok pins s1 σ H1 x v (fun k' H' => k' = k ∧ H' = H1) I1 r1 ⟨k, by rw [e2]; exact z_truV s2.sub (.inl s2.headV) e3, rfl, rfl⟩) fun b s3 ⟨H3, I3, q1, q2⟩ => ?_
  subst q1 q2
  cases b with
  | false => exact hb.run pins s3 σ H3 Q I3 ⟨F, us, Hv, tp, p.2, s2.pop, hq⟩
  | true => exact ⟨x, H3, I3, r1, hq x Hv H3 s2⟩

/-! ### chains -/
theorem r2_bool {K : PySem.W.Frag} {f : D → D → Option O} {Hv H : Hp} {x y : V} {a b : D} {k : Bool} {Q : VK} (sub : Sub Hv H) (hx : Dp K Hv x a) (hy : Dp K Hv y b) (e : f a b = some (.v (.bool k))) (q : Q (.bl k) H) : r2 K f x y H Q :=
  ⟨Hv, a, b, _, sub, .inl hx, .inl hy, e, fun z H' r => by
    cases r with
    | old r => cases r; exact q⟩
theorem ev_chn {p p' : Pr} (Γ : Env) : ev C (.chn p p' za zb zc) Γ = (toD (ev C za Γ)).bind fun x => (toD (ev C zb x.2)).bind fun y => match prF p [x.1, y.1] with
    | some (.v (.bool true)) => (toD (ev C zc y.2)).bind fun z => opt (prF p' [y.1, z.1]) fun o => .ok (o, z.2)
    | some (.v (.bool false)) => .ok (.v (.bool false), y.2)
    | _ => .bad := by
  simp only [ev] <;> rfl
theorem ez_chain {op op' : CmpOp} {p p' : Pr} {f f' : D → D → Option O} (hf : prF p = f2 f) (hf' : prF p' = f2 f') (ho : OpR X (compareOp op) (r2 X.K f)) (ho' : OpR X (compareOp op') (r2 X.K f')) (ha : Dz X C W a za) (hb : Dz X C W b zb) (hc : Dz X C W c zc)
    (hm : lastMarks [op, op'] [b, c] = false := by with_unfolding_all rfl) : Ez X C W (.Compare a [op, op'] [b, c] pos) (.chn p p' za zb zc) := (pe_chain ho ho' ha hb hc hm).imp fun σ H Q ⟨F, us, Hv, tp, Γ, s, hs⟩ => by
  rw [ev_chn, R.sat_bind] at hs
  refine ⟨F, us, Hv, tp, Γ, s, hs.imp (fun x hq v Hv1 H1 s1 => ?_) fun _ _ h => h⟩
  rw [R.sat_bind] at hq
  refine ⟨F, us, Hv1, _, x.2, s1, hq.imp (fun y hq u Hv2 H2 s2 => ?_) fun _ _ h => Cz.exq.push h⟩
  have hx := s2.swap.headV
  have hy := s2.headV
  split at hq
  · rename_i e
    rw [hf] at e
    refine r2_bool s2.sub hx hy e ⟨true, rfl, ?_⟩
    rw [if_pos rfl]
    rw [R.sat_bind] at hq
    refine ⟨F, us, Hv2, _, y.2, s2, hq.imp (fun z hq w Hv3 H3 s3 => ?_) fun _ _ h => Cz.exq.push (Cz.exq.push h)⟩
    obtain ⟨o, e3, hq⟩ := opt_sat hq
    rw [hf'] at e3
    refine ⟨Hv3, y.1, z.1, o, s3.sub, .inl s3.swap.headV, .inl s3.headV, e3, fun w' H4 r => ?_⟩
    obtain ⟨Hv4, _, s4⟩ := (s3.pop2.pop (o := .v x.1)).res r
    exact hq _ Hv4 _ s4
  · rename_i e
    rw [hf] at e
    refine r2_bool s2.sub hx hy e ⟨false, rfl, ?_⟩
    rw [if_neg Bool.false_ne_true]
    obtain ⟨Hv4, _, s4⟩ := s2.pop2.res (o := .v (.bool false)) (.old (.bl _))
    exact hq _ Hv4 _ s4
  · exact hq.elim
theorem boolE_chn {p p' : Pr} (h' : ∀ ds o, prF p' ds = some o → ∃ k, o = .v (.bool k)) : BoolE C (.chn p p' za zb zc) := fun Γ q e => by
  rw [ev_chn] at e
  cases e1 : toD (ev C za Γ) with
  | ok x =>
    rw [e1] at e
    have e : ((toD (ev C zb x.2)).bind _) = .ok q := e
    cases e2 : toD (ev C zb x.2) with
    | ok y =>
      rw [e2] at e
      simp only [R.bind] at e
      split at e
      · cases e3 : toD (ev C zc y.2) with
        | ok z =>
          rw [e3] at e
          simp only at e
          cases e4 : prF p' [y.1, z.1] with
          | none => rw [e4] at e; cases e
          | some o =>
            rw [e4] at e
            cases e
            exact h' _ _ e4
        | ex c Γ => rw [e3] at e; cases e
        | bad => rw [e3] at e; cases e
      · cases e; exact ⟨_, rfl⟩
      · cases e
    | ex c Γ => rw [e2] at e; cases e
    | bad => rw [e2] at e; cases e
  | ex c Γ => rw [e1] at e; cases e
  | bad => rw [e1] at e; cases e
end
end Z
end
section
set_option Elab.async false
set_option linter.all false
set_option maxRecDepth 100000
namespace Z
open PySem PySem.Spec PyProof.Rows L2

theorem tB.mono {K : PySem.W.Frag} {ro : List Nat} {W : WX} {f : Env → R ((Nat ⊕ O) × Env)} {σ : L2.St} {H : Hp} {Q Q' : VK} (h : tB K ro W f σ H Q) (k : ∀ x H, Q x H → Q' x H) : tB K ro W f σ H Q' := by
  obtain ⟨F, us, Hv, tp, Γ, s, hs⟩ := h
  exact ⟨F, us, Hv, tp, Γ, s, hs.imp (fun p q v Hv H s hv => k _ _ (q v Hv H s hv)) fun _ _ h => h⟩

section
variable {X : Cx} {C : Cfg} {W : WX} {e a b c : Expr} {z za zb zc : E} {x : Str} {p0 pos : Pos} {p : Pr}
/-! ### what is built in, called -/
theorem ez_call1 {id : String} {f : D → Option O} (hf : prF p = f1 f) (hc : CallR X (.builtin id) (rc X.K f)) (hg : Gl X x) (hm : X.mg x = none) (hv : bootBuiltins x = some (.builtin id)) (ha : Bz X C W a za)
    (hs : starEach [a] X.env = (false, eval a X.env) :: starEach [] X.env := by rfl) (hpl : (backTo pos (starEach [] X.env)).any (·.1) = false := by rfl) (hn : x ≠ "__name__" := by decide) (hdb : (x == ("__debug__" : Str)) = false := by decide) :
    Ez X C W (.Call (.Name x p0) [a] [] pos) (.pr p (.cons za .nil)) :=
  (pe_callB hc hg hm hv (pa_cons ha pa_nil hs) hn hdb hs hpl).imp fun σ H Q h => (tB1 hf h).mono fun y H1 q => ⟨y, rfl, q⟩
theorem ez_callT {T : String} {f : D → Option O} (hf : prF p = f1 f) (hc : CallR X (.type T) (rc X.K f)) (hg : Gl X x) (hm : X.mg x = none) (hv : bootBuiltins x = some (.type T)) (ha : Bz X C W a za)
    (hs : starEach [a] X.env = (false, eval a X.env) :: starEach [] X.env := by rfl) (hpl : (backTo pos (starEach [] X.env)).any (·.1) = false := by rfl) (hn : x ≠ "__name__" := by decide) (hdb : (x == ("__debug__" : Str)) = false := by decide) :
    Ez X C W (.Call (.Name x p0) [a] [] pos) (.pr p (.cons za .nil)) :=
  (pe_callTy hc hg hm hv (pa_cons ha pa_nil hs) hn hdb hs hpl).imp fun σ H Q h => (tB1 hf h).mono fun y H1 q => ⟨y, rfl, q⟩
theorem ez_call2 {id : String} {f : D → D → Option O} (hf : prF p = f2 f) (hc : CallR X (.builtin id) (rc2 X.K f)) (hg : Gl X x) (hm : X.mg x = none) (hv : bootBuiltins x = some (.builtin id)) (ha : Bz X C W a za) (hb : Bz X C W b zb)
    (hs : starEach [a, b] X.env = (false, eval a X.env) :: starEach [b] X.env := by rfl) (hs2 : starEach [b] X.env = (false, eval b X.env) :: starEach [] X.env := by rfl) (hpl : (backTo pos (starEach [b] X.env)).any (·.1) = false := by rfl) (hn : x ≠ "__name__" := by decide) (hdb : (x == ("__debug__" : Str)) = false := by decide) :
    Ez X C W (.Call (.Name x p0) [a, b] [] pos) (.pr p (.cons za (.cons zb .nil))) :=
  (pe_callB hc hg hm hv (pa_cons ha (pa_cons hb pa_nil hs2) hs) hn hdb hs hpl).imp fun σ H Q h => (tB2 hf h).mono fun y H1 q => q.mono fun w H2 q => ⟨y, w, rfl, q⟩

/-! ### isinstance -/
def Ty.nm : Ty → String
  | .int => "int"
  | .bool => "bool"
  | .str => "str"
  | .list => "list"
  | .tuple => "tuple"
def tn : D → String
  | .none => "NoneType"
  | .bool _ => "bool"
  | .int _ => "int"
  | .str _ => "str"
  | .list _ => "list"
  | .tuple _ => "tuple"
  | .dict _ => "dict"
theorem kit_tab : ∀ a ∈ ["NoneType", "bool", "int", "str", "list", "tuple"], ∀ T : Ty, kitB a T.nm = some (match a, T with
    | "int", .int => true | "bool", .int => true | "bool", .bool => true | "str", .str => true | "list", .list => true | "tuple", .tuple => true | _, _ => false) := by
  intro a m T
  simp only [List.mem_cons, List.not_mem_nil, or_false] at m
  rcases m with rfl | rfl | rfl | rfl | rfl | rfl <;> cases T <;> decide +kernel
theorem kit_d {K : PySem.W.Frag} (d : D) (hd : ∀ l, d ≠ .dict l) (T : Ty) : PySem.W.kitOne K (.type (tn d)) (.type T.nm) = some (isTy d T) := by
  refine kit_ty ?_
  cases d with
  | none => exact (kit_tab "NoneType" (by simp) T).trans (by cases T <;> rfl)
  | bool _ => exact (kit_tab "bool" (by simp) T).trans (by cases T <;> rfl)
  | int _ => exact (kit_tab "int" (by simp) T).trans (by cases T <;> rfl)
  | str _ => exact (kit_tab "str" (by simp) T).trans (by cases T <;> rfl)
  | list _ => exact (kit_tab "list" (by simp) T).trans (by cases T <;> rfl)
  | tuple _ => exact (kit_tab "tuple" (by simp) T).trans (by cases T <;> rfl)
  | dict l => exact absurd rfl (hd l)
theorem kit_any {K : PySem.W.Frag} (d : D) (hd : ∀ l, d ≠ .dict l) : ∀ ts : List Ty, PySem.W.kitAny K (.type (tn d)) (ts.map fun T => .type T.nm) = some (ts.any (isTy d))
  | [] => kitAny_nil
  | T :: ts => by
    refine kitAny_cons (kit_d d hd T) (fun e => ?_) fun e => ?_
    · rw [List.any_cons, e, Bool.false_or]; exact kit_any d hd ts
    · rw [List.any_cons, e, Bool.true_or]
theorem Sh.ty {K : PySem.W.Frag} {Hv H : Hp} {v : V} {d : D} (h : Sh K Hv H v d) (k : Sub Hv H) : TyX K H v (.type (tn d)) ∧ ∀ l, d ≠ .dict l := by
  refine ⟨?_, fun l e => by subst e; exact h.dict⟩
  cases d with
  | none => rw [h.non]; exact .base .non
  | bool b => rw [h.bl]; exact .base (.bl _)
  | int b => rw [h.int]; exact .base (.int _)
  | str b => rw [h.str]; exact .base (.str _)
  | list b =>
    obtain ⟨l, vs, rfl, hl, _⟩ := h.list k
    rcases hl with (e | ⟨o, e⟩) | ⟨o, its, n, e, c, _⟩
    · exact .base (.lst e)
    · exact .base (.frz e)
    · exact .kList e c
  | tuple b =>
    obtain ⟨l, vs, rfl, hl, _⟩ := h.tup k
    rcases hl with (e | ⟨o, e⟩) | ⟨o, its, n, e, c, _⟩
    · exact .base (.tup e)
    · exact .fTuple e
    · exact .kTuple e c
  | dict l => exact h.dict.elim
/-- a name of a built-in type -/
theorem pe_type {T : Ty} (hg : Gl X T.nm) (hm : X.mg T.nm = none) : PE X (.Name T.nm pos) (tC (.ty T.nm)) := by
  cases T <;> exact pe_bltn hg hm (u := .type _) (by first | rfl | decide +kernel) rfl (by decide) (by decide)
theorem isi_nm : bootBuiltins "isinstance" = some (.builtin "isinstance") := by first | rfl | decide +kernel
theorem ez_isi {T : Ty} {p1 : Pos} (hg : Gl X "isinstance") (hm : X.mg "isinstance" = none) (hg2 : Gl X T.nm) (hm2 : X.mg T.nm = none) (ha : Bz X C W a za)
    (hs : starEach [a, .Name T.nm p1] X.env = (false, eval a X.env) :: starEach [.Name T.nm p1] X.env := by rfl) (hs2 : starEach [.Name T.nm p1] X.env = (false, eval (.Name T.nm p1) X.env) :: starEach [] X.env := by rfl) (hpl : (backTo pos (starEach [.Name T.nm p1] X.env)).any (·.1) = false := by rfl) :
    Ez X C W (.Call (.Name "isinstance" p0) [a, .Name T.nm p1] [] pos) (.pr (.isi [T]) (.cons za .nil)) :=
  (pe_callB call_isi hg hm isi_nm (pa_cons ha (pa_cons (pe_type hg2 hm2) pa_nil hs2) hs) (by decide) (by decide) hs hpl).imp fun σ H Q h => (tB1 (p := .isi [T]) (f := fIsi [T]) rfl h).mono fun y H1 ⟨Hv, d, o, k, sh, e, q⟩ => by
    unfold fIsi at e
    cases e
    obtain ⟨t1, t2⟩ := sh.ty k
    refine ⟨y, .ty T.nm, _, _, _, rfl, .ty _, t1, kit_d d t2 T, ?_⟩
    have e2 : [T].any (isTy d) = isTy d T := by simp
    rw [e2] at q
    exact q _ _ (.old (.bl _))
/-- one new thing that nobody tracks -/
theorem tB1g {f : D → Option O} (hf : prF p = f1 f) {σ : L2.St} {H : Hp} {Q : VK} (h : tE X.K C.ro W (ev C (.pr p (.cons za .nil))) σ H Q) :
    tB X.K C.ro W (evb1 C za) σ H fun x H1 => ∃ Hv a o, Sub Hv H1 ∧ Sh X.K Hv H1 x a ∧ f a = some o ∧ ∀ q u z H', H1 q = none → Res X.K Hv (upd H1 q u) o z H' → Q z H' := by
  obtain ⟨F, us, Hv, tp, Γ, s, hs⟩ := h
  unfold ev at hs
  rw [evB_cons, R.sat_bind, R.sat_bind] at hs
  refine ⟨F, us, Hv, tp, Γ, s, hs.imp (fun q1 hq v Hv1 H1 s1 hv1 => ?_) fun _ _ h => h⟩
  have hq : (opt (peeks q1.2 [q1.1]) fun ds => opt (prF p ds) fun o => .ok (o, q1.2)).sat _ _ := hq
  obtain ⟨ds, e1, hq'⟩ := opt_sat hq
  clear hq
  obtain ⟨o, e2, hz⟩ := opt_sat hq'
  clear hq'
  obtain ⟨d1, es, rfl, p1, e1⟩ := peeks_cons e1
  cases e1
  rw [hf] at e2
  refine ⟨Hv1, d1, o, s1.sub, s1.peek hv1 p1, e2, fun q u z H' hq r => ?_⟩
  have s2 : (Cz.mk X.K F C.ro us W σ).S Hv1 (upd H1 q u) tp q1.2 := ⟨s1.pop.si.grow hq, s1.ro⟩
  obtain ⟨Hv3, _, s3⟩ := s2.res r
  exact hz z Hv3 H' s3
theorem ez_isi2 {T U : Ty} {k : Nat} {p1 p2 p3 : Pos} (hg : Gl X "isinstance") (hm : X.mg "isinstance" = none) (hg2 : Gl X T.nm) (hm2 : X.mg T.nm = none) (hg3 : Gl X U.nm) (hm3 : X.mg U.nm = none) (ha : Bz X C W a za)
    (hs : starEach [a, .Tuple [.Name T.nm p1, .Name U.nm p2] k p3] X.env = (false, eval a X.env) :: starEach [.Tuple [.Name T.nm p1, .Name U.nm p2] k p3] X.env := by rfl)
    (hs2 : starEach [.Tuple [.Name T.nm p1, .Name U.nm p2] k p3] X.env = (false, eval (.Tuple [.Name T.nm p1, .Name U.nm p2] k p3) X.env) :: starEach [] X.env := by rfl) (hpl : (backTo pos (starEach [.Tuple [.Name T.nm p1, .Name U.nm p2] k p3] X.env)).any (·.1) = false := by rfl) :
    Ez X C W (.Call (.Name "isinstance" p0) [a, .Tuple [.Name T.nm p1, .Name U.nm p2] k p3] [] pos) (.pr (.isi [T, U]) (.cons za .nil)) :=
  (pe_callB call_isiT hg hm isi_nm (pa_cons ha (pa_cons (pe_tup (pa_cons (pe_type hg2 hm2) (pa_cons (pe_type hg3 hm3) pa_nil (by rfl)) (by rfl))) pa_nil hs2) hs) (by decide) (by decide) hs hpl).imp fun σ H Q h => (tB1g (p := .isi [T, U]) (f := fIsi [T, U]) rfl h).mono fun y H1 ⟨Hv, d, o, k, sh, e, q⟩ => by
    unfold fIsi at e
    cases e
    refine ⟨by show 2 ≤ _; decide, fun q1 hq1 => ?_⟩
    have sh' : Sh X.K Hv (upd H1 q1 (.tup [.ty T.nm, .ty U.nm])) y d := by
      rcases sh with sh | ⟨xs, l, vs, e1, e2, e3, e4⟩
      · exact .inl sh
      · exact .inr ⟨xs, l, vs, e1, e2, (Sub.upd hq1) _ _ e3, e4⟩
    obtain ⟨t1, t2⟩ := sh'.ty (k.trans (Sub.upd hq1))
    refine ⟨y, q1, [.ty T.nm, .ty U.nm], _, [.type T.nm, .type U.nm], _, rfl, upd_same, .cons (.ty _) (.cons (.ty _) .nil), t1, kit_any d t2 [T, U], ?_⟩
    exact q q1 _ _ _ hq1 (.old (.bl _))

/-! ### slices -/
def tP (K : PySem.W.Frag) (ro : List Nat) (W : WX) (f : Env → R (Option Int × Env)) : L2.TO := fun σ H Q => ∃ F us Hv tp Γ, (Cz.mk K F ro us W σ).S Hv H tp Γ ∧
  (f Γ).sat (fun p => ∀ Hv H, (Cz.mk K F ro us W σ).S Hv H tp p.2 → Q p.1 H) ((Cz.mk K F ro us W σ).exq tp)
abbrev Pz (X : Cx) (C : Cfg) (W : WX) (e : Option Expr) (z : Oe) : Prop := PO X e (tP X.K C.ro W (evP C z))
theorem _root_.L2.PO.imp {X : Cx} {e : Option Expr} {t t' : L2.TO} (h : PO X e t') (k : ∀ σ H Q, t σ H Q → t' σ H Q) : PO X e t := ⟨fun pins s σ H Q I hw => h.run pins s σ H Q I (k σ H Q hw)⟩
theorem pz_no : Pz X C W none .no := po_none.imp fun σ H Q ⟨F, us, Hv, tp, Γ, s, hs⟩ => hs Hv H s
theorem pz_so (h : Dz X C W e z) : Pz X C W (some e) (.so z) := (po_some h).imp fun σ H Q ⟨F, us, Hv, tp, Γ, s, hs⟩ => by
  simp only [evP] at hs
  rw [R.sat_bind] at hs
  refine ⟨F, us, Hv, tp, Γ, s, hs.imp (fun p hq v Hv1 H1 s1 => ?_) fun _ _ h => h⟩
  obtain ⟨i, e1, hq⟩ := opt_sat hq
  obtain ⟨p1, p2⟩ := p
  cases p1 with
  | int j =>
    cases e1
    exact ⟨_, Sh.int (Hv := Hv1) (H := H1) (.inl s1.headV), hq Hv1 H1 s1.pop⟩
  | _ => cases e1
theorem dpAll_drop {K : PySem.W.Frag} {G : Hp} : ∀ {vs : List V} {ds : List D} (n : Nat), DpAll K G vs ds → DpAll K G (vs.drop n) (ds.drop n)
  | _, _, 0, r => r
  | _, _, _ + 1, .nil => .nil
  | _, _, n + 1, .cons _ t => dpAll_drop n t
theorem dpAll_take {K : PySem.W.Frag} {G : Hp} : ∀ {vs : List V} {ds : List D} (n : Nat), DpAll K G vs ds → DpAll K G (vs.take n) (ds.take n)
  | _, _, 0, _ => .nil
  | _, _, _ + 1, .nil => .nil
  | _, _, n + 1, .cons r t => .cons r (dpAll_take n t)
theorem dpAll_rev {K : PySem.W.Frag} {G : Hp} : ∀ {vs : List V} {ds : List D}, DpAll K G vs ds → DpAll K G vs.reverse ds.reverse
  | _, _, .nil => .nil
  | _, _, .cons r t => by
    rw [List.reverse_cons, List.reverse_cons]
    exact dpAll_append (dpAll_rev t) (.cons r .nil)
theorem dpAll_cut {K : PySem.W.Frag} {G : Hp} {vs : List V} {ds : List D} (r : DpAll K G vs ds) (lo hi : Option Int) : DpAll K G (cutV vs lo hi) (cutD ds lo hi) := by
  unfold cutV cutD
  rw [dpAll_length r]
  exact dpAll_take _ (dpAll_drop _ r)
theorem ez_slc {lo hi : Option Expr} {zl zh : Oe} {p2 : Pos} (ha : Bz X C W a za) (hl : Pz X C W lo zl) (hh : Pz X C W hi zh) : Ez X C W (.Subscript a (.Slice lo hi none p2) pos) (.slc (.cons za .nil) zl zh) :=
  (pe_slice (sl_list.or sl_tup) ha hl hh).imp fun σ H Q ⟨F, us, Hv, tp, Γ, s, hs⟩ => by
    unfold ev at hs
    rw [evB_cons, R.sat_bind, R.sat_bind] at hs
    refine ⟨F, us, Hv, tp, Γ, s, hs.imp (fun q1 hq v Hv1 H1 s1 hv1 => ?_) fun _ _ h => h⟩
    have hq : ((evP C zl q1.2).bind fun l => (evP C zh l.2).bind fun h => opt (peeks h.2 [q1.1]) fun ds => opt (f1 (fun d => fSlc d l.1 h.1) ds) fun o => .ok (o, h.2)).sat _ _ := hq
    rw [R.sat_bind] at hq
    refine ⟨F, us, Hv1, _, q1.2, s1, hq.imp (fun l hq Hv2 H2 s2 => ?_) fun _ _ h => Cz.exq.push h⟩
    rw [R.sat_bind] at hq
    refine ⟨F, us, Hv2, _, l.2, s2, hq.imp (fun h hq Hv3 H3 s3 => ?_) fun _ _ h => Cz.exq.push h⟩
    obtain ⟨ds, e1, hq'⟩ := opt_sat hq
    clear hq
    obtain ⟨o, e2, hz⟩ := opt_sat hq'
    clear hq'
    obtain ⟨d1, es, rfl, p1, e1⟩ := peeks_cons e1
    cases e1
    have sh := s3.peek hv1 p1
    have e2 : fSlc d1 l.1 h.1 = some o := e2
    unfold fSlc at e2
    split at e2
    · cases e2
      obtain ⟨w, vs, rfl, h1, r1⟩ := sh.list s3.sub
      refine .inl ⟨w, vs, rfl, h1, fun q hq => ?_⟩
      obtain ⟨Hv4, _, s4⟩ := s3.pop.res (.lst (dpAll_cut r1 l.1 h.1) hq)
      exact hz _ Hv4 _ s4
    · split at e2
      · cases e2
      · rename_i nw
        cases e2
        obtain ⟨w, vs, rfl, h1, r1⟩ := sh.tup s3.sub
        refine .inr ⟨w, vs, rfl, h1, by rw [dpAll_length r1]; exact nw, fun q hq => ?_⟩
        obtain ⟨Hv4, _, s4⟩ := s3.pop.res (.tup (dpAll_cut r1 l.1 h.1) hq)
        exact hz _ Hv4 _ s4
    · cases e2

/-! ### dicts -/
theorem kv_val {K : PySem.W.Frag} {G : Hp} {k : Key} {d : D} : ∀ {ks : List (Key × V)} {kvs : List (Key × D)}, KvAll K G ks kvs → getK kvs k = some d → ∃ v, valV ks k = some v ∧ Dp K G v d
  | _, _, .nil, e => by cases e
  | _, _, .cons (k := k') (v := v) (d := d') h r, e => by
    unfold getK at e
    by_cases q : k' = k
    · rw [if_pos q] at e
      cases e
      exact ⟨v, valV_pos q, h⟩
    · rw [if_neg q] at e
      obtain ⟨w, h1, h2⟩ := kv_val r e
      exact ⟨w, by rw [valV_neg (p := (k', v)) q]; exact h1, h2⟩
theorem kv_len {K : PySem.W.Frag} {G : Hp} : ∀ {ks : List (Key × V)} {kvs : List (Key × D)}, KvAll K G ks kvs → ks.length = kvs.length
  | _, _, .nil => rfl
  | _, _, .cons _ r => congrArg Nat.succ (kv_len r)
theorem kv_any {K : PySem.W.Frag} {G : Hp} {k : Key} : ∀ {ks : List (Key × V)} {kvs : List (Key × D)}, KvAll K G ks kvs → (ks.any fun kv => decide (kv.1 = k)) = kvs.any fun kv => decide (kv.1 = k)
  | _, _, .nil => rfl
  | _, _, .cons h r => by
    rw [List.any_cons, List.any_cons, kv_any r]
theorem kv_map {K : PySem.W.Frag} {G : Hp} {k : Key} {v : V} {d : D} (rv : Dp K G v d) : ∀ {ks : List (Key × V)} {kvs : List (Key × D)}, KvAll K G ks kvs → KvAll K G (ks.map fun kv => if kv.1 = k then (kv.1, v) else kv) (kvs.map fun kv => if kv.1 = k then (kv.1, d) else kv)
  | _, _, .nil => .nil
  | _, _, .cons (k := k') h r => by
    rw [List.map_cons, List.map_cons]
    by_cases q : k' = k
    · rw [if_pos q, if_pos q]; exact .cons rv (kv_map rv r)
    · rw [if_neg q, if_neg q]; exact .cons h (kv_map rv r)
theorem kv_snoc {K : PySem.W.Frag} {G : Hp} {k : Key} {v : V} {d : D} (rv : Dp K G v d) : ∀ {ks : List (Key × V)} {kvs : List (Key × D)}, KvAll K G ks kvs → KvAll K G (ks ++ [(k, v)]) (kvs ++ [(k, d)])
  | _, _, .nil => .cons rv .nil
  | _, _, .cons h r => .cons h (kv_snoc rv r)
theorem kv_put {K : PySem.W.Frag} {G : Hp} {k : Key} {v : V} {d : D} {ks : List (Key × V)} {kvs : List (Key × D)} (r : KvAll K G ks kvs) (rv : Dp K G v d) : KvAll K G (putK ks k v) (putD kvs k d) := by
  unfold putK putD
  rw [kv_any r]
  by_cases q : (kvs.any fun kv => decide (kv.1 = k)) = true
  · rw [if_pos q, if_pos q]; exact kv_map rv r
  · rw [if_neg q, if_neg q]; exact kv_snoc rv r
theorem keyD_v {K : PySem.W.Frag} {G : Hp} {d : D} {v : V} {k : Key} (h : Dp K G v d) (e : keyD d = some k) : v = kV k := by
  cases d with
  | int i => cases e; cases h; rfl
  | str i => cases e; cases h; rfl
  | _ => cases e
theorem ez_dget {i : Nat} {y : Str} {p1 : Pos} (hu : Rm X) (hN : X.N[i]? = some y) (hv : Vis X.env.scope y) (hk : Dz X C W b zb) (hs : NoSl b) (hd : (y == ("__debug__" : Str)) = false := by decide) (hcd : (y == ("__classdict__" : Str)) = false := by decide) :
    Ez X C W (.Subscript (.Name y p1) b pos) (.dget i zb) := (pe_dget (by unfold Rm at hu; omega) (pe_var hN hv hd hcd) hk hs).imp fun σ H Q ⟨F, us, Hv, tp, Γ, s, hs⟩ => by
  have e : ev C (.dget i zb) Γ = if isHole (slot Γ i) then .bad else (toD (ev C zb Γ)).bind fun x => opt (dicO (slot x.2 i)) fun kvs => opt (keyD x.1) fun k => opt (getK kvs k) fun d => .ok (.v d, x.2) := by simp only [ev]
  rw [e] at hs
  by_cases n : isHole (slot Γ i) = true
  · rw [if_pos n] at hs; exact hs.elim
  · rw [if_neg n, R.sat_bind] at hs
    obtain ⟨v, as, e1, _⟩ := s.val rfl (by simpa using n)
    refine ⟨v, e1, F, us, Hv, tp, Γ, s, hs.imp (fun x hq u Hv1 H1 s1 => ?_) fun _ _ h => h⟩
    obtain ⟨kvs, e2, hq⟩ := opt_sat hq
    obtain ⟨k, e3, hq⟩ := opt_sat hq
    obtain ⟨d, e4, hq⟩ := opt_sat hq
    have e5 : slot x.2 i = .dic kvs := by
      cases q : slot x.2 i with
      | dic l => rw [q] at e2; cases e2; rfl
      | _ => rw [q] at e2; cases e2
    obtain ⟨v', as', e6, r6⟩ := s1.val e5 rfl
    rw [e1] at e6
    cases e6
    unfold Rp at r6
    obtain ⟨l, ks, rfl, _, hl, rk⟩ := r6
    obtain ⟨w, h1, h2⟩ := kv_val rk e4
    have hu' := keyD_v s1.headV e3
    subst hu'
    refine ⟨l, w, rfl, by rw [← h1]; exact DGet.k hl, ?_⟩
    obtain ⟨Hv2, _, s2⟩ := s1.pop.res (o := .v d) (.old h2)
    exact hq w Hv2 _ s2
/-- no exception comes from here -/
def WF : WX := fun _ _ _ _ => False
theorem ez_nox (h : Ez X C WF e z) : Ez X C W e (.nox z) := h.imp fun σ H Q ⟨F, us, Hv, tp, Γ, s, hs⟩ => by
  simp only [ev] at hs
  refine ⟨F, us, Hv, tp, Γ, ⟨s.si, s.ro⟩, ?_⟩
  cases q : ev C z Γ with
  | ok p => rw [q] at hs; exact fun v Hv H s => hs v Hv H ⟨s.si, s.ro⟩
  | ex c G => rw [q] at hs; exact hs.elim
  | bad => rw [q] at hs; exact hs.elim
end
end Z
end
section
set_option Elab.async false
set_option linter.all false
set_option maxRecDepth 100000
namespace Z
open PySem PySem.Spec PyProof.Rows L2

/-! ### a callee's state beside the caller's -/
theorem frame_si {K : PySem.W.Frag} {F : Fr0} {Hv H Hv' H' : Hp} {L M : List O} {ss tt : List (Option V)} {as bs : List Addr} (hm : RpL K Hv H M tt bs) (w : Own F Hv H (as ++ bs)) (h : SI K ⟨H, Hv, as⟩ Hv' H' L ss) : SI K F Hv' H' (L ++ M) (ss ++ tt) := by
  obtain ⟨cs, hl, w'⟩ := h
  have nd := List.nodup_append.mp w.nd
  have bno : ∀ a ∈ bs, a ∉ as := fun a m z => nd.2.2 a z a m rfl
  have bat : ∀ a ∈ bs, ∃ o, H a = some o := fun a m => w.at_ a (List.mem_append_right _ m)
  have stay : ∀ a ∈ bs, H' a = H a := fun a m => by
    obtain ⟨o, e⟩ := bat a m
    rw [e]; exact w'.keep a o e (bno a m)
  have f0 : ∀ a, H a = none → F.H a = none := fun a n => by
    cases e : F.H a with
    | none => rfl
    | some o =>
      obtain ⟨o', e'⟩ := w.there a o e
      rw [n] at e'; cases e'
  have aown : ∀ a ∈ as, F.H a = none ∨ a ∈ F.inn := fun a m => w.own a (List.mem_append_left _ m)
  refine ⟨cs ++ bs, hl.append (hm.keep w'.vis stay), ⟨w'.sub, ?_, fun a m => ?_, fun a o e n => ?_, w.vis.trans w'.vis, fun a o e => ?_, fun a m => ?_, fun a o e => ?_, fun a m => ?_⟩⟩
  · refine List.nodup_append.mpr ⟨w'.nd, nd.2.1, fun a ma b mb e => ?_⟩
    subst e
    rcases w'.own a ma with z | z
    · obtain ⟨o, e⟩ := bat a mb
      have z : H a = none := z
      rw [z] at e; cases e
    · exact bno a mb z
  · rcases List.mem_append.mp m with m | m
    · exact w'.hid a m
    · cases e : Hv' a with
      | none => rfl
      | some o =>
        rcases w'.new a o e with z | z | z
        · have := w.hid a (List.mem_append_right _ m)
          have z : Hv a = some o := z
          rw [this] at z; cases z
        · obtain ⟨o', e'⟩ := bat a m
          have z : H a = none := z
          rw [z] at e'; cases e'
        · exact absurd z (bno a m)
  · refine w'.keep a o (w.keep a o e n) fun m => ?_
    rcases aown a m with z | z
    · rw [e] at z; cases z
    · exact n z
  · rcases w'.new a o e with z | z | z
    · exact w.new a o z
    · exact .inr (.inl (f0 a z))
    · rcases aown a z with z | z
      · exact .inr (.inl z)
      · exact .inr (.inr z)
  · rcases List.mem_append.mp m with m | m
    · rcases w'.own a m with z | z
      · exact .inl (f0 a z)
      · exact aown a z
    · exact w.own a (List.mem_append_right _ m)
  · obtain ⟨o', e'⟩ := w.there a o e
    exact w'.there a o' e'
  · rcases List.mem_append.mp m with m | m
    · exact w'.at_ a m
    · obtain ⟨o, e⟩ := bat a m
      exact w'.there a o e

/-- what a def promises -/
def SpC (K : PySem.W.Frag) (ar : Nat) (call : List O → CRes) : Sp := fun vs H Q E => vs.length = ar ∧ ∃ Hv os as, RpL K Hv H os (vs.map some) as ∧ Own ⟨H, Hv, as⟩ Hv H as ∧ (match call os with
  | .ok o outs => ∀ v Hv' H', SI K ⟨H, Hv, as⟩ Hv' H' (o :: outs) (some v :: vs.map some) → Q v H'
  | .ex c outs => ∀ cls d Hv' H', ExV K cls d c → SI K ⟨H, Hv, as⟩ Hv' H' outs (vs.map some) → E cls d H'
  | .bad => False)

/-! ### arguments -/
def zT (os : List O) (vs : List V) : List (O × Option V) := os.zip (vs.map some)
theorem zT_fst : ∀ {os : List O} {vs : List V}, vs.length = os.length → (zT os vs).map (·.1) = os
  | [], [], _ => rfl
  | o :: os, v :: vs, h => by
    show o :: (zT os vs).map (·.1) = _
    rw [zT_fst (by simpa using h)]
  | [], _ :: _, h => by simp at h
  | _ :: _, [], h => by simp at h
theorem zT_snd : ∀ {os : List O} {vs : List V}, vs.length = os.length → (zT os vs).map (·.2) = vs.map some
  | [], [], _ => rfl
  | o :: os, v :: vs, h => by
    show some v :: (zT os vs).map (·.2) = _
    rw [zT_snd (by simpa using h)]; rfl
  | [], _ :: _, h => by simp at h
  | _ :: _, [], h => by simp at h
/-- the variables that are handed in stand behind their values -/
def Pl (σ : L2.St) : Es → List V → Prop
  | .cons e es, v :: vs => (∀ i, owV e = some i → σ[i]? = some (some v)) ∧ Pl σ es vs
  | _, _ => True
def tA (K : PySem.W.Frag) (ro : List Nat) (W : WX) (as : Es) (f : Env → R (List O × Env)) : TA := fun σ H Q => ∃ F us Hv tp Γ, (Cz.mk K F ro us W σ).S Hv H tp Γ ∧
  (f Γ).sat (fun p => ∀ vs Hv H, vs.length = p.1.length → Pl σ as vs → (Cz.mk K F ro us W σ).S Hv H (zT p.1 vs ++ tp) p.2 → Q vs H) ((Cz.mk K F ro us W σ).exq tp)
abbrev Az (X : Cx) (C : Cfg) (W : WX) (es : List Expr) (zs : Es) : Prop := PA X es (tA X.K C.ro W zs (evA C zs))

section
variable {c : Cz} {Hv H : Hp} {tp tq : List (O × Option V)} {Γ : Env} {o : O} {v : V} {s : Option V}
theorem Cz.S.take {i : Nat} (h : c.S Hv H tp Γ) (e : c.σ[i]? = some s) : c.S Hv H ((slot Γ i, s) :: tp) (Γ.set i .hole) := by
  have hl := h.len
  have hi : i < Γ.length := by rw [← hl]; exact (List.getElem?_eq_some_iff.mp e).1
  have e' : Γ[i]? = some (slot Γ i) := by
    unfold slot
    rw [List.getD_eq_getElem?_getD, List.getElem?_eq_getElem hi]; rfl
  obtain ⟨s1, es1, t1⟩ := h.si.take (i := tp.length + i) (o := slot Γ i) (by rw [getElem?_append_map]; exact e')
  rw [getElem?_append_map, e] at es1
  cases es1
  rw [set_append_map] at t1
  exact ⟨t1, h.ro⟩
theorem set_same {σ : L2.St} {i : Nat} {s : Option V} (e : σ[i]? = some s) : σ.set i s = σ := by
  apply List.ext_getElem?
  intro j
  by_cases q : i = j
  · subst q
    rw [List.getElem?_set_self (List.getElem?_eq_some_iff.mp e).1, e]
  · rw [List.getElem?_set_ne q]
theorem Cz.S.put {i : Nat} (h : c.S Hv H ((o, s) :: tp) Γ) (e : c.σ[i]? = some s) : c.S Hv H tp (Γ.set i o) := by
  have hl := h.len
  have hi : i < Γ.length := by rw [← hl]; exact (List.getElem?_eq_some_iff.mp e).1
  have t := h.si
  have t : SI c.K c.F Hv H (o :: (tp.map (·.1) ++ Γ)) (s :: (tp.map (·.2) ++ c.σ)) := t
  have t1 := t.put (i := tp.length + i) (by simp; omega)
  have l2 : (tp.map (fun p : O × Option V => p.2)).length = (tp.map (fun p : O × Option V => p.1)).length := by simp
  rw [set_append_map, set_append_map, set_same e] at t1
  exact ⟨t1, h.ro⟩
theorem Cz.S.drop : ∀ {tq : List (O × Option V)}, c.S Hv H (tq ++ tp) Γ → c.S Hv H tp Γ
  | [], h => h
  | (o, s) :: tq, h => Cz.S.drop (tq := tq) h.pop
end
theorem fill_ok {c : Cz} {Hv H : Hp} : ∀ {as : Es} {os : List O} {vs : List V} {Γ : Env} {tp : List (O × Option V)}, vs.length = os.length → Pl c.σ as vs → c.S Hv H (zT os vs ++ tp) Γ →
    (fill as os Γ).1.length = os.length ∧ c.S Hv H (zT (fill as os Γ).1 vs ++ tp) (fill as os Γ).2
  | .nil, os, vs, Γ, tp, hl, hp, s => by
    rw [fill]; exact ⟨rfl, s⟩
  | .cons a as, [], vs, Γ, tp, hl, hp, s => by
    rw [fill]; exact ⟨rfl, s⟩
  | .cons a as, o :: os, [], Γ, tp, hl, hp, s => by simp at hl
  | .cons a as, o :: os, v :: vs, Γ, tp, hl, hp, s => by
    have hl' : vs.length = os.length := by simpa using hl
    have s0 : c.S Hv H ((o, some v) :: (zT os vs ++ tp)) Γ := s
    obtain ⟨h1, h2⟩ : (∀ i, owV a = some i → c.σ[i]? = some (some v)) ∧ Pl c.σ as vs := hp
    rw [fill]
    cases q : owV a with
    | some i =>
      have s1 := s0.pop.take (h1 i q)
      have s2 : c.S Hv H (zT os vs ++ ((slot Γ i, some v) :: tp)) (Γ.set i .hole) := s1.perm List.perm_middle.symm
      obtain ⟨r1, r2⟩ := fill_ok hl' h2 s2
      exact ⟨congrArg Nat.succ r1, r2.perm List.perm_middle⟩
    | none =>
      have s2 : c.S Hv H (zT os vs ++ ((o, some v) :: tp)) Γ := s0.perm List.perm_middle.symm
      obtain ⟨r1, r2⟩ := fill_ok hl' h2 s2
      exact ⟨congrArg Nat.succ r1, r2.perm List.perm_middle⟩
theorem unfill_ok {c : Cz} {Hv H : Hp} : ∀ {as : Es} {os : List O} {vs : List V} {Γ : Env} {tp : List (O × Option V)}, vs.length = os.length → Pl c.σ as vs → c.S Hv H (zT os vs ++ tp) Γ → c.S Hv H tp (unfill as os Γ)
  | .nil, os, vs, Γ, tp, hl, hp, s => by rw [unfill]; exact s.drop
  | .cons a as, [], vs, Γ, tp, hl, hp, s => by rw [unfill]; exact s
  | .cons a as, o :: os, [], Γ, tp, hl, hp, s => by simp at hl
  | .cons a as, o :: os, v :: vs, Γ, tp, hl, hp, s => by
    have hl' : vs.length = os.length := by simpa using hl
    have s0 : c.S Hv H ((o, some v) :: (zT os vs ++ tp)) Γ := s
    obtain ⟨h1, h2⟩ : (∀ i, owV a = some i → c.σ[i]? = some (some v)) ∧ Pl c.σ as vs := hp
    rw [unfill]
    cases q : owV a with
    | some i => exact unfill_ok hl' h2 (s0.put (h1 i q))
    | none => exact unfill_ok hl' h2 s0.pop
def Es.len : Es → Nat
  | .nil => 0
  | .cons _ es => es.len + 1
theorem pl_app {σ : L2.St} : ∀ {as : Es} {vs : List V} (ws : List V), Pl σ as vs → vs.length = as.len → Pl σ as (vs ++ ws)
  | .nil, _, _, _, _ => True.intro
  | .cons a as, [], ws, _, hl => by simp [Es.len] at hl
  | .cons a as, v :: vs, ws, hp, hl => ⟨hp.1, pl_app ws hp.2 (by simpa [Es.len] using hl)⟩
theorem R.bind_ok {α β : Type} {r : R α} {f : α → R β} {p : β} (h : r.bind f = .ok p) : ∃ a, r = .ok a ∧ f a = .ok p := by
  cases r with
  | ok a => exact ⟨a, rfl, h⟩
  | ex c G => cases h
  | bad => cases h
theorem evA_len {C : Cfg} : ∀ {as : Es} {Γ : Env} {p : List O × Env}, evA C as Γ = .ok p → p.1.length = as.len
  | .nil, Γ, p, h => by
    simp only [evA] at h
    cases h; rfl
  | .cons a as, Γ, p, h => by
    simp only [evA] at h
    cases w : isOw a with
    | true =>
      rw [w] at h
      obtain ⟨o, _, h⟩ := R.bind_ok h
      obtain ⟨r, e2, h⟩ := R.bind_ok h
      cases h
      exact congrArg Nat.succ (evA_len e2)
    | false =>
      rw [w] at h
      obtain ⟨o, _, h⟩ := R.bind_ok h
      obtain ⟨r, e2, h⟩ := R.bind_ok h
      cases h
      exact congrArg Nat.succ (evA_len e2)

section
variable {X : Cx} {C : Cfg} {W : WX} {e : Expr} {z : E} {es : List Expr} {zs : Es} {x : Str} {p0 pos : Pos}
theorem az_nil : Az X C W [] .nil := pa_nil.imp fun σ H Q ⟨F, us, Hv, tp, Γ, s, hs⟩ => by
  simp only [evA] at hs
  exact hs [] Hv H rfl True.intro s
/-- the rest of the arguments -/
theorem a_rest {c : Cz} {Q : List V → Hp → Prop} {tp : List (O × Option V)} {o : O} {v : V} {q : List O × Env} {a : E} {as : Es} (hv : ∀ i, owV a = some i → c.σ[i]? = some (some v))
    (h : ∀ vs Hv H, vs.length = (o :: q.1).length → Pl c.σ (.cons a as) vs → c.S Hv H (zT (o :: q.1) vs ++ tp) q.2 → Q vs H) :
    ∀ vs Hv H, vs.length = q.1.length → Pl c.σ as vs → c.S Hv H (zT q.1 vs ++ ((o, some v) :: tp)) q.2 → Q (v :: vs) H := fun vs Hv H hl hp s =>
  h (v :: vs) Hv H (congrArg Nat.succ hl) ⟨hv, hp⟩ (s.perm List.perm_middle)
theorem az_d (hz : isOw z = false) (he : Dz X C W e z) (hr : Az X C W es zs) (hs : starEach (e :: es) X.env = (false, eval e X.env) :: starEach es X.env := by rfl) : Az X C W (e :: es) (.cons z zs) :=
  (pa_cons he hr hs).imp fun σ H Q ⟨F, us, Hv, tp, Γ, s, hs⟩ => by
    simp only [evA, hz] at hs
    rw [R.sat_bind] at hs
    have hn : owV z = none := by cases z <;> first | rfl | (cases hz)
    refine ⟨F, us, Hv, tp, Γ, s, hs.imp (fun p hq v Hv1 H1 s1 => ?_) fun _ _ h => h⟩
    rw [R.sat_bind] at hq
    exact ⟨F, us, Hv1, _, p.2, s1, hq.imp (fun q hq => a_rest (c := Cz.mk X.K F C.ro us W σ) (a := z) (as := zs) (fun i e => by rw [hn] at e; cases e) hq) fun _ _ h => Cz.exq.push h⟩
/-- one's own thing, just made -/
theorem az_own (hn : ∀ i, z ≠ .var i) (he : Ez X C W e z) (hr : Az X C W es zs) (hs : starEach (e :: es) X.env = (false, eval e X.env) :: starEach es X.env := by rfl) : Az X C W (e :: es) (.cons (.ow z) zs) :=
  (pa_cons he hr hs).imp fun σ H Q ⟨F, us, Hv, tp, Γ, s, hs⟩ => by
    have e1 : ev C (.ow z) Γ = ev C z Γ := by
      cases z <;> first | (simp only [ev]; done) | exact absurd rfl (hn _)
    have hw : owV (.ow z) = none := by cases z <;> first | rfl | exact absurd rfl (hn _)
    have e2 : evA C (.cons (.ow z) zs) Γ = (ev C (.ow z) Γ).bind fun o => (evA C zs o.2).bind fun r => .ok (o.1 :: r.1, r.2) := by simp only [evA, isOw]
    rw [e2, e1, R.sat_bind] at hs
    refine ⟨F, us, Hv, tp, Γ, s, hs.imp (fun p hq v Hv1 H1 s1 => ?_) fun _ _ h => h⟩
    rw [R.sat_bind] at hq
    exact ⟨F, us, Hv1, _, p.2, s1, hq.imp (fun q hq => a_rest (c := Cz.mk X.K F C.ro us W σ) (a := .ow z) (as := zs) (fun i e => by rw [hw] at e; cases e) hq) fun _ _ h => Cz.exq.push h⟩
/-- a variable's own thing, handed in -/
theorem az_ow {i : Nat} {y : Str} {p1 : Pos} (hN : X.N[i]? = some y) (hv : Vis X.env.scope y) (hr : Az X C W es zs) (hs : starEach (.Name y p1 :: es) X.env = (false, eval (.Name y p1) X.env) :: starEach es X.env := by rfl)
    (hd : (y == ("__debug__" : Str)) = false := by decide) (hcd : (y == ("__classdict__" : Str)) = false := by decide) : Az X C W (.Name y p1 :: es) (.cons (.ow (.var i)) zs) :=
  (pa_cons (pe_var hN hv hd hcd) hr hs).imp fun σ H Q ⟨F, us, Hv, tp, Γ, s, hs⟩ => by
    have e2 : evA C (.cons (.ow (.var i)) zs) Γ = (ev C (.ow (.var i)) Γ).bind fun o => (evA C zs o.2).bind fun r => .ok (o.1 :: r.1, r.2) := by simp only [evA, isOw]
    rw [e2] at hs
    have e1 : ev C (.ow (.var i)) Γ = if isHole (slot Γ i) then .bad else .ok (.hole, Γ) := by rw [ev]
    rw [e1] at hs
    by_cases n : isHole (slot Γ i) = true
    · rw [if_pos n] at hs; exact hs.elim
    · rw [if_neg n] at hs
      obtain ⟨v, as, ev1, _⟩ := s.val rfl (by simpa using n)
      refine ⟨v, ev1, ?_⟩
      rw [R.sat_bind] at hs
      have hs := R.sat_bind.mp hs
      have s1 : (Cz.mk X.K F C.ro us W σ).S Hv H ((.hole, some v) :: tp) Γ := ⟨s.si.pushHole, s.ro⟩
      exact ⟨F, us, Hv, _, Γ, s1, hs.imp (fun q hq => a_rest (c := Cz.mk X.K F C.ro us W σ) (a := .ow (.var i)) (as := zs) (fun j ej => by cases ej; exact ev1) hq) fun _ _ h => Cz.exq.push h⟩

/-! ### a def is called -/
theorem run_fnZ {k : Nat} {f : Addr} {fd : FuncData} {ps : List Str} {sp : Sp} {dvs : List V} {ds : List Value} {pins : List (Addr × Obj)} {σ : L2.St} {H : Hp} {s : Shared} {Q : VK} {us : List Value} {vs : List V}
    (F : FnOk X.prog X.w X.K X.mg X.base (L2.CX X.prog X.w) k f fd ps sp) (hr : Room k X.A) (hb : Binds X.K fd ps ds) (hd : Vals dvs ds) (tk : Takes X W)
    (I : Inv X pins σ H s) (r : Vals vs us) (h : sp (vs ++ dvs) H Q (fun cls d H' => W cls d σ H')) : wpAny (model X.prog X.w) X.A (call (.ref f) us) (EP X pins σ Q) X.xe s := by
  have r2 : Vals (vs ++ dvs) (us ++ ds) := r.append hd
  have hl : (us ++ ds).length = ps.length := by rw [← r2.length]; exact F.len _ _ _ _ h
  refine wpAny_call (codeAny_mono (F.run X.A X.stack s H ⟨us, []⟩ (us ++ ds) (vs ++ dvs) Q _ hr I.env0 (hb s us I.kIn hl) r2 h) fun r s' hq => ?_)
  cases r with
  | error e => exact tk e s' (XE.of_call I (fun _ _ _ h => h) hq)
  | ok fl =>
    cases fl with
    | ret u => exact I.after hq
    | next => exact False.elim hq
    | brk => exact False.elim hq
    | cont => exact False.elim hq
theorem dflt_S {c : Cz} {Hv H : Hp} {Γ : Env} : ∀ {dvs : List V} {dds : List D} {tp : List (O × Option V)}, DpAll c.K Hv dvs dds → c.S Hv H tp Γ → c.S Hv H (zT (dds.map .v) dvs ++ tp) Γ
  | _, _, _, .nil, s => s
  | _, _, _, .cons h r, s => by
    have s1 := dflt_S r s
    exact ⟨s1.si.pushV h, s1.ro⟩
theorem zT_app {os os' : List O} {vs vs' : List V} (h : vs.length = os.length) : zT (os ++ os') (vs ++ vs') = zT os vs ++ zT os' vs' := by
  unfold zT
  rw [List.map_append, List.zip_append (by simpa using h.symm)]
theorem ez_call {k f : Nat} {fa : Addr} {fd : FuncData} {ps : List Str} {dvs : List V} {ds : List Value} {dds : List D} (F : FnOk X.prog X.w X.K X.mg X.base (L2.CX X.prog X.w) k fa fd ps (SpC X.K ps.length (C.call f))) (hcl : ∀ os, C.call f os ≠ .bad → os.length = ps.length)
    (hr : Room k X.A) (hg : Gl X x) (hm : X.mg x = some (.ref fa)) (hk : PySem.W.keepIn X.K (.ref fa) = true) (hb : Binds X.K fd ps ds) (hd : Vals dvs ds) (hdd : ∀ G, DpAll X.K G dvs dds) (tk : Takes X W)
    (ha : Az X C W (e :: es) zs) (hdb : (x == ("__debug__" : Str)) = false := by decide) (he : starEach (e :: es) X.env = (false, eval e X.env) :: starEach es X.env := by rfl) (hpl : (backTo pos (starEach es X.env)).any (·.1) = false := by rfl) :
    Ez X C W (.Call (.Name x p0) (e :: es) [] pos) (.call f zs dds) := by
  refine ⟨fun pins s σ H Q I h => ?_⟩
  refine wpAny_Call_Name_kw (ld_glob I hg hm ?_ hdb)
  obtain ⟨F0, us0, Hv, tp, Γ, s0, hs⟩ := h
  have e0 : ev C (.call f zs dds) Γ = (evA C zs Γ).bind fun q => (C.call f ((fill zs q.1 q.2).1 ++ dds.map .v)).back zs (fill zs q.1 q.2).2 := by rw [ev]
  rw [e0, R.sat_bind] at hs
  have hq0 : ∀ q, evA C zs Γ = .ok q → q.1.length = zs.len := fun q e => evA_len e
  have hs' : (evA C zs Γ).sat (fun q => q.1.length = zs.len ∧ ((C.call f ((fill zs q.1 q.2).1 ++ dds.map .v)).back zs (fill zs q.1 q.2).2).sat ((Cz.mk X.K F0 C.ro us0 W σ).ok tp Q) ((Cz.mk X.K F0 C.ro us0 W σ).exq tp)) ((Cz.mk X.K F0 C.ro us0 W σ).exq tp) := by
    cases q : evA C zs Γ with
    | ok p => rw [q] at hs; exact ⟨hq0 p q, hs⟩
    | ex c G => rw [q] at hs; exact hs
    | bad => rw [q] at hs; exact hs
  clear hs
  refine PySem.W.callWith_K (h₀ := X.base) I.ok.mod.kin hk (thn (ha.run pos pins s σ H (fun vs H1 => ∃ q : List O × Env, q.1.length = zs.len ∧ vs.length = q.1.length ∧ Pl σ zs vs ∧ (∃ Hv1, (Cz.mk X.K F0 C.ro us0 W σ).S Hv1 H1 (zT q.1 vs ++ tp) q.2) ∧
    ((C.call f ((fill zs q.1 q.2).1 ++ dds.map .v)).back zs (fill zs q.1 q.2).2).sat ((Cz.mk X.K F0 C.ro us0 W σ).ok tp Q) ((Cz.mk X.K F0 C.ro us0 W σ).exq tp)) I
    ⟨F0, us0, Hv, tp, Γ, s0, hs'.imp (fun q hq vs Hv1 H1 hl hp s1 => ⟨q, hq.1, hl, hp, ⟨Hv1, s1⟩, hq.2⟩) fun _ _ h => h⟩) fun us s1 ⟨vs, H1, I1, r, q, hql, hl, hp, ⟨Hv1, st⟩, hq⟩ => ⟨I1.kIn, ?_⟩) he hpl
  obtain ⟨l1, st2⟩ := fill_ok (c := Cz.mk X.K F0 C.ro us0 W σ) hl hp st
  generalize hL : fill zs q.1 q.2 = fl at l1 st2 hq
  have hl2 : vs.length = fl.1.length := by rw [l1]; exact hl
  have st3 : (Cz.mk X.K F0 C.ro us0 W σ).S Hv1 H1 (zT (fl.1 ++ dds.map .v) (vs ++ dvs) ++ tp) fl.2 := by
    rw [zT_app hl2, List.append_assoc]
    refine (dflt_S (c := Cz.mk X.K F0 C.ro us0 W σ) (hdd Hv1) st2).perm ?_
    rw [← List.append_assoc, ← List.append_assoc]
    exact List.perm_append_comm.append_right tp
  have hdl : dvs.length = (dds.map O.v).length := by rw [List.length_map]; exact dpAll_length (hdd Hv1)
  have hl3 : (vs ++ dvs).length = (fl.1 ++ dds.map O.v).length := by rw [List.length_append, List.length_append, hl2, hdl]
  have hp3 : Pl σ zs (vs ++ dvs) := pl_app dvs hp (by rw [hl, hql])
  refine run_fnZ F hr hb hd tk I1 r ?_
  -- the promise
  obtain ⟨si, hro⟩ := st3
  have si : SI X.K F0 Hv1 H1 ((zT (fl.1 ++ dds.map .v) (vs ++ dvs) ++ tp).map (·.1) ++ fl.2) ((zT (fl.1 ++ dds.map .v) (vs ++ dvs) ++ tp).map (·.2) ++ σ) := si
  rw [List.map_append, List.map_append, zT_fst hl3, zT_snd hl3, List.append_assoc (fl.1 ++ dds.map O.v), List.append_assoc ((vs ++ dvs).map some)] at si
  obtain ⟨al, rl, w⟩ := si
  obtain ⟨t1, t2, as, bs, g1, g2, r1, r2⟩ := rl.split
  subst g2
  have lt1 := r1.length
  have e1 : (vs ++ dvs).map some = t1 := by
    have z := List.append_inj g1 (by rw [List.length_map, lt1]; exact hl3)
    exact z.1
  have e2 : tp.map (·.2) ++ σ = t2 := (List.append_inj g1 (by rw [List.length_map, lt1]; exact hl3)).2
  subst e1
  subst e2
  have nb : C.call f (fl.1 ++ dds.map .v) ≠ .bad := fun z => by rw [z] at hq; exact hq
  have wo : Own ⟨H1, Hv1, as⟩ Hv1 H1 as := Own.start w.sub (List.nodup_append.mp w.nd).1 (fun a m => w.hid a (List.mem_append_left _ m)) fun a m => w.at_ a (List.mem_append_left _ m)
  refine ⟨by rw [hl3]; exact hcl _ nb, Hv1, _, as, r1, wo, ?_⟩
  have again : ∀ {L : List O} {ss : List (Option V)} {Hv' H' : Hp}, SI X.K ⟨H1, Hv1, as⟩ Hv' H' L ss → SI X.K F0 Hv' H' (L ++ (tp.map (·.1) ++ fl.2)) (ss ++ (tp.map (·.2) ++ σ)) := fun h => frame_si r2 w h
  cases hc : C.call f (fl.1 ++ dds.map .v) with
  | bad => exact nb hc
  | ok o outs =>
    rw [hc] at hq
    intro v Hv' H' h
    have h2 := again h
    have lo : (vs ++ dvs).length = outs.length := by
      have z := h.length
      simp only [List.length_cons, List.length_map] at z
      omega
    have st4 : (Cz.mk X.K F0 C.ro us0 W σ).S Hv' H' ((o, some v) :: (zT outs (vs ++ dvs) ++ tp)) fl.2 := by
      refine ⟨?_, hro⟩
      show SI X.K F0 Hv' H' (o :: ((zT outs (vs ++ dvs) ++ tp).map (·.1) ++ fl.2)) (some v :: ((zT outs (vs ++ dvs) ++ tp).map (·.2) ++ σ))
      rw [List.map_append, List.map_append, zT_fst lo, zT_snd lo, List.append_assoc outs, List.append_assoc ((vs ++ dvs).map some)]
      exact h2
    have st5 : (Cz.mk X.K F0 C.ro us0 W σ).S Hv' H' (zT outs (vs ++ dvs) ++ ((o, some v) :: tp)) fl.2 := st4.perm List.perm_middle.symm
    exact hq v Hv' H' (unfill_ok (c := Cz.mk X.K F0 C.ro us0 W σ) lo hp3 st5)
  | ex c outs =>
    rw [hc] at hq
    intro cls d Hv' H' hx h
    have h2 := again h
    have lo : (vs ++ dvs).length = outs.length := by
      have z := h.length
      simp only [List.length_map] at z
      exact z
    have st4 : (Cz.mk X.K F0 C.ro us0 W σ).S Hv' H' (zT outs (vs ++ dvs) ++ tp) fl.2 := by
      refine ⟨?_, hro⟩
      show SI X.K F0 Hv' H' ((zT outs (vs ++ dvs) ++ tp).map (·.1) ++ fl.2) ((zT outs (vs ++ dvs) ++ tp).map (·.2) ++ σ)
      rw [List.map_append, List.map_append, zT_fst lo, zT_snd lo, List.append_assoc outs, List.append_assoc ((vs ++ dvs).map some)]
      exact h2
    exact hq cls d Hv' H' hx (unfill_ok (c := Cz.mk X.K F0 C.ro us0 W σ) lo hp3 st4)
end
end Z
end
section
set_option Elab.async false
set_option linter.all false
set_option maxRecDepth 100000

namespace PySem
open Sem (wp)
section
variable {M : Model} {A : Around} {E : Value → Shared → Prop} {s : Shared} {env : Env}
/-- behind a comprehension's block, the block's own frame named -/
def zPost (M : Model) (A : Around) (E : Value → Shared → Prop) (use : Option (Value → Sem Unit)) (Q : Value → Shared → Prop) (acc : Value) (cenv : Env) (r : Result) (s' : Shared) : Prop :=
  match r, use with
  | .ok _, none => ∃ m, s'.heap.Ns cenv.locals m ∧ ∀ h', Heap.SameBut cenv.locals s'.heap h' → Q acc { s' with heap := h' }
  | .ok _, some u => wpAny M A (u acc) (fun _ s'' => ∃ m, s''.heap.Ns cenv.locals m ∧ ∀ h', Heap.SameBut cenv.locals s''.heap h' → Q .none { s'' with heap := h' }) E s'
  | .error x, _ => ∃ m, s'.heap.Ns cenv.locals m ∧ ∀ h', Heap.SameBut cenv.locals s'.heap h' → wpAny M A (passOn "comprehension.variables-let-go" x cenv : Sem Value) (fun _ _ => False) E { s' with heap := h' }
theorem z_comp_free {e : Expr} {scope : Scope} {pos : Pos} {newAcc first : Sem Value} {g : Comprehension} {gs : List Comprehension} {cl : List (Str × Addr)} {use : Option (Value → Sem Unit)}
    {Q : Value → Shared → Prop}
    (hcl : clausesOf e = g :: gs) (hs : ∀ x, foldedSetIterable g.iter env x = pure x) (hclos : closureFor scope env = pure cl)
    (hkind : scope.kind = .function) (hnames : ∀ x ∈ scope.names, x.2 = .local → scope.names.lookup x.1 = some .local)
    (h : wpAny M A first (fun x s₁ => wpAny M A (pyIter x) (fun it s₂ => wpAny M A newAcc (fun acc s₃ =>
      wpAny M A (newFunctionEnv scope env.globals cl [] env.qual none .none (some env)) (fun cenv s₄ =>
        codeAny M A (.compStart e 0 it acc { cenv with scope := relabel scope env }) (zPost M A E use Q acc { cenv with scope := relabel scope env }) s₄) E s₃) E s₂) E s₁) E s) :
    wpAny M A (comprehension e scope env pos newAcc false first use) Q E s := by
  unfold comprehension
  rw [hclos, hcl]
  refine wpAny_bind (wpAny_mono h (fun x s₁ h₁ => wpAny_bind (wpAny_standAt (wpAny_bind (wpAny_of_eq (hs x) (wpAny_bind (wpAny_holding (wpAny_mono h₁ (fun it s₂ h₂ =>
    wpAny_standIf (wpAny_bind (wpAny_mono h₂ (fun acc s₃ h₃ => wpAny_bind (wpAny_pure (wpAny_bind (wpAny_mono h₃ (fun cenv s₄ h₄ => ?_) fun _ _ h' => h')))) fun _ _ h' => h')))
      fun _ _ h' => h'))))))) fun _ _ h' => h')
  dsimp only
  have hv : ∀ x ∈ (scope.names.filter fun x => (x.2 == .local || x.2 == .cell) && x.1 != (".0" : Str)).reverse, x.2 = .local →
      Env.kindOf { cenv with scope := relabel scope env } x.1 = some .local := fun x hx hl => lookup_relabel_local (hnames x (List.mem_filter.mp (List.mem_reverse.mp hx)).1 hl)
  have hv' : ∀ x ∈ (scope.names.filter fun x => (x.2 == .local || x.2 == .cell) && x.1 != (".0" : Str)).reverse.drop 1 ++ (scope.names.filter fun x => (x.2 == .local || x.2 == .cell) && x.1 != (".0" : Str)).reverse.take 1,
      x.2 = .local → Env.kindOf { cenv with scope := relabel scope env } x.1 = some .local := fun x hx hl => by
    rcases List.mem_append.mp hx with h1 | h1
    · exact hv x (List.mem_of_mem_drop h1) hl
    · exact hv x (List.mem_of_mem_take h1) hl
  refine wpAny_holding (wpAny_bind (wpAny_attempt (wpAny_holding (wpAny_run (codeAny_mono h₄ fun r s' hr => ?_)))))
  cases r with
  | ok f =>
    cases use with
    | none =>
      obtain ⟨m, hn, hr⟩ := hr
      exact wpAny_bind (wpAny_holding (wpAny_comp_letGo (cenv := { cenv with scope := relabel scope env }) hkind _ s' m hv hn fun h' m' _ hs' => wpAny_pure (hr h' hs')))
    | some u =>
      refine wpAny_bind (wpAny_rule (wpAny_bind (wpAny_holding (wpAny_mono hr (fun _ s'' hr' => ?_) fun _ _ h' => h'))))
      obtain ⟨m, hn, hr'⟩ := hr'
      exact wpAny_bind (wpAny_comp_letGo (cenv := { cenv with scope := relabel scope env }) hkind _ s'' m hv' hn fun h' m' _ hs' => wpAny_pure (hr' h' hs'))
  | error x =>
    have hr' : ∃ m, s'.heap.Ns cenv.locals m ∧ ∀ h', Heap.SameBut cenv.locals s'.heap h' → wpAny M A (passOn "comprehension.variables-let-go" x { cenv with scope := relabel scope env } : Sem Value) (fun _ _ => False) E { s' with heap := h' } := by cases use <;> exact hr
    obtain ⟨m, hn, hr⟩ := hr'
    exact wpAny_bind (wpAny_holding (wpAny_comp_letGo (cenv := { cenv with scope := relabel scope env }) hkind _ s' m hv hn fun h' m' _ hs' => wpAny_mono (hr h' hs') (fun _ _ f => f.elim) fun _ _ y => y))
end

namespace HandSPX
section
variable {M : Model} {A : Around} {E : Value → Shared → Prop} {s : Shared} {Z : Obj → Prop} {base : Heap} {env : Env} {outer l : List Env} {L e : Addr}
/-- a frame that did not hold it notes it -/
theorem looks_anyZ {fl : Value} {Q : Unit → Shared → Prop} (hZ : Steady Z) (hfr : A.frames = some (env :: outer)) (hf : env.frame = some L) (hkb : base.StaysIn s.heap) (hen : base.get? e = none) (hl : s.heap.FunFrames base (env :: outer)) (ht : TracedZ s.heap base e Z fl) (hne : fl ≠ rawInt L)
    (hQ : ∀ h', HeldZ base (env :: outer) e Z L h' → s.heap.UpToSlots h' → Q () { s with heap := h' }) : wpAny M A (noteFrame (.ref e) env) Q E s := by
  obtain ⟨oe, vs, T, oT, ts, he, hz, hd, h1, hnT, hTe, hT, hdT, h3⟩ := ht
  unfold noteFrame
  simp only [hf]
  refine wpAny_bind (wpAny_field he hd h1 ?_)
  rw [if_pos (show (Value.ref T != Value.none) = true from by simp)]
  refine wpAny_bind (wpAny_field hT hdT h3 ?_)
  rw [if_neg (show ¬ ((fl == rawInt L) = true) from fun q => hne (eq_of_beq q))]
  refine wpAny_bind (wpAny_setField hT hdT (Array.getElem?_eq_some_iff.mp h3).1 ?_)
  have other : ∀ b, b ≠ T → (s.heap.update T (Obj.mapFields (·.setIfInBounds 3 Value.none))).get? b = s.heap.get? b := fun b hb => Heap.get?_update_other _ _ (Ne.symm hb)
  have noRecord : ∀ b o, s.heap.get? b = some o → (∀ vs, o.data ≠ .fields vs) → b ≠ T := fun b o hb hnf q => by
    rw [q, hT] at hb; injection hb with hb; subst hb; exact hnf ts hdT
  refine wpAny_entryZ hZ hfr (hl.of_keeps fun b o hb hnf => ⟨o, (other b (noRecord b o hb hnf)).trans hb, rfl⟩) hf ((other e (Ne.symm hTe)).trans he)
    (fun b o hbo => (other b fun q => by rw [q, hnT] at hbo; cases hbo).trans (hkb b o hbo)) hen hd (Array.getElem?_eq_some_iff.mp h1).1 hz fun h' hN => ?_
  obtain ⟨x1, x2, x3, x4⟩ := hN
  exact hQ h' ⟨x1, hen, x2, x3⟩ fun b o hb hnf => x4 b o ((other b (noRecord b o hb hnf)).trans hb) hnf
end
end HandSPX
theorem noteFrame_eq {e : Value} {env env' : Env} (h : env'.frame = env.frame) : noteFrame e env' = noteFrame e env := by
  unfold noteFrame frameOf frameObject
  rw [h]
end PySem

namespace Z
open PySem PySem.Spec PyProof.Rows L2
/-- noted by the frame, whatever it was -/
theorem sky_note {M : Model} {A : Around} {E₁ : Value → Shared → Prop} {env : PySem.Env} {outer : List PySem.Env} {L L' a : Addr} {Z : Obj → Prop} {B : Heap} {s : Shared} {Q : Unit → Shared → Prop} (hZ : HandSPX.Steady Z) (hfr : A.frames = some (env :: outer)) (hf : env.frame = some L)
    (x : Sky B (env :: outer) a Z L' s.heap) (hQ : ∀ h', HandSPX.HeldZ B (env :: outer) a Z L h' → s.heap.UpToSlots h' → Q () { s with heap := h' }) : wpAny M A (noteFrame (.ref a) env) Q E₁ s := by
  rcases x with ⟨hB, hn, hl, oe, vs, he, hz, hd, h1⟩ | ⟨f1, f2, f3, f4⟩ | ⟨f1, f2, f3, f4⟩
  · exact HandSPX.look_newZ hZ hfr hl hf he hB hn hd h1 hz hQ
  · exact HandSPX.looks_anyZ hZ hfr hf f1 f2 f3 f4 (by simp [rawInt]) hQ
  · by_cases q : L' = L
    · subst q
      exact HandSPX.againZ hf f4 (hQ s.heap ⟨f1, f2, f3, f4⟩ (Heap.UpToSlots.refl _))
    · refine HandSPX.looks_anyZ hZ hfr hf f1 f2 f3 f4 (fun e => q ?_) hQ
      unfold rawInt at e
      injection e with e
      exact Int.ofNat.inj e

/-- a heap without one object -/
theorem hide1 (h : Heap) (c : Addr) : ∃ G : Heap, (∀ b o, G.get? b = some o → h.get? b = some o ∧ b ≠ c) ∧ ∀ b o, b ≠ c → h.get? b = some o → G.get? b = some o := by
  obtain ⟨G, g1, g2⟩ := restrict h fun b => decide (b ≠ c)
  refine ⟨G, fun b o e => ?_, fun b o n e => ?_⟩
  · by_cases q : b = c
    · rw [g2 b (by simp [q])] at e; cases e
    · rw [g1 b (by simp [q])] at e; exact ⟨e, q⟩
  · rw [g1 b (by simp [n])]; exact e
theorem funs_less {B B' h : Heap} (k : ∀ b o, B'.get? b = some o → B.get? b = some o) : ∀ {l : List PySem.Env}, h.FunFrames B l → h.FunFrames B' l := fun {l} x =>
  funFrames_none x fun L hL => by
    cases e : B'.get? L with
    | none => rfl
    | some o =>
      have z := (x.mem hL).1
      rw [k L o e] at z; cases z
theorem blk_takes {X : Cx} {W : WX} {pins : List (Addr × Obj)} {σ : L2.St} {H3 : Hp} {s3 : Shared} {scope : Scope} {fp : List Addr} {ce : PySem.Env} {use : Option (Value → Sem Unit)} {Qf : Value → Shared → Prop} {acc : Value}
    (hs : X.stack = X.env :: X.outer) (hf : X.env.frame = some X.env.locals) (tk : Takes X W) (I3 : Inv X pins σ H3 s3) (f3 : ∀ b ∈ fp, FpOk X pins H3 b ∧ b < s3.heap.objs.size) (cL : ce.locals = s3.heap.objs.size) (cF : ce.frame = X.env.frame) :
    Takes ((X.blk s3 H3 scope ce fp).wish (notedBy (model X.prog X.w) X.A ce fun e s' => zPost (model X.prog X.w) X.A X.xe use Qf acc ce (.error e) s')) (fun cls d _ H' => W cls d σ H') := by
  rintro u s' ⟨a, B, sI, pinsB, σB, H', cls, d, rfl, IB, nb, up, sky, na, os, ag, hW⟩
  have hfr : X.A.frames = some (X.env :: X.outer) := by rw [I3.ok.frames, hs]
  have hst : ((X.blk s3 H3 scope ce fp).wish (notedBy (model X.prog X.w) X.A ce fun e s' => zPost (model X.prog X.w) X.A X.xe use Qf acc ce (.error e) s')).stack = X.env :: X.outer := hs
  rw [hst] at sky nb
  show wpAny (model X.prog X.w) X.A (noteFrame (.ref a) ce) _ _ s'
  rw [noteFrame_eq cF]
  refine sky_note Zc.steady hfr hf sky fun h1 hh up1 => ?_
  obtain ⟨mB, hnB, _⟩ := IB.loc
  have hnB : sI.heap.Ns ce.locals mB := hnB
  -- the block's names stand
  obtain ⟨oC, esC, epC, hoC, hdC, hcC⟩ := id hnB
  have cNo : H' ce.locals = none := IB.free
  obtain ⟨slC, hC1⟩ := (up.trans up1) ce.locals oC hoC fun vs e => by rw [hdC] at e; cases e
  refine ⟨mB, ⟨_, esC, epC, hC1, hdC, hcC⟩, fun h2 sb => ?_⟩
  obtain ⟨q1, q2, q3, oe, vs, T, oT, ts, he, hz, hd, hv1, hnT, hTe, hT, hdT, hts3⟩ := hh
  obtain ⟨B', b1, b2⟩ := hide1 B ce.locals
  have aC : a ≠ ce.locals := fun e => by
    rw [e, hC1] at he
    cases he
    rw [hdC] at hd; cases hd
  have TC : T ≠ ce.locals := fun e => by
    rw [e, hC1] at hT
    cases hT
    rw [hdC] at hdT; cases hdT
  have sbo : ∀ b, b ≠ ce.locals → h2.get? b = h1.get? b := fun b n => sb.2 b n
  have he2 : h2.get? a = some oe := (sbo a aC).trans he
  have hT2 : h2.get? T = some oT := (sbo T TC).trans hT
  have frC : ∀ L ∈ frs (X.env :: X.outer), L ≠ ce.locals := fun L hL e => by
    have z := I3.stkSub L (by rw [hs]; exact hL)
    rcases List.mem_cons.mp z with z | z
    · have := I3.lt
      rw [cL] at e
      rw [← z, e] at this
      exact absurd this (Nat.lt_irrefl _)
    · exact I3.nofs (a := L) (by rw [e, cL]; exact Nat.le_refl _) z
  have q3' : h2.FunFrames B' (X.env :: X.outer) := by
    have x1 : h1.FunFrames B' (X.env :: X.outer) := funs_less (fun b o e => (b1 b o e).1) q3
    have all : ∀ (l : List PySem.Env), (∀ L ∈ frs l, L ≠ ce.locals) → h1.FunFrames B' l → h2.FunFrames B' l := by
      intro l
      induction l with
      | nil => intro _ _; trivial
      | cons env r ih =>
        intro hs hl
        obtain ⟨hk, ⟨L, o, hf, hn, ho, hd⟩, hr⟩ := hl
        have hL : L ≠ ce.locals := hs L (List.mem_filterMap.mpr ⟨env, List.mem_cons_self, hf⟩)
        exact ⟨hk, ⟨L, o, hf, hn, (sbo L hL).trans ho, hd⟩, ih (fun b hb => by
          obtain ⟨e, he, q⟩ := List.mem_filterMap.mp hb
          exact hs b (List.mem_filterMap.mpr ⟨e, List.mem_cons_of_mem _ he, q⟩)) hr⟩
    exact all _ frC x1
  have st2 : B'.StaysIn h2 := fun b o e => by
    obtain ⟨e1, n⟩ := b1 b o e
    exact (sbo b n).trans (q1 b o e1)
  have nB' : ∀ {x : Addr}, B.get? x = none → B'.get? x = none := fun {x} n => by
    cases e : B'.get? x with
    | none => rfl
    | some o => rw [(b1 x o e).1] at n; cases n
  unfold PySem.passOn
  refine wpAny_bind (wpAny_field he2 hd hv1 ?_)
  rw [if_neg (show ¬ ((Value.ref T == Value.none) = true) from by simp)]
  have fin : wpAny (model X.prog X.w) X.A (setFlight (.ref a) ce.frame) (fun _ s4 => wpAny (model X.prog X.w) X.A (throw (.ref a) : Sem Value) (fun _ _ => False) X.xe s4) X.xe { s' with heap := h2 } := by
    rw [cF, hf]
    refine HandSPX.setFlight_anyZ (Z := Zc cls d) (fl := rawInt X.env.locals) (fr := some X.env.locals) st2 q3' ⟨oe, vs, T, oT, ts, he2, hz, hd, hv1, nB' hnT, hTe, hT2, hdT, hts3⟩ fun h3 k1 k2 k3 k4 => wpAny_throw (tk _ _ ?_)
    obtain ⟨G, g1, g2⟩ := hide1 sI.heap ce.locals
    have J : Inv X pins σ H' { sI with heap := G } := by
      have old : ∀ b o, s3.heap.get? b = some o → b ≠ ce.locals := fun b o e => by
        rw [cL]; exact Nat.ne_of_lt (Heap.lt_size e)
      have ub := IB.base
      have J := I3.call' (s' := { sI with heap := G }) (H' := H') (ch := fp) IB.os ⟨fun b o e n hb hx => g2 b o (old b o e) (ub.keep b o e n hb hx), fun b o e n hb hx => ?_, fun b o e n hx => ub.free b o e n hx, fun b o e hx => ?_, ub.tups, ub.frzs, ub.tbls⟩
        (fun b o e => (IB.hok b o e).stay (fun c w hc q => g2 c w (fun z => ?_) q) (fun _ q => q) fun _ _ q => q) IB.bare fun b hb => ⟨(f3 b hb).1.2.2.2.1, (f3 b hb).1.2.1, (f3 b hb).1.2.2.2.2.1, (f3 b hb).1.2.2.2.2.2⟩
      · exact J
      · obtain ⟨sl, e1⟩ := ub.slot b o e n hb hx
        exact ⟨sl, g2 b _ (old b o e) e1⟩
      · obtain ⟨o', e1⟩ := ub.there b o e hx
        exact ⟨o', g2 b o' (old b o e) e1⟩
      · subst z
        rcases hc with hc | hc
        · rw [← hc, cNo] at e; cases e
        · rw [cNo] at hc; cases hc
    refine ⟨a, B', { sI with heap := G }, pins, σ, H', cls, d, rfl, J, fun b o e hb => ?_, ?_, .inr (.inr ?_), na, ?_, ag, hW⟩
    · obtain ⟨e1, n⟩ := g1 b o e
      exact b2 b o n (nb b o e1 (by rw [← hs]; exact hb))
    · intro b o e hnf
      obtain ⟨e1, n⟩ := g1 b o e
      obtain ⟨sl, z1⟩ := (up.trans up1) b o e1 hnf
      have z2 : h2.get? b = some { o with slots := sl } := (sbo b n).trans z1
      obtain ⟨sl2, z3⟩ := k4 b _ z2 hnf
      exact ⟨sl2, z3⟩
    · rw [hs]
      exact ⟨k1, nB' q2, k2, k3⟩
    · exact os
  first
    | exact wpAny_bind (wpAny_pure (wpAny_bind fin))
    | exact wpAny_bind fin
end Z
end
section
set_option Elab.async false
set_option linter.all false
set_option maxRecDepth 100000
namespace Z
open PySem PySem.Spec PyProof.Rows L2

/-! ### targets -/
mutual
def tgs : Tg → List Nat
  | .v i => [i]
  | .t ts => tgsL ts
def tgsL : List Tg → List Nat
  | [] => []
  | t :: ts => tgs t ++ tgsL ts
end
/-- the slots that were stored to -/
def Stored (is : List Nat) (σ σ' : L2.St) : Prop := σ'.length = σ.length ∧ ∀ j, j ∉ is → σ'[j]? = σ[j]?
theorem Stored.refl (σ : L2.St) : Stored [] σ σ := ⟨rfl, fun _ _ => rfl⟩
theorem Stored.trans {is js : List Nat} {a b c : L2.St} (h : Stored is a b) (k : Stored js b c) : Stored (is ++ js) a c := ⟨k.1.trans h.1, fun j n => (k.2 j fun z => n (List.mem_append_right _ z)).trans (h.2 j fun z => n (List.mem_append_left _ z))⟩
theorem Stored.one {σ : L2.St} {i : Nat} {s : Option V} : Stored [i] σ (σ.set i s) := ⟨List.length_set .., fun j n => List.getElem?_set_ne (fun e => n (by simp [e]))⟩
/-- o is stored by target t -/
def tG (K : PySem.W.Frag) (ro : List Nat) (t : Tg) : TG := fun v σ H Q => ∃ F us W Hv tp Γ o Γ', (Cz.mk K F ro us W σ).S Hv H ((o, some v) :: tp) Γ ∧ setT ro Γ t o = some Γ' ∧
  ∀ σ', Stored (tgs t) σ σ' → (Cz.mk K F ro us W σ').S Hv H tp Γ' → Q σ' H
def tGs (K : PySem.W.Frag) (ro : List Nat) (ts : List Tg) : TGs := fun vs σ H Q => ∃ F us W Hv tp Γ ds Γ', DpAll K Hv vs ds ∧ (Cz.mk K F ro us W σ).S Hv H tp Γ ∧ setTs ro Γ ts ds = some Γ' ∧
  ∀ σ', Stored (tgsL ts) σ σ' → (Cz.mk K F ro us W σ').S Hv H tp Γ' → Q σ' H
abbrev Gz (X : Cx) (C : Cfg) (e : Expr) (t : Tg) : Prop := PG X e (tG X.K C.ro t)
theorem _root_.L2.PG.imp {X : Cx} {e : Expr} {t t' : TG} (h : PG X e t') (k : ∀ v σ H Q, t v σ H Q → t' v σ H Q) : PG X e t := ⟨fun pins s σ H v u Q I r hw => h.run pins s σ H v u Q I r (k v σ H Q hw)⟩
theorem _root_.L2.PGs.imp {X : Cx} {es : List Expr} {t t' : TGs} (h : PGs X es t') (k : ∀ v σ H Q, t v σ H Q → t' v σ H Q) : PGs X es t := ⟨fun pins s σ H v u Q I r hw => h.run pins s σ H v u Q I r (k v σ H Q hw)⟩

/-- a thing is stored in slot i, whatever stood there -/
theorem Cz.S.store {K : PySem.W.Frag} {F : Fr0} {ro : List Nat} {us : L2.St} {W : WX} {σ : L2.St} {Hv H : Hp} {tp : List (O × Option V)} {Γ Γ' : Env} {o : O} {s : Option V} {i : Nat} (h : (Cz.mk K F ro us W σ).S Hv H ((o, s) :: tp) Γ) (e : setS ro Γ i o = some Γ') :
    (Cz.mk K F ro us W (σ.set i s)).S Hv H tp Γ' := by
  unfold setS at e
  split at e
  · rename_i q
    cases e
    have t : SI K F Hv H (o :: (tp.map (·.1) ++ Γ)) (s :: (tp.map (·.2) ++ σ)) := h.si
    have l2 : (tp.map (fun p : O × Option V => p.2)).length = (tp.map (fun p : O × Option V => p.1)).length := by simp
    have t1 := t.put (i := tp.length + i) (by simp; omega)
    rw [set_append_map, set_append_map] at t1
    refine ⟨t1, fun j hj => ?_⟩
    have hij : i ≠ j := fun e => q.2 (e ▸ hj)
    exact (List.getElem?_set_ne hij).trans (h.ro j hj)
  · cases e
section
variable {X : Cx} {C : Cfg} {W : WX} {e : Expr} {z : E} {es : List Expr} {t : Tg} {ts : List Tg} {pos : Pos}
theorem gz_name {i : Nat} {x : Str} (hN : X.N.Nodup) (hi : X.N[i]? = some x) (hx : Loc X.env.scope x) (hf : X.fn x = true ∨ X.env.scope.names.lookup x = some .local := by first | exact .inl rfl | exact .inr rfl | assumption) : Gz X C (.Name x pos) (.v i) :=
  (pg_name hN hi hx hf).imp fun v σ H Q ⟨F, us, W, Hv, tp, Γ, o, Γ', s, e, q⟩ => by
    unfold setT at e
    exact q _ (by unfold tgs; exact Stored.one) (s.store e)
theorem gzs_nil : PGs X [] (tGs X.K C.ro []) := pgs_nil.imp fun vs σ H Q ⟨F, us, W, Hv, tp, Γ, ds, Γ', r, s, e, q⟩ => by
  cases ds with
  | nil =>
    unfold setTs at e
    cases e
    cases r
    exact ⟨rfl, q σ (by unfold tgsL; exact Stored.refl σ) s⟩
  | cons d ds => unfold setTs at e; cases e
theorem gzs_cons (h : Gz X C e t) (hs : PGs X es (tGs X.K C.ro ts)) (ha : (assignEach (e :: es) X.env).map (·.2) = assign e X.env :: (assignEach es X.env).map (·.2) := by rfl) : PGs X (e :: es) (tGs X.K C.ro (t :: ts)) :=
  (pgs_cons h hs ha).imp fun vs σ H Q ⟨F, us, W, Hv, tp, Γ, ds, Γ', r, s, e, q⟩ => by
    cases ds with
    | nil => unfold setTs at e; cases e
    | cons d ds =>
      unfold setTs at e
      cases e1 : setT C.ro Γ t (.v d) with
      | none => rw [e1] at e; cases e
      | some Γ1 =>
        rw [e1] at e
        cases r with
        | cons r1 r2 =>
          refine ⟨_, _, rfl, F, us, W, Hv, tp, Γ, .v d, Γ1, ⟨s.si.pushV r1, s.ro⟩, e1, fun σ1 st1 s1 => ?_⟩
          refine ⟨F, us, W, Hv, tp, Γ1, ds, Γ', r2, s1, e, fun σ2 st2 s2 => q σ2 ?_ s2⟩
          unfold tgsL
          exact st1.trans st2
/-- (a, b, ..) = a tuple or a list of that length -/
def gSeq (K : PySem.W.Frag) (n : Nat) (t : TGs) : TG := fun v σ H Q => ∃ a xs, v = .ref a ∧ (SqT K H a xs ∨ SqL K H a xs) ∧ xs.length = n ∧ t xs σ H Q
omit t ts z W C in
theorem pg_seq {k : Nat} {t : TGs} {n : Nat} (hc : X.calm = true) (h : PGs X es t)
    (hn : (assignEach es X.env).length = n := by rfl) (hst : (assignEach es X.env).findIdx? (·.1) = none := by rfl) : PG X (.Tuple es k pos) (gSeq X.K n t) := by
  refine ⟨fun pins s σ H v u Q I r hw => ?_⟩
  obtain ⟨a, xs, e1, hq, hl, hw⟩ := hw
  subst e1
  rcases hq with hq | hq
  · exact (pg_tup hc h hn hst).run pins s σ H (.ref a) u Q I r ⟨a, xs, rfl, hq, hl, hw⟩
  · cases r
    obtain ⟨its, rv, ht, hz⟩ := I.list hq
    rw [assign_Tuple]
    refine wpAny_bind (wpAny_standAt ?_)
    unfold unpack
    rw [hst, show (assignEach es X.env).length = its.toArray.size from by simp [hn, ← hl, rv.length]]
    refine wpAny_bind (wpAny_holding (PySem.W.kun_itemsOf (I.ok.hd hc) ht.isList fun h' hx => ?_))
    have I1 : Inv X pins σ H { s with heap := h' } := I.kept (t' := s.toks) fun b o e => hx b o (Nat.ne_of_lt (Heap.lt_size e)) e
    exact h.run pins _ σ H xs _ Q I1 (by simpa using rv) hw
theorem gz_tup {k : Nat} {n : Nat} (hc : X.calm = true) (h : PGs X es (tGs X.K C.ro ts)) (hn : (assignEach es X.env).length = n := by rfl) (hst : (assignEach es X.env).findIdx? (·.1) = none := by rfl) (hl : ts.length = n := by rfl) : Gz X C (.Tuple es k pos) (.t ts) :=
  (pg_seq hc h hn hst).imp fun v σ H Q ⟨F, us, W, Hv, tp, Γ, o, Γ', s, e, q⟩ => by
        have hx : ∀ {ts : List Tg} {xs : List D} {G G' : Env}, setTs C.ro G ts xs = some G' → xs.length = ts.length := by
          intro ts
          induction ts with
          | nil => intro xs G G' e; cases xs with
            | nil => rfl
            | cons _ _ => unfold setTs at e; cases e
          | cons t ts ih => intro xs G G' e; cases xs with
            | nil => unfold setTs at e; cases e
            | cons x xs =>
              unfold setTs at e
              split at e
              · exact congrArg Nat.succ (ih e)
              · cases e
        cases o with
        | v d =>
          cases d with
          | tuple xs =>
            have e : setTs C.ro Γ ts xs = some Γ' := by unfold setT at e; exact e
            obtain ⟨a, vs, rfl, h1, r1⟩ := Sh.tup (K := X.K) (Hv := Hv) (H := H) (.inl s.headV) s.sub
            refine ⟨a, vs, rfl, .inl h1, by rw [dpAll_length r1, hx e, hl], F, us, W, Hv, tp, Γ, xs, Γ', r1, s.pop, e, fun σ' st s' => q σ' ?_ s'⟩
            unfold tgs
            exact st
          | list xs =>
            have e : setTs C.ro Γ ts xs = some Γ' := by unfold setT at e; exact e
            obtain ⟨a, vs, rfl, h1, r1⟩ := Sh.list (K := X.K) (Hv := Hv) (H := H) (.inl s.headV) s.sub
            refine ⟨a, vs, rfl, .inr h1, by rw [dpAll_length r1, hx e, hl], F, us, W, Hv, tp, Γ, xs, Γ', r1, s.pop, e, fun σ' st s' => q σ' ?_ s'⟩
            unfold tgs
            exact st
          | _ => unfold setT at e; cases e
        | _ => unfold setT at e; cases e
end

/-! ### statements -/
/-- what a block's outcome is worth -/
def Out.sat (o : Out) (nx : Env → Prop) (rt : O → Env → Prop) (bk ct : Env → Prop) (ex : Exc → Env → Prop) : Prop := match o with
  | .nx Γ => nx Γ
  | .rt o Γ => rt o Γ
  | .bk Γ => bk Γ
  | .ct Γ => ct Γ
  | .ex c Γ => ex c Γ
  | .bad => False
/-- the wishes behind a statement -/
structure Wi (K : PySem.W.Frag) (F : Fr0) (ro : List Nat) (us : L2.St) (W : WX) (tp : List (O × Option V)) (D : Ends) where
  mk ::
def okS (K : PySem.W.Frag) (F : Fr0) (ro : List Nat) (us : L2.St) (W : WX) (tp : List (O × Option V)) (N : L2.St → Hp → Prop) (Γ : Env) : Prop := ∀ σ Hv H, (Cz.mk K F ro us W σ).S Hv H tp Γ → N σ H
def rtS (K : PySem.W.Frag) (F : Fr0) (ro : List Nat) (us : L2.St) (W : WX) (tp : List (O × Option V)) (Q : VK) (o : O) (Γ : Env) : Prop := ∀ σ v Hv H, (Cz.mk K F ro us W σ).S Hv H ((o, some v) :: tp) Γ → Q v H
def exS (K : PySem.W.Frag) (F : Fr0) (ro : List Nat) (us : L2.St) (W : WX) (tp : List (O × Option V)) (c : Exc) (Γ : Env) : Prop := ∀ σ, (Cz.mk K F ro us W σ).exq tp c Γ
def outS (K : PySem.W.Frag) (F : Fr0) (ro : List Nat) (us : L2.St) (W : WX) (tp : List (O × Option V)) (D : Ends) (o : Out) : Prop :=
  o.sat (okS K F ro us W tp D.nx) (rtS K F ro us W tp D.rt) (okS K F ro us W tp D.bk) (okS K F ro us W tp D.ct) (exS K F ro us W tp)
def tS (K : PySem.W.Frag) (ro : List Nat) (W : WX) (f : Env → Out) : TS := fun D σ H => ∃ F us Hv tp Γ, (Cz.mk K F ro us W σ).S Hv H tp Γ ∧ outS K F ro us W tp D (f Γ)
abbrev Sz (X : Cx) (C : Cfg) (W : WX) (st : Stmt) (z : S) : Prop := PS X st (tS X.K C.ro W (evS C z))
abbrev Ssz (X : Cx) (C : Cfg) (W : WX) (st : List Stmt) (z : Ss) : Prop := PSs X st (tS X.K C.ro W (evSs C z))
theorem _root_.L2.PSs.imp {X : Cx} {st : List Stmt} {t t' : TS} (h : PSs X st t') (k : ∀ D σ H, t D σ H → t' D σ H) : PSs X st t := ⟨fun pins s σ H D I hw => h.run pins s σ H D I (k D σ H hw)⟩
theorem out_sat {α : Type} {r : R α} {f : α → Out} {K : PySem.W.Frag} {F : Fr0} {ro : List Nat} {us : L2.St} {W : WX} {tp : List (O × Option V)} {D : Ends} {σ : L2.St} (h : outS K F ro us W tp D (r.out f)) : r.sat (fun a => outS K F ro us W tp D (f a)) ((Cz.mk K F ro us W σ).exq tp) := by
  cases r with
  | ok a => exact h
  | ex c G => exact h σ
  | bad => exact h
section
variable {X : Cx} {C : Cfg} {W : WX} {e c tg : Expr} {z zc : E} {es : List Expr} {t : Tg} {pos : Pos} {st : Stmt} {sts a b : List Stmt} {zs za zb : Ss} {s : S}
theorem ssz_nil : Ssz X C W [] .nil := pss_nil.imp fun D σ H ⟨F, us, Hv, tp, Γ, s, hs⟩ => by
  unfold evSs at hs
  exact hs σ Hv H s
theorem ssz_cons (h1 : Sz X C W st s) (h2 : Ssz X C W sts zs) : Ssz X C W (st :: sts) (.cons s zs) := (pss_cons h1 h2).imp fun D σ H ⟨F, us, Hv, tp, Γ, s0, hs⟩ => by
  simp only [evSs] at hs
  refine ⟨F, us, Hv, tp, Γ, s0, ?_⟩
  cases q : evS C s Γ with
  | nx Γ1 =>
    rw [q] at hs
    exact fun σ1 Hv1 H1 s1 => ⟨F, us, Hv1, tp, Γ1, s1, hs⟩
  | rt o Γ1 => rw [q] at hs; exact hs
  | bk Γ1 => rw [q] at hs; exact hs
  | ct Γ1 => rw [q] at hs; exact hs
  | ex c Γ1 => rw [q] at hs; exact hs
  | bad => rw [q] at hs; exact hs
theorem sz_pass : Sz X C W (.Pass pos) .pass := ps_pass.imp fun D σ H ⟨F, us, Hv, tp, Γ, s, hs⟩ => by
  simp only [evS] at hs
  exact hs σ Hv H s
theorem sz_break : Sz X C W (.Break pos) .brk := ps_break.imp fun D σ H ⟨F, us, Hv, tp, Γ, s, hs⟩ => by
  simp only [evS] at hs
  exact hs σ Hv H s
theorem sz_cont : Sz X C W (.Continue pos) .cnt := ps_continue.imp fun D σ H ⟨F, us, Hv, tp, Γ, s, hs⟩ => by
  simp only [evS] at hs
  exact hs σ Hv H s
theorem sz_expr (h : Ez X C W e z) (hs : swapsWith e none pos.line X.env = pure false := by rfl) : Sz X C W (.Expr e pos) (.exp z) := (ps_expr h hs).imp fun D σ H ⟨F, us, Hv, tp, Γ, s, hs⟩ => by
  simp only [evS] at hs
  exact ⟨F, us, Hv, tp, Γ, s, (out_sat hs).imp (fun p hq v Hv1 H1 s1 => hq σ Hv1 H1 s1.pop) fun _ _ h => h⟩
theorem sz_ret (h : Ez X C W e z) : Sz X C W (.Return (some e) pos) (.ret z) := (ps_ret h).imp fun D σ H ⟨F, us, Hv, tp, Γ, s, hs⟩ => by
  simp only [evS] at hs
  exact ⟨F, us, Hv, tp, Γ, s, (out_sat hs).imp (fun p hq v Hv1 H1 s1 => hq σ v Hv1 H1 s1) fun _ _ h => h⟩
theorem sz_ret0 : Sz X C W (.Return none pos) .ret0 := ps_retN.imp fun D σ H ⟨F, us, Hv, tp, Γ, s, hs⟩ => by
  simp only [evS] at hs
  exact hs σ .non Hv H ⟨s.si.pushV .non, s.ro⟩
theorem sz_if (hc : Tz X C W c zc) (ha : Ssz X C W a za) (hb : Ssz X C W b zb) : Sz X C W (.If c a b pos) (.ite zc za zb) := (ps_if hc ha hb).imp fun D σ H ⟨F, us, Hv, tp, Γ, s, hs⟩ => by
  have e1 : evS C (.ite zc za zb) Γ = (evO C (.so zc) Γ).out fun k => if k.1 then evSs C za k.2 else evSs C zb k.2 := by
    simp only [evS, evO]
    cases toD (ev C zc Γ) with
    | ok x =>
      show (match tst x.1 with | some true => evSs C za x.2 | some false => evSs C zb x.2 | none => .bad) = (opt (tst x.1) fun k => R.ok (k, x.2)).out _
      cases tst x.1 with
      | none => rfl
      | some k => cases k <;> rfl
    | ex c Γ => rfl
    | bad => rfl
  rw [e1] at hs
  refine ⟨F, us, Hv, tp, Γ, s, (out_sat hs).imp (fun p hq Hv1 H1 s1 => ?_) fun _ _ h => h⟩
  obtain ⟨p1, p2⟩ := p
  cases p1 with
  | true => exact ⟨F, us, Hv1, tp, p2, s1, hq⟩
  | false => exact ⟨F, us, Hv1, tp, p2, s1, hq⟩
theorem set_of {σ : L2.St} {H : Hp} {D : Ends} (h : tS X.K C.ro W (evS C (.set t z)) D σ H) : tAsg (tE X.K C.ro W (ev C z)) (tG X.K C.ro t) D σ H := by
  obtain ⟨F, us, Hv, tp, Γ, s, hs⟩ := h
  simp only [evS] at hs
  refine ⟨F, us, Hv, tp, Γ, s, (out_sat hs).imp (fun p hq v Hv1 H1 s1 => ?_) fun _ _ h => h⟩
  cases q : setT C.ro p.2 t p.1 with
  | none => rw [q] at hq; exact hq.elim
  | some Γ' =>
    rw [q] at hq
    exact ⟨F, us, W, Hv1, tp, p.2, p.1, Γ', s1, q, fun σ' _ s' => hq σ' Hv1 H1 s'⟩
theorem sz_set {i : Nat} {x : Str} {p1 : Pos} (hN : X.N.Nodup) (hi : X.N[i]? = some x) (hx : Loc X.env.scope x) (h : Ez X C W e z) (hs : swapsWith e (some (.Name x p1)) pos.line X.env = pure false := by rfl)
    (hf : X.fn x = true ∨ X.env.scope.names.lookup x = some .local := by first | exact .inl rfl | exact .inr rfl | assumption) : Sz X C W (.Assign [.Name x p1] e pos) (.set (.v i) z) := by
  refine (ps_asg (tg := .Name x p1) h (gz_name (C := C) hN hi hx hf) ?_ (by rfl) (by rfl)).imp fun D σ H h => set_of h
  exact hs
theorem sz_asg (h : Ez X C W e z) (hg : Gz X C tg t) (hs : swapsWithSole [tg] e pos.line X.env = pure false := by rfl) (hw : swappedStores [tg] e X.env = pure none := by rfl) (h1 : (assignEach [tg] X.env).map (·.2) = [assign tg X.env] := by rfl) :
    Sz X C W (.Assign [tg] e pos) (.set t z) := (ps_asg h hg hs hw h1).imp fun D σ H h => set_of h
end
end Z
end
section
set_option Elab.async false
set_option linter.all false
set_option maxRecDepth 100000
namespace Z
open PySem PySem.Spec PyProof.Rows L2

/-! ### a, b = x, y with plain names -/
def tM (K : PySem.W.Frag) (ro : List Nat) (W : WX) (f : Env → R (List O × Env)) : TA := fun σ H Q => ∃ F us Hv tp Γ, (Cz.mk K F ro us W σ).S Hv H tp Γ ∧
  (f Γ).sat (fun p => ∀ vs Hv H, vs.length = p.1.length → (Cz.mk K F ro us W σ).S Hv H (zT p.1 vs ++ tp) p.2 → Q vs H) ((Cz.mk K F ro us W σ).exq tp)
abbrev Mz (X : Cx) (C : Cfg) (W : WX) (es : List Expr) (zs : Es) : Prop := PA X es (tM X.K C.ro W (evM C zs))
def HLen (K : PySem.W.Frag) (H : Hp) : Prop := (∀ a xs, SqL K H a xs → xs.length ≤ sizeLine) ∧ ∀ a xs, SqT K H a xs → xs.length ≤ sizeLine
theorem _root_.L2.Inv.hlen {X : Cx} {pins : List (Addr × Obj)} {σ : L2.St} {H : Hp} {s : Shared} (I : Inv X pins σ H s) : HLen X.K H := ⟨fun a xs h => let ⟨_, _, _, z⟩ := I.list h; z, fun a xs h => let ⟨_, _, _, z⟩ := I.tuple h; z⟩
theorem pe_len {X : Cx} {e : Expr} {t : TE} (h : PE X e t) : PE X e (fun σ H Q => t σ H fun v H1 => HLen X.K H1 → Q v H1) :=
  ⟨fun pins s σ H Q I hw => thn (h.run pins s σ H _ I hw) fun v s1 ⟨x, H1, I1, r, q⟩ => ⟨x, H1, I1, r, q I1.hlen⟩⟩
section
variable {X : Cx} {C : Cfg} {W : WX} {e a b c o k iter tg : Expr} {z za zb zc zk : E} {es : List Expr} {zs : Es} {pos : Pos}
theorem mz_nil : Mz X C W [] .nil := pa_nil.imp fun σ H Q ⟨F, us, Hv, tp, Γ, s, hs⟩ => by
  simp only [evM] at hs
  exact hs [] Hv H rfl s
theorem mz_cons (he : Ez X C W e z) (hr : Mz X C W es zs) (hs : starEach (e :: es) X.env = (false, eval e X.env) :: starEach es X.env := by rfl) : Mz X C W (e :: es) (.cons z zs) :=
  (pa_cons he hr hs).imp fun σ H Q ⟨F, us, Hv, tp, Γ, s, hs⟩ => by
    simp only [evM] at hs
    rw [R.sat_bind] at hs
    refine ⟨F, us, Hv, tp, Γ, s, hs.imp (fun p hq v Hv1 H1 s1 => ?_) fun _ _ h => h⟩
    rw [R.sat_bind] at hq
    exact ⟨F, us, Hv1, _, p.2, s1, hq.imp (fun q hq vs Hv2 H2 hl s2 => hq (v :: vs) Hv2 H2 (congrArg Nat.succ hl) (s2.perm List.perm_middle)) fun _ _ h => Cz.exq.push h⟩
theorem sz_par {i j : Nat} {x y : Str} {px py pt : Pos} {kt k2 pt2} (hc : X.calm = true) (hN : X.N.Nodup) (hi : X.N[i]? = some x) (hj : X.N[j]? = some y) (hij : i ≠ j)
    (hx : X.env.scope.names.lookup x = some .local) (hy : X.env.scope.names.lookup y = some .local) (ha : Mz X C W [a, b] zs)
    (hw : swappedStores [.Tuple [.Name x px, .Name y py] kt pt] (.Tuple [a, b] k2 pt2) X.env = pure (some [x, y]))
    (hs : swapsWithSole [.Tuple [.Name x px, .Name y py] kt pt] (.Tuple [a, b] k2 pt2) pos.line X.env = pure false := by rfl) :
    Sz X C W (.Assign [.Tuple [.Name x px, .Name y py] kt pt] (.Tuple [a, b] k2 pt2) pos) (.par [i, j] zs) := (ps_par hc hN hi hj hij hx hy ha hw hs).imp fun D σ H ⟨F, us, Hv, tp, Γ, s, hs⟩ => by
  simp only [evS] at hs
  refine ⟨F, us, Hv, tp, Γ, s, (out_sat hs).imp (fun p hq vs Hv1 H1 hl s1 => ?_) fun _ _ h => h⟩
  obtain ⟨os, G⟩ := p
  have hq : outS X.K F C.ro us W tp D (Out.of (setAll C.ro [i, j] os G)) := hq
  rcases os with _ | ⟨o1, _ | ⟨o2, _ | ⟨o3, os⟩⟩⟩
  · exact hq.elim
  · unfold setAll at hq
    cases e1 : setS C.ro G i o1 with
    | none => rw [e1] at hq; exact hq.elim
    | some G1 => rw [e1] at hq; exact hq.elim
  · rcases vs with _ | ⟨v1, _ | ⟨v2, _ | ⟨v3, vs⟩⟩⟩
    · simp at hl
    · simp at hl
    · unfold setAll at hq
      cases e1 : setS C.ro G i o1 with
      | none => rw [e1] at hq; exact hq.elim
      | some G1 =>
        rw [e1] at hq
        simp only [setAll] at hq
        cases e2 : setS C.ro G1 j o2 with
        | none => rw [e2] at hq; exact hq.elim
        | some G2 =>
          rw [e2] at hq
          have s1 : (Cz.mk X.K F C.ro us W σ).S Hv1 H1 ((o1, some v1) :: (o2, some v2) :: tp) G := s1
          exact ⟨v1, v2, rfl, hq _ Hv1 H1 ((s1.store e1).store e2)⟩
    · simp at hl
  · unfold setAll at hq
    cases e1 : setS C.ro G i o1 with
    | none => rw [e1] at hq; exact hq.elim
    | some G1 =>
      rw [e1] at hq
      simp only [setAll] at hq
      cases e2 : setS C.ro G1 j o2 with
      | none => rw [e2] at hq; exact hq.elim
      | some G2 => rw [e2] at hq; exact hq.elim
theorem sz_par3 {i j l : Nat} {x y w : Str} {px py pz pt : Pos} {kt k2 pt2} (hc : X.calm = true) (hN : X.N.Nodup) (hi : X.N[i]? = some x) (hj : X.N[j]? = some y) (hl : X.N[l]? = some w) (hij : i ≠ j) (hil : i ≠ l) (hjl : j ≠ l)
    (hx : X.env.scope.names.lookup x = some .local) (hy : X.env.scope.names.lookup y = some .local) (hz : X.env.scope.names.lookup w = some .local) (ha : Mz X C W [a, b, c] zs)
    (hw : swappedStores [.Tuple [.Name x px, .Name y py, .Name w pz] kt pt] (.Tuple [a, b, c] k2 pt2) X.env = pure (some [x, y, w]))
    (hs : swapsWithSole [.Tuple [.Name x px, .Name y py, .Name w pz] kt pt] (.Tuple [a, b, c] k2 pt2) pos.line X.env = pure false := by rfl) :
    Sz X C W (.Assign [.Tuple [.Name x px, .Name y py, .Name w pz] kt pt] (.Tuple [a, b, c] k2 pt2) pos) (.par [i, j, l] zs) := (ps_par3 hc hN hi hj hl hij hil hjl hx hy hz ha hw hs).imp fun D σ H ⟨F, us, Hv, tp, Γ, s, hs⟩ => by
  simp only [evS] at hs
  refine ⟨F, us, Hv, tp, Γ, s, (out_sat hs).imp (fun p hq vs Hv1 H1 hl s1 => ?_) fun _ _ h => h⟩
  obtain ⟨os, G⟩ := p
  have hq : outS X.K F C.ro us W tp D (Out.of (setAll C.ro [i, j, l] os G)) := hq
  rcases os with _ | ⟨o1, os⟩
  · exact hq.elim
  unfold setAll at hq
  cases e1 : setS C.ro G i o1 with
  | none => rw [e1] at hq; exact hq.elim
  | some G1 =>
    rw [e1] at hq
    rcases os with _ | ⟨o2, os⟩
    · exact hq.elim
    simp only [setAll] at hq
    cases e2 : setS C.ro G1 j o2 with
    | none => rw [e2] at hq; exact hq.elim
    | some G2 =>
      rw [e2] at hq
      rcases os with _ | ⟨o3, os⟩
      · exact hq.elim
      simp only [setAll] at hq
      cases e3 : setS C.ro G2 l o3 with
      | none => rw [e3] at hq; exact hq.elim
      | some G3 =>
        rw [e3] at hq
        rcases os with _ | ⟨o4, os⟩
        · rcases vs with _ | ⟨v1, _ | ⟨v2, _ | ⟨v3, _ | ⟨v4, vs⟩⟩⟩⟩
          · simp at hl
          · simp at hl
          · simp at hl
          · have s1 : (Cz.mk X.K F C.ro us W σ).S Hv1 H1 ((o1, some v1) :: (o2, some v2) :: (o3, some v3) :: tp) G := s1
            exact ⟨v1, v2, v3, rfl, hq _ Hv1 H1 (((s1.store e1).store e2).store e3)⟩
          · simp at hl
        · exact hq.elim

/-! ### o[k] = e, xs.append(e) -/
theorem pset_or {t u : TSet} (h : PSet X t) (h' : PSet X u) : PSet X (fun o i v H Q => t o i v H Q ∨ u o i v H Q) := by
  intro pins s σ H o i v ov iv u Q I r1 r2 r3 q
  rcases q with q | q
  · exact h pins s σ H o i v ov iv u Q I r1 r2 r3 q
  · exact h' pins s σ H o i v ov iv u Q I r1 r2 r3 q
theorem dpAll_set {K : PySem.W.Frag} {G : Hp} {v : V} {d : D} (r : Dp K G v d) : ∀ {vs : List V} {ds : List D} (j : Nat), DpAll K G vs ds → DpAll K G (vs.set j v) (ds.set j d)
  | _, _, _, .nil => .nil
  | _, _, 0, .cons _ t => .cons r t
  | _, _, j + 1, .cons h t => .cons h (dpAll_set r j t)
theorem Cz.S.lst {c : Cz} {Hv H : Hp} {tp : List (O × Option V)} {Γ : Env} {i : Nat} {ds : List D} (h : c.S Hv H tp Γ) (e : slot Γ i = .lst ds) : ∃ l vs, c.σ[i]? = some (some (.ref l)) ∧ H l = some (.lst vs) ∧ DpAll c.K Hv vs ds ∧
    ∀ vs' ds', DpAll c.K Hv vs' ds' → c.S Hv (upd H l (.lst vs')) tp (Γ.set i (.lst ds')) := by
  have e' := slot_some e rfl
  obtain ⟨l, vs, h1, h2, h3, h4⟩ := h.si.getL (i := tp.length + i) (ds := ds) (by rw [getElem?_append_map]; exact e')
  rw [getElem?_append_map] at h1
  refine ⟨l, vs, h1, h2, h3, fun vs' ds' r => ⟨?_, h.ro⟩⟩
  have z := h4 vs' ds' r
  rw [set_append_map] at z
  exact z
theorem Cz.S.dic {c : Cz} {Hv H : Hp} {tp : List (O × Option V)} {Γ : Env} {i : Nat} {ds : List (Key × D)} (h : c.S Hv H tp Γ) (e : slot Γ i = .dic ds) : ∃ l vs, c.σ[i]? = some (some (.ref l)) ∧ H l = some (.dK vs) ∧ KvAll c.K Hv vs ds ∧
    ∀ vs' ds', KvAll c.K Hv vs' ds' → c.S Hv (upd H l (.dK vs')) tp (Γ.set i (.dic ds')) := by
  have e' := slot_some e rfl
  obtain ⟨l, vs, h1, h2, h3, h4⟩ := h.si.getK (i := tp.length + i) (ds := ds) (by rw [getElem?_append_map]; exact e')
  rw [getElem?_append_map] at h1
  refine ⟨l, vs, h1, h2, h3, fun vs' ds' r => ⟨?_, h.ro⟩⟩
  have z := h4 vs' ds' r
  rw [set_append_map] at z
  exact z
theorem sz_put {i : Nat} {y : Str} {p1 pt : Pos} (hu : Rm X) (hN : X.N[i]? = some y) (hv : Vis X.env.scope y) (he : Dz X C W e z) (hk : Dz X C W k zk)
    (hsub : ∀ v, assign (.Subscript (.Name y p1) k pt) X.env v = (do
      let ov ← holding [v] (eval (.Name y p1) X.env)
      let iv ← holding [v, ov] (eval k X.env)
      standAt pt
      holding [v, ov, iv] (setItem ov iv v)
      release [v, ov, iv] []) := by intro _; rfl)
    (hs : swapsWithSole [.Subscript (.Name y p1) k pt] e pos.line X.env = pure false := by rfl) (hw : swappedStores [.Subscript (.Name y p1) k pt] e X.env = pure none := by rfl)
    (h1 : (assignEach [.Subscript (.Name y p1) k pt] X.env).map (·.2) = [assign (.Subscript (.Name y p1) k pt) X.env] := by rfl) (hd : (y == ("__debug__" : Str)) = false := by decide) (hcd : (y == ("__classdict__" : Str)) = false := by decide) :
    Sz X C W (.Assign [.Subscript (.Name y p1) k pt] e pos) (.put i zk z) :=
  (ps_asg he (pg_sub (pe_var hN hv hd hcd) hk (pset_or set_list (set_dict (by unfold Rm at hu; omega))) hsub) hs hw h1).imp fun D σ H ⟨F, us, Hv, tp, Γ, s, hs⟩ => by
    have e0 : evS C (.put i zk z) Γ = (toD (ev C z Γ)).out fun d => if isHole (slot d.2 i) then .bad else (toD (ev C zk d.2)).out fun x => Out.of ((putO (slot x.2 i) x.1 d.1).map fun o => x.2.set i o) := by simp only [evS]
    rw [e0] at hs
    refine ⟨F, us, Hv, tp, Γ, s, (out_sat hs).imp (fun d hq v Hv1 H1 s1 => ?_) fun _ _ h => h⟩
    by_cases n : isHole (slot d.2 i) = true
    · rw [if_pos n] at hq; exact hq.elim
    · rw [if_neg n] at hq
      obtain ⟨w, as, ew, _⟩ := s1.val rfl (by simpa using n)
      have ew : σ[i]? = some (some w) := ew
      refine ⟨w, ew, F, us, Hv1, _, d.2, s1, (out_sat hq).imp (fun x hq u Hv2 H2 s2 => ?_) fun _ _ h => Cz.exq.push h⟩
      have rv := s2.swap.headV
      have rk := s2.headV
      have s3 := s2.pop2
      cases q : putO (slot x.2 i) x.1 d.1 with
      | none => rw [q] at hq; exact hq.elim
      | some o =>
        rw [q] at hq
        have hq : okS X.K F C.ro us W tp D.nx (x.2.set i o) := hq
        unfold putO at q
        split at q
        · rename_i xs j hsl hx
          obtain ⟨zs', e1, e2⟩ := Option.map_eq_some_iff.mp q
          subst e2
          unfold putL at e1
          obtain ⟨jn, e3, e4⟩ := Option.map_eq_some_iff.mp e1
          subst e4
          obtain ⟨l, vs, h1, h2, h3, h4⟩ := s3.lst hsl
          have h1 : σ[i]? = some (some (.ref l)) := h1
          rw [ew] at h1
          cases h1
          have eu : u = .int j := Sh.int (Hv := Hv2) (H := H2) (.inl (by rw [hx] at rk; exact rk))
          exact .inl ⟨l, vs, j, jn, rfl, eu, h2, by rw [dpAll_length h3]; exact e3, hq _ Hv2 _ (h4 _ _ (dpAll_set rv jn h3))⟩
        · rename_i kvs hsl
          cases e1 : keyD x.1 with
          | none => rw [e1] at q; cases q
          | some ky =>
            rw [e1] at q
            simp only at q
            split at q
            · rename_i hl
              cases q
              obtain ⟨l, vs, h1, h2, h3, h4⟩ := s3.dic hsl
              have h1 : σ[i]? = some (some (.ref l)) := h1
              rw [ew] at h1
              cases h1
              have eu := keyD_v rk e1
              subst eu
              exact .inr ⟨l, _, rfl, DPut.k h2 (by rw [kv_len h3]; exact hl), hq _ Hv2 _ (h4 _ _ (kv_put h3 rv))⟩
            · cases q
        · cases q
theorem sz_app {i : Nat} {y : Str} {p1 apos cpos : Pos} (hN : X.N[i]? = some y) (hv : Vis X.env.scope y) (he : Dz X C W e z)
    (hbase : attributeBase (.Name y p1) "append" X.env (eval (.Name y p1) X.env) = eval (.Name y p1) X.env := by rfl)
    (hfew : ((backTo cpos (starEach [e] X.env)).all (fun x => !x.1) && (backToKw cpos (keywordEach [] X.env)).all (fun x => x.1.isSome) && decide ([e].length + ([] : List Keyword).length + (if ([] : List Keyword).isEmpty then 0 else 1) < 30)) = true := by rfl)
    (hline : (apos.endLine == cpos.line) = true := by rfl) (hs1 : starEach [e] X.env = (false, eval e X.env) :: starEach [] X.env := by rfl) (hplain : (backTo cpos (starEach [] X.env)).any (·.1) = false := by rfl)
    (hsw : swapsWith (.Call (.Attribute (.Name y p1) "append" apos) [e] [] cpos) none pos.line X.env = pure false := by rfl) (hd : (y == ("__debug__" : Str)) = false := by decide) (hcd : (y == ("__classdict__" : Str)) = false := by decide) :
    Sz X C W (.Expr (.Call (.Attribute (.Name y p1) "append" apos) [e] [] cpos) pos) (.app i z) :=
  (ps_expr (pe_bm PySem.F.plainAttrs_list PySem.F.slot_list_append PySem.F.type_list_append mt_append (pe_var hN hv hd hcd) (pa_cons he pa_nil hs1) hbase hfew hline hs1 hplain) hsw).imp fun D σ H ⟨F, us, Hv, tp, Γ, s, hs⟩ => by
    have e0 : evS C (.app i z) Γ = if isLst (slot Γ i) then (toD (ev C z Γ)).out fun d => Out.of ((appO (slot d.2 i) d.1).map fun o => d.2.set i o) else .bad := by simp only [evS]
    rw [e0] at hs
    by_cases n : isLst (slot Γ i) = true
    · rw [if_pos n] at hs
      obtain ⟨ds0, eds⟩ : ∃ ds0, slot Γ i = .lst ds0 := by
        cases q : slot Γ i with
        | lst ds => exact ⟨ds, rfl⟩
        | _ => rw [q] at n; cases n
      obtain ⟨l, vs0, h1, h2, _, _⟩ := s.lst eds
      refine ⟨.ref l, h1, .inl ⟨rfl, _, SqL.of h2⟩, F, us, Hv, tp, Γ, s, (out_sat hs).imp (fun d hq v Hv1 H1 s1 => ?_) fun _ _ h => h⟩
      cases q : appO (slot d.2 i) d.1 with
      | none => rw [q] at hq; exact hq.elim
      | some o =>
        rw [q] at hq
        have hq : okS X.K F C.ro us W tp D.nx (d.2.set i o) := hq
        unfold appO at q
        split at q
        · rename_i xs dd hsl
          split at q
          · rename_i hl
            cases q
            obtain ⟨l', vs, g1, g2, g3, g4⟩ := s1.pop.lst hsl
            rw [h1] at g1
            cases g1
            exact ⟨l, vs, v, rfl, rfl, g2, by rw [dpAll_length g3]; exact hl, hq _ Hv1 _ (g4 _ _ (dpAll_append g3 (.cons s1.headV .nil)))⟩
          · cases q
        · cases q
    · rw [if_neg n] at hs
      exact hs.elim
end
end Z
end
section
set_option Elab.async false
set_option linter.all false
set_option maxRecDepth 100000
namespace Z
open PySem PySem.Spec PyProof.Rows L2

/-! ### what is walked -/
/-- J walks the data xs, as long as wt stands in the state -/
def Wk (K : PySem.W.Frag) (J : L2.It) (xs : List D) (wt : List (O × Option V)) : Prop := ∀ (c : Cz) (Hv H : Hp) (tp : List (O × Option V)) (Γ : Env) (i : Nat), c.K = K → c.S Hv H (wt ++ tp) Γ →
  (∀ d, xs[i]? = some d → J.go i H ∧ ∀ x H', J.yld i H x H' → ∃ Hv', c.S Hv' H' ((.v d, some x) :: (wt ++ tp)) Γ) ∧ (xs.length ≤ i → J.stop i H)
def tI (K : PySem.W.Frag) (ro : List Nat) (W : WX) (f : Env → R (List D × Env)) : TI := fun σ H R => ∃ F us Hv tp Γ, (Cz.mk K F ro us W σ).S Hv H tp Γ ∧
  (f Γ).sat (fun p => ∀ J wt Hv H, Wk K J p.1 wt → p.1.length ≤ sizeLine → (Cz.mk K F ro us W σ).S Hv H (wt ++ tp) p.2 → R J H) ((Cz.mk K F ro us W σ).exq tp)
abbrev Iz (X : Cx) (C : Cfg) (W : WX) (tg iter : Expr) (z : Z.It) : Prop := PI X tg iter (tI X.K C.ro W (evI C z))
theorem _root_.L2.PI.imp {X : Cx} {tg iter : Expr} {t t' : TI} (h : PI X tg iter t') (k : ∀ σ H R, t σ H R → t' σ H R) : PI X tg iter t := ⟨fun pins s σ H R I hw => h.run pins s σ H R I (k σ H R hw)⟩

theorem wk_list {K : PySem.W.Frag} {a : Addr} {xs : List D} : Wk K (Itl K a) xs [(.v (.list xs), some (.ref a))] := by
  intro c Hv H tp Γ i hK s
  have hd := s.headV
  have hd : Dp c.K Hv (.ref a) (.list xs) := hd
  rw [hK] at hd
  obtain ⟨a', vs, e, hq, r⟩ := Sh.list (K := K) (Hv := Hv) (H := H) (.inl hd) s.sub
  cases e
  have hl := dpAll_length r
  refine ⟨fun d e => ?_, fun h => ⟨vs, hq, by omega⟩⟩
  obtain ⟨v, h1, h2⟩ := dpAll_get r e
  refine ⟨⟨vs, v, hq, h1⟩, fun x H' y => ?_⟩
  obtain ⟨rfl, y⟩ := y
  have e2 := y vs hq
  rw [h1] at e2
  cases e2
  exact ⟨Hv, s.si.pushV (by rw [hK]; exact h2), s.ro⟩
theorem wk_tup {K : PySem.W.Frag} {a : Addr} {xs : List D} : Wk K (Itt K a) xs [(.v (.tuple xs), some (.ref a))] := by
  intro c Hv H tp Γ i hK s
  have hd : Dp c.K Hv (.ref a) (.tuple xs) := s.headV
  rw [hK] at hd
  obtain ⟨a', vs, e, hq, r⟩ := Sh.tup (K := K) (Hv := Hv) (H := H) (.inl hd) s.sub
  cases e
  have hl := dpAll_length r
  refine ⟨fun d e => ?_, fun h => ⟨vs, hq, by omega⟩⟩
  obtain ⟨v, h1, h2⟩ := dpAll_get r e
  refine ⟨⟨vs, v, hq, h1⟩, fun x H' y => ?_⟩
  obtain ⟨rfl, y⟩ := y
  have e2 := y vs hq
  rw [h1] at e2
  cases e2
  exact ⟨Hv, s.si.pushV (by rw [hK]; exact h2), s.ro⟩
theorem wk_str {K : PySem.W.Frag} {x : Str} : Wk K (Its x) (x.cps.toList.map fun c => PyData.str ⟨#[c]⟩) [] := by
  intro c Hv H tp Γ i hK s
  refine ⟨fun d e => ?_, fun h => ?_⟩
  · rw [List.getElem?_map] at e
    cases q : x.cps.toList[i]? with
    | none => rw [q] at e; cases e
    | some u =>
      rw [q] at e
      cases e
      have hi : i < x.cps.size := by
        have := (List.getElem?_eq_some_iff.mp q).1
        simpa using this
      refine ⟨hi, fun v H' y => ?_⟩
      obtain ⟨rfl, u', e1, rfl⟩ := y
      have : u' = u := by
        rw [Array.getElem?_toList] at q
        rw [q] at e1
        exact (Option.some.inj e1).symm
      subst this
      exact ⟨Hv, s.si.pushV (.str _), s.ro⟩
  · show x.cps.size ≤ i
    simpa using h
theorem wk_rng {K : PySem.W.Frag} {n : Nat} : Wk K (Itr 0 n) (rngD n) [] := by
  intro c Hv H tp Γ i hK s
  refine ⟨fun d e => ?_, fun h => ?_⟩
  · unfold rngD at e
    rw [List.getElem?_map] at e
    cases q : (List.range n)[i]? with
    | none => rw [q] at e; cases e
    | some u =>
      rw [q] at e
      cases e
      have hi : i < n := by
        have := (List.getElem?_eq_some_iff.mp q).1
        simpa using this
      have hu : u = i := by
        rw [List.getElem?_range hi] at q
        exact (Option.some.inj q).symm
      subst hu
      refine ⟨hi, fun v H' y => ?_⟩
      obtain ⟨rfl, rfl⟩ := y
      refine ⟨Hv, s.si.pushV ?_, s.ro⟩
      rw [Int.zero_add]
      exact .int _
  · have h : (rngD n).length ≤ i := h
    unfold rngD at h
    show n ≤ i
    simpa using h
theorem enumD_get : ∀ {xs : List D} {k i : Nat} {d : D}, (enumD k xs)[i]? = some d → ∃ x, xs[i]? = some x ∧ d = .tuple [.int ((k + i : Nat) : Int), x]
  | [], k, i, d, e => by unfold enumD at e; simp at e
  | x :: xs, k, 0, d, e => by unfold enumD at e; simp at e; subst e; exact ⟨x, rfl, rfl⟩
  | x :: xs, k, i + 1, d, e => by
    unfold enumD at e
    obtain ⟨y, h1, h2⟩ := enumD_get (xs := xs) (k := k + 1) (i := i) (d := d) (by simpa using e)
    refine ⟨y, by simpa using h1, ?_⟩
    rw [h2]
    have : k + 1 + i = k + (i + 1) := by omega
    rw [this]
theorem enumD_len : ∀ (xs : List D) (k : Nat), (enumD k xs).length = xs.length
  | [], _ => rfl
  | x :: xs, k => congrArg Nat.succ (enumD_len xs (k + 1))
theorem wk_enum {K : PySem.W.Frag} {a : Addr} {xs : List D} : Wk K (Ite K a) (enumD 0 xs) [(.v (.list xs), some (.ref a))] := by
  intro c Hv H tp Γ i hK s
  have hd : Dp c.K Hv (.ref a) (.list xs) := s.headV
  rw [hK] at hd
  obtain ⟨a', vs, e, hq, r⟩ := Sh.list (K := K) (Hv := Hv) (H := H) (.inl hd) s.sub
  cases e
  have hl := dpAll_length r
  refine ⟨fun d e => ?_, fun h => ⟨vs, hq, by rw [enumD_len] at h; omega⟩⟩
  obtain ⟨x0, e1, rfl⟩ := enumD_get e
  obtain ⟨v, h1, h2⟩ := dpAll_get r e1
  refine ⟨⟨vs, v, hq, h1⟩, fun x H' y => ?_⟩
  obtain ⟨T, x', rfl, hT, rfl, y⟩ := y
  have e2 := y vs hq
  rw [h1] at e2
  cases e2
  refine ⟨_, s.si.freshT (vs := [.int (i : Nat), v]) (ds := [.int ((0 + i : Nat) : Int), x0]) (.cons ?_ (.cons (by rw [hK]; exact h2) .nil)) hT, s.ro⟩
  rw [Nat.zero_add]
  exact .int _
theorem zipD_get : ∀ {xs ys : List D} {i : Nat} {d : D}, (zipD xs ys)[i]? = some d → ∃ x y, xs[i]? = some x ∧ ys[i]? = some y ∧ d = .tuple [x, y]
  | [], ys, i, d, e => by unfold zipD at e; simp at e
  | x :: xs, [], i, d, e => by unfold zipD at e; simp at e
  | x :: xs, y :: ys, 0, d, e => by unfold zipD at e; simp at e; subst e; exact ⟨x, y, rfl, rfl, rfl⟩
  | x :: xs, y :: ys, i + 1, d, e => by
    unfold zipD at e
    obtain ⟨x', y', h1, h2, h3⟩ := zipD_get (xs := xs) (ys := ys) (i := i) (d := d) (by simpa using e)
    exact ⟨x', y', by simpa using h1, by simpa using h2, h3⟩
theorem zipD_len : ∀ (xs ys : List D), (zipD xs ys).length = min xs.length ys.length
  | [], ys => by unfold zipD; simp
  | x :: xs, [] => by unfold zipD; simp
  | x :: xs, y :: ys => by
    unfold zipD
    rw [List.length_cons, zipD_len xs ys, List.length_cons, List.length_cons]
    omega
theorem wk_zipL {K : PySem.W.Frag} {a b : Addr} {xs ys : List D} : Wk K (Itz K a b) (zipD xs ys) [(.v (.list ys), some (.ref b)), (.v (.list xs), some (.ref a))] := by
  intro c Hv H tp Γ i hK s
  have hd : Dp c.K Hv (.ref b) (.list ys) := s.headV
  have hd2 : Dp c.K Hv (.ref a) (.list xs) := s.pop.headV
  rw [hK] at hd hd2
  obtain ⟨b', ws, e, hq2, r2⟩ := Sh.list (K := K) (Hv := Hv) (H := H) (.inl hd) s.sub
  cases e
  obtain ⟨a', vs, e, hq, r⟩ := Sh.list (K := K) (Hv := Hv) (H := H) (.inl hd2) s.sub
  cases e
  have hl := dpAll_length r
  have hl2 := dpAll_length r2
  refine ⟨fun d e => ?_, fun h => ⟨vs, ws, hq, hq2, by rw [zipD_len] at h; omega⟩⟩
  obtain ⟨x0, y0, e1, e2, rfl⟩ := zipD_get e
  obtain ⟨v, h1, h2⟩ := dpAll_get r e1
  obtain ⟨w, h3, h4⟩ := dpAll_get r2 e2
  refine ⟨⟨vs, ws, v, w, hq, hq2, h1, h3⟩, fun x H' y => ?_⟩
  obtain ⟨T, x', y', rfl, hT, rfl, z1, z2⟩ := y
  have q1 := z1 vs hq
  have q2 := z2 ws hq2
  rw [h1] at q1
  rw [h3] at q2
  cases q1
  cases q2
  exact ⟨_, s.si.freshT (vs := [v, w]) (ds := [x0, y0]) (.cons (by rw [hK]; exact h2) (.cons (by rw [hK]; exact h4) .nil)) hT, s.ro⟩
theorem wk_zipT {K : PySem.W.Frag} {a b : Addr} {xs ys : List D} : Wk K (RZ.ItzT K a b) (zipD xs ys) [(.v (.tuple ys), some (.ref b)), (.v (.tuple xs), some (.ref a))] := by
  intro c Hv H tp Γ i hK s
  have hd : Dp c.K Hv (.ref b) (.tuple ys) := s.headV
  have hd2 : Dp c.K Hv (.ref a) (.tuple xs) := s.pop.headV
  rw [hK] at hd hd2
  obtain ⟨b', ws, e, hq2, r2⟩ := Sh.tup (K := K) (Hv := Hv) (H := H) (.inl hd) s.sub
  cases e
  obtain ⟨a', vs, e, hq, r⟩ := Sh.tup (K := K) (Hv := Hv) (H := H) (.inl hd2) s.sub
  cases e
  have hl := dpAll_length r
  have hl2 := dpAll_length r2
  refine ⟨fun d e => ?_, fun h => ⟨vs, ws, hq, hq2, by rw [zipD_len] at h; omega⟩⟩
  obtain ⟨x0, y0, e1, e2, rfl⟩ := zipD_get e
  obtain ⟨v, h1, h2⟩ := dpAll_get r e1
  obtain ⟨w, h3, h4⟩ := dpAll_get r2 e2
  refine ⟨⟨vs, ws, v, w, hq, hq2, h1, h3⟩, fun x H' y => ?_⟩
  obtain ⟨T, x', y', rfl, hT, rfl, z1, z2⟩ := y
  have q1 := z1 vs hq
  have q2 := z2 ws hq2
  rw [h1] at q1
  rw [h3] at q2
  cases q1
  cases q2
  exact ⟨_, s.si.freshT (vs := [v, w]) (ds := [x0, y0]) (.cons (by rw [hK]; exact h2) (.cons (by rw [hK]; exact h4) .nil)) hT, s.ro⟩

section
variable {X : Cx} {C : Cfg} {W : WX} {e e2 tg iter : Expr} {z z2 : E} {pos p0 : Pos}
/-- a list, a tuple or a text, walked -/
def iSeq (K : PySem.W.Frag) (tl : TE) : TI := fun σ H R => tl σ H fun x H1 => (∃ a, x = .ref a ∧ (∃ xs, SqL K H1 a xs) ∧ R (Itl K a) H1) ∨ (∃ a, x = .ref a ∧ (∃ xs, SqT K H1 a xs) ∧ R (Itt K a) H1) ∨ (∃ y, x = .str y ∧ R (Its y) H1)
theorem pi_seq {l : Expr} {tl : TE} (hl : PE X l tl) : PI X tg l (iSeq X.K tl) := by
  refine ⟨fun pins s σ H R I h => ?_⟩
  refine thn (hl.run pins s σ H _ I h) fun v s1 ⟨x, H1, I1, r1, q1⟩ => ?_
  rcases q1 with ⟨a, e, ⟨xs, hq⟩, q⟩ | ⟨a, e, ⟨xs, hq⟩, q⟩ | ⟨y, e, q⟩
  · subst e
    cases r1
    obtain ⟨its, rv, p, hz⟩ := I1.list hq
    exact wpAny_pyIter_list p.isList (pi_one (tk := s1.toks) I1 _ (turn_list a _) ⟨_, Heap.get?_push_size _ rfl, rfl, rfl⟩ q)
  · subst e
    cases r1
    obtain ⟨its, rv, p, hz⟩ := I1.tuple hq
    exact wpAny_pyIter_tuple (show s1.heap.IsTuple a its.toArray from p) (pi_one (tk := s1.toks) I1 _ (turn_tuple a _) ⟨_, Heap.get?_push_size _ rfl, rfl, rfl⟩ q)
  · subst e
    obtain ⟨t, rfl⟩ := r1
    cases ha : y.cps.all (· < 128)
    · exact wpAny_pyIter_wide ha (pi_one (tk := s1.toks) I1 _ (turn_str _ y t "str_iterator" (.inr rfl)) ⟨_, Heap.get?_push_size _ rfl, rfl, rfl⟩ q)
    · exact wpAny_pyIter_ascii ha (pi_one (tk := s1.toks) I1 _ (turn_str _ y t "str_ascii_iterator" (.inl rfl)) ⟨_, Heap.get?_push_size _ rfl, rfl, rfl⟩ q)
theorem iz_e (h : Dz X C W e z) : Iz X C W tg e (.e z) := (pi_seq (pe_len h)).imp fun σ H RR ⟨F, us, Hv, tp, Γ, s, hs⟩ => by
  simp only [evI] at hs
  rw [R.sat_bind] at hs
  refine ⟨F, us, Hv, tp, Γ, s, hs.imp (fun p hq v Hv1 H1 s1 hlen => ?_) fun _ _ h => h⟩
  obtain ⟨xs, e1, hq⟩ := opt_sat hq
  obtain ⟨d, p2⟩ := p
  have hd : Dp X.K Hv1 v d := s1.headV
  cases d with
  | list ys =>
    cases e1
    obtain ⟨a, vs, rfl, hl, r⟩ := Sh.list (H := H1) (.inl hd) s1.sub
    exact .inl ⟨a, rfl, ⟨vs, hl⟩, hq _ _ Hv1 H1 wk_list (by rw [← dpAll_length r]; exact hlen.1 _ _ hl) s1⟩
  | tuple ys =>
    cases e1
    obtain ⟨a, vs, rfl, hl, r⟩ := Sh.tup (H := H1) (.inl hd) s1.sub
    exact .inr (.inl ⟨a, rfl, ⟨vs, hl⟩, hq _ _ Hv1 H1 wk_tup (by rw [← dpAll_length r]; exact hlen.2 _ _ hl) s1⟩)
  | str y =>
    have e1 : (if y.length ≤ sizeLine then some (y.cps.toList.map fun c => PyData.str ⟨#[c]⟩) else none) = some xs := e1
    by_cases q : y.length ≤ sizeLine
    · rw [if_pos q] at e1
      cases e1
      cases hd
      refine .inr (.inr ⟨y, rfl, hq _ [] Hv1 H1 wk_str ?_ s1.pop⟩)
      rw [List.length_map, Array.length_toList]
      exact q
    · rw [if_neg q] at e1; cases e1
  | _ => cases e1
theorem iz_rng (hg : Gl X "range") (hm : X.mg "range" = none) (h : Dz X C W e z) (hs : starEach [e] X.env = [(false, eval e X.env)] := by rfl) (hs1 : starEach [e] X.env = (false, eval e X.env) :: starEach [] X.env := by rfl) : Iz X C W tg (.Call (.Name "range" p0) [e] [] pos) (.rng z) :=
  (pi_range1 hg hm (pa_cons h pa_nil hs1) hs).imp fun σ H RR ⟨F, us, Hv, tp, Γ, s, hs⟩ => by
    simp only [evI] at hs
    rw [R.sat_bind] at hs
    refine ⟨F, us, Hv, tp, Γ, s, hs.imp (fun p hq v Hv1 H1 s1 => ?_) fun _ _ h => h⟩
    obtain ⟨d, p2⟩ := p
    have hd : Dp X.K Hv1 v d := s1.headV
    cases d with
    | int i =>
      cases hd
      have hq : (if i ≤ 16777216 ∧ -(2 ^ 62) ≤ i then R.ok (rngD i.toNat, p2) else .bad).sat _ _ := hq
      by_cases q : i ≤ 16777216 ∧ -(2 ^ 62) ≤ i
      · rw [if_pos q] at hq
        refine ⟨i, rfl, q.2, by omega, hq _ [] Hv1 H1 wk_rng ?_ s1.pop⟩
        show (rngD i.toNat).length ≤ _
        unfold rngD
        rw [List.length_map, List.length_range, sizeLine_eq]
        omega
      · rw [if_neg q] at hq; exact hq.elim
    | _ => exact hq.elim
theorem iz_enm {elts : List Expr} {kk : Nat} {tpos : Pos} (hg : Gl X "enumerate") (hm : X.mg "enumerate" = none) (h : Dz X C W e z) (hs : starEach [e] X.env = [(false, eval e X.env)] := by rfl) (hs1 : starEach [e] X.env = (false, eval e X.env) :: starEach [] X.env := by rfl) : Iz X C W (.Tuple elts kk tpos) (.Call (.Name "enumerate" p0) [e] [] pos) (.enm z) :=
  (pi_enum hg hm (pa_cons (pe_len h) pa_nil hs1) hs).imp fun σ H RR ⟨F, us, Hv, tp, Γ, s, hs⟩ => by
    simp only [evI] at hs
    rw [R.sat_bind] at hs
    refine ⟨F, us, Hv, tp, Γ, s, hs.imp (fun p hq v Hv1 H1 s1 hlen => ?_) fun _ _ h => h⟩
    obtain ⟨d, p2⟩ := p
    have hd : Dp X.K Hv1 v d := s1.headV
    cases d with
    | list ys =>
      obtain ⟨a, vs, rfl, hl, r⟩ := Sh.list (H := H1) (.inl hd) s1.sub
      exact ⟨a, vs, rfl, hl, hq _ _ Hv1 H1 wk_enum (by show (enumD 0 ys).length ≤ _; rw [enumD_len, ← dpAll_length r]; exact hlen.1 _ _ hl) s1⟩
    | _ => exact hq.elim
theorem iz_zip {elts : List Expr} {kk : Nat} {tpos : Pos} (hg : Gl X "zip") (hm : X.mg "zip" = none) (h : Dz X C W e z) (h2 : Dz X C W e2 z2) (hs : starEach [e, e2] X.env = (false, eval e X.env) :: starEach [e2] X.env := by rfl) (hs1 : starEach [e2] X.env = (false, eval e2 X.env) :: starEach [] X.env := by rfl)
    (hpl : (backTo pos (starEach [e2] X.env)).any (·.1) = false := by rfl) : Iz X C W (.Tuple elts kk tpos) (.Call (.Name "zip" p0) [e, e2] [] pos) (.zip z z2) :=
  (RZ.pi_zipA hg hm (pa_cons h (pa_cons (pe_len h2) pa_nil hs1) hs) hs hpl).imp fun σ H RR ⟨F, us, Hv, tp, Γ, s, hs⟩ => by
    simp only [evI] at hs
    rw [R.sat_bind] at hs
    refine ⟨F, us, Hv, tp, Γ, s, hs.imp (fun p hq v Hv1 H1 s1 => ?_) fun _ _ h => h⟩
    rw [R.sat_bind] at hq
    refine ⟨F, us, Hv1, _, p.2, s1, hq.imp (fun q hq w Hv2 H2 s2 hlen => ?_) fun _ _ h => Cz.exq.push h⟩
    obtain ⟨d, p2⟩ := p
    obtain ⟨d', q2⟩ := q
    have hd' : Dp X.K Hv2 w d' := s2.headV
    have hd : Dp X.K Hv2 v d := s2.swap.headV
    cases d with
    | list xs =>
      cases d' with
      | list ys =>
        obtain ⟨a, vs, rfl, hl, r⟩ := Sh.list (H := H2) (.inl hd) s2.sub
        obtain ⟨b, ws, rfl, hl', r'⟩ := Sh.list (H := H2) (.inl hd') s2.sub
        refine ⟨a, b, vs, ws, rfl, .inl ⟨hl, hl', hq _ _ Hv2 H2 wk_zipL ?_ s2⟩⟩
        show (zipD xs ys).length ≤ _
        rw [zipD_len, ← dpAll_length r, ← dpAll_length r']
        have := hlen.1 _ _ hl
        omega
      | _ => exact hq.elim
    | tuple xs =>
      cases d' with
      | tuple ys =>
        obtain ⟨a, vs, rfl, hl, r⟩ := Sh.tup (H := H2) (.inl hd) s2.sub
        obtain ⟨b, ws, rfl, hl', r'⟩ := Sh.tup (H := H2) (.inl hd') s2.sub
        refine ⟨a, b, vs, ws, rfl, .inr ⟨hl, hl', hq _ _ Hv2 H2 wk_zipT ?_ s2⟩⟩
        show (zipD xs ys).length ≤ _
        rw [zipD_len, ← dpAll_length r, ← dpAll_length r']
        have := hlen.2 _ _ hl
        omega
      | _ => exact hq.elim
    | _ => cases d' <;> exact hq.elim

/-! ### for -/
theorem Out.sat.imp {o : Out} {nx nx' : Env → Prop} {rt rt' : O → Env → Prop} {bk bk' ct ct' : Env → Prop} {ex ex' : Exc → Env → Prop} (h : o.sat nx rt bk ct ex) (h1 : ∀ G, nx G → nx' G) (h2 : ∀ p G, rt p G → rt' p G) (h3 : ∀ G, bk G → bk' G) (h4 : ∀ G, ct G → ct' G) (h5 : ∀ c G, ex c G → ex' c G) : o.sat nx' rt' bk' ct' ex' := by
  cases o with
  | nx G => exact h1 G h
  | rt p G => exact h2 p G h
  | bk G => exact h3 G h
  | ct G => exact h4 G h
  | ex c G => exact h5 c G h
  | bad => exact h
theorem forL_cons {f : D → Env → Out} {d : D} {r : List D} {Γ : Env} : forL f (d :: r) Γ = match f d Γ with
    | .nx Γ' => forL f r Γ'
    | .ct Γ' => forL f r Γ'
    | .bk Γ' => .nx Γ'
    | o => o := by
  simp only [forL] <;> rfl
theorem drop_len {α : Type} {xs r : List α} {d : α} {i : Nat} (e : xs.drop i = d :: r) : xs[i]? = some d ∧ r = xs.drop (i + 1) ∧ i < xs.length := by
  have hi : i < xs.length := by
    have := congrArg List.length e
    rw [List.length_drop] at this
    simp at this
    omega
  rw [List.drop_eq_getElem_cons hi] at e
  obtain ⟨e1, e2⟩ := List.cons.inj e
  exact ⟨by rw [List.getElem?_eq_getElem hi, e1], e2.symm, hi⟩
theorem sz_for {tg : Expr} {t : Tg} {zi : Z.It} {body : List Stmt} {zb : Ss} (hp : PassesOwn (model X.prog X.w) X.A X.env X.xe) (hc : X.calm = true) (hi : Iz X C W tg iter zi) (hg : Gz X C tg t) (hb : Ssz X C W body zb)
    (hs : ∀ x, foldedSetIterable iter X.env x = pure x := by intro _; rfl) : Sz X C W (.For tg iter body [] pos) (.for_ t zi zb) := (ps_for hp hc hi hg hb hs).imp fun D σ H ⟨F, us, Hv, tp, Γ, s, hs⟩ => by
  simp only [evS] at hs
  refine ⟨F, us, Hv, tp, Γ, s, (out_sat hs).imp (fun p hq J wt Hv1 H1 wk _ s1 => ?_) fun _ _ h => h⟩
  generalize hf : (fun d Γ' => match setT C.ro Γ' t (.v d) with | some Γ2 => evSs C zb Γ2 | none => Out.bad) = f at hq
  have hfe : ∀ d G, f d G = match setT C.ro G t (.v d) with | some Γ2 => evSs C zb Γ2 | none => Out.bad := fun d G => by rw [← hf]
  -- the turns
  refine ⟨fun i m σ' H' => m = p.1.length - i ∧ i ≤ p.1.length ∧ ∃ Hv' Γ', (Cz.mk X.K F C.ro us W σ').S Hv' H' (wt ++ tp) Γ' ∧ outS X.K F C.ro us W tp D (forL f (p.1.drop i) Γ'), ⟨p.1.length, rfl, Nat.zero_le _, Hv1, p.2, s1, hq⟩, ?_⟩
  rintro i m σ' H' ⟨rfl, hi, Hv2, Γ2, s2, hq2⟩
  have w2 := wk (Cz.mk X.K F C.ro us W σ') Hv2 H' tp Γ2 i rfl s2
  cases e : p.1.drop i with
  | nil =>
    have hil : p.1.length ≤ i := by
      have := congrArg List.length e
      rw [List.length_drop] at this
      simp at this
      omega
    rw [e] at hq2
    exact .inl ⟨w2.2 hil, hq2 σ' Hv2 H' s2.drop⟩
  | cons d r =>
    obtain ⟨e1, e2, hlt⟩ := drop_len e
    obtain ⟨go, hy⟩ := w2.1 d e1
    rw [e, forL_cons] at hq2
    refine .inr ⟨go, fun σ3 H3 => ∃ Hv3 Γ3, (Cz.mk X.K F C.ro us W σ3).S Hv3 H3 (wt ++ tp) Γ3 ∧ outS X.K F C.ro us W tp D (forL f (p.1.drop (i + 1)) Γ3), fun σ3 H3 ⟨Hv3, Γ3, s3, q3⟩ => ⟨p.1.length - (i + 1), by omega, rfl, hlt, Hv3, Γ3, s3, q3⟩, fun x H3 y => ?_⟩
    obtain ⟨Hv3, s3⟩ := hy x H3 y
    rw [hfe] at hq2
    cases e3 : setT C.ro Γ2 t (.v d) with
    | none => rw [e3] at hq2; exact hq2.elim
    | some Γ3 =>
      rw [e3] at hq2
      dsimp only at hq2
      refine ⟨F, us, W, Hv3, wt ++ tp, Γ2, .v d, Γ3, s3, e3, fun σ4 _ s4 => ⟨F, us, Hv3, wt ++ tp, Γ3, s4, ?_⟩⟩
      subst e2
      cases e4 : evSs C zb Γ3 with
      | nx G => rw [e4] at hq2; exact fun σ5 Hv5 H5 s5 => ⟨Hv5, G, s5, hq2⟩
      | ct G => rw [e4] at hq2; exact fun σ5 Hv5 H5 s5 => ⟨Hv5, G, s5, hq2⟩
      | bk G => rw [e4] at hq2; exact fun σ5 Hv5 H5 s5 => hq2 σ5 Hv5 H5 s5.drop
      | rt o G => rw [e4] at hq2; exact fun σ5 v5 Hv5 H5 s5 => hq2 σ5 v5 Hv5 H5 (s5.perm (List.perm_middle (l₁ := wt) (l₂ := tp)).symm).drop
      | ex c G => rw [e4] at hq2; exact fun σ5 cls d5 Hv5 H5 hx s5 => hq2 σ5 cls d5 Hv5 H5 hx s5.drop
      | bad => rw [e4] at hq2; exact hq2.elim
end
end Z
end
section
set_option Elab.async false
set_option linter.all false
set_option maxRecDepth 100000
namespace Z
open PySem PySem.Spec PyProof.Rows L2

/-! ### the slots of a comprehension's own names -/
theorem getElem?_set' {α : Type} (l : List α) (i j : Nat) (x : α) : (l.set i x)[j]? = if i = j then (if j < l.length then some x else none) else l[j]? := by
  by_cases q : i = j
  · subst q
    rw [if_pos rfl]
    by_cases h : i < l.length
    · rw [if_pos h, List.getElem?_set_self h]
    · rw [if_neg h, List.getElem?_eq_none (by simpa using h)]
  · rw [if_neg q, List.getElem?_set_ne q]
theorem wipe_get (σ : L2.St) : ∀ (vs : List Nat) (j : Nat), (wipe σ vs)[j]? = if j ∈ vs then (if j < σ.length then some none else none) else σ[j]?
  | [], j => by simp [wipe]
  | v :: vs, j => by
    unfold wipe
    rw [getElem?_set', wipe_length, wipe_get σ vs j]
    by_cases q : v = j
    · subst q; simp
    · rw [if_neg q]
      by_cases r : j ∈ vs
      · simp [r]
      · have : j ∉ v :: vs := by simp [r, Ne.symm q]
        rw [if_neg r, if_neg this]
theorem wipe_stored {σ σ8 : L2.St} {vs : List Nat} (h : Stored vs σ σ8) : wipe σ8 vs = wipe σ vs := by
  apply List.ext_getElem?
  intro j
  rw [wipe_get, wipe_get, h.1]
  by_cases q : j ∈ vs
  · rw [if_pos q, if_pos q]
  · rw [if_neg q, if_neg q, h.2 j q]
theorem stored_wipe (σ : L2.St) (vs : List Nat) : Stored vs σ (wipe σ vs) := ⟨wipe_length σ vs, fun j n => by rw [wipe_get, if_neg n]⟩
/-- the slots' values, with those of vs put back -/
def rest (σb σ : L2.St) : List Nat → L2.St
  | [] => σb
  | i :: r => (rest σb σ r).set i (σ[i]?).join
theorem rest_len (σb σ : L2.St) : ∀ vs, (rest σb σ vs).length = σb.length
  | [] => rfl
  | i :: r => by unfold rest; rw [List.length_set, rest_len σb σ r]
theorem rest_get {σb σ : L2.St} (hl : σb.length = σ.length) : ∀ (vs : List Nat) (j : Nat), (rest σb σ vs)[j]? = if j ∈ vs then σ[j]? else σb[j]?
  | [], j => by simp [rest]
  | v :: vs, j => by
    unfold rest
    rw [getElem?_set', rest_len, rest_get hl vs j]
    by_cases q : v = j
    · subst q
      rw [if_pos rfl, if_pos List.mem_cons_self]
      by_cases h : v < σb.length
      · rw [if_pos h]
        have h' : v < σ.length := by omega
        rw [List.getElem?_eq_getElem h']
        rfl
      · rw [if_neg h, List.getElem?_eq_none (by omega)]
    · rw [if_neg q]
      by_cases r : j ∈ vs
      · simp [r]
      · have : j ∉ v :: vs := by simp [r, Ne.symm q]
        rw [if_neg r, if_neg this]
theorem rest_stored {σ σb : L2.St} {vs : List Nat} (h : Stored vs σ σb) : rest σb σ vs = σ := by
  apply List.ext_getElem?
  intro j
  rw [rest_get h.1]
  by_cases q : j ∈ vs
  · rw [if_pos q]
  · rw [if_neg q, h.2 j q]
/-- what stands in the own names' slots, kept aside -/
def ot (vs : List Nat) (Γ : Env) (σ : L2.St) : List (O × Option V) := vs.map fun i => (onlyV (slot Γ i), (σ[i]?).join)
section
variable {K : PySem.W.Frag} {F : Fr0} {ro : List Nat} {us : L2.St} {W : WX} {σ : L2.St} {Hv H : Hp} {tp : List (O × Option V)} {Γ : Env}
theorem ot_push (h : (Cz.mk K F ro us W σ).S Hv H tp Γ) : ∀ vs : List Nat, (Cz.mk K F ro us W σ).S Hv H (ot vs Γ σ ++ tp) Γ
  | [] => h
  | i :: r => by
    have ih := ot_push h r
    show (Cz.mk K F ro us W σ).S Hv H ((onlyV (slot Γ i), (σ[i]?).join) :: (ot r Γ σ ++ tp)) Γ
    cases q : slot Γ i with
    | v d =>
      obtain ⟨v, as, e1, r1⟩ := ih.val q rfl
      have e1 : σ[i]? = some (some v) := e1
      unfold Rp at r1
      rw [e1]
      exact ⟨ih.si.pushV r1.1, ih.ro⟩
    | _ => exact ⟨ih.si.pushHole, ih.ro⟩
/-- slot i forgotten, whatever its value -/
theorem si_forget {i : Nat} {s' : Option V} (h : SI K F Hv H (tp.map (·.1) ++ Γ) (tp.map (·.2) ++ σ)) : SI K F Hv H (tp.map (·.1) ++ Γ.set i .hole) (tp.map (·.2) ++ σ.set i s') := by
  by_cases hi : i < Γ.length
  · have hl := h.length
    simp only [List.length_append, List.length_map] at hl
    have e : (tp.map (fun p : O × Option V => p.1) ++ Γ)[tp.length + i]? = some Γ[i] := by rw [getElem?_append_map, List.getElem?_eq_getElem hi]
    obtain ⟨s, _, t1⟩ := h.take e
    have t2 := t1.pop
    have t3 : SI K F Hv H (.hole :: _) (s' :: _) := t2.pushHole
    have t4 := t3.put (i := tp.length + i) (by simp; omega)
    rw [List.set_set, set_append_map, set_append_map] at t4
    exact t4
  · have hl := h.length
    simp only [List.length_append, List.length_map] at hl
    rw [List.set_eq_of_length_le (by omega), List.set_eq_of_length_le (by omega)]
    exact h
theorem si_wipe (h : SI K F Hv H (tp.map (·.1) ++ Γ) (tp.map (·.2) ++ σ)) : ∀ vs : List Nat, SI K F Hv H (tp.map (·.1) ++ holes Γ vs) (tp.map (·.2) ++ wipe σ vs)
  | [] => h
  | i :: r => by
    unfold holes wipe
    exact si_forget (si_wipe h r)
/-- into the block -/
theorem S_wipe (h : (Cz.mk K F ro us W σ).S Hv H tp Γ) (vs : List Nat) (W' : WX) : (Cz.mk K F ro (wipe σ vs) W' (wipe σ vs)).S Hv H tp (holes Γ vs) := ⟨si_wipe h.si vs, fun _ _ => rfl⟩
theorem si_back {σb : L2.St} {G : Env} : ∀ {vs : List Nat} {tp : List (O × Option V)}, (∀ i ∈ vs, i < Γ.length) → SI K F Hv H ((ot vs Γ σ ++ tp).map (·.1) ++ G) ((ot vs Γ σ ++ tp).map (·.2) ++ σb) → G.length = Γ.length → SI K F Hv H (tp.map (·.1) ++ backs G Γ vs) (tp.map (·.2) ++ rest σb σ vs)
  | [], tp, _, h, _ => h
  | i :: r, tp, hv, h, hl => by
    have h1 : SI K F Hv H (((onlyV (slot Γ i), (σ[i]?).join) :: (ot r Γ σ ++ tp)).map (·.1) ++ G) (((onlyV (slot Γ i), (σ[i]?).join) :: (ot r Γ σ ++ tp)).map (·.2) ++ σb) := h
    have h2 : SI K F Hv H ((ot r Γ σ ++ ((onlyV (slot Γ i), (σ[i]?).join) :: tp)).map (·.1) ++ G) ((ot r Γ σ ++ ((onlyV (slot Γ i), (σ[i]?).join) :: tp)).map (·.2) ++ σb) := by
      obtain ⟨as, r1, w⟩ := h1
      obtain ⟨bs, p, r2⟩ := RpL_perm (List.perm_middle (l₁ := ot r Γ σ) (l₂ := tp) (a := (onlyV (slot Γ i), (σ[i]?).join))).symm r1
      exact ⟨bs, r2, w.perm p⟩
    have h3 := si_back (tp := (onlyV (slot Γ i), (σ[i]?).join) :: tp) (fun j m => hv j (List.mem_cons_of_mem _ m)) h2 hl
    have h3 : SI K F Hv H (onlyV (slot Γ i) :: (tp.map (·.1) ++ backs G Γ r)) ((σ[i]?).join :: (tp.map (·.2) ++ rest σb σ r)) := h3
    have bl : ∀ vs : List Nat, (backs G Γ vs).length = G.length := fun vs => by
      induction vs with
      | nil => rfl
      | cons v vs ih => unfold backs; rw [List.length_set, ih]
    have hi := hv i List.mem_cons_self
    have h4 := h3.put (i := tp.length + i) (by simp [bl]; omega)
    rw [set_append_map, set_append_map] at h4
    exact h4
/-- back in the def -/
theorem S_back {usb σb : L2.St} {W' : WX} {G : Env} {vs : List Nat} (h0 : (Cz.mk K F ro us W σ).ro = ro) (hro : ∀ i ∈ ro, σ[i]? = us[i]?) (hΓ : σ.length = Γ.length) (hv : ∀ i ∈ vs, i < σ.length) (st : Stored vs σ σb) {pre : List (O × Option V)} (h : (Cz.mk K F ro usb W' σb).S Hv H (pre ++ (ot vs Γ σ ++ tp)) G) :
    (Cz.mk K F ro us W σ).S Hv H tp (backs G Γ vs) := by
  have h1 := h.drop
  have hl : G.length = Γ.length := by
    have z := h1.len
    have z : σb.length = G.length := z
    rw [← z, st.1, hΓ]
  have h2 := si_back (Γ := Γ) (σ := σ) (fun i m => by rw [← hΓ]; exact hv i m) h1.si hl
  rw [rest_stored st] at h2
  exact ⟨h2, hro⟩
end

theorem holes_get (Γ : Env) : ∀ (vs : List Nat) (j : Nat), (holes Γ vs)[j]? = if j ∈ vs then (if j < Γ.length then some .hole else none) else Γ[j]? := by
  have hl : ∀ vs : List Nat, (holes Γ vs).length = Γ.length := fun vs => by
    induction vs with
    | nil => rfl
    | cons v vs ih => unfold holes; rw [List.length_set, ih]
  intro vs
  induction vs with
  | nil => intro j; simp [holes]
  | cons v vs ih =>
    intro j
    unfold holes
    rw [getElem?_set', hl, ih j]
    by_cases q : v = j
    · subst q; simp
    · rw [if_neg q]
      by_cases r : j ∈ vs
      · simp [r]
      · have : j ∉ v :: vs := by simp [r, Ne.symm q]
        rw [if_neg r, if_neg this]
theorem backs_get (G Γ0 : Env) : ∀ (vs : List Nat) (j : Nat), (backs G Γ0 vs)[j]? = if j ∈ vs then (if j < G.length then some (onlyV (slot Γ0 j)) else none) else G[j]? := by
  have hl : ∀ vs : List Nat, (backs G Γ0 vs).length = G.length := fun vs => by
    induction vs with
    | nil => rfl
    | cons v vs ih => unfold backs; rw [List.length_set, ih]
  intro vs
  induction vs with
  | nil => intro j; simp [backs]
  | cons v vs ih =>
    intro j
    unfold backs
    rw [getElem?_set', hl, ih j]
    by_cases q : v = j
    · subst q; simp
    · rw [if_neg q]
      by_cases r : j ∈ vs
      · simp [r]
      · have : j ∉ v :: vs := by simp [r, Ne.symm q]
        rw [if_neg r, if_neg this]
theorem holes_len (Γ : Env) (vs : List Nat) : (holes Γ vs).length = Γ.length := by
  induction vs with
  | nil => rfl
  | cons v vs ih => unfold holes; rw [List.length_set, ih]
theorem backs_holes (G Γ0 : Env) (vs : List Nat) : backs (holes G vs) Γ0 vs = backs G Γ0 vs := by
  apply List.ext_getElem?
  intro j
  rw [backs_get, backs_get, holes_len, holes_get]
  by_cases q : j ∈ vs
  · rw [if_pos q, if_pos q]
  · rw [if_neg q, if_neg q, if_neg q]
/-- the front list -/
theorem Cz.S.headL {c : Cz} {Hv H : Hp} {tp : List (O × Option V)} {Γ : Env} {L : Addr} {ds : List D} (h : c.S Hv H ((.lst ds, some (.ref L)) :: tp) Γ) : ∃ vs, H L = some (.lst vs) ∧ DpAll c.K Hv vs ds ∧
    ∀ vs' ds', DpAll c.K Hv vs' ds' → c.S Hv (upd H L (.lst vs')) ((.lst ds', some (.ref L)) :: tp) Γ := by
  obtain ⟨l, vs, h1, h2, h3, h4⟩ := h.si.getL (i := 0) (ds := ds) rfl
  have h1 : some (some (V.ref L)) = some (some (V.ref l)) := h1
  cases h1
  exact ⟨vs, h2, h3, fun vs' ds' r => ⟨h4 vs' ds' r, h.ro⟩⟩
theorem Cz.S.headK {c : Cz} {Hv H : Hp} {tp : List (O × Option V)} {Γ : Env} {L : Addr} {ds : List (Key × D)} (h : c.S Hv H ((.dic ds, some (.ref L)) :: tp) Γ) : ∃ vs, H L = some (.dK vs) ∧ KvAll c.K Hv vs ds ∧
    ∀ vs' ds', KvAll c.K Hv vs' ds' → c.S Hv (upd H L (.dK vs')) ((.dic ds', some (.ref L)) :: tp) Γ := by
  obtain ⟨l, vs, h1, h2, h3, h4⟩ := h.si.getK (i := 0) (ds := ds) rfl
  have h1 : some (some (V.ref L)) = some (some (V.ref l)) := h1
  cases h1
  exact ⟨vs, h2, h3, fun vs' ds' r => ⟨h4 vs' ds' r, h.ro⟩⟩

/-! ### comprehensions -/
theorem lcL_cons {f : D → Env → R (List D × Env)} {d : D} {r : List D} {Γ : Env} : lcL f (d :: r) Γ = (f d Γ).bind fun p => (lcL f r p.2).bind fun q => .ok (p.1 ++ q.1, q.2) := by simp only [lcL]
theorem fin_sat {α : Type} {own : List Nat} {Γ0 : Env} {mk : α → O} {r : R (α × Env)} {p : O × Env → Prop} {q : Exc → Env → Prop} (h : (r.fin own Γ0 mk).sat p q) : r.sat (fun z => p (mk z.1, backs z.2 Γ0 own)) (fun c G => q c (backs G Γ0 own)) := by
  cases r <;> exact h
/-- a context of X's comprehension's block -/
def Bk (X : Cx) (scope : Scope) (W : WX) (Xb : Cx) : Prop := ∃ s H C cl fp xe, Xb = ((X.blk s H scope (compEnvC scope cl C X.env) fp).wish xe) ∧ Takes Xb W
/-- what X does with an exception -/
def Xw (X : Cx) (W : WX) : Prop := (∀ c d σ H, ¬ W c d σ H) ∨ (X.stack = X.env :: X.outer ∧ X.env.frame = some X.env.locals ∧ Takes X W)
abbrev Oz (X : Cx) (C : Cfg) (W : WX) (ifs : List Expr) (z : Oe) : Prop := PTs X ifs (tT X.K C.ro W (evO C z))
theorem _root_.L2.PTs.imp {X : Cx} {ifs : List Expr} {t t' : TT} (h : PTs X ifs t') (k : ∀ σ H Q, t σ H Q → t' σ H Q) : PTs X ifs t := ⟨fun pins s σ H Q I hw => h.run pins s σ H Q I (k σ H Q hw)⟩
theorem oz_no {X : Cx} {C : Cfg} {W : WX} : Oz X C W [] .no := pts_nil.imp fun σ H Q ⟨F, us, Hv, tp, Γ, s, hs⟩ => by
  simp only [evO] at hs
  exact hs Hv H s
theorem oz_so {X : Cx} {C : Cfg} {W : WX} {c : Expr} {z : E} (h : Tz X C W c z) : Oz X C W [c] (.so z) := pts_one h
section
variable {X : Cx} {C : Cfg} {W : WX}
theorem lc_run {pins : List (Addr × Obj)} {s : Shared} {σ : L2.St} {H : Hp} {Q : VK} {elt tg iter : Expr} {ifs : List Expr} {scope : Scope} {own : List (Str × Nat)} {pos pos' : Pos} {t : Tg} {zi : Z.It} {zc : Oe} {ze : E} {use : Option (Value → Sem Unit)} {Qf : Value → Shared → Prop}
    (hc : X.calm = true) (hN : X.N.Nodup) (I : Inv X pins σ H s) (hi : Iz X C W tg iter zi) (ok : BlkOk X.N X.env.scope scope own) (hx : Xw X W) (ht : ∀ i ∈ tgs t, i ∈ own.map (·.2))
    (hg : ∀ (W' : WX) (Xb : Cx), Bk X scope W' Xb → Gz Xb C tg t) (hif : ∀ (W' : WX) (Xb : Cx), Bk X scope W' Xb → Oz Xb C W' ifs zc) (he : ∀ (W' : WX) (Xb : Cx), Bk X scope W' Xb → Dz Xb C W' elt ze)
    (hs : ∀ x, foldedSetIterable iter X.env x = pure x) (h : tE X.K C.ro W (ev C (.lc (own.map (·.2)) t zi zc ze)) σ H Q)
    (hRR : ∀ D (ce : PySem.Env) s' m H', Inv X pins σ H' s' → Q (.ref D) H' → s'.heap.Ns ce.locals m → FpOk X pins H' ce.locals → zPost (model X.prog X.w) X.A X.xe use Qf (.ref D) ce (.ok .next) s') :
    wpAny (model X.prog X.w) X.A (comprehension (.ListComp elt [⟨tg, iter, ifs, 0⟩] scope pos) scope X.env pos' (newList []) false (eval iter X.env) use) Qf X.xe s := by
  generalize hvs : own.map (·.2) = vs at h ht
  have hfree : ∀ y ∈ scope.names, y.2 = .free → ∃ c, X.env.cells.lookup y.1 = some c := fun y hy e => by
    rcases ok.free y hy e with k | k
    · exact I.ok.has _ (.inl k)
    · exact I.ok.has _ (.inr k)
  have hvl : ∀ i ∈ vs, i < σ.length := fun i m => by
    rw [← hvs] at m
    obtain ⟨p, hp, rfl⟩ := List.mem_map.mp m
    rw [I.len]
    exact (List.getElem?_eq_some_iff.mp (ok.ix p hp)).1
  obtain ⟨F, us, Hv0, tp, Γ, s0, hev⟩ := h
  have e0 : ev C (.lc vs t zi zc ze) Γ = (evI C zi Γ).bind fun q => (lcL (fun d Γ' => opt (setT C.ro (holes Γ' vs) t (.v d)) fun Γ2 =>
      (evO C zc Γ2).bind fun b => if b.1 then (toD (ev C ze b.2)).bind fun y => .ok ([y.1], y.2) else .ok ([], b.2)) q.1 (holes q.2 vs)).fin vs q.2 O.lst := by simp only [ev]
  rw [e0, R.sat_bind] at hev
  generalize hf : (fun d Γ' => opt (setT C.ro (holes Γ' vs) t (.v d)) fun Γ2 =>
      (evO C zc Γ2).bind fun b => if b.1 then (toD (ev C ze b.2)).bind fun y => R.ok ([y.1], y.2) else R.ok ([], b.2)) = f at hev
  refine z_comp_free (use := use) rfl hs (closure_ok hfree) ok.kind (fun y hy e => by rw [ok.uniq y hy, e])
    (thn (hi.run pins s σ H (fun J H1 => ∃ (p : List D × Env) (wt : List (O × Option V)) (Hv : Hp), Wk X.K J p.1 wt ∧ p.1.length ≤ sizeLine ∧ (Cz.mk X.K F C.ro us W σ).S Hv H1 (wt ++ tp) p.2 ∧
      ((lcL f p.1 (holes p.2 vs)).fin vs p.2 O.lst).sat ((Cz.mk X.K F C.ro us W σ).ok tp Q) ((Cz.mk X.K F C.ro us W σ).exq tp)) I
      ⟨F, us, Hv0, tp, Γ, s0, hev.imp (fun p hq J wt Hv H1 w hl s1 => ⟨p, wt, Hv, w, hl, s1, hq⟩) fun _ _ h => h⟩) fun xv s1 hx1 => thn hx1 fun itv s2 h2 => ?_)
  obtain ⟨it, fp, tn, J, H2, e, I2, T, st2, f2, p, wt, Hv2, wk, hlen, sw, hq⟩ := h2
  subst e
  refine wpAny_newObj_type (newEnv_comp ?_) (by show 0 ≤ sizeLine; decide)
  generalize hD : s2.heap.objs.size = L
  have hDn : H2 L = none := I2.hok.fresh (Nat.le_of_eq hD)
  generalize hs3 : ({ s2 with heap := s2.heap.push { cls := .type "list", data := .seq ([] : List Value).toArray } } : Shared) = s3
  have I3 : Inv X pins σ (upd H2 L (.lst [])) s3 := by
    rw [← hs3]
    refine I2.laid (t' := s2.toks) (fun b o e => Heap.get?_push_of_some _ e) (Nat.le_of_eq hD) ⟨Nat.zero_le _, [], 0, .nil, ?_⟩
    rw [← hD]
    exact Heap.get?_push_size _ rfl
  have h3 : s3.heap = s2.heap.push { cls := .type "list", data := .seq ([] : List Value).toArray } := by rw [← hs3]
  have sz : ∀ b ∈ fp, b < s2.heap.objs.size := fun b hb => by
    obtain ⟨o, e, _⟩ := T.obj _ _ st2 b hb
    exact Heap.lt_size e
  have f3 : ∀ b ∈ fp, FpOk X pins (upd H2 L (.lst [])) b ∧ b < s3.heap.objs.size := fun b hb => by
    have hlt := sz b hb
    refine ⟨⟨?_, (f2 b hb).2⟩, by rw [h3, Heap.size_push]; exact Nat.lt_succ_of_lt hlt⟩
    rw [upd_ne (by rw [← hD]; exact Nat.ne_of_lt hlt)]
    exact (f2 b hb).1
  have st3 : tn 0 s3.heap := T.keep _ _ _ st2 fun b _ o e => by rw [h3]; exact Heap.get?_push_of_some _ e
  have I4 := block_start I3 ok hN f3
  -- the data's state in the block
  have w0 : (Cz.mk X.K F C.ro us W σ).S Hv2 (upd H2 L (.lst [])) ((.lst [], some (.ref L)) :: (wt ++ tp)) p.2 := ⟨sw.si.freshL .nil hDn, sw.ro⟩
  have w1 : (Cz.mk X.K F C.ro us W σ).S Hv2 (upd H2 L (.lst [])) ((.lst [], some (.ref L)) :: (ot vs p.2 σ ++ (wt ++ tp))) p.2 := (ot_push w0 vs).perm List.perm_middle
  have hΓ : σ.length = p.2.length := sw.len
  have hro : ∀ i ∈ C.ro, σ[i]? = us[i]? := sw.ro
  show codeAny _ _ (.compStart (.ListComp elt [⟨tg, iter, ifs, 0⟩] scope pos) 0 (.ref it) (.ref L) (compEnvC scope (cellsFrom (s3.heap.objs.size + 1) scope.names (cloFrom X.env.cells scope.names [])) s3.heap.objs.size X.env)) (zPost (model X.prog X.w) X.A X.xe use Qf (.ref L) (compEnvC scope (cellsFrom (s3.heap.objs.size + 1) scope.names (cloFrom X.env.cells scope.names [])) s3.heap.objs.size X.env)) { s3 with heap := pushCells (s3.heap.push { cls := .type "dict", data := .dict #[] }) scope.names }
  have nfp : ∀ b ∈ fp, (upd H2 L (.lst [])) b = none := fun b hb => (f3 b hb).1.1
  generalize hcl : cellsFrom (s3.heap.objs.size + 1) scope.names (cloFrom X.env.cells scope.names []) = cl at I4 ⊢
  generalize hce : compEnvC scope cl s3.heap.objs.size X.env = ce at I4 ⊢
  have cL : ce.locals = s3.heap.objs.size := by subst hce; rfl
  have cF : ce.frame = X.env.frame := by subst hce; rfl
  generalize hH3 : upd H2 L (.lst []) = H3 at I3 I4 w0 w1 nfp f3
  generalize hs4 : ({ s3 with heap := pushCells (s3.heap.push { cls := .type "dict", data := .dict #[] }) scope.names } : Shared) = s4 at I4 ⊢
  have st4 : tn 0 s4.heap := T.keep _ _ _ st3 fun b _ o e => by rw [← hs4]; exact pushCells_keeps _ _ _ _ (Heap.get?_push_of_some _ e)
  -- the block's context
  generalize hxe : (notedBy (model X.prog X.w) X.A ce fun e s' => zPost (model X.prog X.w) X.A X.xe use Qf (.ref L) ce (.error e) s') = xe
  have I4 : Inv ((X.blk s3 H3 scope ce fp).wish xe) [] (wipe σ vs) H3 s4 := by rw [← hvs]; exact I4.wish xe
  have tkb : Takes ((X.blk s3 H3 scope ce fp).wish xe) (fun cls d _ H' => W cls d σ H') := by
    rcases hx with hx | ⟨h1, h2, h3⟩
    · rintro u s' ⟨a, B, sI, pi, σ', H', cls, d, _, _, _, _, _, _, _, _, w⟩
      exact (hx _ _ _ _ w).elim
    · rw [← hxe]
      exact blk_takes h1 h2 h3 I3 f3 cL cF
  have bk : Bk X scope (fun cls d _ H' => W cls d σ H') ((X.blk s3 H3 scope ce fp).wish xe) := ⟨s3, H3, s3.heap.objs.size, cl, fp, xe, by rw [hce], tkb⟩
  have pg : PG ((X.blk s3 H3 scope ce fp).wish xe) tg (tG X.K C.ro t) := hg _ _ bk
  have pt : PTs ((X.blk s3 H3 scope ce fp).wish xe) ifs (tT X.K C.ro (fun cls d _ H' => W cls d σ H') (evO C zc)) := hif _ _ bk
  have pe : PE ((X.blk s3 H3 scope ce fp).wish xe) elt (tD X.K C.ro (fun cls d _ H' => W cls d σ H') (fun Γ => toD (ev C ze Γ))) := he _ _ bk
  generalize hXb : (X.blk s3 H3 scope ce fp).wish xe = Xb at I4 pg pt pe tkb
  have stat : ∀ {σ' : L2.St} {H' : Hp} {s' : Shared}, Inv Xb [] σ' H' s' → (∀ b ∈ fp, H' b = none) → ∀ b ∈ fp, FpOk Xb [] H' b := fun {σ' H' s'} I' hn b hb => by
    subst hXb
    exact ⟨hn b hb, (I'.ok.exf b hb).1, I'.ok.exfs b hb, .inl hb, fun x c e => (I'.ok.exf b hb).2 x c e, fun p hp => absurd (show p ∈ ([] : List (Addr × Obj)) ++ [] from hp) (by simp)⟩
  have bK : Xb.K = X.K := by subst hXb; rfl
  have bA : Xb.A = X.A := by subst hXb; rfl
  have bP : Xb.prog = X.prog := by subst hXb; rfl
  have bW : Xb.w = X.w := by subst hXb; rfl
  have bC : Xb.calm = true := by subst hXb; exact hc
  have bX : Xb.xe = xe := by subst hXb; rfl
  have bE : Xb.env = ce := by subst hXb; rfl
  -- the turn's data
  have hq' := fin_sat hq
  have exb : ∀ {pre : List (O × Option V)} {σ8 : L2.St} {usb : L2.St} {c : Exc} {G : Env}, Stored vs σ σ8 → (Cz.mk X.K F C.ro us W σ).exq tp c (backs G p.2 vs) → (Cz.mk X.K F C.ro usb (fun cls d _ H' => W cls d σ H') σ8).exq (pre ++ (ot vs p.2 σ ++ (wt ++ tp))) c G :=
    fun {pre σ8 usb c G} sto h cls d Hv' H' hx s' => h cls d Hv' H' hx (S_back (W := W) rfl hro hΓ hvl sto s').drop
  have fin0 : ∀ {D : Addr} {s6 : Shared} {H6 : Hp}, Inv X pins σ H6 s6 → True := fun _ => True.intro
  -- the turns' word
  have loop : codeAny (model X.prog X.w) X.A (.compLoop (.ListComp elt [⟨tg, iter, ifs, 0⟩] scope pos) 0 (.ref it) (.ref L) ce) (zPost (model X.prog X.w) X.A X.xe use Qf (.ref L) ce) s4 := by
    refine compLoop_any (fun n s' => ∃ i H' Hv' Γ' acc, n = p.1.length - i ∧ i ≤ p.1.length ∧ acc.length ≤ i ∧ Inv Xb [] (wipe σ vs) H' s' ∧ tn i s'.heap ∧ (∀ b ∈ fp, H' b = none) ∧
      (Cz.mk X.K F C.ro (wipe σ vs) (fun cls d _ H' => W cls d σ H') (wipe σ vs)).S Hv' H' ((.lst acc, some (.ref L)) :: (ot vs p.2 σ ++ (wt ++ tp))) (holes Γ' vs) ∧
      (lcL f (p.1.drop i) Γ').sat (fun z => (Cz.mk X.K F C.ro us W σ).ok tp Q (.lst (acc ++ z.1), backs z.2 p.2 vs)) (fun c G => (Cz.mk X.K F C.ro us W σ).exq tp c (backs G p.2 vs))) ?_ p.1.length
      ⟨0, H3, Hv2, holes p.2 vs, [], rfl, Nat.zero_le _, Nat.zero_le _, I4, st4, nfp, ?_, hq'⟩
    · rintro n s5 ⟨i, H5, Hv5, Γ5, acc, rfl, hi5, ha5, I5, st5, n5, w5, q5⟩
      have ww : (Cz.mk X.K F C.ro (wipe σ vs) (fun cls d _ H' => W cls d σ H') (wipe σ vs)).S Hv5 H5 (wt ++ ((.lst acc, some (.ref L)) :: (ot vs p.2 σ ++ tp))) (holes Γ5 vs) := by
        refine w5.perm ?_
        refine List.Perm.trans ?_ List.perm_middle.symm
        refine List.Perm.cons _ ?_
        rw [← List.append_assoc, ← List.append_assoc]
        exact List.perm_append_comm.append_right tp
      have wk5 := wk _ Hv5 H5 _ _ i rfl ww
      cases ed : p.1.drop i with
      | nil =>
        have hil : p.1.length ≤ i := by
          have := congrArg List.length ed
          rw [List.length_drop] at this
          simp at this
          omega
        have td := T.done Xb bP bW bK bC i [] s5 _ H5 xe I5 (stat I5 n5) st5 (wk5.2 hil)
        rw [bA] at td
        rw [← hxe] at td
        refine thn td fun r s6 ⟨hr, I6⟩ => ?_
        subst hr
        rw [ed] at q5
        have q5 : (Cz.mk X.K F C.ro us W σ).ok tp Q (.lst (acc ++ []), backs Γ5 p.2 vs) := q5
        rw [List.append_nil] at q5
        subst hXb
        have I7 : Inv X pins σ H5 s6 := I3.call' (ch := fp) I6.os I6.base I6.hok I6.bare fun b hb => ⟨(f3 b hb).1.2.2.2.1, (f3 b hb).1.2.1, (f3 b hb).1.2.2.2.2.1, (f3 b hb).1.2.2.2.2.2⟩
        have nC : H5 ce.locals = none := I6.free
        obtain ⟨m, hn, _⟩ := I6.loc
        have hn : s6.heap.Ns ce.locals m := hn
        refine hRR L ce s6 m H5 I7 (q5 (.ref L) Hv5 H5 ?_) hn (I3.fpOk (by rw [cL]; exact Nat.le_refl _) nC)
        -- the list is one's own again
        have z1 : (Cz.mk X.K F C.ro (wipe σ vs) (fun cls d _ H' => W cls d σ H') (wipe σ vs)).S Hv5 H5 ([] ++ (ot vs p.2 σ ++ (wt ++ ((.lst acc, some (.ref L)) :: tp)))) (holes Γ5 vs) := by
          refine w5.perm ?_
          rw [List.nil_append, ← List.append_assoc, ← List.append_assoc]
          exact List.perm_middle.symm
        have z2 := S_back (us := us) (W := W) rfl hro hΓ hvl (stored_wipe σ vs) z1
        rw [backs_holes] at z2
        exact z2.drop
      | cons d r =>
        obtain ⟨e1, e2, hlt⟩ := drop_len ed
        obtain ⟨go, hy⟩ := wk5.1 d e1
        rw [ed, lcL_cons, R.sat_bind] at q5
        have hfe : f d Γ5 = opt (setT C.ro (holes Γ5 vs) t (.v d)) fun Γ2 => (evO C zc Γ2).bind fun b => if b.1 then (toD (ev C ze b.2)).bind fun y => .ok ([y.1], y.2) else .ok ([], b.2) := by rw [← hf]
        rw [hfe] at q5
        obtain ⟨Γ2, et, q5⟩ := opt_sat q5
        rw [R.sat_bind] at q5
        have ti := T.item Xb bP bW bK bC i [] s5 _ H5 xe I5 (stat I5 n5) st5 go
        subst hXb
        subst hxe
        refine thn ti fun r0 s6 ⟨u, hr, h6⟩ => ?_
        subst hr
        refine thn h6 fun _ s7 ⟨x, H7, I7, r7, y7, st7, n7⟩ => ?_
        obtain ⟨Hv7, s7s⟩ := hy x H7 y7
        have s7s : (Cz.mk X.K F C.ro (wipe σ vs) (fun cls d _ H' => W cls d σ H') (wipe σ vs)).S Hv7 H7 ((.v d, some x) :: ((.lst acc, some (.ref L)) :: (ot vs p.2 σ ++ (wt ++ tp)))) (holes Γ5 vs) := by
          refine s7s.perm (List.Perm.cons _ ?_)
          refine List.perm_middle.trans (List.Perm.cons _ ?_)
          rw [← List.append_assoc, ← List.append_assoc]
          exact List.perm_append_comm.append_right tp
        have I7' := I7.pinned (stat I7 n7) (T.obj _ _ st7)
        refine thn (pg.run _ s7 _ H7 x u (fun σ8 H8 => Stored vs σ σ8 ∧ ∃ Hv8, (Cz.mk X.K F C.ro (wipe σ vs) (fun cls d _ H' => W cls d σ H') σ8).S Hv8 H8 ((.lst acc, some (.ref L)) :: (ot vs p.2 σ ++ (wt ++ tp))) Γ2) I7' r7
          ⟨F, wipe σ vs, (fun cls d _ H' => W cls d σ H'), Hv7, _, holes Γ5 vs, .v d, Γ2, s7s, et, fun σ8 sto s8 => ⟨?_, Hv7, s8⟩⟩) fun _ s8 ⟨σ8, H8, I8, sto, Hv8, s8s⟩ => ?_
        · have sw := stored_wipe σ vs
          exact ⟨sto.1.trans sw.1, fun j nj => (sto.2 j fun m => nj (ht j m)).trans (sw.2 j nj)⟩
        -- the turn's end
        have fin : ∀ {s' : Shared} {H' : Hp} {Hv' : Hp} {acc' : List D} {Γ' : Env}, Inv ((X.blk s3 H3 scope ce fp).wish (notedBy (model X.prog X.w) X.A ce fun e s' => zPost (model X.prog X.w) X.A X.xe use Qf (.ref L) ce (.error e) s')) ([] ++ pinsAt fp s7.heap) σ8 H' s' → acc'.length ≤ i + 1 →
            (Cz.mk X.K F C.ro (wipe σ vs) (fun cls d _ H' => W cls d σ H') σ8).S Hv' H' ((.lst acc', some (.ref L)) :: (ot vs p.2 σ ++ (wt ++ tp))) Γ' →
            (lcL f r Γ').sat (fun z => (Cz.mk X.K F C.ro us W σ).ok tp Q (.lst (acc' ++ z.1), backs z.2 p.2 vs)) (fun c G => (Cz.mk X.K F C.ro us W σ).exq tp c (backs G p.2 vs)) →
            ∃ m, m < p.1.length - i ∧ ∃ i' H'' Hv'' Γ'' acc'', m = p.1.length - i' ∧ i' ≤ p.1.length ∧ acc''.length ≤ i' ∧ Inv ((X.blk s3 H3 scope ce fp).wish (notedBy (model X.prog X.w) X.A ce fun e s' => zPost (model X.prog X.w) X.A X.xe use Qf (.ref L) ce (.error e) s')) [] (wipe σ vs) H'' s' ∧ tn i' s'.heap ∧ (∀ b ∈ fp, H'' b = none) ∧
              (Cz.mk X.K F C.ro (wipe σ vs) (fun cls d _ H' => W cls d σ H') (wipe σ vs)).S Hv'' H'' ((.lst acc'', some (.ref L)) :: (ot vs p.2 σ ++ (wt ++ tp))) (holes Γ'' vs) ∧
              (lcL f (p.1.drop i') Γ'').sat (fun z => (Cz.mk X.K F C.ro us W σ).ok tp Q (.lst (acc'' ++ z.1), backs z.2 p.2 vs)) (fun c G => (Cz.mk X.K F C.ro us W σ).exq tp c (backs G p.2 vs)) := fun {s' H' Hv' acc' Γ'} I' ha' s' q' => by
          have pin' : ∀ b ∈ fp, ∀ o, s7.heap.get? b = some o → _ ∧ H' b = none := fun b hb o e =>
            let z := I'.pin (b, o) (List.mem_append_right _ (List.mem_append_right _ (mem_pinsAt hb e)))
            ⟨z.1, z.2.1⟩
          have hw : wipe σ8 vs = wipe σ vs := wipe_stored sto
          have sS := S_wipe s' vs (fun cls d _ H' => W cls d σ H')
          rw [hw] at sS
          refine ⟨p.1.length - (i + 1), by omega, i + 1, H', Hv', Γ', acc', rfl, hlt, ha', (I'.unpinned (pins := [])).weak (by rw [wipe_length, sto.1]) (fun j v e => ?_), T.keep _ _ _ st7 fun b hb o e => (pin' b hb o e).1, fun b hb => ?_, sS, by rw [← e2]; exact q'⟩
          · rw [← hw] at e
            exact (wipe_some e).1
          · obtain ⟨o, e, _⟩ := T.obj _ _ st7 b hb
            exact (pin' b hb o e).2
        refine thn (pt.run _ s8 σ8 H8 (fun b H9 => ∃ (q : Bool × Env) (Hv9 : Hp), q.1 = b ∧ (Cz.mk X.K F C.ro (wipe σ vs) (fun cls d _ H' => W cls d σ H') σ8).S Hv9 H9 ((.lst acc, some (.ref L)) :: (ot vs p.2 σ ++ (wt ++ tp))) q.2 ∧
          (if q.1 then (toD (ev C ze q.2)).bind fun y => R.ok ([y.1], y.2) else R.ok ([], q.2)).sat (fun a => ((lcL f r a.2).bind fun q => R.ok (a.1 ++ q.1, q.2)).sat (fun z => (Cz.mk X.K F C.ro us W σ).ok tp Q (.lst (acc ++ z.1), backs z.2 p.2 vs)) (fun c G => (Cz.mk X.K F C.ro us W σ).exq tp c (backs G p.2 vs))) (fun c G => (Cz.mk X.K F C.ro us W σ).exq tp c (backs G p.2 vs))) I8
          ⟨F, wipe σ vs, Hv8, _, Γ2, s8s, q5.imp (fun q hq Hv9 H9 s9 => ⟨q, Hv9, rfl, s9, hq⟩) fun c G h => exb (pre := [_]) sto h⟩) fun b s9 ⟨H9, I9, q, Hv9, eb, s9s, q9⟩ => ?_
        obtain ⟨q1, q2⟩ := q
        have eb : q1 = b := eb
        subst eb
        have stepA : ∀ {a1 : List D} {a2 : Env}, ((lcL f r a2).bind fun q => R.ok (a1 ++ q.1, q.2)).sat (fun z => (Cz.mk X.K F C.ro us W σ).ok tp Q (.lst (acc ++ z.1), backs z.2 p.2 vs)) (fun c G => (Cz.mk X.K F C.ro us W σ).exq tp c (backs G p.2 vs)) →
            (lcL f r a2).sat (fun z => (Cz.mk X.K F C.ro us W σ).ok tp Q (.lst ((acc ++ a1) ++ z.1), backs z.2 p.2 vs)) (fun c G => (Cz.mk X.K F C.ro us W σ).exq tp c (backs G p.2 vs)) := fun {a1 a2} h => by
          rw [R.sat_bind] at h
          refine h.imp (fun z hz => ?_) fun _ _ h => h
          have hz : (Cz.mk X.K F C.ro us W σ).ok tp Q (.lst (acc ++ (a1 ++ z.1)), backs z.2 p.2 vs) := hz
          rw [← List.append_assoc] at hz
          exact hz
        cases q1 with
        | false =>
          have q9 := stepA (a1 := []) q9
          rw [List.append_nil] at q9
          exact fin I9 (by omega) s9s q9
        | true =>
          have q9 : ((toD (ev C ze q2)).bind fun y => R.ok ([y.1], y.2)).sat _ _ := q9
          rw [R.sat_bind] at q9
          refine thn (pe.run _ s9 σ8 H9 (fun y H10 => ∃ (dy : D × Env) (Hv10 : Hp), (Cz.mk X.K F C.ro (wipe σ vs) (fun cls d _ H' => W cls d σ H') σ8).S Hv10 H10 ((.v dy.1, some y) :: ((.lst acc, some (.ref L)) :: (ot vs p.2 σ ++ (wt ++ tp)))) dy.2 ∧
            (lcL f r dy.2).sat (fun z => (Cz.mk X.K F C.ro us W σ).ok tp Q (.lst ((acc ++ [dy.1]) ++ z.1), backs z.2 p.2 vs)) (fun c G => (Cz.mk X.K F C.ro us W σ).exq tp c (backs G p.2 vs))) I9
            ⟨F, wipe σ vs, Hv9, _, q2, s9s, q9.imp (fun dy hq y Hv10 H10 s10 => ⟨dy, Hv10, s10, stepA hq⟩) fun c G h => exb (pre := [_]) sto h⟩) fun yv s10 ⟨y, H10, I10, r10, dy, Hv10, s10s, q10⟩ => ?_
          have ry := s10s.headV
          obtain ⟨va, hD10, ra, up⟩ := s10s.pop.headL
          refine app_ok (X := ((X.blk s3 H3 scope ce fp).wish (notedBy (model X.prog X.w) X.A ce fun e s' => zPost (model X.prog X.w) X.A X.xe use Qf (.ref L) ce (.error e) s'))) I10 hD10 (by rw [dpAll_length ra]; omega) r10 fun s11 I11 => ?_
          exact fin I11 (by rw [List.length_append]; exact Nat.succ_le_succ ha5) (up _ _ (dpAll_append ra (.cons ry .nil))) q10
    · have w2 := S_wipe (S_wipe w1 vs (fun cls d _ H' => W cls d σ H')) vs (fun cls d _ H' => W cls d σ H')
      rw [wipe_stored (stored_wipe σ vs)] at w2
      exact w2
  exact codeAny_compStart_list loop (T.self X.A 0 _ _ _ st4 loop)
variable {elt tg iter : Expr} {ifs : List Expr} {scope : Scope} {own : List (Str × Nat)} {pos spos py : Pos} {t : Tg} {zi : Z.It} {zc : Oe} {ze : E}
/-- as a value -/
theorem ez_lc (hc : X.calm = true) (hN : X.N.Nodup) (hi : Iz X C W tg iter zi) (ok : BlkOk X.N X.env.scope scope own) (hx : Xw X W) (ht : ∀ i ∈ tgs t, i ∈ own.map (·.2))
    (hg : ∀ (W' : WX) (Xb : Cx), Bk X scope W' Xb → Gz Xb C tg t) (hif : ∀ (W' : WX) (Xb : Cx), Bk X scope W' Xb → Oz Xb C W' ifs zc) (he : ∀ (W' : WX) (Xb : Cx), Bk X scope W' Xb → Dz Xb C W' elt ze)
    (hs : ∀ x, foldedSetIterable iter X.env x = pure x := by intro _; rfl) : Ez X C W (.ListComp elt [⟨tg, iter, ifs, 0⟩] scope pos) (.lc (own.map (·.2)) t zi zc ze) := by
  refine ⟨fun pins s σ H Q I h => ?_⟩
  rw [eval_ListComp]
  refine lc_run hc hN I hi ok hx ht hg hif he hs h fun D ce s' m H' I' q hn f => ⟨m, hn, fun h'' sb => ?_⟩
  obtain ⟨f0, f1, f2, f3, f4, f5⟩ := f
  exact ⟨.ref D, H', I'.turned (t' := s'.toks) (fun b o hb e => (sb.2 b hb).trans e) f0 f1 f3 f4 f5, rfl, q⟩
/-- name = [..] on one line, the name a local -/
theorem sz_setLc {i : Nat} {y : Str} (hc : X.calm = true) (hN : X.N.Nodup) (hy : X.N[i]? = some y) (hyl : X.env.scope.names.lookup y = some .local)
    (hsw : swapsWith (.ListComp elt [⟨tg, iter, ifs, 0⟩] scope pos) (some (.Name y py)) spos.line X.env = pure true) (hi : Iz X C W tg iter zi) (ok : BlkOk X.N X.env.scope scope own) (hx : Xw X W) (ht : ∀ i ∈ tgs t, i ∈ own.map (·.2))
    (hg : ∀ (W' : WX) (Xb : Cx), Bk X scope W' Xb → Gz Xb C tg t) (hif : ∀ (W' : WX) (Xb : Cx), Bk X scope W' Xb → Oz Xb C W' ifs zc) (he : ∀ (W' : WX) (Xb : Cx), Bk X scope W' Xb → Dz Xb C W' elt ze)
    (hs : ∀ x, foldedSetIterable iter X.env x = pure x := by intro _; rfl) : Sz X C W (.Assign [.Name y py] (.ListComp elt [⟨tg, iter, ifs, 0⟩] scope pos) spos) (.set (.v i) (.lc (own.map (·.2)) t zi zc ze)) := by
  refine ⟨fun pins s σ H D I h => ?_⟩
  have h := set_of h
  rw [exec_Assign_Name_used _ _ _ _ hsw]
  refine wpAny_bind (wpAny_standAt (wpAny_bind ?_))
  show wpAny _ X.A (do let _ ← comprehension (.ListComp elt [⟨tg, iter, ifs, 0⟩] scope pos) scope X.env (firstIterPos [⟨tg, iter, ifs, 0⟩] pos) (newList []) false (eval iter X.env) (some (assign (.Name y py) X.env))) _ _ s
  refine wpAny_bind (thn (lc_run (Qf := fun _ s' => SP X pins D .next s') hc hN I hi ok hx ht hg hif he hs h fun L ce s' m H' I' q hn f => ?_) fun _ s' hq => wpAny_pure (wpAny_pure hq))
  show wpAny _ _ (assign (.Name y py) X.env (.ref L)) _ _ _
  refine wpAny_assign_Name (store_ok2 (v := V.ref L) I' hN hy (.inl hyl) rfl (fun s2 I2 ⟨a, sb, ha⟩ => ?_) (.inr hyl))
  obtain ⟨f0, f1, f2, f3, f4, f5⟩ := f
  have haC : ce.locals ≠ a := by
    rcases ha with z | z
    · rw [z]; exact f1
    · exact fun e => f4 y a z e.symm
  refine ⟨m, hn.sameBut sb haC, fun h3 sb3 => ?_⟩
  obtain ⟨F, us, W1, Hv, tp, Γ, o, Γ', s9, e9, q9⟩ := q
  unfold setT at e9
  exact ⟨_, H', I2.turned (t' := s2.toks) (fun b o hb e => (sb3.2 b hb).trans e) f0 f1 f3 f4 f5, q9 _ (by unfold tgs; exact Stored.one) (s9.store e9)⟩
end
end Z
end
section
set_option Elab.async false
set_option linter.all false
set_option maxRecDepth 100000
namespace Z
open PySem PySem.Spec PyProof.Rows L2
theorem dcL_cons {f : D → Env → R ((D × D) × Env)} {d : D} {r : List D} {kvs : List (Key × D)} {Γ : Env} : dcL f (d :: r) kvs Γ = (f d Γ).bind fun p => match keyD p.1.1 with
    | some k => dcL f r (putD kvs k p.1.2) p.2
    | none => .bad := by
  simp only [dcL] <;> rfl
theorem putD_len (kvs : List (Key × D)) (k : Key) (d : D) : (putD kvs k d).length ≤ kvs.length + 1 := by
  unfold putD
  split
  · rw [List.length_map]; omega
  · rw [List.length_append]; simp
theorem nox_sat {α : Type} {r : R α} {p : α → Prop} {q : Exc → Env → Prop} (h : r.nox.sat p q) : r.sat p (fun _ _ => False) := by
  cases r with
  | ok a => exact h
  | ex c G => exact h
  | bad => exact h
section
variable {X : Cx} {C : Cfg} {W : WX} {kx vx tg iter : Expr} {scope : Scope} {own : List (Str × Nat)} {pos : Pos} {t : Tg} {zi : Z.It} {zk ze : E}
theorem takes_wf {X : Cx} : Takes X WF := fun _ _ ⟨_, _, _, _, _, _, _, _, _, _, _, _, _, _, _, _, w⟩ => w.elim
theorem ez_dc (hc : X.calm = true) (hN : X.N.Nodup) (hi : Iz X C WF tg iter zi) (ok : BlkOk X.N X.env.scope scope own) (ht : ∀ i ∈ tgs t, i ∈ own.map (·.2))
    (hg : ∀ (Xb : Cx), Bk X scope WF Xb → Gz Xb C tg t) (hk : ∀ (Xb : Cx), Bk X scope WF Xb → Dz Xb C WF kx zk) (he : ∀ (Xb : Cx), Bk X scope WF Xb → Dz Xb C WF vx ze)
    (hs : ∀ x, foldedSetIterable iter X.env x = pure x := by intro _; rfl) : Ez X C W (.DictComp kx vx [⟨tg, iter, [], 0⟩] scope pos) (.nox (.dc (own.map (·.2)) t zi zk ze)) := by
  have bk : ∀ (s : Shared) (H : Hp) (L : Addr) (cl : List (Str × Addr)) (fp : List Addr), Bk X scope WF (X.blk s H scope (compEnvC scope cl L X.env) fp) := fun s H L cl fp => ⟨s, H, L, cl, fp, fun _ _ => False, rfl, takes_wf⟩
  refine ⟨fun pins s σ H Q I h => ?_⟩
  have hvl : ∀ i ∈ own.map (·.2), i < σ.length := fun i m => by
    obtain ⟨p, hp, rfl⟩ := List.mem_map.mp m
    rw [I.len]
    exact (List.getElem?_eq_some_iff.mp (ok.ix p hp)).1
  refine (pe_dc (vx := vx) (kx := kx) (pos := pos) hc hN hi ok (g := tG X.K C.ro t) (tk := tD X.K C.ro WF fun Γ => toD (ev C zk Γ)) (tv := tD X.K C.ro WF fun Γ => toD (ev C ze Γ)) (fun s H L cl fp => hg _ (bk s H L cl fp)) (fun _ _ _ _ _ => pts_nil) (fun s H L cl fp => hk _ (bk s H L cl fp)) (fun s H L cl fp => he _ (bk s H L cl fp)) hs).run pins s σ H Q I ?_
  generalize own.map (·.2) = vs at h ht hvl
  obtain ⟨F, us, Hv0, tp, Γ, s0, hev⟩ := h
  have e0 : ev C (.nox (.dc vs t zi zk ze)) Γ = ((evI C zi Γ).bind fun q => (dcL (fun d Γ' => opt (setT C.ro (holes Γ' vs) t (.v d)) fun Γ2 =>
      (toD (ev C zk Γ2)).bind fun x => (toD (ev C ze x.2)).bind fun y => .ok ((x.1, y.1), y.2)) q.1 [] (holes q.2 vs)).fin vs q.2 O.dic).nox := by simp only [ev]
  rw [e0] at hev
  have hev := nox_sat hev
  rw [R.sat_bind] at hev
  generalize hf : (fun d Γ' => opt (setT C.ro (holes Γ' vs) t (.v d)) fun Γ2 =>
      (toD (ev C zk Γ2)).bind fun x => (toD (ev C ze x.2)).bind fun y => R.ok ((x.1, y.1), y.2)) = f at hev
  refine ⟨F, us, Hv0, tp, Γ, ⟨s0.si, s0.ro⟩, hev.imp (fun p hq J wt Hv2 H2 wk hlen sw L hL => ?_) fun _ _ h => h.elim⟩
  have hq := fin_sat hq
  have hΓ : σ.length = p.2.length := sw.len
  have hro : ∀ i ∈ C.ro, σ[i]? = us[i]? := sw.ro
  have w0 : (Cz.mk X.K F C.ro us WF σ).S Hv2 (upd H2 L (.dK [])) ((.dic [], some (.ref L)) :: (wt ++ tp)) p.2 := ⟨sw.si.freshD .nil hL, sw.ro⟩
  have w1 : (Cz.mk X.K F C.ro us WF σ).S Hv2 (upd H2 L (.dK [])) ((.dic [], some (.ref L)) :: (ot vs p.2 σ ++ (wt ++ tp))) p.2 := (ot_push w0 vs).perm List.perm_middle
  have w2 := S_wipe (S_wipe w1 vs WF) vs WF
  rw [wipe_stored (stored_wipe σ vs)] at w2
  refine ⟨fun i m H' => m = p.1.length - i ∧ i ≤ p.1.length ∧ ∃ Hv' Γ' kvs, kvs.length ≤ i ∧ (Cz.mk X.K F C.ro (wipe σ vs) WF (wipe σ vs)).S Hv' H' ((.dic kvs, some (.ref L)) :: (ot vs p.2 σ ++ (wt ++ tp))) (holes Γ' vs) ∧
    (dcL f (p.1.drop i) kvs Γ').sat (fun z => (Cz.mk X.K F C.ro us W σ).ok tp Q (.dic z.1, backs z.2 p.2 vs)) (fun _ _ => False), ⟨p.1.length, rfl, Nat.zero_le _, Hv2, holes p.2 vs, [], Nat.zero_le _, w2, hq⟩, ?_⟩
  rintro i m H5 ⟨rfl, hi5, Hv5, Γ5, kvs, ha5, w5, q5⟩
  have ww : (Cz.mk X.K F C.ro (wipe σ vs) WF (wipe σ vs)).S Hv5 H5 (wt ++ ((.dic kvs, some (.ref L)) :: (ot vs p.2 σ ++ tp))) (holes Γ5 vs) := by
    refine w5.perm ?_
    refine List.Perm.trans ?_ List.perm_middle.symm
    refine List.Perm.cons _ ?_
    rw [← List.append_assoc, ← List.append_assoc]
    exact List.perm_append_comm.append_right tp
  have wk5 := wk _ Hv5 H5 _ _ i rfl ww
  cases ed : p.1.drop i with
  | nil =>
    have hil : p.1.length ≤ i := by
      have := congrArg List.length ed
      rw [List.length_drop] at this
      simp at this
      omega
    rw [ed] at q5
    have q5 : (Cz.mk X.K F C.ro us W σ).ok tp Q (.dic kvs, backs Γ5 p.2 vs) := q5
    refine .inl ⟨wk5.2 hil, q5 (.ref L) Hv5 H5 ?_⟩
    have z1 : (Cz.mk X.K F C.ro (wipe σ vs) WF (wipe σ vs)).S Hv5 H5 ([] ++ (ot vs p.2 σ ++ (wt ++ ((.dic kvs, some (.ref L)) :: tp)))) (holes Γ5 vs) := by
      refine w5.perm ?_
      rw [List.nil_append, ← List.append_assoc, ← List.append_assoc]
      exact List.perm_middle.symm
    have z2 := S_back (us := us) (W := W) rfl hro hΓ hvl (stored_wipe σ vs) z1
    rw [backs_holes] at z2
    exact z2.drop
  | cons d r =>
    obtain ⟨e1, e2, hlt⟩ := drop_len ed
    obtain ⟨go, hy⟩ := wk5.1 d e1
    rw [ed, dcL_cons, R.sat_bind] at q5
    have hfe : f d Γ5 = opt (setT C.ro (holes Γ5 vs) t (.v d)) fun Γ2 => (toD (ev C zk Γ2)).bind fun x => (toD (ev C ze x.2)).bind fun y => R.ok ((x.1, y.1), y.2) := by rw [← hf]
    rw [hfe] at q5
    obtain ⟨Γ2, et, q5⟩ := opt_sat q5
    rw [R.sat_bind] at q5
    refine .inr ⟨go, fun H' => ∃ Hv' Γ' kvs', kvs'.length ≤ i + 1 ∧ (Cz.mk X.K F C.ro (wipe σ vs) WF (wipe σ vs)).S Hv' H' ((.dic kvs', some (.ref L)) :: (ot vs p.2 σ ++ (wt ++ tp))) (holes Γ' vs) ∧
      (dcL f (p.1.drop (i + 1)) kvs' Γ').sat (fun z => (Cz.mk X.K F C.ro us W σ).ok tp Q (.dic z.1, backs z.2 p.2 vs)) (fun _ _ => False), fun H' ⟨Hv', Γ', kvs', a1, a2, a3⟩ => ⟨p.1.length - (i + 1), by omega, rfl, hlt, Hv', Γ', kvs', a1, a2, a3⟩, fun x H7 y7 => ?_⟩
    obtain ⟨Hv7, s7s⟩ := hy x H7 y7
    have s7s : (Cz.mk X.K F C.ro (wipe σ vs) WF (wipe σ vs)).S Hv7 H7 ((.v d, some x) :: ((.dic kvs, some (.ref L)) :: (ot vs p.2 σ ++ (wt ++ tp)))) (holes Γ5 vs) := by
      refine s7s.perm (List.Perm.cons _ ?_)
      refine List.perm_middle.trans (List.Perm.cons _ ?_)
      rw [← List.append_assoc, ← List.append_assoc]
      exact List.perm_append_comm.append_right tp
    refine ⟨F, wipe σ vs, WF, Hv7, _, holes Γ5 vs, .v d, Γ2, s7s, et, fun σ8 sto s8 => ?_⟩
    have sto8 : Stored vs σ σ8 := by
      have sw := stored_wipe σ vs
      exact ⟨sto.1.trans sw.1, fun j nj => (sto.2 j fun m => nj (ht j m)).trans (sw.2 j nj)⟩
    have hw : wipe σ8 vs = wipe σ vs := wipe_stored sto8
    refine ⟨hw, ?_⟩
    unfold tYes
    dsimp only
    rw [if_pos rfl]
    refine ⟨F, wipe σ vs, Hv7, _, Γ2, s8, q5.imp (fun xk hq y Hv8 H8 s8 => ?_) fun _ _ h => h.elim⟩
    rw [R.sat_bind] at hq
    refine ⟨F, wipe σ vs, Hv8, _, xk.2, s8, hq.imp (fun xe hq z Hv9 H9 s9 => ?_) fun _ _ h => h.elim⟩
    replace hq : (match keyD xk.1 with | some k => dcL f r (putD kvs k xe.1) xe.2 | none => .bad).sat (fun z => (Cz.mk X.K F C.ro us W σ).ok tp Q (.dic z.1, backs z.2 p.2 vs)) (fun _ _ => False) := hq
    cases ek : keyD xk.1 with
    | none => rw [ek] at hq; exact hq.elim
    | some k =>
      rw [ek] at hq
      have rk := s9.swap.headV
      have rv := s9.headV
      obtain ⟨va, hD, ra, up⟩ := s9.pop2.headK
      refine ⟨va, k, keyD_v rk ek, hD, ?_, ?_⟩
      · rw [kv_len ra]; omega
      · have s10 := up _ _ (kv_put ra (k := k) rv)
        have s11 := S_wipe s10 vs WF
        rw [hw] at s11
        refine ⟨Hv9, xe.2, _, Nat.le_trans (putD_len _ _ _) (Nat.succ_le_succ ha5), s11, ?_⟩
        rw [← e2]
        exact hq
end
end Z
end
section
set_option Elab.async false
set_option linter.all false
set_option maxRecDepth 100000
namespace Z
open PySem PySem.Spec PyProof.Rows L2

/-! ### raise, try -/
/-- X(), X an own exception class without own __init__ -/
theorem pmk_own0 {X : Cx} {C : Addr} {bmB : List Value} {B newId initId : String} {x : Str} {p pos : Pos} (F : ExcBaseFacts B newId initId bmB) (q : PySem.W.excIn X.K C bmB newId = true) (gC : X.mg x = some (.ref C)) (kC : PySem.W.keepIn X.K (.ref C) = true) (r : Raises X (.ref C)) (hg : Gl X x)
    (hdb : (x == ("__debug__" : Str)) = false := by decide) : PMk X (.Call (.Name x p) [] [] pos) (fun _ H Q => Q (.ref C) none H) := by
  intro pins s σ H Q I h
  refine wpAny_Call_Name_kw (ld_glob I hg gC ?_ hdb)
  refine PySem.W.callWith_K0 I.kIn kC ?_
  show wpAny _ _ (call (.ref C) []) _ _ _
  obtain ⟨bm, N, nm, qn, bs, hdct, sn, sub, ab, col, dd, k0, k1, k2, k3, k5, mN, hC, hN, hni, T⟩ := exc_obj I.kIn q
  refine wpAny_call_exc_subT F T hC hN hni (fun h' e hm => ?_) (Nat.zero_le _)
  exact mk_of I hm r h (I.hok.gone hm.new)
section
variable {X : Cx} {C : Cfg} {W : WX} {e : Expr} {zh : E} {pos : Pos}
theorem sz_raise {c : Str} (hc : X.calm = true) (tk : Takes X W) (he : PMk X e (fun _ H Q => Q (.ref (He.ga X.K c)) none H)) : Sz X C W (.Raise (some e) none pos) (.raise c) := (ps_raise hc tk he).imp fun D σ H ⟨F, us, Hv, tp, Γ, s, hs⟩ => by
  simp only [evS] at hs
  exact hs σ _ _ Hv H ⟨rfl, rfl⟩ s
theorem sz_try {x c : Str} {cv : Value} {body : List Stmt} {zb : Ss} {np p1 p2 : Pos} (hs : X.stack = X.env :: X.outer) (hf : X.env.frame = some X.env.locals) (hn : Names X x cv) (tk : Takes X W)
    (hm : ∀ c' r, C.exm c' c = some r → PySem.W.exmOne X.K (.ref (He.ga X.K c')) cv = some r)
    (hb : ∀ (W' : WX) (pn : List (Addr × Obj)) (xe : Value → Shared → Prop), Takes (X.tr pn xe) W' → PassesOwn (model X.prog X.w) X.A X.env xe → Ssz (X.tr pn xe) C W' body zb)
    (he : ∀ (a : Addr) (oe : Obj) (pn : List (Addr × Obj)), Ez (X.suite a ((a, oe) :: pn)) C WF e zh) :
    Sz X C W (.Try body [.ExceptHandler (some (.Name x np)) none [.Return (some e) p1] p2] [] [] pos) (.try_ zb c zh) := by
  refine (ps_try_only (tb := fun W' => tS X.K C.ro W' (evSs C zb)) (ts := fun _ _ _ => tS X.K C.ro WF (fun Γ => ((ev C zh Γ).nox).out fun p => .rt p.1 p.2)) hs hf hn tk (fun W' pn xe h1 h2 => hb W' pn xe h1 h2) (fun a oe cls d pn _ _ => ?_)).imp fun D σ H ⟨F, us, Hv, tp, Γ, s, hs⟩ => ?_
  · refine pss_one ((ps_ret (he a oe pn)).imp fun D σ H ⟨F, us, Hv, tp, Γ, s, hs⟩ => ?_)
    refine ⟨F, us, Hv, tp, Γ, s, ?_⟩
    have hs := out_sat (σ := σ) hs
    exact (nox_sat hs).imp (fun p hq v Hv1 H1 s1 => hq σ v Hv1 H1 s1) fun _ _ h => h.elim
  · simp only [evS] at hs
    refine ⟨F, us, Hv, tp, Γ, ⟨s.si, s.ro⟩, ?_⟩
    have sw : ∀ {W W' : WX} {σ : L2.St} {Hv H : Hp} {tp : List (O × Option V)} {Γ : Env}, (Cz.mk X.K F C.ro us W σ).S Hv H tp Γ → (Cz.mk X.K F C.ro us W' σ).S Hv H tp Γ := fun s => ⟨s.si, s.ro⟩
    cases q : evSs C zb Γ with
    | nx G => rw [q] at hs; exact fun σ Hv H s => hs σ Hv H (sw s)
    | rt o G => rw [q] at hs; exact fun σ v Hv H s => hs σ v Hv H (sw s)
    | bk G => rw [q] at hs; exact fun σ Hv H s => hs σ Hv H (sw s)
    | ct G => rw [q] at hs; exact fun σ Hv H s => hs σ Hv H (sw s)
    | bad => rw [q] at hs; exact hs
    | ex c' G =>
      rw [q] at hs
      intro σ' cls d Hv' H' hx s'
      obtain ⟨rfl, rfl⟩ := hx
      unfold Out.catch at hs
      dsimp only at hs
      cases qm : C.exm c' c with
      | none => rw [qm] at hs; exact hs.elim
      | some r =>
        rw [qm] at hs
        refine ⟨r, hm c' r qm, fun er a ha => ?_, fun er => ?_⟩
        · subst er
          refine ⟨F, us, Hv', tp, G, sw s', ?_⟩
          cases q2 : (ev C zh G).nox with
          | ok p =>
            have hs : outS X.K F C.ro us W tp D (((ev C zh G).nox).out fun p => .rt p.1 p.2) := hs
            rw [q2] at hs
            show outS X.K F C.ro us WF tp D (((ev C zh G).nox).out fun p => .rt p.1 p.2)
            rw [q2]
            exact fun σ v Hv H s => hs σ v Hv H (sw s)
          | ex c2 G2 => cases q3 : ev C zh G with
            | ok p => rw [q3] at q2; cases q2
            | ex _ _ => rw [q3] at q2; cases q2
            | bad => rw [q3] at q2; cases q2
          | bad =>
            have hs : outS X.K F C.ro us W tp D (((ev C zh G).nox).out fun p => .rt p.1 p.2) := hs
            rw [q2] at hs
            exact hs.elim
        · subst er
          have hs : exS X.K F C.ro us W tp c' G := hs
          exact hs σ' _ _ Hv' H' ⟨rfl, rfl⟩ (sw s')
end

/-! ### a def's promise -/
theorem rpl_holes {K : PySem.W.Frag} {Hv H : Hp} : ∀ n : Nat, RpL K Hv H (List.replicate n .hole) (List.replicate n none) []
  | 0 => ⟨rfl, rfl⟩
  | n + 1 => ⟨none, _, [], [], rfl, rfl, .inl ⟨rfl, rfl⟩, rpl_holes n⟩
theorem outs_rpl {K : PySem.W.Frag} {Hv H : Hp} {io : List Nat} : ∀ {n k : Nat} {G : Env} {τ : L2.St} {ws : List V} {as : List Addr}, RpL K Hv H G τ as → ws.length = n → (∀ j, j < n → k + j ∈ io → τ[j]? = (ws.map some)[j]?) →
    ∃ bs : List Addr, bs.Sublist as ∧ RpL K Hv H (outsA io k n G) (ws.map some) bs
  | 0, k, G, τ, ws, as, h, hl, hi => by
    cases ws with
    | nil => exact ⟨[], List.nil_sublist _, by unfold outsA; exact ⟨rfl, rfl⟩⟩
    | cons _ _ => simp at hl
  | n + 1, k, G, τ, [], as, h, hl, hi => by simp at hl
  | n + 1, k, [], τ, w :: ws, as, h, hl, hi => by
    obtain ⟨e1, e2⟩ := h
    subst e1 e2
    obtain ⟨bs, b1, b2⟩ := outs_rpl (n := n) (k := k + 1) (G := []) (τ := []) (ws := ws) (as := []) ⟨rfl, rfl⟩ (by simpa using hl) (fun j hj m => by
      have z := hi (j + 1) (by omega) (by rw [show k + (j + 1) = k + 1 + j from by omega]; exact m)
      simpa using z)
    refine ⟨bs, b1, ?_⟩
    unfold outsA
    exact ⟨some w, ws.map some, [], bs, rfl, rfl, .inl ⟨rfl, rfl⟩, b2⟩
  | n + 1, k, o :: G, τ, w :: ws, as, h, hl, hi => by
    obtain ⟨s, r, a, b, e1, e2, h1, h2⟩ := h
    subst e1 e2
    obtain ⟨bs, b1, b2⟩ := outs_rpl (n := n) (k := k + 1) (ws := ws) h2 (by simpa using hl) (fun j hj m => by
      have z := hi (j + 1) (by omega) (by rw [show k + (j + 1) = k + 1 + j from by omega]; exact m)
      simpa using z)
    unfold outsA
    by_cases q : k ∈ io
    · rw [if_pos q]
      have z := hi 0 (Nat.succ_pos _) q
      have es : s = some w := by simpa using z
      subst es
      exact ⟨a ++ bs, b1.append_left a, some w, ws.map some, a, bs, rfl, rfl, h1, b2⟩
    · rw [if_neg q]
      exact ⟨bs, b1.trans (List.sublist_append_right a b), some w, ws.map some, [], bs, rfl, rfl, .inl ⟨rfl, rfl⟩, b2⟩
theorem outs_si {K : PySem.W.Frag} {F : Fr0} {Hv H : Hp} {io : List Nat} {tp : List (O × Option V)} {G : Env} {σ : L2.St} {ws : List V} (h : SI K F Hv H (tp.map (·.1) ++ G) (tp.map (·.2) ++ σ)) (hi : ∀ j, j < ws.length → j ∈ io → σ[j]? = (ws.map some)[j]?) :
    SI K F Hv H (tp.map (·.1) ++ outs io ws.length G) (tp.map (·.2) ++ ws.map some) := by
  obtain ⟨as, r, w⟩ := h
  obtain ⟨s1, s2, a1, a2, e1, e2, r1, r2⟩ := r.split
  subst e2
  have l1 := r1.length
  obtain ⟨rfl, rfl⟩ := List.append_inj e1 (by rw [l1]; simp)
  obtain ⟨bs, b1, b2⟩ := outs_rpl (io := io) (k := 0) (ws := ws) r2 rfl (fun j hj m => hi j hj (by simpa using m))
  exact ⟨a1 ++ bs, r1.append b2, w.sublist (b1.append_left a1)⟩
theorem fn_step {P : Prog} {n f : Nat} {d : Fn} {Pr : Program} {w : World} {K : PySem.W.Frag} {mg : Str → Option Value} {base : Heap} {x qual : Str} {params : Arguments} {body : List Stmt} {scope : Scope} {dvs : List V} {kws : List (Str × V)} {fa : Addr} {fd : FuncData} {N ps : List Str}
    (hd : P.fns[f]? = some d) (FD : FunD K x qual params body scope dvs kws fa fd) (S : FnScope N ps scope) (har : d.arity = ps.length) (hn : d.n = N.length) (hio : d.io.all (· < d.arity) = true)
    (hbody : ∀ (cdv : Value) (A : Around) (outer : List PySem.Env) (s : Shared) (H : Hp) (E : XK), Room (3 * n + 2) (A.deeper (envOfC qual scope s.heap.objs.size fa cdv)) →
      Ssz (cxOf (L2.CX Pr w) Pr w K mg base N qual scope fa cdv A outer s H E) ⟨callN P n, P.glob, d.io, P.fuel, P.exm⟩ (fun cls dd _ H => E cls dd H) body d.body) :
    FnOk Pr w K mg base (L2.CX Pr w) (3 * (n + 1)) fa fd ps (SpC K ps.length (callN P (n + 1) f)) := by
  refine FunD.ok (k := 3 * n + 2) FD S (fun vs H Q E h => h.1) fun cdv A outer s H vs Q E hr hsp => ⟨_, hbody cdv A outer s H E hr, ?_⟩
  obtain ⟨hl, Hv, os, as, r0, w0, hcase⟩ := hsp
  have hol : os.length = vs.length := by
    have z := r0.length
    rw [List.length_map] at z
    exact z.symm
  have hpl : ps.length ≤ N.length := by
    have z := congrArg List.length S.pre
    rw [List.length_take] at z
    omega
  have e0 : callN P (n + 1) f os = (evSs ⟨callN P n, P.glob, d.io, P.fuel, P.exm⟩ d.body (padTo d.n os)).res d.io d.arity := by
    unfold callN
    rw [hd]
    dsimp only
    rw [if_pos ⟨by omega, by omega, hio⟩]
  rw [e0] at hcase
  have e1 : padTo d.n os = os ++ List.replicate (N.length - vs.length) .hole := by unfold padTo; rw [hn, hol]
  have S0 : (Cz.mk K ⟨H, Hv, as⟩ d.io (start N vs) (fun cls dd _ H => E cls dd H) (start N vs)).S Hv H [] (padTo d.n os) := by
    refine ⟨⟨as ++ [], ?_, by rw [List.append_nil]; exact w0⟩, fun _ _ => rfl⟩
    rw [e1]
    exact r0.append (rpl_holes _)
  refine ⟨⟨H, Hv, as⟩, start N vs, Hv, [], padTo d.n os, S0, ?_⟩
  have hst : ∀ j, j < vs.length → (start N vs)[j]? = (vs.map some)[j]? := fun j hj => by
    unfold L2.start
    rw [List.getElem?_append_left (by simpa using hj)]
  have fin : ∀ {tp : List (O × Option V)} {G : Env} {σ : L2.St} {Hv' H' : Hp}, (Cz.mk K ⟨H, Hv, as⟩ d.io (start N vs) (fun cls dd _ H => E cls dd H) σ).S Hv' H' tp G → SI K ⟨H, Hv, as⟩ Hv' H' (tp.map (·.1) ++ outs d.io d.arity G) (tp.map (·.2) ++ vs.map some) := fun {tp G σ Hv' H'} s => by
    have z := outs_si (io := d.io) (ws := vs) s.si fun j hj m => (s.ro j m).trans (hst j hj)
    rw [show vs.length = d.arity from by omega] at z
    exact z
  cases q : evSs ⟨callN P n, P.glob, d.io, P.fuel, P.exm⟩ d.body (padTo d.n os) with
  | nx G =>
    rw [q] at hcase
    intro σ Hv' H' s'
    have z := fin s'
    exact hcase .non Hv' H' (SI.pushV z .non)
  | rt o G =>
    rw [q] at hcase
    intro σ v Hv' H' s'
    exact hcase v Hv' H' (fin s')
  | bk G => rw [q] at hcase; exact hcase.elim
  | ct G => rw [q] at hcase; exact hcase.elim
  | ex c G =>
    rw [q] at hcase
    intro σ cls dd Hv' H' hx s'
    exact hcase cls dd Hv' H' hx (fin s')
  | bad => rw [q] at hcase; exact hcase.elim
theorem fn_zero {P : Prog} {f : Nat} {Pr : Program} {w : World} {K : PySem.W.Frag} {mg : Str → Option Value} {base : Heap} {CX : CXT} {k : Nat} {fa : Addr} {fd : FuncData} {ps : List Str} : FnOk Pr w K mg base CX k fa fd ps (SpC K ps.length (callN P 0 f)) :=
  ⟨fun vs H Q E h => h.1, fun A outer s H args us vs Q E _ _ _ _ h => by
    obtain ⟨_, _, _, _, _, _, z⟩ := h
    exact z.elim⟩
theorem callN_len {P : Prog} {n f : Nat} {d : Fn} (hd : P.fns[f]? = some d) {os : List O} (h : callN P n f os ≠ .bad) : os.length = d.arity := by
  cases n with
  | zero => exact absurd rfl h
  | succ n =>
    unfold callN at h
    rw [hd] at h
    dsimp only at h
    split at h
    · rename_i q; exact q.1
    · exact absurd rfl h
end Z
end
section
set_option Elab.async false
set_option linter.all false
set_option maxRecDepth 100000
namespace Z
open PySem PySem.Spec PyProof.Rows L2

/-! ### sorted -/
theorem alikeTo_all {d : D} : ∀ {xs : List D}, alikeTo d xs = true → ∀ e ∈ xs, PySem.W.alike d e = true ∧ PySem.W.alike e d = true
  | [], _, e, m => by cases m
  | x :: xs, h, e, m => by
    unfold alikeTo at h
    simp only [Bool.and_eq_true] at h
    rcases List.mem_cons.mp m with q | q
    · subst q; exact h.1
    · exact alikeTo_all h.2 e q
theorem pair_all : ∀ {xs : List D}, pairAlike xs = true → PySem.W.AllAlike xs
  | [], _, d, m, _, _ => by cases m
  | x :: xs, h, d, m, d', m' => by
    unfold pairAlike at h
    simp only [Bool.and_eq_true] at h
    have ih := pair_all h.2
    rcases List.mem_cons.mp m with q | q
    · subst q
      rcases List.mem_cons.mp m' with r | r
      · subst r; exact h.1.1
      · exact (alikeTo_all h.1.2 d' r).1
    · rcases List.mem_cons.mp m' with r | r
      · subst r; exact (alikeTo_all h.1.2 d q).2
      · exact ih d q d' r
theorem sortOk_all {xs : List D} (h : sortOk xs = true) : PySem.W.AllAlike xs ∧ PySem.W.Sortable xs ∧ ∀ d ∈ xs, d.depth ≤ 60 := by
  unfold sortOk at h
  simp only [Bool.and_eq_true, Bool.or_eq_true, List.all_eq_true] at h
  refine ⟨pair_all h.1.1, ?_, fun d m => of_decide_eq_true (h.2 d m)⟩
  rcases h.1.2 with z | z
  · refine .inl fun d m => ?_
    have := z d m
    cases d with
    | tuple l =>
      cases l with
      | nil => cases this
      | cons x r => exact ⟨x, r, rfl⟩
    | _ => cases this
  · refine .inr fun d m => ?_
    have := z d m
    cases d with
    | none => cases this
    | tuple l => cases this
    | _ => exact ⟨(fun e => nomatch e), (fun xs e => nomatch e)⟩
/-- values that stand for values of ours -/
theorem each_vals {K : PySem.W.Frag} {G : Hp} : ∀ {us : List Value} {ds : List D}, PySem.W.EachIs (fun u d => ∃ v, RelV v u ∧ Dp K G v d) us ds → ∃ vs, Vals vs us ∧ DpAll K G vs ds
  | _, _, .nil => ⟨[], .nil, .nil⟩
  | _, _, .cons ⟨v, r, h⟩ t => by
    obtain ⟨vs, r2, h2⟩ := each_vals t
    exact ⟨v :: vs, .cons r r2, .cons h h2⟩
theorem vals_each {K : PySem.W.Frag} {G : Hp} : ∀ {vs : List V} {us : List Value} {ds : List D}, Vals vs us → DpAll K G vs ds → PySem.W.EachIs (fun u d => ∃ v, RelV v u ∧ Dp K G v d) us ds
  | _, _, _, .nil, .nil => .nil
  | _, _, _, .cons r t, .cons h t' => .cons ⟨_, r, h⟩ (vals_each t t')
section
variable {X : Cx}
theorem zc_sorted (hu : Rm X) : CallR X (.builtin "sorted") (rc X.K fSorted) := by
  intro pins s σ H xs us Q I rs ⟨x, e, Hv, a, o, k, hx, hf, q⟩
  subst e
  unfold fSorted at hf
  split at hf
  · rename_i ds
    split at hf
    · rename_i hok
      cases hf
      obtain ⟨h1, h2, h3⟩ := sortOk_all hok
      obtain ⟨l, vs, rfl, hl, r⟩ := hx.list k
      rw [Vals.ref1 rs]
      obtain ⟨its, rv, pl, hz⟩ := I.list hl
      have hlen := dpAll_length r
      have e0 := vals_each rv r
      refine PySem.W.sorted_data (enc := id) (R := fun u d => ∃ v, RelV v u ∧ Dp X.K Hv v d) pl.isList e0 (e0.mono fun u d ⟨v, r1, r2⟩ => Dp.reads I d v u (k.dp r2) r1) (by rw [List.map_id]; exact h1) (by rw [List.map_id]; exact h2) (by rw [← hlen]; exact hz)
        (fun d m => ?_) fun out ol oe => ?_
      · have := h3 d m
        unfold Rm at hu
        show X.A.units + 2 + d.depth < cLine
        omega
      · obtain ⟨ws, w1, w2⟩ := each_vals oe
        obtain ⟨ep, he'⟩ := PyProof.Rows.sortedAll_at s.heap its (List.toArray out)
        have hl2 : ws.length ≤ sizeLine := by
          rw [dpAll_length w2, (List.mergeSort_perm _ _).length_eq, ← hlen]; exact hz
        exact ⟨.ref _, upd H (s.heap.objs.size + 1) (.lst ws), I.laid (t' := s.toks) (fun _ _ => PyProof.Rows.sortedAll_old) (Nat.le_succ _) ⟨hl2, out, ep, w1, he'⟩, rfl, q _ _ (.lst w2 (I.hok.fresh (Nat.le_succ _)))⟩
    · cases hf
  · cases hf
end

/-! ### sorted by a key -/
section
variable {X : Cx} {pins : List (Addr × Obj)} {σ : L2.St} {H : Hp} {s : Shared}
/-- records of ours have turned, one of them is tracked now -/
theorem inv_adopt {h' : Heap} {t' : Nat} {ch : List Addr} {T : Addr} {ob : HO} (I : Inv X pins σ H s) (k : ∀ b o, b ∉ ch → s.heap.get? b = some o → h'.get? b = some o) (hf : ∀ b ∈ ch, FpOk X pins H b) (hT : T ∈ ch)
    (new : ObjOk X.prog X.w (upd H T ob) h' T ob) : Inv X pins σ (upd H T ob) { s with heap := h', toks := t' } := by
  have hn : H T = none := (hf T hT).1
  have nit : ∀ b u, H b = some u → b ∉ ch := fun b u e z => by
    have q := (hf b z).1
    rw [q] at e; cases e
  refine I.step (g' := s.gens) (d' := s.drawn) (ch := ch) (fun b hb => ⟨(hf b hb).2.2.2.1, (hf b hb).2.1, (hf b hb).2.2.2.2.1, (hf b hb).2.2.2.2.2⟩) (fun b o _ _ hc e _ => k b o hc e) (fun b o _ _ hc e _ => ⟨o.slots, k b o hc e⟩)
    (fun b o hc e n => ?_) (fun b o hc e => ⟨o, k b o hc e⟩) (fun b xs e => ?_) (fun b o u e => ?_) (fun b ps e => ⟨#[], ?_⟩) (fun m hm => ?_) (fun b u e => ?_) I.bare
  · rw [upd_ne (fun z => hc (by rw [z]; exact hT))]; exact n
  · rw [upd_ne (ne_of_none e hn)]; exact e
  · rw [upd_ne (ne_of_none e hn)]; exact e
  · rw [upd_ne (ne_of_none e hn), e]; simp
  · obtain ⟨o, es, ep, ho, r⟩ := hm
    exact ⟨o, es, ep, k _ o (fun z => (hf _ z).2.1 rfl) ho, r⟩
  · by_cases hb : b = T
    · subst hb
      rw [upd_same] at e
      cases e
      exact new
    · rw [upd_ne hb] at e
      refine (I.hok b u e).stay (fun c v hc q => k c v ?_ q) (fun c q => by rw [upd_ne (ne_of_none q hn)]; exact q) fun c xs q => by rw [upd_ne (ne_of_none q hn)]; exact q
      rcases hc with z | z
      · rw [z]; exact nit b u e
      · exact nit c _ z
end
theorem zT_dp {c : Cz} {Hv H : Hp} {Γ : Env} : ∀ {ds : List D} {vs : List V} {tp : List (O × Option V)}, vs.length = ds.length → c.S Hv H (zT (ds.map .v) vs ++ tp) Γ → DpAll c.K Hv vs ds
  | [], [], _, _, _ => .nil
  | d :: ds, v :: vs, tp, hl, s => by
    have s : c.S Hv H ((.v d, some v) :: (zT (ds.map .v) vs ++ tp)) Γ := s
    exact .cons s.headV (zT_dp (by simpa using hl) s.pop)
  | [], _ :: _, _, hl, _ => by simp at hl
  | _ :: _, [], _, hl, _ => by simp at hl
theorem keysOf_get {k : D → Option D} : ∀ {xs ks : List D}, keysOf k xs = some ks → ks.length = xs.length ∧ ∀ (i : Nat) (x : D), xs[i]? = some x → ∃ y, ks[i]? = some y ∧ k x = some y
  | [], ks, h => by
    cases h
    exact ⟨rfl, fun i x e => by simp at e⟩
  | x :: xs, ks, h => by
    unfold keysOf at h
    cases e1 : k x with
    | none => rw [e1] at h; cases h
    | some y =>
      cases e2 : keysOf k xs with
      | none => rw [e1, e2] at h; cases h
      | some ys =>
        rw [e1, e2] at h
        cases h
        obtain ⟨l, g⟩ := keysOf_get e2
        refine ⟨congrArg Nat.succ l, fun i z e => ?_⟩
        cases i with
        | zero =>
          have e : some x = some z := e
          cases e
          exact ⟨y, rfl, e1⟩
        | succ i => exact g i z (by simpa using e)
section
variable {X : Cx} {C : Cfg} {W : WX} {e : Expr} {z : E} {p0 pos kpos kp : Pos} {kx : Str}
theorem key_run {k f : Nat} {fa : Addr} {fd : FuncData} {ps : List Str} {pins : List (Addr × Obj)} {s : Shared} {σ : L2.St} {H : Hp} {l : Addr} {xs ks : List D} {F0 : Fr0} {ro : List Nat} {us0 : L2.St} {W0 : WX} {Hv : Hp} {tp : List (O × Option V)} {Γ : Env} {Q : VK}
    (F : FnOk X.prog X.w X.K X.mg X.base (L2.CX X.prog X.w) k fa fd ps (SpC X.K ps.length (C.call f))) (hp1 : ps.length = 1) (hb : Binds X.K fd ps []) (hr : Room (k + 2) X.A)
    (I : Inv X pins σ H s) (st : (Cz.mk X.K F0 ro us0 W0 σ).S Hv H ((.v (.list xs), some (.ref l)) :: tp) Γ) (hk : keysOf (fun d => keyR (C.call f [.v d])) xs = some ks) (hok : sortOk ks = true)
    (hQ : ∀ v Hv H, (Cz.mk X.K F0 ro us0 W0 σ).S Hv H ((.lst (((xs.zip ks).mergeSort (PySem.W.dataLe false (·.2))).map (·.1)), some v) :: tp) Γ → Q v H) :
    wpAny (model X.prog X.w) X.A (call (.builtin "sorted") [.ref l] [(Str.ofString "key", .ref fa)]) (EP X pins σ Q) X.xe s := by
  obtain ⟨hal, hsk, hdp⟩ := sortOk_all hok
  obtain ⟨hkl, hkg⟩ := keysOf_get hk
  have hd : Dp X.K Hv (.ref l) (.list xs) := st.headV
  obtain ⟨l', vs, el, hl, r⟩ := Sh.list (H := H) (.inl hd) st.sub
  cases el
  obtain ⟨its, rv, pl, hz⟩ := I.list hl
  have hlen := dpAll_length r
  have rvl := rv.length
  have hu : X.A.units + 200 < cLine := by have := hr.un; omega
  have hZ : its.length ≤ sizeLine := by rw [← rvl]; exact hz
  refine PySem.W.sorted_of_sort pl.isList hZ (ksk_s1 _ _) (fun _ => ksk_l1 _ _) fun E' => ?_
  rw [ksk_t1]
  generalize ha : s.heap.objs.size + 1 = a
  have ho : (PySem.W.copyHeap s.heap its).get? a = some (seqObj "list" its.toArray 0) := by rw [← ha]; exact PySem.W.copyHeap_at _ _
  have aSz : a < (PySem.W.copyHeap s.heap its).objs.size := Heap.lt_size ho
  obtain ⟨e1, ho1⟩ : ∃ e1, ((PySem.W.copyHeap s.heap its).update a (Obj.mapSeq fun _ => (#[] : Array Value))).get? a = some (seqObj "list" #[] e1) := ⟨_, get?_update_seq ho fun _ => #[]⟩
  have hkS : (((PySem.W.copyHeap s.heap its).update a (Obj.mapSeq fun _ => (#[] : Array Value))).push (seqObj "tuple" its.toArray 0)).objs.size = (PySem.W.copyHeap s.heap its).objs.size + 1 := by rw [size_push', Heap.size_update]
  unfold ksk_tree
  refine wpAny_bind (listItems_at ho rfl ?_)
  refine wpAny_bind (listUpdate_at ho rfl ?_ (by rw [List.size_toArray]; exact hZ) (Nat.zero_le _))
  refine wpAny_bind (seqEpoch_at ho1 rfl ?_)
  refine wpAny_bind (wpAny_newTuple ?_ (by show its.length ≤ _; exact hZ))
  refine wpAny_bind (wpAny_newList ?_ (Nat.zero_le _))
  refine wpAny_holding ?_
  have kp0 : ∀ b o, s.heap.get? b = some o → ((((PySem.W.copyHeap s.heap its).update a (Obj.mapSeq fun _ => (#[] : Array Value))).push (seqObj "tuple" its.toArray 0)).push (seqObj "list" #[] 0)).get? b = some o := fun b o q => by
    rw [← ha]; exact PySem.W.sorting_copy_old q
  generalize hkSe : (((PySem.W.copyHeap s.heap its).update a (Obj.mapSeq fun _ => (#[] : Array Value))).push (seqObj "tuple" its.toArray 0)).objs.size = kS
  have nk0 : ((((PySem.W.copyHeap s.heap its).update a (Obj.mapSeq fun _ => (#[] : Array Value))).push (seqObj "tuple" its.toArray 0)).push (seqObj "list" #[] 0)).get? kS = some (seqObj "list" #[] 0) := by rw [← hkSe]; exact Heap.get?_push_size _ rfl
  have na0 : ((((PySem.W.copyHeap s.heap its).update a (Obj.mapSeq fun _ => (#[] : Array Value))).push (seqObj "tuple" its.toArray 0)).push (seqObj "list" #[] 0)).get? a = some (seqObj "list" #[] e1) := Heap.get?_push_of_some _ (Heap.get?_push_of_some _ ho1)
  generalize hB : (((PySem.W.copyHeap s.heap its).update a (Obj.mapSeq fun _ => (#[] : Array Value))).push (seqObj "tuple" its.toArray 0)).push (seqObj "list" #[] 0) = hp0 at kp0 nk0 na0
  have hka : kS ≠ a := by rw [← hkSe, hkS]; omega
  have leA : s.heap.objs.size ≤ a := by omega
  have leK : s.heap.objs.size ≤ kS := by rw [← hkSe, hkS]; omega
  have fA : FpOk X pins H a := I.fpOk leA (I.hok.fresh leA)
  have fK : FpOk X pins H kS := I.fpOk leK (I.hok.fresh leK)
  have I0 : Inv X pins σ H { s with heap := hp0 } := I.kept (t' := s.toks) kp0
  have st0 : (Cz.mk X.K F0 ro us0 W0 σ).S Hv H (zT (xs.map .v) vs ++ tp) Γ := dflt_S r st.pop
  -- a's record is pinned
  have pinA : ∀ {H' : Hp} {s' : Shared}, Inv X pins σ H' s' → s'.heap.get? a = some (seqObj "list" #[] e1) → H' a = none → Inv X (pins ++ [(a, seqObj "list" #[] e1)]) σ H' s' := fun {H' s'} J e n => J.pins_of fun p hp => by
    rcases List.mem_append.mp hp with hp | hp
    · exact J.pin p (List.mem_append_right _ hp)
    · have : p = (a, seqObj "list" #[] e1) := by simpa using hp
      subst this
      exact ⟨e, n, fA.2.1, fA.2.2.1, fun v q => nomatch q⟩
  unfold ksk_rest
  refine wpAny_bind (wpAny_rule ?_)
  first
    | rw [List.forIn_toArray]
    | (rw [← Array.forIn_toList]; simp only [List.toList_toArray])
    | rw [← Array.forIn_toList]
  refine wpAny_bind (ksk_fold (fun i s' => ∃ H' Hv' kvs kA ek, Inv X (pins ++ [(a, seqObj "list" #[] e1)]) σ H' s' ∧ H' kS = none ∧ s'.heap.get? kS = some (seqObj "list" kA ek) ∧ kvs.length = (ks.take i).length ∧ Vals kvs kA.toList ∧
    (Cz.mk X.K F0 ro us0 W0 σ).S Hv' H' (zT ((ks.take i).map .v) kvs ++ (zT (xs.map .v) vs ++ tp)) Γ) its 0 _ ⟨H, Hv, [], #[], 0, pinA I0 na0 fA.1, fK.1, nk0, rfl, .nil, st0⟩ ?step ?done)
  case step =>
    rintro j x s' hx ⟨H', Hv', kvs, kA, ek, J, nK, nk, hkvl, rk, sj⟩
    simp only [Nat.zero_add] at hkvl sj ⊢
    have hj : j < its.length := (List.getElem?_eq_some_iff.mp hx).1
    have hjx : j < xs.length := by omega
    have hjk : j < ks.length := by omega
    obtain ⟨y, hy, hky⟩ := hkg j xs[j] (List.getElem?_eq_getElem hjx)
    have rr := zT_dp (c := Cz.mk X.K F0 ro us0 W0 σ) (by omega : vs.length = xs.length) sj.drop
    obtain ⟨vj, hvj, dj⟩ := dpAll_get rr (List.getElem?_eq_getElem hjx)
    obtain ⟨u', hu', rj⟩ := rv.get hvj
    rw [hx] at hu'
    cases hu'
    -- the keys' list is pinned, too
    have J2 : Inv X ((pins ++ [(a, seqObj "list" #[] e1)]) ++ [(kS, seqObj "list" kA ek)]) σ H' s' := J.pins_of fun p hp => by
      rcases List.mem_append.mp hp with hp | hp
      · exact J.pin p (List.mem_append_right _ hp)
      · have : p = (kS, seqObj "list" kA ek) := by simpa using hp
        subst this
        exact ⟨nk, nK, fK.2.1, fK.2.2.1, fun v q => nomatch q⟩
    obtain ⟨al, rl, w⟩ := sj.si
    have wo : Own ⟨H', Hv', []⟩ Hv' H' [] := Own.start w.sub List.nodup_nil (fun a m => by cases m) fun a m => by cases m
    have sp : SpC X.K ps.length (C.call f) [vj] H' (fun v2 H2 => ∃ Hv2, (Cz.mk X.K F0 ro us0 W0 σ).S Hv2 H2 ((.v y, some v2) :: (zT ((ks.take j).map .v) kvs ++ (zT (xs.map .v) vs ++ tp))) Γ) (fun _ _ _ => False) := by
      refine ⟨by rw [hp1]; rfl, Hv', [.v xs[j]], [], ⟨some vj, [], [], [], rfl, rfl, .inr ⟨vj, rfl, by unfold Rp; exact ⟨dj, rfl⟩⟩, rfl, rfl⟩, wo, ?_⟩
      cases qc : C.call f [.v xs[j]] with
      | bad => rw [qc] at hky; cases hky
      | ex c outs => rw [qc] at hky; cases hky
      | ok o outs =>
        rw [qc] at hky
        cases o with
        | v d =>
          have : d = y := by
            have hky : some d = some y := hky
            exact Option.some.inj hky
          subst this
          intro v2 Hv2 H2 h2
          have h3 := frame_si (as := []) rl w h2
          refine ⟨Hv2, ?_, sj.ro⟩
          have lo := h2.length
          simp only [List.length_cons, List.length_map, List.length_nil] at lo
          -- what was handed in is dropped
          obtain ⟨o1, ho1⟩ : ∃ o1, outs = [o1] := by
            cases outs with
            | nil => simp at lo
            | cons o1 t =>
              cases t with
              | nil => exact ⟨o1, rfl⟩
              | cons _ _ => simp at lo
          subst ho1
          have h4 : (Cz.mk X.K F0 ro us0 W0 σ).S Hv2 H2 ((.v d, some v2) :: (o1, some vj) :: (zT ((ks.take j).map .v) kvs ++ (zT (xs.map .v) vs ++ tp))) Γ := ⟨h3, sj.ro⟩
          exact h4.swap.pop.si
        | _ => cases hky
    refine wpAny_bind (wpAny_attempt ?_)
    have hrr : Room k X.A.in1.in1 := (Room.in1 (k := k + 1) hr).in1
    have hlb : ([x] ++ [] : List Value).length = ps.length := by rw [hp1]; rfl
    refine wpAny_call (codeAny_mono (F.run X.A.in1.in1 X.stack s' H' ⟨[x], []⟩ [x] [vj] _ _ hrr (J.env0.in1.in1) (hb s' [x] J.kIn hlb) (.cons rj .nil) sp) fun rs s'' hq => ?_)
    cases rs with
    | error ee => obtain ⟨_, _, _, _, _, _, _, _, _, _, _, _, z⟩ := hq; exact z.elim
    | ok fl =>
      cases fl with
      | next => exact hq.elim
      | brk => exact hq.elim
      | cont => exact hq.elim
      | ret u =>
        obtain ⟨v2, H2, J3, r2, Hv2, s2⟩ := J2.after hq
        have pk := J3.pin (kS, seqObj "list" kA ek) (List.mem_append_right _ (List.mem_append_right _ (by simp)))
        have nk2 : s''.heap.get? kS = some (seqObj "list" kA ek) := pk.1
        have J4 : Inv X (pins ++ [(a, seqObj "list" #[] e1)]) σ H2 s'' := J3.pins_of fun p hp => J3.pin p (List.mem_append_right _ (List.mem_append_left _ hp))
        have kz : kA.size ≤ ks.length := by
          have z1 := rk.length
          have z2 : kA.toList.length = kA.size := Array.length_toList
          have z3 : (ks.take j).length = min j ks.length := List.length_take
          omega
        have s1 := Heap.SameBut.update s''.heap kS (Obj.mapSeq (·.push u))
        obtain ⟨c2, hc2⟩ : ∃ c2, (s''.heap.update kS (Obj.mapSeq (·.push u))).get? kS = some (seqObj "list" (kA.push u) c2) := ⟨_, get?_update_seq nk2 (·.push u)⟩
        refine wpAny_bind (listUpdate_at nk2 rfl ?_ (by omega) (by rw [Array.size_push]; omega))
        have J5 : Inv X (pins ++ [(a, seqObj "list" #[] e1)]) σ H2 { s'' with heap := s''.heap.update kS (Obj.mapSeq (·.push u)) } := J4.turned (t' := s''.toks) (fun b o hb e => (s1.2 b hb).trans e) pk.2.1 fK.2.1 fK.2.2.2.1 fK.2.2.2.2.1 (fun p hp => by
          rcases List.mem_append.mp hp with hp | hp
          · exact fK.2.2.2.2.2 p (List.mem_append_left _ hp)
          · rcases List.mem_append.mp hp with hp | hp
            · exact fK.2.2.2.2.2 p (List.mem_append_right _ hp)
            · have : p = (a, seqObj "list" #[] e1) := by simpa using hp
              subst this
              exact hka.symm)
        have et : ks.take (j + 1) = ks.take j ++ [y] := by rw [List.take_add_one, hy]; simp
        refine wpAny_pure ⟨rfl, H2, Hv2, kvs ++ [v2], kA.push u, c2, J5, pk.2.1, hc2, by rw [et, List.length_append, List.length_append, hkvl]; rfl, ?_, ?_⟩
        · have : (kA.push u).toList = kA.toList ++ [u] := by simp
          rw [this]
          exact rk.append (.cons r2 .nil)
        · rw [et, List.map_append, zT_app (by rw [List.length_map]; exact hkvl), List.append_assoc]
          exact s2.perm List.perm_middle.symm
  case done =>
    rintro s' ⟨H', Hv', kvs, kA, ek, J, nK, nk, hkvl, rk, sj⟩
    have hlk : its.length = ks.length := by omega
    have et : ks.take (0 + its.length) = ks := List.take_of_length_le (by omega)
    rw [et] at hkvl sj
    have dk := zT_dp (c := Cz.mk X.K F0 ro us0 W0 σ) hkvl sj
    have rr := zT_dp (c := Cz.mk X.K F0 ro us0 W0 σ) (by omega : vs.length = xs.length) sj.drop
    have pa := J.pin (a, seqObj "list" #[] e1) (List.mem_append_right _ (List.mem_append_right _ (by simp)))
    have na : s'.heap.get? a = some (seqObj "list" #[] e1) := pa.1
    have J0 : Inv X pins σ H' s' := J.pins_of fun p hp => J.pin p (List.mem_append_right _ (List.mem_append_left _ hp))
    have sub' : Sub Hv' H' := sj.sub
    have hk' : PySem.W.EachIs (fun v d => ∃ as, Reads s'.heap v d as) kA.toList ks := (vals_each rk dk).mono fun u d ⟨v, r1, r2⟩ => Dp.reads J0 d v u (sub'.dp r2) r1
    have hsz : kA.size = its.length := by
      have z1 := rk.length
      have z2 : kA.toList.length = kA.size := Array.length_toList
      omega
    obtain ⟨h1, g1, g2⟩ := hide1 s'.heap kS
    refine wpAny_bind (listItems_at nk rfl ?_)
    have hk1 : h1.get? kS = none := by
      cases e : h1.get? kS with
      | none => rfl
      | some o => exact absurd rfl (g1 kS o e).2
    refine PySem.W.keyH_end (κ := PySem.W.dataKind s'.heap ks) (h₁ := h1) (fun b o _ e => (g1 b o e).1) hk1 nk na hka (PySem.W.SortsAt.data (s := s') hk' hal hsk fun d m => ?_) hsz hZ fun h3 tk3 cc k3 n3 => ⟨rfl, ?_⟩
    · have := hdp d m
      show X.A.units + 2 + d.depth < cLine
      omega
    -- the items, sorted
    have hzip : (xs.zip ks).map (·.2) = ks := List.map_snd_zip (by omega)
    have hR : PySem.W.EachIs (fun (u : Value) (b : D × D) => ∃ v, RelV v u ∧ Dp X.K Hv' v b.1) its (xs.zip ks) := by
      have z := vals_each rv rr
      have hm : (xs.zip ks).map (·.1) = xs := List.map_fst_zip (by omega)
      rw [← hm] at z
      exact PySem.W.each_of_map (R := fun u d => ∃ v, RelV v u ∧ Dp X.K Hv' v d) (fun b : D × D => b.1) z
    have ko : PySem.W.KeyedOut false ((xs.zip ks).map (·.2)) its (PySem.W.sortVals (PySem.W.dataKind s'.heap ks) false kA.toList its) := by
      rw [hzip]
      exact ⟨s'.heap, kA.toList, hal, rfl, hk'⟩
    have oe := PySem.W.keyedOut_each (fun b : D × D => b.2) ko hR
    have oe2 := PySem.W.each_map (R := fun u d => ∃ v, RelV v u ∧ Dp X.K Hv' v d) (fun b : D × D => b.1) oe
    obtain ⟨ws, w1, w2⟩ := each_vals oe2
    have wl : ws.length ≤ sizeLine := by
      rw [dpAll_length w2, List.length_map, (List.mergeSort_perm _ _).length_eq, List.length_zip]
      omega
    have fA' : FpOk X pins H' a := ⟨pa.2.1, fA.2⟩
    have fK' : FpOk X pins H' kS := ⟨nK, fK.2⟩
    have JJ : Inv X pins σ (upd H' a (.lst ws)) { s' with heap := h3, toks := tk3 } := inv_adopt (ch := [a, kS]) J0 (fun b o hb e => k3 b o (fun q => hb (by simp [q])) (g2 b o (fun q => hb (by simp [q])) e)) (fun b hb => by
      rcases List.mem_cons.mp hb with q | hb
      · rw [q]; exact fA'
      · have : b = kS := by simpa using hb
        rw [this]; exact fK') (by simp) ⟨wl, _, cc, w1, n3⟩
    obtain ⟨Hv4, _, s4⟩ := (sj.drop.drop).res (o := .lst (((xs.zip ks).mergeSort (PySem.W.dataLe false (·.2))).map (·.1))) (.lst w2 pa.2.1)
    exact ⟨.ref a, _, JJ, rfl, hQ _ Hv4 _ s4⟩
end
end Z
end
section
set_option Elab.async false
set_option linter.all false
set_option maxRecDepth 100000
namespace Z
open PySem PySem.Spec PyProof.Rows L2
section
variable {X : Cx} {C : Cfg} {W : WX} {e : Expr} {z : E} {p0 pos kpos kp : Pos} {kx : Str}
theorem boot_sorted' : bootBuiltins "sorted" = some (.builtin "sorted") := by first | rfl | decide +kernel
theorem ez_srtk {k f : Nat} {fa : Addr} {fd : FuncData} {ps : List Str} (F : FnOk X.prog X.w X.K X.mg X.base (L2.CX X.prog X.w) k fa fd ps (SpC X.K ps.length (C.call f))) (hp1 : ps.length = 1) (hb : Binds X.K fd ps []) (hr : Room (k + 2) X.A)
    (hg : Gl X "sorted") (hm : X.mg "sorted" = none) (hgk : Gl X kx) (hmk : X.mg kx = some (.ref fa)) (hdk : (kx == ("__debug__" : Str)) = false) (he : Dz X C W e z)
    (hs : starEach [e] X.env = (false, eval e X.env) :: starEach [] X.env := by rfl) (he1 : backTo pos (starEach [e] X.env) = (false, eval e X.env) :: backTo pos (starEach [] X.env) := by rfl) (hpl : (backTo pos (starEach [e] X.env)).any (·.1) = false := by rfl)
    (hall : (backToKw pos (keywordEach [⟨some (Str.ofString "key"), .Name kx kp, kpos⟩] X.env)).all (·.1.isSome) = true := by rfl) (hnone : (backToKw pos (keywordEach [⟨some (Str.ofString "key"), .Name kx kp, kpos⟩] X.env)).any (·.1.isNone) = false := by rfl)
    (hks : (backToKw pos (keywordEach [⟨some (Str.ofString "key"), .Name kx kp, kpos⟩] X.env)).filterMap (·.1) = [Str.ofString "key"] := by rfl) :
    Ez X C W (.Call (.Name "sorted" p0) [e] [⟨some (Str.ofString "key"), .Name kx kp, kpos⟩] pos) (.srtk z f) := by
  refine ⟨fun pins s σ H Q I h => ?_⟩
  refine wpAny_Call_Name_kw (ld_blt I hg hm boot_sorted' ?_ (by decide) (by decide))
  have ha : PA X [e] (tCons (tD X.K C.ro W fun Γ => toD (ev C z Γ)) tNil) := pa_cons he pa_nil hs
  have hk : PK X [⟨some (Str.ofString "key"), .Name kx kp, kpos⟩] (tCons (tC (.ref fa)) tNil) := pk_cons (pe_glob hgk hmk rfl hdk) pk_nil
  obtain ⟨F0, us0, Hv, tp, Γ, s0, hs0⟩ := h
  have e0 : ev C (.srtk z f) Γ = (toD (ev C z Γ)).bind fun x => opt (lstO x.1) fun xs => opt (keysOf (fun d => keyR (C.call f [.v d])) xs) fun ks =>
      if sortOk ks then .ok (.lst (((xs.zip ks).mergeSort (PySem.W.dataLe false (·.2))).map (·.1)), x.2) else .bad := by simp only [ev]
  rw [e0, R.sat_bind] at hs0
  refine PyProof.Rows.callWith_kw (thn (ha.run pos pins s σ H (fun vs H1 => ∃ (v : V) (x : D × Env) (Hv1 : Hp), vs = [v] ∧ (Cz.mk X.K F0 C.ro us0 W σ).S Hv1 H1 ((.v x.1, some v) :: tp) x.2 ∧
    (opt (lstO x.1) fun xs => opt (keysOf (fun d => keyR (C.call f [.v d])) xs) fun ks =>
      if sortOk ks then .ok (.lst (((xs.zip ks).mergeSort (PySem.W.dataLe false (·.2))).map (·.1)), x.2) else .bad).sat ((Cz.mk X.K F0 C.ro us0 W σ).ok tp Q) ((Cz.mk X.K F0 C.ro us0 W σ).exq tp)) I
    ⟨F0, us0, Hv, tp, Γ, s0, hs0.imp (fun x hq v Hv1 H1 s1 => ⟨v, x, Hv1, rfl, s1, hq⟩) fun _ _ h => h⟩) fun us s1 ⟨vs, H1, I1, r1, v, x, Hv1, ev1, st, hq⟩ => thn (hk.run pos pins s1 σ H1 (fun zs H2 => zs = [.ref fa] ∧ H2 = H1) I1 ⟨rfl, rfl⟩) fun ws s2 ⟨zs, H2, I2, r2, ez, eH⟩ => ?_) he1 hpl hall hnone
  rw [hks]
  subst ev1 ez eH
  obtain ⟨xs, e1, hq⟩ := opt_sat hq
  obtain ⟨ks, e2, hq⟩ := opt_sat hq
  obtain ⟨x1, x2⟩ := x
  have ex : x1 = .list xs := by
    cases x1 with
    | list l => cases e1; rfl
    | _ => cases e1
  subst ex
  cases q : sortOk ks with
  | false => rw [if_neg (by simp [q])] at hq; exact hq.elim
  | true =>
    rw [if_pos q] at hq
    have hd : Dp X.K Hv1 v (.list xs) := st.headV
    cases hd with
    | lst hs1 ha1 =>
      rw [Vals.ref1 r1, Vals.ref1 r2]
      exact key_run F hp1 hb hr I2 st e2 q hq

/-! ### t[::-1] -/
theorem sliceApplied_rev {prog : Program} {w : World} {A : Around} {E : Value → Shared → Prop} {s : Shared} {sl : Addr} {n : Nat} {t : Tok} {Q : Int × Int × Nat → Shared → Prop} (hs : s.heap.IsSliceOf sl .none .none (.int (-1) t))
    (h : Q ((n : Int) - 1, -1, n) s) : wpAny (model prog w) A (Builtin.Slice.sliceApplied (.ref sl) (pure (n : Int))) Q E s := by
  obtain ⟨os, hos, hcs, hds⟩ := id hs
  unfold Builtin.Slice.sliceApplied Builtin.Slice.sliceFields
  refine wpAny_bind (wpAny_bind (wpAny_field hos hds (x := .none) rfl (wpAny_bind (wpAny_field hos hds (x := .none) rfl (wpAny_bind (wpAny_field hos hds (x := .int (-1) t) rfl (wpAny_pure ?_)))))))
  refine wpAny_bind (slicePart_int ?_)
  show wpAny _ _ (if ((-1 : Int) == 0) = true then _ else _) _ _ s
  rw [if_neg (by decide)]
  refine wpAny_bind (slicePart_none (wpAny_bind (slicePart_none (wpAny_bind (wpAny_pure ?_)))))
  show wpAny _ _ (match Builtin.Slice.sliceAdjust none none (-1) (n : Int) with | (lo, hi) => pure (lo, (-1 : Int), Builtin.Slice.slicePlaces lo hi (-1))) _ _ s
  have e1 : Builtin.Slice.sliceAdjust none none (-1) (n : Int) = ((n : Int) - 1, -1) := by
    unfold Builtin.Slice.sliceAdjust
    rfl
  rw [e1]
  show wpAny _ _ (pure ((n : Int) - 1, (-1 : Int), Builtin.Slice.slicePlaces ((n : Int) - 1) (-1) (-1))) _ _ s
  have e2 : Builtin.Slice.slicePlaces ((n : Int) - 1) (-1) (-1) = n := by
    unfold Builtin.Slice.slicePlaces
    rw [if_neg (by decide)]
    by_cases hn : n = 0
    · subst hn; rfl
    · rw [if_pos (by omega)]
      have : ((n : Int) - 1 - -1 - 1) / (- -1) + 1 = n := by
        rw [show (- -1 : Int) = 1 from rfl, Int.ediv_one]; omega
      rw [this]
      exact Int.toNat_natCast n
  rw [e2]
  exact wpAny_pure h
theorem fm_map {α β : Type} {f : α → Option β} {g : α → β} : ∀ {l : List α}, (∀ m ∈ l, f m = some (g m)) → l.filterMap f = l.map g
  | [], _ => rfl
  | x :: l, h => by
    rw [List.filterMap_cons, h x (by simp), List.map_cons, fm_map (l := l) fun m hm => h m (by simp [hm])]
theorem pick_rev (items : Array Value) : ((List.range items.size).filterMap fun (m : Nat) => items[(((items.size : Nat) : Int) - 1 + (m : Int) * (-1)).toNat]?).toArray = items.toList.reverse.toArray := by
  congr 1
  apply List.ext_getElem?
  intro i
  have e : ((List.range items.size).filterMap fun (m : Nat) => items[(((items.size : Nat) : Int) - 1 + (m : Int) * (-1)).toNat]?) = (List.range items.size).map fun m => items.toList.reverse.getD m Value.none := by
    apply fm_map
    intro m hm
    have hm : m < items.size := by simpa using hm
    have e2 : (((items.size : Nat) : Int) - 1 + (m : Int) * (-1)).toNat = items.size - 1 - m := by omega
    rw [e2]
    have h1 : items.size - 1 - m < items.size := by omega
    rw [Array.getElem?_eq_getElem h1]
    simp [List.getD_eq_getElem?_getD, List.getElem?_reverse, hm]
  rw [e, List.getElem?_map]
  by_cases hi : i < items.size
  · rw [List.getElem?_range hi]
    have h2 : i < items.toList.reverse.length := by simpa using hi
    simp [List.getD_eq_getElem?_getD, List.getElem?_eq_getElem h2]
  · rw [List.getElem?_eq_none (by simpa using hi), List.getElem?_eq_none (by simpa using hi)]
    rfl
theorem getItem_tuple_rev {prog : Program} {w : World} {A : Around} {E : Value → Shared → Prop} {s : Shared} {t sl : Addr} {items : Array Value} {tk : Tok} {Q : Value → Shared → Prop} (ht : IsTup s.heap t items) (hs : s.heap.IsSliceOf sl .none .none (.int (-1) tk))
    (h : Q (.ref s.heap.objs.size) { s with heap := s.heap.push { cls := .type "tuple", data := .seq items.toList.reverse.toArray } })
    (hsz : items.size ≤ sizeLine) : wpAny (model prog w) A (getItem (.ref t) (.ref sl)) Q E s := by
  have htake : sizeOk (.seq items.toList.reverse.toArray) := by
    show items.toList.reverse.toArray.size ≤ sizeLine
    rw [List.size_toArray, List.length_reverse, Array.length_toList]
    omega
  obtain ⟨os, hos, hcs, hds⟩ := id hs
  have hTs : s.TypeIs (.ref sl) "slice" := ⟨os, hos, hcs⟩
  unfold getItem
  try with_reducible refine wpAny_holding ?_
  first | refine wpAny_bind (wpAny_pure ?_) | skip
  refine wpAny_bind (wpAny_sequenceKey ht.typeIs (by decide) ?_)
  refine wpAny_bind (wpAny_callSpecial?_slot (name := Str.ofString "__getitem__") ht.typeIs PyProof.Rows.slot_tuple_getitem
    (wpAny_call_entry PyProof.Rows.slot_tuple_getitem ht.typeIs entry_tuple_getitem ?_ (args_tuple_getitem _ _)))
  show wpAny _ _ (Builtin.Tuple.tupleItemsOf (.ref t) >>= _) _ _ s
  refine wpAny_bind (tupleItemsOf_ ht ?_)
  refine wpAny_bind (wpAny_typeOf hTs ?_)
  rw [if_pos (by decide)]
  refine wpAny_bind (sliceApplied_rev hs ?_)
  have hno : ¬ (((((items.size : Nat) : Int) - 1) == 0 && (-1 : Int) == 1 && items.size == items.size) = true) := by simp
  show wpAny _ _ (if ((((items.size : Nat) : Int) - 1) == 0 && (-1 : Int) == 1 && items.size == items.size) = true then _ else _) _ _ s
  rw [if_neg hno, pick_rev]
  first
    | exact wpAny_bind (m := Builtin.Tuple.tupleExact _) (wpAny_newObj_type (wpAny_pure ⟨_, rfl, wpAny_pure h⟩) htake)
    | exact wpAny_bind (m := Builtin.Tuple.tupleExact _) (wpAny_newObj_type (wpAny_bind (wpAny_pure (wpAny_pure ⟨_, rfl, wpAny_pure h⟩))) htake)
    | exact wpAny_bind (wpAny_bind (m := Builtin.Tuple.tupleExact _) (wpAny_newObj_type (wpAny_pure (wpAny_pure ⟨_, rfl, wpAny_pure h⟩)) htake))
    | exact wpAny_bind (wpAny_bind (m := Builtin.Tuple.tupleExact _) (wpAny_newObj_type (wpAny_pure ⟨_, rfl, wpAny_pure h⟩) htake))
def tRev (K : PySem.W.Frag) (te : TE) : TE := fun σ H Q => te σ H fun x H1 => r1 K fRev x H1 Q
theorem pe_rev {e : Expr} {te : TE} {k : Nat} {p1 p2 p3 pos : Pos} (he : PE X e te) : PE X (.Subscript e (.Slice none none (some (.UnaryOp .USub (.Constant (.int 1) k p1) p2)) p3) pos) (tRev X.K te) := by
  refine ⟨fun pins s σ H Q I h => ?_⟩
  refine Subscript_ (thn (he.run pins s σ H _ I h) fun v s1 ⟨x, H1, I1, r1, q1⟩ => ?_)
  obtain ⟨Hv, a, o, sub, sh, hf, q⟩ := q1
  have hst : PO X (some (.UnaryOp .USub (.Constant (.int 1) k p1) p2)) (tPart (tUn (rU fun i => .int (-i)) (tC (.int 1)))) := po_some (pe_un un_neg pe_int)
  refine wpAny_Slice (thn (po_none.run pins s1 σ H1 (fun o H2 => o = none ∧ H2 = H1) I1 ⟨rfl, rfl⟩) fun vl s2 ⟨l, H2, I2, pl, el, e2⟩ => ?_)
  subst el e2
  refine thn (po_none.run pins s2 σ H2 (fun o H3 => o = none ∧ H3 = H2) I2 ⟨rfl, rfl⟩) fun vu s3 ⟨u, H3, I3, pu, eu, e3⟩ => ?_
  subst eu e3
  refine thn (hst.run pins s3 σ H3 (fun o H4 => o = some (-1) ∧ H4 = H3) I3 ⟨1, rfl, -1, rfl, rfl, rfl⟩) fun vs s4 ⟨o', H4, I4, ps, eo, e4⟩ => ?_
  subst eo e4
  have I5 : Inv X pins σ H4 { s4 with heap := s4.heap.push { cls := .type "slice", data := .fields #[vl, vu, vs] } } := I4.kept (t' := s4.toks) fun b ob q => Heap.get?_push_of_some _ q
  unfold fRev at hf
  split at hf
  · cases hf
    obtain ⟨l, ws, rfl, hx, r⟩ := sh.list sub
    cases r1
    obtain ⟨its, rv, ht, hz⟩ := I5.list hx
    have hlen := rv.length
    refine tail_any (ops := [.ref l, .ref s4.heap.objs.size]) ht.isList.typeIs (PySem.slot_list_getitem.lookup) ?_ (by with_unfolding_all rfl)
    refine wpAny_getItem_list_slice ht.isList (Heap.IsSliceOf.new _ vl vu vs) pl pu ps (by decide) ?_ (by rw [List.size_toArray]; omega)
    rw [PySem.W.krv_pick]
    refine ⟨.ref _, _, I5.laid (t' := s4.toks) (o := .lst ws.reverse) (fun b ob q => Heap.get?_push_of_some _ q) (Nat.le_refl _) ?_, rfl, q _ _ (.lst (dpAll_rev r) (I5.hok.fresh (Nat.le_refl _)))⟩
    exact ⟨by rw [List.length_reverse]; exact hz, _, 0, rv.reverse, Heap.get?_push_size _ rfl⟩
  · cases hf
    obtain ⟨l, ws, rfl, hx, r⟩ := sh.tup sub
    cases r1
    obtain ⟨its, rv, ht, hz⟩ := I5.tuple hx
    have hlen := rv.length
    cases pl
    cases pu
    obtain ⟨tk, rfl⟩ : ∃ tk, vs = Value.int (-1) tk := by
      cases ps with
      | int i t => exact ⟨t, rfl⟩
    refine tail_any (ops := [.ref l, .ref s4.heap.objs.size]) ht.typeIs PyProof.Rows.slot_tuple_getitem.lookup ?_ (by with_unfolding_all rfl)
    refine getItem_tuple_rev ht (Heap.IsSliceOf.new _ _ _ _) ?_ (by rw [List.size_toArray]; omega)
    refine ⟨.ref _, _, I5.laid (t' := s4.toks) (o := .tup ws.reverse) (fun b ob q => Heap.get?_push_of_some _ q) (Nat.le_refl _) ?_, rfl, q _ _ (.tup (dpAll_rev r) (I5.hok.fresh (Nat.le_refl _)))⟩
    exact ⟨by rw [List.length_reverse]; exact hz, _, rv.reverse, by first | exact IsTup.new _ _ | exact (by rw [List.toList_toArray] : _ = _) ▸ IsTup.new _ _⟩
  · cases hf
theorem ez_rev {k : Nat} {p1 p2 p3 : Pos} {za : E} {a : Expr} (ha : Bz X C W a za) : Ez X C W (.Subscript a (.Slice none none (some (.UnaryOp .USub (.Constant (.int 1) k p1) p2)) p3) pos) (.pr .rev (.cons za .nil)) :=
  (pe_rev ha).imp fun σ H Q h => tB1 (p := .rev) (f := fRev) rfl h
theorem tz_isN {j : Nat} {p2 : Pos} {a : Expr} {za : E} (ha : Bz X C W a za) : Tz X C W (.Compare a [.Is] [.Constant .none j p2] pos) (.pr .isN (.cons za .nil)) :=
  (pt_cmpR op_isN ha pe_non (nomark _)).imp fun σ H Q h => t_test (X := X) (boolE_pr (p := .isN) (f1_bool bool_isN)) (fun σ H Q h => by
      obtain ⟨F, us, Hv, tp, Γ, s, hs⟩ := tB1 (C := C) (p := .isN) (f := fIsN) rfl h
      refine ⟨F, us, Hv, tp, Γ, s, hs.imp (fun p q v Hv1 H1 s1 hv => ?_) fun _ _ h => h⟩
      obtain ⟨Hv', d, o, k, sh, e, q⟩ := q v Hv1 H1 s1 hv
      refine ⟨rfl, ?_⟩
      unfold fIsN at e
      cases e
      have e2 : isNone d = decide (v = .non) := by
        cases d with
        | none => rw [sh.non]; rfl
        | bool b => rw [sh.bl]; rfl
        | int b => rw [sh.int]; rfl
        | str b => rw [sh.str]; rfl
        | list b => obtain ⟨l, vs, rfl, _⟩ := sh.list k; rfl
        | tuple b => obtain ⟨l, vs, rfl, _⟩ := sh.tup k; rfl
        | dict l => exact sh.dict.elim
      rw [e2] at q
      exact q _ _ (.old (.bl _))) h
theorem tz_notN {j : Nat} {p2 : Pos} {a : Expr} {za : E} (ha : Bz X C W a za) : Tz X C W (.Compare a [.IsNot] [.Constant .none j p2] pos) (.pr .notN (.cons za .nil)) :=
  (pt_cmpR op_notN ha pe_non (nomark _)).imp fun σ H Q h => t_test (X := X) (boolE_pr (p := .notN) (f1_bool bool_notN)) (fun σ H Q h => by
      obtain ⟨F, us, Hv, tp, Γ, s, hs⟩ := tB1 (C := C) (p := .notN) (f := fNotN) rfl h
      refine ⟨F, us, Hv, tp, Γ, s, hs.imp (fun p q v Hv1 H1 s1 hv => ?_) fun _ _ h => h⟩
      obtain ⟨Hv', d, o, k, sh, e, q⟩ := q v Hv1 H1 s1 hv
      refine ⟨rfl, ?_⟩
      unfold fNotN at e
      cases e
      have e2 : isNone d = decide (v = .non) := by
        cases d with
        | none => rw [sh.non]; rfl
        | bool b => rw [sh.bl]; rfl
        | int b => rw [sh.int]; rfl
        | str b => rw [sh.str]; rfl
        | list b => obtain ⟨l, vs, rfl, _⟩ := sh.list k; rfl
        | tuple b => obtain ⟨l, vs, rfl, _⟩ := sh.tup k; rfl
        | dict l => exact sh.dict.elim
      rw [e2] at q
      exact q _ _ (.old (.bl _))) h
theorem ez_oro {a b : Expr} {rest : List Expr} {za zb : E} (ha : Ez X C W a za) (hb : Ez X C W (.BoolOp .Or (b :: rest) pos) zb) : Ez X C W (.BoolOp .Or (a :: b :: rest) pos) (.oro za zb) := by
  refine ⟨fun pins s σ H Q I h0 => ?_⟩
  have e : ∀ Γ, ev C (.oro za zb) Γ = (ev C za Γ).bind fun p => match p.1 with
    | .lst ds => if ds.isEmpty then ev C zb p.2 else .ok p
    | _ => .bad := fun Γ => by simp only [ev] <;> rfl
  obtain ⟨F, us, Hv0, tp, Γ, s0, hs⟩ := h0
  rw [e, R.sat_bind] at hs
  refine BoolOp_or (thn (ha.run pins s σ H (fun x H1 => ∃ (p : O × Env) (Hv : Hp), (Cz.mk X.K F C.ro us W σ).S Hv H1 ((p.1, some x) :: tp) p.2 ∧ (match p.1 with
    | .lst ds => if ds.isEmpty then ev C zb p.2 else .ok p
    | _ => R.bad).sat ((Cz.mk X.K F C.ro us W σ).ok tp Q) ((Cz.mk X.K F C.ro us W σ).exq tp)) I ⟨F, us, Hv0, tp, Γ, s0, hs.imp (fun p hq x Hv H1 s1 => ⟨p, Hv, s1, hq⟩) fun _ _ h => h⟩) fun v s1 ⟨x, H1, I1, r1, p, Hv, s2, hq⟩ => ?_)
  obtain ⟨o, G⟩ := p
  cases o with
  | lst ds =>
    obtain ⟨l, vs, h1, h2, h3, h4⟩ := s2.si.getL (i := 0) (ds := ds) rfl
    have h1 : some (some x) = some (some (V.ref l)) := h1
    cases h1
    have ht := z_truV s2.sub (d := .list ds) (x := V.ref l) (.inr ⟨ds, l, vs, rfl, rfl, h2, h3⟩) fun y e => by cases e
    refine thn (tru_ok pins s1 σ H1 _ v (fun k' H' => k' = truth (.list ds) ∧ H' = H1) I1 r1 ⟨truth (.list ds), ht, rfl, rfl⟩) fun b s3 ⟨H3, I3, q1, q2⟩ => ?_
    subst q1 q2
    have hq : (if ds.isEmpty then ev C zb G else R.ok (O.lst ds, G)).sat _ _ := hq
    cases q : ds.isEmpty with
    | true =>
      rw [q] at hq
      have et : truth (.list ds) = false := by show (!ds.isEmpty) = false; rw [q]; rfl
      rw [et]
      exact hb.run pins s3 σ H3 Q I3 ⟨F, us, Hv, tp, G, s2.pop, hq⟩
    | false =>
      rw [q] at hq
      have et : truth (.list ds) = true := by show (!ds.isEmpty) = true; rw [q]; rfl
      rw [et]
      exact ⟨_, H3, I3, r1, hq _ Hv H3 s2⟩
  | _ => exact hq.elim
end
end Z
end
section
set_option Elab.async false
set_option linter.all false
set_option maxRecDepth 100000
namespace Z
open PySem PySem.Spec PyProof.Rows L2
/-! ### the law's call: the fragment by the head's facts, the script's numbers small enough -/
theorem walk_z {l : PySem.W.OpenLaw} {n k : Nat} {q : Program} {loose : List Str} {XP : (Str → Option Value) → Heap → Prop} {YP : World → Heap → Prop} {d : DefRec} {CX : World → CXT} {x : Str}
    (hn : l.most = some n) (hn2 : n ≤ sizeLine) (hdf : d.params.defaults = []) (hr : Room k callerA)
    (F : ∀ (w : World) (mg : Str → Option Value) (fa : Addr) (h : Heap), YP w h → h.Ns mainGlobals mg → mg d.name = some (.ref fa) →
      ∃ (K : PySem.W.Frag) (fd : FuncData) (sp : Sp), K.In h ∧ (∀ (s : Shared) (u : Value), BindsTo s fd ⟨[u], []⟩ [(x, u)]) ∧
        (∀ (H : Hp) (a : Addr) (ns : List Int), ns.length ≤ n → (∀ z ∈ ns, Builtin.Int.intBits z ≤ 1048576) → SqL K H a (ns.map V.int) → sp [.ref a] H (fun v _ => v = .bl true) fun _ _ _ => False) ∧
        ∀ base : Heap, K.In base → base.Ns mainGlobals mg → FnOk l.prog w K mg base (CX w) k fa fd [x] sp)
    (hCX : ∀ (w : World) (H : Hp) (s : Shared) (e : Value) (s' : Shared), CX w [] H s (fun _ _ _ => False) e s' → False) :
    PySem.W.WalkO q loose XP YP l.row.toRowW d [] (fun f vs => PySem.call f vs) := by
  refine Att.attach_callB hn hdf fun w s₀ s₁ mg mb fa o pm cd doc a vs ns G Y ho hd hcd hmg hobj hints hlen hbits hg => ?_
  obtain ⟨K, fd, sp, KX, hb, hsp, hF⟩ := F w mg fa _ Y G.T.g hmg
  exact law_call KX G.T.g G.T.b G.T.builtins G.T.nolimit hg hobj hints (Nat.le_trans hlen hn2) hr hF hb (fun H hO hS => hsp H a ns hlen hbits hS) fun H e s' => hCX w H s₁ e s'
theorem cx_no {P : Program} {w : World} {H : Hp} {s : Shared} {e : Value} {s' : Shared} (h : L2.CX P w [] H s (fun _ _ _ => False) e s') : False := by
  unfold L2.CX at h
  first
    | (obtain ⟨_, _, _, _, _, _, _, _, _, h⟩ := h; exact h)
    | simp at h
    | (obtain ⟨u, h⟩ := h; simp_all)
end Z
end
section
set_option Elab.async false
set_option linter.all false
set_option maxRecDepth 100000
set_option maxHeartbeats 0
namespace K03
open PySem PySem.Spec PyProof.Rows L2 Z
abbrev pw : Program := PySem.Challenge.pw_canlead_k03_rules_and_books_told
def top (i : Nat) : Stmt := pw.main.body.getD i (.Pass ⟨0, 0, 0, 0⟩)
theorem vz {sc : Scope} {x : Str} (h : (match sc.names.lookup x with | some .local => true | some .cell => true | some .free => true | _ => false) = true) : Vis sc x := by
  unfold Vis
  split at h <;> first | exact .inl (by assumption) | exact .inr (.inl (by assumption)) | exact .inr (.inr (by assumption)) | cases h
theorem lz {sc : Scope} {x : Str} (h : (match sc.names.lookup x with | some .local => true | some .cell => true | _ => false) = true) : L2.Loc sc x := by
  unfold L2.Loc
  split at h <;> first | exact .inl (by assumption) | exact .inr (by assumption) | cases h
theorem rm_of {k : Nat} {A : Around} (h : Room k A) : A.units + 200 < cLine := by have := h.un; omega

theorem bt_abs : bootBuiltins "abs" = some (.builtin "abs") := by first | rfl | decide +kernel
theorem bt_all : bootBuiltins "all" = some (.builtin "all") := by first | rfl | decide +kernel
theorem bt_int : bootBuiltins "int" = some (.type "int") := by first | rfl | decide +kernel
theorem bt_len : bootBuiltins "len" = some (.builtin "len") := by first | rfl | decide +kernel
theorem bt_list : bootBuiltins "list" = some (.type "list") := by first | rfl | decide +kernel
theorem bt_max : bootBuiltins "max" = some (.builtin "max") := by first | rfl | decide +kernel
theorem bt_sorted : bootBuiltins "sorted" = some (.builtin "sorted") := by first | rfl | decide +kernel
theorem bt_sum : bootBuiltins "sum" = some (.builtin "sum") := by first | rfl | decide +kernel
theorem bt_tuple : bootBuiltins "tuple" = some (.type "tuple") := by first | rfl | decide +kernel
/-- is_number(thing) -/
def b0 : Ss := (.cons (.ret (.and_ (.pr (.isi [.int]) (.cons (.var 0) .nil)) (.not (.pr (.isi [.bool]) (.cons (.var 0) .nil)))))
      .nil)
def f0 : Fn := ⟨1, [], 1, b0⟩
/-- is_from(thing, least) -/
def b1 : Ss := (.cons (.ret (.and_ (.call 0 (.cons (.var 0) .nil) []) (.pr .ge (.cons (.var 0) (.cons (.var 1) .nil)))))
      .nil)
def f1 : Fn := ⟨2, [], 2, b1⟩
/-- is_below(thing, many) -/
def b2 : Ss := (.cons (.ret (.and_ (.call 0 (.cons (.var 0) .nil) []) (.chn .le .lt (.cst (.int 0)) (.var 0) (.var 1))))
      .nil)
def f2 : Fn := ⟨2, [], 2, b2⟩
/-- is_row(thing, many) -/
def b3 : Ss := (.cons (.ret (.and_ (.pr (.isi [.tuple]) (.cons (.var 0) .nil)) (.pr .eq (.cons (.pr .len (.cons (.var 0) .nil)) (.cons (.var 1) .nil)))))
      .nil)
def f3 : Fn := ⟨2, [], 2, b3⟩
/-- is_name(thing, sign) -/
def b4 : Ss := (.cons (.ret (.and_ (.pr (.isi [.str]) (.cons (.var 0) .nil)) (.and_ (.chn .le .le (.cst (.int 1)) (.pr .len (.cons (.var 0) .nil)) (.glb "LONGEST")) (.pr .all (.cons (.lc [1] (.v 1) (.e (.var 0)) .no (.pr .in_ (.cons (.var 1) (.cons (.glb "LETTERS") .nil)))) .nil)))))
      .nil)
def f4 : Fn := ⟨2, [], 1, b4⟩
/-- rises(some, near, far) -/
def b5 : Ss := (.cons (.ret (.pr .all (.cons (.lc [1, 2] (.t [(.v 1), (.v 2)]) (.zip (.var 0) (.slc (.cons (.var 0) .nil) (.so (.cst (.int 1))) .no)) .no (.pr .lt (.cons (.var 1) (.cons (.var 2) .nil)))) .nil)))
      .nil)
def f5 : Fn := ⟨3, [], 1, b5⟩
/-- tuple_of(thing, part) -/
def b6 : Ss := (.cons (.ite (.pr (.isi [.list, .tuple]) (.cons (.var 0) .nil)) (.cons (.ret (.pr .tuple (.cons (.lc [1] (.v 1) (.e (.var 0)) .no (.call 6 (.cons (.var 1) .nil) [])) .nil)))
      .nil) .nil)
      (.cons (.ret (.var 0))
      .nil))
def f6 : Fn := ⟨2, [], 1, b6⟩
/-- is_entry(thing) -/
def b7 : Ss := (.cons (.ite (.or_ (.not (.call 3 (.cons (.var 0) (.cons (.cst (.int 3)) .nil)) [])) (.or_ (.not (.call 4 (.cons (.pr .idx (.cons (.var 0) (.cons (.cst (.int 0)) .nil))) .nil) [])) (.not (.call 2 (.cons (.pr .idx (.cons (.var 0) (.cons (.cst (.int 1)) .nil))) (.cons (.pr .add (.cons (.glb "PAIR") (.cons (.cst (.int 1)) .nil))) .nil)) [])))) (.cons (.ret (.cst (.bool false)))
      .nil) .nil)
      (.cons (.ret (.and_ (.pr (.isi [.bool]) (.cons (.pr .idx (.cons (.var 0) (.cons (.cst (.int 2)) .nil))) .nil)) (.or_ (.not (.pr .idx (.cons (.var 0) (.cons (.cst (.int 2)) .nil)))) (.pr .eq (.cons (.pr .idx (.cons (.var 0) (.cons (.cst (.int 1)) .nil))) (.cons (.glb "PAIR") .nil))))))
      .nil))
def f7 : Fn := ⟨1, [], 1, b7⟩
/-- is_names(thing, own) -/
def b8 : Ss := (.cons (.ret (.and_ (.pr (.isi [.tuple]) (.cons (.var 0) .nil)) (.and_ (.pr .all (.cons (.lc [1] (.v 1) (.e (.var 0)) .no (.call 7 (.cons (.var 1) .nil) [])) .nil)) (.call 5 (.cons (.lc [1] (.v 1) (.e (.var 0)) .no (.pr .idx (.cons (.var 1) (.cons (.cst (.int 0)) .nil)))) .nil) []))))
      .nil)
def f8 : Fn := ⟨2, [], 1, b8⟩
/-- entries(names, name, many, swap) -/
def b9 : Ss := (.cons (.ret (.nox (.dc [1, 2, 3] (.t [(.v 1), (.v 2), (.v 3)]) (.e (.var 0)) (.var 1) (.tup (.cons (.var 2) (.cons (.var 3) .nil))))))
      .nil)
def f9 : Fn := ⟨4, [], 1, b9⟩
/-- is_term(names, thing, many, own, part) -/
def b10 : Ss := (.cons (.ite (.or_ (.not (.call 3 (.cons (.var 1) (.cons (.glb "PAIR") .nil)) [])) (.or_ (.not (.pr (.isi [.str]) (.cons (.pr .idx (.cons (.var 1) (.cons (.cst (.int 0)) .nil))) .nil))) (.not (.pr (.isi [.tuple]) (.cons (.pr .idx (.cons (.var 1) (.cons (.cst (.int 1)) .nil))) .nil))))) (.cons (.ret (.cst (.bool false)))
      .nil) .nil)
      (.cons (.set (.v 2) (.lc [3] (.v 3) (.e (.var 0)) (.so (.pr .eq (.cons (.pr .idx (.cons (.var 3) (.cons (.cst (.int 0)) .nil))) (.cons (.pr .idx (.cons (.var 1) (.cons (.cst (.int 0)) .nil))) .nil)))) (.pr .idx (.cons (.var 3) (.cons (.cst (.int 1)) .nil)))))
      (.cons (.ret (.and_ (.pr .eq (.cons (.var 2) (.cons (.lst (.cons (.pr .len (.cons (.pr .idx (.cons (.var 1) (.cons (.cst (.int 1)) .nil))) .nil)) .nil)) .nil))) (.pr .all (.cons (.lc [4] (.v 4) (.e (.pr .idx (.cons (.var 1) (.cons (.cst (.int 1)) .nil)))) .no (.call 10 (.cons (.var 0) (.cons (.var 4) .nil)) [])) .nil))))
      .nil)))
def f10 : Fn := ⟨5, [], 2, b10⟩
/-- size(term, part) -/
def b11 : Ss := (.cons (.ret (.pr .add (.cons (.cst (.int 1)) (.cons (.pr .sum (.cons (.lc [1] (.v 1) (.e (.pr .idx (.cons (.var 0) (.cons (.cst (.int 1)) .nil)))) .no (.call 11 (.cons (.var 1) .nil) [])) .nil)) .nil))))
      .nil)
def f11 : Fn := ⟨2, [], 1, b11⟩
/-- key(term, part) -/
def b12 : Ss := (.cons (.ret (.tup (.cons (.call 11 (.cons (.var 0) .nil) []) (.cons (.pr .idx (.cons (.var 0) (.cons (.cst (.int 0)) .nil))) (.cons (.pr .tuple (.cons (.lc [1] (.v 1) (.e (.pr .idx (.cons (.var 0) (.cons (.cst (.int 1)) .nil)))) .no (.call 12 (.cons (.var 1) .nil) [])) .nil)) .nil)))))
      .nil)
def f12 : Fn := ⟨2, [], 1, b12⟩
/-- formed(known, term, parts, part) -/
def b13 : Ss := (.cons (.set (.v 2) (.lc [3] (.v 3) (.e (.pr .idx (.cons (.var 1) (.cons (.cst (.int 1)) .nil)))) .no (.call 13 (.cons (.ow (.var 0)) (.cons (.var 3) .nil)) [])))
      (.cons (.ret (.tup (.cons (.pr .idx (.cons (.var 1) (.cons (.cst (.int 0)) .nil))) (.cons (.pr .tuple (.cons (.ite (.pr .idx (.cons (.dget 0 (.pr .idx (.cons (.var 1) (.cons (.cst (.int 0)) .nil)))) (.cons (.cst (.int 1)) .nil))) (.srtk (.var 2) 12) (.var 2)) .nil)) .nil))))
      .nil))
def f13 : Fn := ⟨4, [0], 2, b13⟩
/-- form(names, term) -/
def b14 : Ss := (.cons (.ret (.call 13 (.cons (.ow (.call 9 (.cons (.var 0) .nil) [])) (.cons (.call 6 (.cons (.var 1) .nil) []) .nil)) []))
      .nil)
def f14 : Fn := ⟨2, [], 2, b14⟩
/-- is_form(names, thing) -/
def b15 : Ss := (.cons (.ret (.and_ (.call 10 (.cons (.var 0) (.cons (.var 1) .nil)) []) (.pr .eq (.cons (.call 14 (.cons (.var 0) (.cons (.var 1) .nil)) []) (.cons (.var 1) .nil)))))
      .nil)
def f15 : Fn := ⟨2, [], 2, b15⟩
/-- is_rule(names, thing) -/
def b16 : Ss := (.cons (.ite (.or_ (.not (.call 3 (.cons (.var 1) (.cons (.glb "TRIPLE") .nil)) [])) (.not (.call 1 (.cons (.pr .idx (.cons (.var 1) (.cons (.cst (.int 2)) .nil))) (.cons (.cst (.int 0)) .nil)) []))) (.cons (.ret (.cst (.bool false)))
      .nil) .nil)
      (.cons (.ret (.and_ (.call 15 (.cons (.var 0) (.cons (.pr .idx (.cons (.var 1) (.cons (.cst (.int 0)) .nil))) .nil)) []) (.and_ (.call 15 (.cons (.var 0) (.cons (.pr .idx (.cons (.var 1) (.cons (.cst (.int 1)) .nil))) .nil)) []) (.pr .ne (.cons (.pr .idx (.cons (.var 1) (.cons (.cst (.int 0)) .nil))) (.cons (.pr .idx (.cons (.var 1) (.cons (.cst (.int 1)) .nil))) .nil))))))
      .nil))
def f16 : Fn := ⟨2, [], 2, b16⟩
/-- is_book(thing, rule) -/
def b17 : Ss := (.cons (.ite (.or_ (.not (.call 3 (.cons (.var 0) (.cons (.cst (.int 2)) .nil)) [])) (.or_ (.not (.call 8 (.cons (.pr .idx (.cons (.var 0) (.cons (.cst (.int 0)) .nil))) .nil) [])) (.not (.pr (.isi [.tuple]) (.cons (.pr .idx (.cons (.var 0) (.cons (.cst (.int 1)) .nil))) .nil))))) (.cons (.ret (.cst (.bool false)))
      .nil) .nil)
      (.cons (.ret (.pr .all (.cons (.lc [1] (.v 1) (.e (.pr .idx (.cons (.var 0) (.cons (.cst (.int 1)) .nil)))) .no (.call 16 (.cons (.pr .idx (.cons (.var 0) (.cons (.cst (.int 0)) .nil))) (.cons (.var 1) .nil)) [])) .nil)))
      .nil))
def f17 : Fn := ⟨2, [], 1, b17⟩
/-- rule_of(names, left, right, price, one, other) -/
def b18 : Ss := (.cons (.par [4, 5] (.cons (.call 14 (.cons (.var 0) (.cons (.var 1) .nil)) []) (.cons (.call 14 (.cons (.var 0) (.cons (.var 2) .nil)) []) .nil)))
      (.cons (.ite (.pr .eq (.cons (.var 4) (.cons (.var 5) .nil))) (.cons (.raise "Unfit")
      .nil) .nil)
      (.cons (.ret (.tup (.cons (.var 4) (.cons (.var 5) (.cons (.var 3) .nil)))))
      .nil)))
def f18 : Fn := ⟨6, [], 4, b18⟩
/-- book_of(names, rules, table, left, right, price) -/
def b19 : Ss := (.cons (.set (.v 2) (.call 6 (.cons (.var 0) .nil) []))
      (.cons (.ret (.tup (.cons (.var 2) (.cons (.pr .tuple (.cons (.lc [3, 4, 5] (.t [(.v 3), (.v 4), (.v 5)]) (.e (.var 1)) .no (.call 18 (.cons (.var 2) (.cons (.var 3) (.cons (.var 4) (.cons (.var 5) .nil)))) [])) .nil)) .nil))))
      .nil))
def f19 : Fn := ⟨6, [], 2, b19⟩
/-- _law_box(script, k, own) -/
def b20 : Ss := (.cons (.set (.v 2) (.ite (.pr .lt (.cons (.var 1) (.cons (.pr .len (.cons (.var 0) .nil)) .nil))) (.pr .idx (.cons (.var 0) (.cons (.var 1) .nil))) (.cst (.int 0))))
      (.cons (.ret (.lst (.cons (.pr .mul (.cons (.pr .abs (.cons (.var 2) .nil)) (.cons (.pr .int (.cons (.pr .ge (.cons (.pr .abs (.cons (.var 2) .nil)) (.cons (.pr .pow (.cons (.cst (.int 10)) (.cons (.cst (.int 18)) .nil))) .nil))) .nil)) .nil))) (.cons (.pr .add (.cons (.pr .add (.cons (.pr .mod (.cons (.pr .int (.cons (.var 2) .nil)) (.cons (.cst (.int 2305843009213693951)) .nil))) (.cons (.pr .mul (.cons (.cst (.int 39403)) (.cons (.var 1) .nil))) .nil))) (.cons (.cst (.int 232193)) .nil))) (.cons (.cst (.int 0)) .nil)))))
      .nil))
def f20 : Fn := ⟨3, [], 2, b20⟩
/-- _law_take(urn, low, once, far, twice, drawn) -/
def b21 : Ss := (.cons (.ite (.pr .gt (.cons (.pr .idx (.cons (.var 0) (.cons (.cst (.int 0)) .nil))) (.cons (.cst (.int 0)) .nil))) (.cons (.set (.v 5) (.pr .mod (.cons (.pr .int (.cons (.pr .idx (.cons (.var 0) (.cons (.cst (.int 0)) .nil))) .nil)) (.cons (.var 1) .nil))))
      (.cons (.put 0 (.cst (.int 0)) (.pr .fdiv (.cons (.pr .idx (.cons (.var 0) (.cons (.cst (.int 0)) .nil))) (.cons (.var 1) .nil))))
      (.cons (.ret (.var 5))
      .nil))) .nil)
      (.cons (.put 0 (.cst (.int 2)) (.pr .add (.cons (.pr .idx (.cons (.var 0) (.cons (.cst (.int 2)) .nil))) (.cons (.cst (.int 1)) .nil))))
      (.cons (.set (.v 2) (.pr .mod (.cons (.pr .int (.cons (.pr .mul (.cons (.pr .add (.cons (.pr .idx (.cons (.var 0) (.cons (.cst (.int 1)) .nil))) (.cons (.pr .mul (.cons (.cst (.int 48271)) (.cons (.pr .idx (.cons (.var 0) (.cons (.cst (.int 2)) .nil))) .nil))) .nil))) (.cons (.pr .add (.cons (.cst (.int 39373)) (.cons (.pr .idx (.cons (.var 0) (.cons (.cst (.int 2)) .nil))) .nil))) .nil))) .nil)) (.cons (.cst (.int 2147483647)) .nil))))
      (.cons (.set (.v 3) (.pr .add (.cons (.pr .mod (.cons (.pr .int (.cons (.var 2) .nil)) (.cons (.cst (.int 40009)) .nil))) (.cons (.cst (.int 7)) .nil))))
      (.cons (.set (.v 4) (.pr .mod (.cons (.pr .int (.cons (.pr .mul (.cons (.pr .add (.cons (.pr .add (.cons (.var 2) (.cons (.pr .idx (.cons (.var 0) (.cons (.cst (.int 2)) .nil))) .nil))) (.cons (.pr .fdiv (.cons (.pr .idx (.cons (.var 0) (.cons (.cst (.int 1)) .nil))) (.cons (.cst (.int 1000003)) .nil))) .nil))) (.cons (.var 3) .nil))) .nil)) (.cons (.cst (.int 2147483629)) .nil))))
      (.cons (.ret (.pr .mod (.cons (.pr .int (.cons (.pr .fdiv (.cons (.pr .mod (.cons (.pr .int (.cons (.pr .add (.cons (.pr .mul (.cons (.var 4) (.cons (.cst (.int 48271)) .nil))) (.cons (.var 2) .nil))) .nil)) (.cons (.cst (.int 2147483587)) .nil))) (.cons (.cst (.int 64)) .nil))) .nil)) (.cons (.var 1) .nil))))
      .nil))))))
def f21 : Fn := ⟨6, [0], 2, b21⟩
/-- _law_cells(script, roof, found, k, own, at) -/
def b22 : Ss := (.cons (.set (.v 2) (.oro (.pr .list (.cons (.slc (.cons (.var 0) .nil) .no (.so (.var 1))) .nil)) (.lst (.cons (.cst (.int 0)) .nil))))
      (.cons (.for_ (.t [(.v 3), (.v 4)]) (.enm (.slc (.cons (.var 0) .nil) (.so (.var 1)) (.so (.cst (.int 63))))) (.cons (.set (.v 5) (.pr .mod (.cons (.pr .int (.cons (.var 3) .nil)) (.cons (.var 1) .nil))))
      (.cons (.put 2 (.var 5) (.pr .add (.cons (.pr .idx (.cons (.var 2) (.cons (.var 5) .nil))) (.cons (.pr .mul (.cons (.var 4) (.cons (.pr .add (.cons (.var 3) (.cons (.cst (.int 2)) .nil))) .nil))) .nil))))
      .nil)))
      (.cons (.ret (.var 2))
      .nil)))
def f22 : Fn := ⟨6, [], 2, b22⟩
/-- _law_of(urn, some) -/
def b23 : Ss := (.cons (.ret (.pr .idx (.cons (.var 1) (.cons (.call 21 (.cons (.ow (.var 0)) (.cons (.pr .len (.cons (.var 1) .nil)) .nil)) []) .nil))))
      .nil)
def f23 : Fn := ⟨2, [0], 2, b23⟩
/-- _law_same(mine, due, near, far) -/
def b24 : Ss := (.cons (.ite (.pr (.isi [.list, .tuple]) (.cons (.var 1) .nil)) (.cons (.ite (.or_ (.pr .ne (.cons (.pr (.isi [.list]) (.cons (.var 0) .nil)) (.cons (.pr (.isi [.list]) (.cons (.var 1) .nil)) .nil))) (.pr .ne (.cons (.pr (.isi [.tuple]) (.cons (.var 0) .nil)) (.cons (.pr (.isi [.tuple]) (.cons (.var 1) .nil)) .nil)))) (.cons (.ret (.cst (.bool false)))
      .nil) .nil)
      (.cons (.ret (.and_ (.pr .eq (.cons (.pr .len (.cons (.var 0) .nil)) (.cons (.pr .len (.cons (.var 1) .nil)) .nil))) (.pr .all (.cons (.lc [2, 3] (.t [(.v 2), (.v 3)]) (.zip (.var 0) (.var 1)) .no (.call 24 (.cons (.var 2) (.cons (.var 3) .nil)) [])) .nil))))
      .nil)) .nil)
      (.cons (.ite (.or_ (.pr .isN (.cons (.var 1) .nil)) (.pr (.isi [.bool, .str]) (.cons (.var 1) .nil))) (.cons (.ret (.and_ (.pr .eq (.cons (.var 0) (.cons (.var 1) .nil))) (.and_ (.pr .eq (.cons (.pr (.isi [.bool]) (.cons (.var 0) .nil)) (.cons (.pr (.isi [.bool]) (.cons (.var 1) .nil)) .nil))) (.pr .eq (.cons (.pr .isN (.cons (.var 0) .nil)) (.cons (.pr .isN (.cons (.var 1) .nil)) .nil))))))
      .nil) .nil)
      (.cons (.ret (.and_ (.pr (.isi [.int]) (.cons (.var 0) .nil)) (.and_ (.not (.pr (.isi [.bool]) (.cons (.var 0) .nil))) (.pr .eq (.cons (.var 0) (.cons (.var 1) .nil))))))
      .nil)))
def f24 : Fn := ⟨4, [], 2, b24⟩
/-- _law_lists(matter, own) -/
def b25 : Ss := (.cons (.ret (.ite (.pr (.isi [.list, .tuple]) (.cons (.var 0) .nil)) (.lc [1] (.v 1) (.e (.var 0)) .no (.call 25 (.cons (.var 1) .nil) [])) (.var 0)))
      .nil)
def f25 : Fn := ⟨2, [], 1, b25⟩
/-- _law_soft(urn, matter) -/
def b26 : Ss := (.cons (.ret (.ite (.pr .eq (.cons (.call 21 (.cons (.ow (.var 0)) (.cons (.cst (.int 3)) .nil)) []) (.cons (.cst (.int 0)) .nil))) (.call 25 (.cons (.var 1) .nil) []) (.var 1)))
      .nil)
def f26 : Fn := ⟨2, [0], 2, b26⟩
/-- _law_key(term, keys, part, own) -/
def b27 : Ss := (.cons (.set (.v 1) (.lc [2] (.v 2) (.e (.pr .idx (.cons (.var 0) (.cons (.cst (.int 1)) .nil)))) .no (.call 27 (.cons (.var 2) .nil) [])))
      (.cons (.ret (.tup (.cons (.pr .add (.cons (.cst (.int 1)) (.cons (.pr .sum (.cons (.lc [3] (.v 3) (.e (.var 1)) .no (.pr .idx (.cons (.var 3) (.cons (.cst (.int 0)) .nil)))) .nil)) .nil))) (.cons (.pr .idx (.cons (.var 0) (.cons (.cst (.int 0)) .nil))) (.cons (.pr .tuple (.cons (.var 1) .nil)) .nil)))))
      .nil))
def f27 : Fn := ⟨4, [], 1, b27⟩
/-- _law_form(names, term, parts, swap, part, own) -/
def b28 : Ss := (.cons (.set (.v 2) (.lc [4] (.v 4) (.e (.pr .idx (.cons (.var 1) (.cons (.cst (.int 1)) .nil)))) .no (.call 28 (.cons (.var 0) (.cons (.var 4) .nil)) [])))
      (.cons (.set (.v 3) (.pr .eq (.cons (.lc [5] (.v 5) (.e (.var 0)) (.so (.pr .eq (.cons (.pr .idx (.cons (.var 5) (.cons (.cst (.int 0)) .nil))) (.cons (.pr .idx (.cons (.var 1) (.cons (.cst (.int 0)) .nil))) .nil)))) (.pr .idx (.cons (.var 5) (.cons (.cst (.int 2)) .nil)))) (.cons (.lst (.cons (.cst (.bool true)) .nil)) .nil))))
      (.cons (.ret (.tup (.cons (.pr .idx (.cons (.var 1) (.cons (.cst (.int 0)) .nil))) (.cons (.pr .tuple (.cons (.ite (.var 3) (.srtk (.var 2) 27) (.var 2)) .nil)) .nil))))
      .nil)))
def f28 : Fn := ⟨6, [], 2, b28⟩
/-- _law_names(urn, rows) -/
def b29 : Ss := (.cons (.set (.v 1) (.pr .add (.cons (.pr .add (.cons (.lst (.cons (.tup (.cons (.cst (.str "a")) (.cons (.cst (.int 0)) (.cons (.cst (.bool false)) .nil)))) (.cons (.tup (.cons (.cst (.str "b")) (.cons (.cst (.int 0)) (.cons (.cst (.bool false)) .nil)))) .nil))) (.cons (.rep (.cons (.tup (.cons (.cst (.str "c")) (.cons (.cst (.int 0)) (.cons (.cst (.bool false)) .nil)))) .nil) (.call 21 (.cons (.ow (.var 0)) (.cons (.cst (.int 2)) .nil)) [])) .nil))) (.cons (.rep (.cons (.tup (.cons (.cst (.str "f")) (.cons (.cst (.int 1)) (.cons (.cst (.bool false)) .nil)))) .nil) (.call 21 (.cons (.ow (.var 0)) (.cons (.cst (.int 2)) .nil)) [])) .nil))))
      (.cons (.ret (.pr .tuple (.cons (.pr .sorted (.cons (.pr .add (.cons (.pr .add (.cons (.var 1) (.cons (.rep (.cons (.tup (.cons (.cst (.str "p")) (.cons (.cst (.int 2)) (.cons (.cst (.bool false)) .nil)))) .nil) (.call 21 (.cons (.ow (.var 0)) (.cons (.cst (.int 2)) .nil)) [])) .nil))) (.cons (.rep (.cons (.tup (.cons (.cst (.str "s")) (.cons (.cst (.int 2)) (.cons (.cst (.bool true)) .nil)))) .nil) (.pr .sub (.cons (.cst (.int 1)) (.cons (.pr .int (.cons (.pr .eq (.cons (.call 21 (.cons (.ow (.var 0)) (.cons (.cst (.int 4)) .nil)) []) (.cons (.cst (.int 0)) .nil))) .nil)) .nil)))) .nil))) .nil)) .nil)))
      .nil))
def f29 : Fn := ⟨2, [0], 1, b29⟩
/-- _law_term(urn, names, most, bare, name, many, swap, parts, left, place, own) -/
def b30 : Ss := (.cons (.set (.v 3) (.lc [10] (.v 10) (.e (.var 1)) (.so (.pr .eq (.cons (.pr .idx (.cons (.var 10) (.cons (.cst (.int 1)) .nil))) (.cons (.cst (.int 0)) .nil)))) (.var 10)))
      (.cons (.set (.t [(.v 4), (.v 5), (.v 6)]) (.call 23 (.cons (.ow (.var 0)) (.cons (.ite (.pr .gt (.cons (.var 2) (.cons (.cst (.int 1)) .nil))) (.lc [10] (.v 10) (.e (.var 1)) (.so (.pr .lt (.cons (.pr .idx (.cons (.var 10) (.cons (.cst (.int 1)) .nil))) (.cons (.var 2) .nil)))) (.var 10)) (.var 3)) .nil)) []))
      (.cons (.par [7, 8] (.cons (.lst .nil) (.cons (.pr .sub (.cons (.var 2) (.cons (.cst (.int 1)) .nil))) .nil)))
      (.cons (.for_ (.v 9) (.rng (.var 5)) (.cons (.set (.v 10) (.call 30 (.cons (.ow (.var 0)) (.cons (.var 1) (.cons (.pr .max2 (.cons (.cst (.int 1)) (.cons (.pr .sub (.cons (.var 8) (.cons (.pr .sub (.cons (.pr .sub (.cons (.var 5) (.cons (.cst (.int 1)) .nil))) (.cons (.var 9) .nil))) .nil))) .nil))) .nil))) []))
      (.cons (.app 7 (.var 10))
      (.cons (.set (.v 8) (.pr .sub (.cons (.var 8) (.cons (.pr .idx (.cons (.call 27 (.cons (.var 10) .nil) []) (.cons (.cst (.int 0)) .nil))) .nil))))
      .nil))))
      (.cons (.ret (.tup (.cons (.var 4) (.cons (.pr .tuple (.cons (.var 7) .nil)) .nil))))
      .nil)))))
def f30 : Fn := ⟨11, [0], 3, b30⟩
/-- _law_heard(door, names, left, right, price) -/
def b31 : Ss := (.cons (.try_ (.cons (.ret (.ite (.pr .eq (.cons (.var 0) (.cons (.cst (.int 0)) .nil))) (.call 18 (.cons (.var 1) (.cons (.var 2) (.cons (.var 3) (.cons (.var 4) .nil)))) []) (.call 19 (.cons (.var 1) (.cons (.var 2) .nil)) [])))
      .nil) "Unfit" (.cst (.str "unfit")))
      .nil)
def f31 : Fn := ⟨5, [], 5, b31⟩
/-- law(script, urn, names, rows, due, bad, lap, book, got, one, things, wrong, other, price, near, far, own) -/
def b32 : Ss := (.cons (.set (.v 1) (.call 20 (.cons (.call 22 (.cons (.var 0) (.cons (.cst (.int 1)) .nil)) []) (.cons (.cst (.int 0)) .nil)) []))
      (.cons (.set (.v 2) (.call 29 (.cons (.ow (.var 1)) .nil) []))
      (.cons (.par [3, 4, 5] (.cons (.lst .nil) (.cons (.lst .nil) (.cons (.cst (.bool false)) .nil))))
      (.cons (.for_ (.v 6) (.rng (.call 21 (.cons (.ow (.var 1)) (.cons (.cst (.int 5)) .nil)) [])) (.cons (.par [9, 12, 13] (.cons (.call 30 (.cons (.ow (.var 1)) (.cons (.var 2) (.cons (.cst (.int 6)) .nil))) []) (.cons (.call 30 (.cons (.ow (.var 1)) (.cons (.var 2) (.cons (.cst (.int 4)) .nil))) []) (.cons (.call 21 (.cons (.ow (.var 1)) (.cons (.cst (.int 9)) .nil)) []) .nil))))
      (.cons (.ite (.pr .eq (.cons (.call 21 (.cons (.ow (.var 1)) (.cons (.cst (.int 9)) .nil)) []) (.cons (.cst (.int 0)) .nil))) (.cons (.set (.v 12) (.call 28 (.cons (.var 2) (.cons (.var 9) .nil)) []))
      .nil) .nil)
      (.cons (.par [14, 15] (.cons (.call 28 (.cons (.var 2) (.cons (.var 9) .nil)) []) (.cons (.call 28 (.cons (.var 2) (.cons (.var 12) .nil)) []) .nil)))
      (.cons (.app 3 (.tup (.cons (.var 9) (.cons (.var 12) (.cons (.var 13) .nil)))))
      (.cons (.app 4 (.tup (.cons (.var 14) (.cons (.var 15) (.cons (.var 13) .nil)))))
      (.cons (.set (.v 5) (.or_ (.var 5) (.pr .eq (.cons (.var 14) (.cons (.var 15) .nil)))))
      (.cons (.set (.v 8) (.lst (.cons (.call 31 (.cons (.cst (.int 0)) (.cons (.var 2) (.cons (.call 26 (.cons (.ow (.var 1)) (.cons (.var 9) .nil)) []) (.cons (.var 12) (.cons (.var 13) .nil))))) []) (.cons (.call 16 (.cons (.var 2) (.cons (.tup (.cons (.var 14) (.cons (.var 15) (.cons (.var 13) .nil)))) .nil)) []) (.cons (.call 16 (.cons (.var 2) (.cons (.tup (.cons (.var 9) (.cons (.var 15) (.cons (.var 13) .nil)))) .nil)) []) (.cons (.call 16 (.cons (.var 2) (.cons (.tup (.cons (.var 14) (.cons (.var 15) (.cons (.pr .neg (.cons (.cst (.int 1)) .nil)) .nil)))) .nil)) []) .nil))))))
      (.cons (.set (.v 8) (.pr .add (.cons (.var 8) (.cons (.lst (.cons (.call 16 (.cons (.var 2) (.cons (.tup (.cons (.var 14) (.cons (.var 15) (.cons (.cst (.bool true)) .nil)))) .nil)) []) (.cons (.call 16 (.cons (.var 2) (.cons (.lst (.cons (.var 14) (.cons (.var 15) (.cons (.var 13) .nil)))) .nil)) []) .nil))) .nil))))
      (.cons (.ite (.not (.call 24 (.cons (.var 8) (.cons (.lst (.cons (.ite (.pr .ne (.cons (.var 14) (.cons (.var 15) .nil))) (.tup (.cons (.var 14) (.cons (.var 15) (.cons (.var 13) .nil)))) (.cst (.str "unfit"))) (.cons (.pr .ne (.cons (.var 14) (.cons (.var 15) .nil))) (.cons (.and_ (.pr .eq (.cons (.var 9) (.cons (.var 14) .nil))) (.pr .ne (.cons (.var 14) (.cons (.var 15) .nil)))) (.cons (.cst (.bool false)) (.cons (.cst (.bool false)) (.cons (.cst (.bool false)) .nil))))))) .nil)) [])) (.cons (.ret (.cst (.bool false)))
      .nil) .nil)
      .nil))))))))))
      (.cons (.set (.v 7) (.tup (.cons (.var 2) (.cons (.pr .tuple (.cons (.var 4) .nil)) .nil))))
      (.cons (.set (.v 8) (.lst (.cons (.call 31 (.cons (.cst (.int 1)) (.cons (.call 26 (.cons (.ow (.var 1)) (.cons (.var 2) .nil)) []) (.cons (.call 26 (.cons (.ow (.var 1)) (.cons (.var 3) .nil)) []) (.cons (.cst .none) (.cons (.cst .none) .nil))))) []) (.cons (.call 17 (.cons (.var 7) .nil) []) (.cons (.call 17 (.cons (.pr .list (.cons (.var 7) .nil)) .nil) []) (.cons (.call 17 (.cons (.tup (.cons (.var 2) (.cons (.pr .list (.cons (.var 4) .nil)) .nil))) .nil) []) .nil))))))
      (.cons (.set (.v 8) (.pr .add (.cons (.var 8) (.cons (.lst (.cons (.call 17 (.cons (.tup (.cons (.pr .rev (.cons (.var 2) .nil)) (.cons (.pr .tuple (.cons (.var 4) .nil)) .nil))) .nil) []) (.cons (.call 17 (.cons (.var 2) .nil) []) (.cons (.call 17 (.cons (.tup (.cons (.tup .nil) (.cons (.tup .nil) .nil))) .nil) []) .nil)))) .nil))))
      (.cons (.ite (.not (.call 24 (.cons (.var 8) (.cons (.lst (.cons (.ite (.var 5) (.cst (.str "unfit")) (.var 7)) (.cons (.not (.var 5)) (.cons (.cst (.bool false)) (.cons (.cst (.bool false)) (.cons (.cst (.bool false)) (.cons (.cst (.bool false)) (.cons (.cst (.bool true)) .nil)))))))) .nil)) [])) (.cons (.ret (.cst (.bool false)))
      .nil) .nil)
      (.cons (.ite (.and_ (.not (.var 5)) (.and_ (.pr .ne (.cons (.var 3) (.cons (.lst .nil) .nil))) (.not (.call 24 (.cons (.call 18 (.cons (.var 2) (.cons (.pr .idx (.cons (.pr .idx (.cons (.var 3) (.cons (.cst (.int 0)) .nil))) (.cons (.cst (.int 0)) .nil))) (.cons (.pr .idx (.cons (.pr .idx (.cons (.var 3) (.cons (.cst (.int 0)) .nil))) (.cons (.cst (.int 1)) .nil))) .nil))) [(.int 0)]) (.cons (.pr .add (.cons (.slc (.cons (.pr .idx (.cons (.var 4) (.cons (.cst (.int 0)) .nil))) .nil) .no (.so (.cst (.int 2)))) (.cons (.tup (.cons (.cst (.int 0)) .nil)) .nil))) .nil)) [])))) (.cons (.ret (.cst (.bool false)))
      .nil) .nil)
      (.cons (.set (.v 9) (.call 30 (.cons (.ow (.var 1)) (.cons (.var 2) (.cons (.cst (.int 6)) .nil))) []))
      (.cons (.set (.v 10) (.lst (.cons (.cst .none) (.cons (.tup .nil) (.cons (.cst (.str "a")) (.cons (.tup (.cons (.cst (.str "a")) .nil)) (.cons (.tup (.cons (.cst (.str "zz")) (.cons (.tup .nil) .nil))) (.cons (.tup (.cons (.cst (.str "a")) (.cons (.tup (.cons (.tup (.cons (.cst (.str "a")) (.cons (.tup .nil) .nil))) .nil)) .nil))) (.cons (.tup (.cons (.pr .idx (.cons (.var 9) (.cons (.cst (.int 0)) .nil))) (.cons (.pr .list (.cons (.pr .idx (.cons (.var 9) (.cons (.cst (.int 1)) .nil))) .nil)) .nil))) (.cons (.tup (.cons (.pr .idx (.cons (.var 9) (.cons (.cst (.int 0)) .nil))) (.cons (.pr .add (.cons (.pr .idx (.cons (.var 9) (.cons (.cst (.int 1)) .nil))) (.cons (.tup (.cons (.var 9) .nil)) .nil))) .nil))) (.cons (.lst (.cons (.pr .idx (.cons (.var 9) (.cons (.cst (.int 0)) .nil))) (.cons (.pr .idx (.cons (.var 9) (.cons (.cst (.int 1)) .nil))) .nil))) (.cons (.tup (.cons (.cst (.int 7)) (.cons (.tup .nil) .nil))) (.cons (.tup (.cons (.cst (.bool true)) (.cons (.tup .nil) .nil))) .nil)))))))))))))
      (.cons (.set (.v 8) (.pr .add (.cons (.lc [16] (.v 16) (.e (.var 10)) .no (.lst (.cons (.call 10 (.cons (.var 2) (.cons (.var 16) .nil)) []) (.cons (.call 15 (.cons (.var 2) (.cons (.var 16) .nil)) []) .nil)))) (.cons (.lst (.cons (.call 10 (.cons (.var 2) (.cons (.var 9) .nil)) []) (.cons (.pr .eq (.cons (.call 15 (.cons (.var 2) (.cons (.var 9) .nil)) []) (.cons (.pr .eq (.cons (.call 14 (.cons (.var 2) (.cons (.var 9) .nil)) []) (.cons (.var 9) .nil))) .nil))) .nil))) .nil))))
      (.cons (.ite (.not (.call 24 (.cons (.var 8) (.cons (.pr .add (.cons (.rep (.cons (.lst (.cons (.cst (.bool false)) (.cons (.cst (.bool false)) .nil))) .nil) (.pr .len (.cons (.var 10) .nil))) (.cons (.lst (.cons (.cst (.bool true)) (.cons (.cst (.bool true)) .nil))) .nil))) .nil)) [])) (.cons (.ret (.cst (.bool false)))
      .nil) .nil)
      (.cons (.set (.v 11) (.lst (.cons (.pr .add (.cons (.var 2) (.cons (.slc (.cons (.var 2) .nil) .no (.so (.cst (.int 1)))) .nil))) (.cons (.tup (.cons (.tup (.cons (.cst (.str "a")) (.cons (.cst (.int 0)) (.cons (.cst (.int 0)) .nil)))) .nil)) .nil))))
      (.cons (.set (.v 11) (.pr .add (.cons (.var 11) (.cons (.lst (.cons (.tup (.cons (.tup (.cons (.cst (.str "a")) (.cons (.cst (.int 3)) (.cons (.cst (.bool false)) .nil)))) .nil)) (.cons (.tup (.cons (.tup (.cons (.cst (.str "A")) (.cons (.cst (.int 0)) (.cons (.cst (.bool false)) .nil)))) .nil)) (.cons (.tup (.cons (.tup (.cons (.cst (.str "")) (.cons (.cst (.int 0)) (.cons (.cst (.bool false)) .nil)))) .nil)) (.cons (.tup (.cons (.tup (.cons (.cst (.str "abcdefghi")) (.cons (.cst (.int 0)) (.cons (.cst (.bool false)) .nil)))) .nil)) (.cons (.tup (.cons (.tup (.cons (.cst (.str "a")) (.cons (.cst (.int 1)) (.cons (.cst (.bool true)) .nil)))) .nil)) (.cons (.tup (.cons (.tup (.cons (.cst (.str "a")) (.cons (.cst (.bool true)) (.cons (.cst (.bool false)) .nil)))) .nil)) (.cons (.tup (.cons (.lst (.cons (.cst (.str "a")) (.cons (.cst (.int 0)) (.cons (.cst (.bool false)) .nil)))) .nil)) (.cons (.pr .list (.cons (.var 2) .nil)) (.cons (.cst .none) .nil)))))))))) .nil))))
      (.cons (.ret (.call 24 (.cons (.pr .add (.cons (.lc [16] (.v 16) (.e (.var 11)) .no (.call 8 (.cons (.var 16) .nil) [])) (.cons (.lst (.cons (.call 8 (.cons (.var 2) .nil) []) (.cons (.call 8 (.cons (.tup .nil) .nil) []) (.cons (.call 8 (.cons (.tup (.cons (.tup (.cons (.cst (.str "abcdefgh")) (.cons (.cst (.int 2)) (.cons (.cst (.bool true)) .nil)))) .nil)) .nil) []) .nil)))) .nil))) (.cons (.pr .add (.cons (.rep (.cons (.cst (.bool false)) .nil) (.pr .len (.cons (.var 11) .nil))) (.cons (.lst (.cons (.cst (.bool true)) (.cons (.cst (.bool true)) (.cons (.cst (.bool true)) .nil)))) .nil))) .nil)) []))
      .nil))))))))))))))))
def f32 : Fn := ⟨17, [], 1, b32⟩
def glob : Str → Option D := fun x => if x = "LETTERS" then some (.str "abcdefghijklmnopqrstuvwxyz") else if x = "LONGEST" then some (.int 8) else if x = "PAIR" then some (.int 2) else if x = "TRIPLE" then some (.int 3) else none
def exm : Str → Str → Option Bool := fun a b => if a = b then some true else none
def pg : Prog := ⟨[f0, f1, f2, f3, f4, f5, f6, f7, f8, f9, f10, f11, f12, f13, f14, f15, f16, f17, f18, f19, f20, f21, f22, f23, f24, f25, f26, f27, f28, f29, f30, f31, f32], glob, 100000, exm⟩
/-! ### the facts of the head -/
structure Fx (K : PySem.W.Frag) (mg : Str → Option Value) where
  n_abs : mg "abs" = none
  n_all : mg "all" = none
  n_bool : mg "bool" = none
  n_enumerate : mg "enumerate" = none
  n_int : mg "int" = none
  n_isinstance : mg "isinstance" = none
  n_len : mg "len" = none
  n_list : mg "list" = none
  n_max : mg "max" = none
  n_range : mg "range" = none
  n_sorted : mg "sorted" = none
  n_str : mg "str" = none
  n_sum : mg "sum" = none
  n_tuple : mg "tuple" = none
  n_zip : mg "zip" = none
  t_LETTERS : Tok
  g_LETTERS : mg "LETTERS" = some (.str "abcdefghijklmnopqrstuvwxyz" t_LETTERS)
  t_LONGEST : Tok
  g_LONGEST : mg "LONGEST" = some (.int 8 t_LONGEST)
  t_PAIR : Tok
  g_PAIR : mg "PAIR" = some (.int 2 t_PAIR)
  t_TRIPLE : Tok
  g_TRIPLE : mg "TRIPLE" = some (.int 3 t_TRIPLE)
  a0 : Addr
  d0 : FuncData
  F0 : FunD K "is_number" "is_number" (defArgs (top 5)) (defBody (top 5)) (defScope (top 5)) [] [] a0 d0
  m0 : mg "is_number" = some (.ref a0)
  b0 : Binds K d0 ["thing"] []
  a1 : Addr
  d1 : FuncData
  F1 : FunD K "is_from" "is_from" (defArgs (top 6)) (defBody (top 6)) (defScope (top 6)) [] [] a1 d1
  m1 : mg "is_from" = some (.ref a1)
  b1 : Binds K d1 ["thing", "least"] []
  a2 : Addr
  d2 : FuncData
  F2 : FunD K "is_below" "is_below" (defArgs (top 7)) (defBody (top 7)) (defScope (top 7)) [] [] a2 d2
  m2 : mg "is_below" = some (.ref a2)
  b2 : Binds K d2 ["thing", "many"] []
  a3 : Addr
  d3 : FuncData
  F3 : FunD K "is_row" "is_row" (defArgs (top 8)) (defBody (top 8)) (defScope (top 8)) [] [] a3 d3
  m3 : mg "is_row" = some (.ref a3)
  b3 : Binds K d3 ["thing", "many"] []
  a4 : Addr
  d4 : FuncData
  F4 : FunD K "is_name" "is_name" (defArgs (top 9)) (defBody (top 9)) (defScope (top 9)) [] [] a4 d4
  m4 : mg "is_name" = some (.ref a4)
  b4 : Binds K d4 ["thing"] []
  a5 : Addr
  d5 : FuncData
  F5 : FunD K "rises" "rises" (defArgs (top 10)) (defBody (top 10)) (defScope (top 10)) [] [] a5 d5
  m5 : mg "rises" = some (.ref a5)
  b5 : Binds K d5 ["some"] []
  a6 : Addr
  d6 : FuncData
  F6 : FunD K "tuple_of" "tuple_of" (defArgs (top 11)) (defBody (top 11)) (defScope (top 11)) [] [] a6 d6
  m6 : mg "tuple_of" = some (.ref a6)
  b6 : Binds K d6 ["thing"] []
  a7 : Addr
  d7 : FuncData
  F7 : FunD K "is_entry" "is_entry" (defArgs (top 14)) (defBody (top 14)) (defScope (top 14)) [] [] a7 d7
  m7 : mg "is_entry" = some (.ref a7)
  b7 : Binds K d7 ["thing"] []
  a8 : Addr
  d8 : FuncData
  F8 : FunD K "is_names" "is_names" (defArgs (top 15)) (defBody (top 15)) (defScope (top 15)) [] [] a8 d8
  m8 : mg "is_names" = some (.ref a8)
  b8 : Binds K d8 ["thing"] []
  a9 : Addr
  d9 : FuncData
  F9 : FunD K "entries" "entries" (defArgs (top 16)) (defBody (top 16)) (defScope (top 16)) [] [] a9 d9
  m9 : mg "entries" = some (.ref a9)
  b9 : Binds K d9 ["names"] []
  a10 : Addr
  d10 : FuncData
  F10 : FunD K "is_term" "is_term" (defArgs (top 17)) (defBody (top 17)) (defScope (top 17)) [] [] a10 d10
  m10 : mg "is_term" = some (.ref a10)
  b10 : Binds K d10 ["names", "thing"] []
  a11 : Addr
  d11 : FuncData
  F11 : FunD K "size" "size" (defArgs (top 18)) (defBody (top 18)) (defScope (top 18)) [] [] a11 d11
  m11 : mg "size" = some (.ref a11)
  b11 : Binds K d11 ["term"] []
  a12 : Addr
  d12 : FuncData
  F12 : FunD K "key" "key" (defArgs (top 19)) (defBody (top 19)) (defScope (top 19)) [] [] a12 d12
  m12 : mg "key" = some (.ref a12)
  b12 : Binds K d12 ["term"] []
  a13 : Addr
  d13 : FuncData
  F13 : FunD K "formed" "formed" (defArgs (top 20)) (defBody (top 20)) (defScope (top 20)) [] [] a13 d13
  m13 : mg "formed" = some (.ref a13)
  b13 : Binds K d13 ["known", "term"] []
  a14 : Addr
  d14 : FuncData
  F14 : FunD K "form" "form" (defArgs (top 21)) (defBody (top 21)) (defScope (top 21)) [] [] a14 d14
  m14 : mg "form" = some (.ref a14)
  b14 : Binds K d14 ["names", "term"] []
  a15 : Addr
  d15 : FuncData
  F15 : FunD K "is_form" "is_form" (defArgs (top 22)) (defBody (top 22)) (defScope (top 22)) [] [] a15 d15
  m15 : mg "is_form" = some (.ref a15)
  b15 : Binds K d15 ["names", "thing"] []
  a16 : Addr
  d16 : FuncData
  F16 : FunD K "is_rule" "is_rule" (defArgs (top 25)) (defBody (top 25)) (defScope (top 25)) [] [] a16 d16
  m16 : mg "is_rule" = some (.ref a16)
  b16 : Binds K d16 ["names", "thing"] []
  a17 : Addr
  d17 : FuncData
  F17 : FunD K "is_book" "is_book" (defArgs (top 26)) (defBody (top 26)) (defScope (top 26)) [] [] a17 d17
  m17 : mg "is_book" = some (.ref a17)
  b17 : Binds K d17 ["thing"] []
  a18 : Addr
  d18 : FuncData
  F18 : FunD K "rule_of" "rule_of" (defArgs (top 27)) (defBody (top 27)) (defScope (top 27)) [(.int 0)] [] a18 d18
  m18 : mg "rule_of" = some (.ref a18)
  b18 : Binds K d18 ["names", "left", "right", "price"] []
  ds18 : List Value
  bd18 : Binds K d18 ["names", "left", "right", "price"] ds18
  dv18 : Vals [(.int 0)] ds18
  a19 : Addr
  d19 : FuncData
  F19 : FunD K "book_of" "book_of" (defArgs (top 28)) (defBody (top 28)) (defScope (top 28)) [] [] a19 d19
  m19 : mg "book_of" = some (.ref a19)
  b19 : Binds K d19 ["names", "rules"] []
  a20 : Addr
  d20 : FuncData
  F20 : FunD K "_law_box" "_law_box" (defArgs (top 30)) (defBody (top 30)) (defScope (top 30)) [] [] a20 d20
  m20 : mg "_law_box" = some (.ref a20)
  b20 : Binds K d20 ["script", "k"] []
  a21 : Addr
  d21 : FuncData
  F21 : FunD K "_law_take" "_law_take" (defArgs (top 31)) (defBody (top 31)) (defScope (top 31)) [] [] a21 d21
  m21 : mg "_law_take" = some (.ref a21)
  b21 : Binds K d21 ["urn", "low"] []
  a22 : Addr
  d22 : FuncData
  F22 : FunD K "_law_cells" "_law_cells" (defArgs (top 32)) (defBody (top 32)) (defScope (top 32)) [] [] a22 d22
  m22 : mg "_law_cells" = some (.ref a22)
  b22 : Binds K d22 ["script", "roof"] []
  a23 : Addr
  d23 : FuncData
  F23 : FunD K "_law_of" "_law_of" (defArgs (top 33)) (defBody (top 33)) (defScope (top 33)) [] [] a23 d23
  m23 : mg "_law_of" = some (.ref a23)
  b23 : Binds K d23 ["urn", "some"] []
  a24 : Addr
  d24 : FuncData
  F24 : FunD K "_law_same" "_law_same" (defArgs (top 34)) (defBody (top 34)) (defScope (top 34)) [] [] a24 d24
  m24 : mg "_law_same" = some (.ref a24)
  b24 : Binds K d24 ["mine", "due"] []
  a25 : Addr
  d25 : FuncData
  F25 : FunD K "_law_lists" "_law_lists" (defArgs (top 35)) (defBody (top 35)) (defScope (top 35)) [] [] a25 d25
  m25 : mg "_law_lists" = some (.ref a25)
  b25 : Binds K d25 ["matter"] []
  a26 : Addr
  d26 : FuncData
  F26 : FunD K "_law_soft" "_law_soft" (defArgs (top 36)) (defBody (top 36)) (defScope (top 36)) [] [] a26 d26
  m26 : mg "_law_soft" = some (.ref a26)
  b26 : Binds K d26 ["urn", "matter"] []
  a27 : Addr
  d27 : FuncData
  F27 : FunD K "_law_key" "_law_key" (defArgs (top 37)) (defBody (top 37)) (defScope (top 37)) [] [] a27 d27
  m27 : mg "_law_key" = some (.ref a27)
  b27 : Binds K d27 ["term"] []
  a28 : Addr
  d28 : FuncData
  F28 : FunD K "_law_form" "_law_form" (defArgs (top 38)) (defBody (top 38)) (defScope (top 38)) [] [] a28 d28
  m28 : mg "_law_form" = some (.ref a28)
  b28 : Binds K d28 ["names", "term"] []
  a29 : Addr
  d29 : FuncData
  F29 : FunD K "_law_names" "_law_names" (defArgs (top 39)) (defBody (top 39)) (defScope (top 39)) [] [] a29 d29
  m29 : mg "_law_names" = some (.ref a29)
  b29 : Binds K d29 ["urn"] []
  a30 : Addr
  d30 : FuncData
  F30 : FunD K "_law_term" "_law_term" (defArgs (top 40)) (defBody (top 40)) (defScope (top 40)) [] [] a30 d30
  m30 : mg "_law_term" = some (.ref a30)
  b30 : Binds K d30 ["urn", "names", "most"] []
  a31 : Addr
  d31 : FuncData
  F31 : FunD K "_law_heard" "_law_heard" (defArgs (top 41)) (defBody (top 41)) (defScope (top 41)) [] [] a31 d31
  m31 : mg "_law_heard" = some (.ref a31)
  b31 : Binds K d31 ["door", "names", "left", "right", "price"] []
  a32 : Addr
  d32 : FuncData
  F32 : FunD K "law" "law" (defArgs (top 42)) (defBody (top 42)) (defScope (top 42)) [] [] a32 d32
  m32 : mg "law" = some (.ref a32)
  b32 : Binds K d32 ["script"] []
  m_Unfit : mg "Unfit" = some (.ref (He.ga K "Unfit"))
  xi_Unfit : PySem.W.excIn K (He.ga K "Unfit") He.veBase "ValueError.__new__" = true
  xk_Unfit : PySem.W.keepIn K (.ref (He.ga K "Unfit")) = true
  xs_Unfit : PySem.W.subIn K (.ref (He.ga K "Unfit")) (.type "BaseException") = some true
  xt_Unfit : PySem.W.typeIn K (.ref (He.ga K "Unfit")) = some (.type "type")
  xm_Unfit : PySem.W.exmOne K (.ref (He.ga K "Unfit")) (.ref (He.ga K "Unfit")) = some true
theorem exm_of {K : PySem.W.Frag} {c : Str} (h : PySem.W.exmOne K (.ref (He.ga K c)) (.ref (He.ga K c)) = some true) : ∀ c' r, exm c' c = some r → PySem.W.exmOne K (.ref (He.ga K c')) (.ref (He.ga K c)) = some r := fun c' r e => by
  unfold exm at e
  split at e
  · rename_i q
    cases e
    rw [q]
    exact h
  · cases e
structure Ok (w : World) (K : PySem.W.Frag) (mg : Str → Option Value) (base : Heap) (c : Fx K mg) (n : Nat) : Prop where
  o0 : FnOk pw w K mg base (L2.CX pw w) (3 * n) c.a0 c.d0 ["thing"] (SpC K 1 (callN pg n 0))
  o1 : FnOk pw w K mg base (L2.CX pw w) (3 * n) c.a1 c.d1 ["thing", "least"] (SpC K 2 (callN pg n 1))
  o2 : FnOk pw w K mg base (L2.CX pw w) (3 * n) c.a2 c.d2 ["thing", "many"] (SpC K 2 (callN pg n 2))
  o3 : FnOk pw w K mg base (L2.CX pw w) (3 * n) c.a3 c.d3 ["thing", "many"] (SpC K 2 (callN pg n 3))
  o4 : FnOk pw w K mg base (L2.CX pw w) (3 * n) c.a4 c.d4 ["thing"] (SpC K 1 (callN pg n 4))
  o5 : FnOk pw w K mg base (L2.CX pw w) (3 * n) c.a5 c.d5 ["some"] (SpC K 1 (callN pg n 5))
  o6 : FnOk pw w K mg base (L2.CX pw w) (3 * n) c.a6 c.d6 ["thing"] (SpC K 1 (callN pg n 6))
  o7 : FnOk pw w K mg base (L2.CX pw w) (3 * n) c.a7 c.d7 ["thing"] (SpC K 1 (callN pg n 7))
  o8 : FnOk pw w K mg base (L2.CX pw w) (3 * n) c.a8 c.d8 ["thing"] (SpC K 1 (callN pg n 8))
  o9 : FnOk pw w K mg base (L2.CX pw w) (3 * n) c.a9 c.d9 ["names"] (SpC K 1 (callN pg n 9))
  o10 : FnOk pw w K mg base (L2.CX pw w) (3 * n) c.a10 c.d10 ["names", "thing"] (SpC K 2 (callN pg n 10))
  o11 : FnOk pw w K mg base (L2.CX pw w) (3 * n) c.a11 c.d11 ["term"] (SpC K 1 (callN pg n 11))
  o12 : FnOk pw w K mg base (L2.CX pw w) (3 * n) c.a12 c.d12 ["term"] (SpC K 1 (callN pg n 12))
  o13 : FnOk pw w K mg base (L2.CX pw w) (3 * n) c.a13 c.d13 ["known", "term"] (SpC K 2 (callN pg n 13))
  o14 : FnOk pw w K mg base (L2.CX pw w) (3 * n) c.a14 c.d14 ["names", "term"] (SpC K 2 (callN pg n 14))
  o15 : FnOk pw w K mg base (L2.CX pw w) (3 * n) c.a15 c.d15 ["names", "thing"] (SpC K 2 (callN pg n 15))
  o16 : FnOk pw w K mg base (L2.CX pw w) (3 * n) c.a16 c.d16 ["names", "thing"] (SpC K 2 (callN pg n 16))
  o17 : FnOk pw w K mg base (L2.CX pw w) (3 * n) c.a17 c.d17 ["thing"] (SpC K 1 (callN pg n 17))
  o18 : FnOk pw w K mg base (L2.CX pw w) (3 * n) c.a18 c.d18 ["names", "left", "right", "price"] (SpC K 4 (callN pg n 18))
  o19 : FnOk pw w K mg base (L2.CX pw w) (3 * n) c.a19 c.d19 ["names", "rules"] (SpC K 2 (callN pg n 19))
  o20 : FnOk pw w K mg base (L2.CX pw w) (3 * n) c.a20 c.d20 ["script", "k"] (SpC K 2 (callN pg n 20))
  o21 : FnOk pw w K mg base (L2.CX pw w) (3 * n) c.a21 c.d21 ["urn", "low"] (SpC K 2 (callN pg n 21))
  o22 : FnOk pw w K mg base (L2.CX pw w) (3 * n) c.a22 c.d22 ["script", "roof"] (SpC K 2 (callN pg n 22))
  o23 : FnOk pw w K mg base (L2.CX pw w) (3 * n) c.a23 c.d23 ["urn", "some"] (SpC K 2 (callN pg n 23))
  o24 : FnOk pw w K mg base (L2.CX pw w) (3 * n) c.a24 c.d24 ["mine", "due"] (SpC K 2 (callN pg n 24))
  o25 : FnOk pw w K mg base (L2.CX pw w) (3 * n) c.a25 c.d25 ["matter"] (SpC K 1 (callN pg n 25))
  o26 : FnOk pw w K mg base (L2.CX pw w) (3 * n) c.a26 c.d26 ["urn", "matter"] (SpC K 2 (callN pg n 26))
  o27 : FnOk pw w K mg base (L2.CX pw w) (3 * n) c.a27 c.d27 ["term"] (SpC K 1 (callN pg n 27))
  o28 : FnOk pw w K mg base (L2.CX pw w) (3 * n) c.a28 c.d28 ["names", "term"] (SpC K 2 (callN pg n 28))
  o29 : FnOk pw w K mg base (L2.CX pw w) (3 * n) c.a29 c.d29 ["urn"] (SpC K 1 (callN pg n 29))
  o30 : FnOk pw w K mg base (L2.CX pw w) (3 * n) c.a30 c.d30 ["urn", "names", "most"] (SpC K 3 (callN pg n 30))
  o31 : FnOk pw w K mg base (L2.CX pw w) (3 * n) c.a31 c.d31 ["door", "names", "left", "right", "price"] (SpC K 5 (callN pg n 31))
  o32 : FnOk pw w K mg base (L2.CX pw w) (3 * n) c.a32 c.d32 ["script"] (SpC K 1 (callN pg n 32))
section
variable {w : World} {K : PySem.W.Frag} {mg : Str → Option Value} {base : Heap} {c : Fx K mg} {n : Nat}
theorem sc0 : FnScope ["thing"] ["thing"] (defScope (top 5)) := ⟨rfl, rfl, rfl, by decide +kernel, rfl, by decide +kernel, by decide +kernel⟩
theorem ok0 (ih : Ok w K mg base c n) : FnOk pw w K mg base (L2.CX pw w) (3 * (n + 1)) c.a0 c.d0 ["thing"] (SpC K 1 (callN pg (n + 1) 0)) :=
  fn_step (P := pg) (d := f0) rfl c.F0 sc0 rfl rfl rfl fun cdv A outer s H E hr2 => by
    have hr := hr2.mono (j := 3 * n) (by omega)
    have nd := sc0.nd
    have rm := rm_of hr
    exact (ssz_cons (sz_ret (ez_and (Ez.d (ez_isi (T := .int) rfl c.n_isinstance rfl c.n_int (bz_var rfl (vz rfl)))) (ez_one (ez_not (Ez.d (ez_isi (T := .bool) rfl c.n_isinstance rfl c.n_bool (bz_var rfl (vz rfl))))))))
      ssz_nil)
theorem sc1 : FnScope ["thing", "least"] ["thing", "least"] (defScope (top 6)) := ⟨rfl, rfl, rfl, by decide +kernel, rfl, by decide +kernel, by decide +kernel⟩
theorem ok1 (ih : Ok w K mg base c n) : FnOk pw w K mg base (L2.CX pw w) (3 * (n + 1)) c.a1 c.d1 ["thing", "least"] (SpC K 2 (callN pg (n + 1) 1)) :=
  fn_step (P := pg) (d := f1) rfl c.F1 sc1 rfl rfl rfl fun cdv A outer s H E hr2 => by
    have hr := hr2.mono (j := 3 * n) (by omega)
    have nd := sc1.nd
    have rm := rm_of hr
    exact (ssz_cons (sz_ret (ez_and (Ez.d (ez_call ih.o0 (fun _ h => callN_len (d := f0) rfl h) hr rfl c.m0 c.F0.kp c.b0 .nil (fun _ => .nil) (takes_of rfl rfl rfl rfl) (az_d rfl (Ez.d (ez_var rfl (vz rfl))) az_nil))) (ez_one (ez_cmp rfl zo_ge (bz_var rfl (vz rfl)) (bz_var rfl (vz rfl)) rfl))))
      ssz_nil)
theorem sc2 : FnScope ["thing", "many"] ["thing", "many"] (defScope (top 7)) := ⟨rfl, rfl, rfl, by decide +kernel, rfl, by decide +kernel, by decide +kernel⟩
theorem ok2 (ih : Ok w K mg base c n) : FnOk pw w K mg base (L2.CX pw w) (3 * (n + 1)) c.a2 c.d2 ["thing", "many"] (SpC K 2 (callN pg (n + 1) 2)) :=
  fn_step (P := pg) (d := f2) rfl c.F2 sc2 rfl rfl rfl fun cdv A outer s H E hr2 => by
    have hr := hr2.mono (j := 3 * n) (by omega)
    have nd := sc2.nd
    have rm := rm_of hr
    exact (ssz_cons (sz_ret (ez_and (Ez.d (ez_call ih.o0 (fun _ h => callN_len (d := f0) rfl h) hr rfl c.m0 c.F0.kp c.b0 .nil (fun _ => .nil) (takes_of rfl rfl rfl rfl) (az_d rfl (Ez.d (ez_var rfl (vz rfl))) az_nil))) (ez_one (ez_chain rfl rfl zo_le zo_lt (Ez.d (ez_c pe_int (fun _ => .int _))) (Ez.d (ez_var rfl (vz rfl))) (Ez.d (ez_var rfl (vz rfl)))))))
      ssz_nil)
theorem sc3 : FnScope ["thing", "many"] ["thing", "many"] (defScope (top 8)) := ⟨rfl, rfl, rfl, by decide +kernel, rfl, by decide +kernel, by decide +kernel⟩
theorem ok3 (ih : Ok w K mg base c n) : FnOk pw w K mg base (L2.CX pw w) (3 * (n + 1)) c.a3 c.d3 ["thing", "many"] (SpC K 2 (callN pg (n + 1) 3)) :=
  fn_step (P := pg) (d := f3) rfl c.F3 sc3 rfl rfl rfl fun cdv A outer s H E hr2 => by
    have hr := hr2.mono (j := 3 * n) (by omega)
    have nd := sc3.nd
    have rm := rm_of hr
    exact (ssz_cons (sz_ret (ez_and (Ez.d (ez_isi (T := .tuple) rfl c.n_isinstance rfl c.n_tuple (bz_var rfl (vz rfl)))) (ez_one (ez_cmp rfl (zo_eq rm) (Ez.b (ez_call1 rfl zc_len rfl c.n_len bt_len (bz_var rfl (vz rfl))) (fun _ h => by cases h)) (bz_var rfl (vz rfl)) rfl))))
      ssz_nil)
theorem sc4 : FnScope ["thing", "sign"] ["thing"] (defScope (top 9)) := ⟨rfl, rfl, rfl, by decide +kernel, rfl, by decide +kernel, by decide +kernel⟩
theorem ok4 (ih : Ok w K mg base c n) : FnOk pw w K mg base (L2.CX pw w) (3 * (n + 1)) c.a4 c.d4 ["thing"] (SpC K 1 (callN pg (n + 1) 4)) :=
  fn_step (P := pg) (d := f4) rfl c.F4 sc4 rfl rfl rfl fun cdv A outer s H E hr2 => by
    have hr := hr2.mono (j := 3 * n) (by omega)
    have nd := sc4.nd
    have rm := rm_of hr
    exact (ssz_cons (sz_ret (ez_and (Ez.d (ez_isi (T := .str) rfl c.n_isinstance rfl c.n_str (bz_var rfl (vz rfl)))) (ez_and (Ez.d (ez_chain rfl rfl zo_le zo_le (Ez.d (ez_c pe_int (fun _ => .int _))) (Ez.d (ez_call1 rfl zc_len rfl c.n_len bt_len (bz_var rfl (vz rfl)))) (Ez.d (ez_glb (pe_glob (v := (.int 8)) rfl c.g_LONGEST ⟨_, rfl⟩) (fun _ => .int _) rfl)))) (ez_one (ez_call1 rfl (zc_all rfl) rfl c.n_all bt_all (Ez.b (ez_lc (own := [("sign", 1)]) rfl nd (iz_e (Ez.d (ez_var rfl (vz rfl)))) (blkOk_by (by kernel_rfl)) (.inr ⟨rfl, rfl, (takes_of rfl rfl rfl rfl)⟩) (by decide) (fun _ _ ⟨_, _, _, _, _, _, e, tk⟩ => by subst e; exact (gz_name nd rfl (lz rfl))) (fun _ _ ⟨_, _, _, _, _, _, e, tk⟩ => by subst e; exact oz_no) (fun _ _ ⟨_, _, _, _, _, _, e, tk⟩ => by subst e; exact (Ez.d (ez_cmp rfl (zo_in rm) (bz_var rfl (vz rfl)) (Ez.b (ez_glb (pe_glob (v := (.str "abcdefghijklmnopqrstuvwxyz")) rfl c.g_LETTERS ⟨_, rfl⟩) (fun _ => .str _) rfl) (fun _ h => by cases h)) rfl)))) (fun _ h => by cases h)))))))
      ssz_nil)
theorem sc5 : FnScope ["some", "near", "far"] ["some"] (defScope (top 10)) := ⟨rfl, rfl, rfl, by decide +kernel, rfl, by decide +kernel, by decide +kernel⟩
theorem ok5 (ih : Ok w K mg base c n) : FnOk pw w K mg base (L2.CX pw w) (3 * (n + 1)) c.a5 c.d5 ["some"] (SpC K 1 (callN pg (n + 1) 5)) :=
  fn_step (P := pg) (d := f5) rfl c.F5 sc5 rfl rfl rfl fun cdv A outer s H E hr2 => by
    have hr := hr2.mono (j := 3 * n) (by omega)
    have nd := sc5.nd
    have rm := rm_of hr
    exact (ssz_cons (sz_ret (ez_call1 rfl (zc_all rfl) rfl c.n_all bt_all (Ez.b (ez_lc (own := [("near", 1), ("far", 2)]) rfl nd (iz_zip rfl c.n_zip (Ez.d (ez_var rfl (vz rfl))) (Ez.d (ez_slc (bz_var rfl (vz rfl)) (pz_so (Ez.d (ez_c pe_int (fun _ => .int _)))) pz_no))) (blkOk_by (by kernel_rfl)) (.inr ⟨rfl, rfl, (takes_of rfl rfl rfl rfl)⟩) (by decide) (fun _ _ ⟨_, _, _, _, _, _, e, tk⟩ => by subst e; exact (gz_tup rfl (gzs_cons (gz_name nd rfl (lz rfl)) (gzs_cons (gz_name nd rfl (lz rfl)) gzs_nil)))) (fun _ _ ⟨_, _, _, _, _, _, e, tk⟩ => by subst e; exact oz_no) (fun _ _ ⟨_, _, _, _, _, _, e, tk⟩ => by subst e; exact (Ez.d (ez_cmp rfl zo_lt (bz_var rfl (vz rfl)) (bz_var rfl (vz rfl)) rfl)))) (fun _ h => by cases h))))
      ssz_nil)
theorem sc6 : FnScope ["thing", "part"] ["thing"] (defScope (top 11)) := ⟨rfl, rfl, rfl, by decide +kernel, rfl, by decide +kernel, by decide +kernel⟩
theorem ok6 (ih : Ok w K mg base c n) : FnOk pw w K mg base (L2.CX pw w) (3 * (n + 1)) c.a6 c.d6 ["thing"] (SpC K 1 (callN pg (n + 1) 6)) :=
  fn_step (P := pg) (d := f6) rfl c.F6 sc6 rfl rfl rfl fun cdv A outer s H E hr2 => by
    have hr := hr2.mono (j := 3 * n) (by omega)
    have nd := sc6.nd
    have rm := rm_of hr
    exact (ssz_cons (sz_if (tz_val (Ez.d (ez_isi2 (T := .list) (U := .tuple) rfl c.n_isinstance rfl c.n_list rfl c.n_tuple (bz_var rfl (vz rfl))))) (ssz_cons (sz_ret (ez_callT rfl zc_tuple rfl c.n_tuple bt_tuple (Ez.b (ez_lc (own := [("part", 1)]) rfl nd (iz_e (Ez.d (ez_var rfl (vz rfl)))) (blkOk_by (by kernel_rfl)) (.inr ⟨rfl, rfl, (takes_of rfl rfl rfl rfl)⟩) (by decide) (fun _ _ ⟨_, _, _, _, _, _, e, tk⟩ => by subst e; exact (gz_name nd rfl (lz rfl))) (fun _ _ ⟨_, _, _, _, _, _, e, tk⟩ => by subst e; exact oz_no) (fun _ _ ⟨_, _, _, _, _, _, e, tk⟩ => by subst e; exact (Ez.d (ez_call ih.o6 (fun _ h => callN_len (d := f6) rfl h) hr rfl c.m6 c.F6.kp c.b6 .nil (fun _ => .nil) tk (az_d rfl (Ez.d (ez_var rfl (vz rfl))) az_nil))))) (fun _ h => by cases h))))
      ssz_nil) ssz_nil)
      (ssz_cons (sz_ret (ez_var rfl (vz rfl)))
      ssz_nil))
theorem sc7 : FnScope ["thing"] ["thing"] (defScope (top 14)) := ⟨rfl, rfl, rfl, by decide +kernel, rfl, by decide +kernel, by decide +kernel⟩
theorem ok7 (ih : Ok w K mg base c n) : FnOk pw w K mg base (L2.CX pw w) (3 * (n + 1)) c.a7 c.d7 ["thing"] (SpC K 1 (callN pg (n + 1) 7)) :=
  fn_step (P := pg) (d := f7) rfl c.F7 sc7 rfl rfl rfl fun cdv A outer s H E hr2 => by
    have hr := hr2.mono (j := 3 * n) (by omega)
    have nd := sc7.nd
    have rm := rm_of hr
    exact (ssz_cons (sz_if (tz_w (wz_or (tz_not (tz_val (Ez.d (ez_call ih.o3 (fun _ h => callN_len (d := f3) rfl h) hr rfl c.m3 c.F3.kp c.b3 .nil (fun _ => .nil) (takes_of rfl rfl rfl rfl) (az_d rfl (Ez.d (ez_var rfl (vz rfl))) (az_d rfl (Ez.d (ez_c pe_int (fun _ => .int _))) az_nil)))))) (wz_or (tz_not (tz_val (Ez.d (ez_call ih.o4 (fun _ h => callN_len (d := f4) rfl h) hr rfl c.m4 c.F4.kp c.b4 .nil (fun _ => .nil) (takes_of rfl rfl rfl rfl) (az_d rfl (Ez.d (ez_ix rfl zo_idx (bz_var rfl (vz rfl)) (Ez.b (ez_c pe_int (fun _ => .int _)) (fun _ h => by cases h)) (fun _ _ => rfl))) az_nil))))) (wz_or1 (tz_not (tz_val (Ez.d (ez_call ih.o2 (fun _ h => callN_len (d := f2) rfl h) hr rfl c.m2 c.F2.kp c.b2 .nil (fun _ => .nil) (takes_of rfl rfl rfl rfl) (az_d rfl (Ez.d (ez_ix rfl zo_idx (bz_var rfl (vz rfl)) (Ez.b (ez_c pe_int (fun _ => .int _)) (fun _ h => by cases h)) (fun _ _ => rfl))) (az_d rfl (Ez.d (ez_op rfl zo_add (Ez.b (ez_glb (pe_glob (v := (.int 2)) rfl c.g_PAIR ⟨_, rfl⟩) (fun _ => .int _) rfl) (fun _ h => by cases h)) (Ez.b (ez_c pe_int (fun _ => .int _)) (fun _ h => by cases h)))) az_nil)))))))))) (ssz_cons (sz_ret (ez_c pe_bl (fun _ => .bl _)))
      ssz_nil) ssz_nil)
      (ssz_cons (sz_ret (ez_and (Ez.d (ez_isi (T := .bool) rfl c.n_isinstance rfl c.n_bool (Ez.b (ez_ix rfl zo_idx (bz_var rfl (vz rfl)) (Ez.b (ez_c pe_int (fun _ => .int _)) (fun _ h => by cases h)) (fun _ _ => rfl)) (fun _ h => by cases h)))) (ez_one (ez_or (Ez.d (ez_not (Ez.d (ez_ix rfl zo_idx (bz_var rfl (vz rfl)) (Ez.b (ez_c pe_int (fun _ => .int _)) (fun _ h => by cases h)) (fun _ _ => rfl))))) (ez_one (ez_cmp rfl (zo_eq rm) (Ez.b (ez_ix rfl zo_idx (bz_var rfl (vz rfl)) (Ez.b (ez_c pe_int (fun _ => .int _)) (fun _ h => by cases h)) (fun _ _ => rfl)) (fun _ h => by cases h)) (Ez.b (ez_glb (pe_glob (v := (.int 2)) rfl c.g_PAIR ⟨_, rfl⟩) (fun _ => .int _) rfl) (fun _ h => by cases h)) rfl))))))
      ssz_nil))
theorem sc8 : FnScope ["thing", "own"] ["thing"] (defScope (top 15)) := ⟨rfl, rfl, rfl, by decide +kernel, rfl, by decide +kernel, by decide +kernel⟩
theorem ok8 (ih : Ok w K mg base c n) : FnOk pw w K mg base (L2.CX pw w) (3 * (n + 1)) c.a8 c.d8 ["thing"] (SpC K 1 (callN pg (n + 1) 8)) :=
  fn_step (P := pg) (d := f8) rfl c.F8 sc8 rfl rfl rfl fun cdv A outer s H E hr2 => by
    have hr := hr2.mono (j := 3 * n) (by omega)
    have nd := sc8.nd
    have rm := rm_of hr
    exact (ssz_cons (sz_ret (ez_and (Ez.d (ez_isi (T := .tuple) rfl c.n_isinstance rfl c.n_tuple (bz_var rfl (vz rfl)))) (ez_and (Ez.d (ez_call1 rfl (zc_all rfl) rfl c.n_all bt_all (Ez.b (ez_lc (own := [("own", 1)]) rfl nd (iz_e (Ez.d (ez_var rfl (vz rfl)))) (blkOk_by (by kernel_rfl)) (.inr ⟨rfl, rfl, (takes_of rfl rfl rfl rfl)⟩) (by decide) (fun _ _ ⟨_, _, _, _, _, _, e, tk⟩ => by subst e; exact (gz_name nd rfl (lz rfl))) (fun _ _ ⟨_, _, _, _, _, _, e, tk⟩ => by subst e; exact oz_no) (fun _ _ ⟨_, _, _, _, _, _, e, tk⟩ => by subst e; exact (Ez.d (ez_call ih.o7 (fun _ h => callN_len (d := f7) rfl h) hr rfl c.m7 c.F7.kp c.b7 .nil (fun _ => .nil) tk (az_d rfl (Ez.d (ez_var rfl (vz rfl))) az_nil))))) (fun _ h => by cases h)))) (ez_one (ez_call ih.o5 (fun _ h => callN_len (d := f5) rfl h) hr rfl c.m5 c.F5.kp c.b5 .nil (fun _ => .nil) (takes_of rfl rfl rfl rfl) (az_d rfl (Ez.d (ez_lc (own := [("own", 1)]) rfl nd (iz_e (Ez.d (ez_var rfl (vz rfl)))) (blkOk_by (by kernel_rfl)) (.inr ⟨rfl, rfl, (takes_of rfl rfl rfl rfl)⟩) (by decide) (fun _ _ ⟨_, _, _, _, _, _, e, tk⟩ => by subst e; exact (gz_name nd rfl (lz rfl))) (fun _ _ ⟨_, _, _, _, _, _, e, tk⟩ => by subst e; exact oz_no) (fun _ _ ⟨_, _, _, _, _, _, e, tk⟩ => by subst e; exact (Ez.d (ez_ix rfl zo_idx (bz_var rfl (vz rfl)) (Ez.b (ez_c pe_int (fun _ => .int _)) (fun _ h => by cases h)) (fun _ _ => rfl)))))) az_nil))))))
      ssz_nil)
theorem sc9 : FnScope ["names", "name", "many", "swap"] ["names"] (defScope (top 16)) := ⟨rfl, rfl, rfl, by decide +kernel, rfl, by decide +kernel, by decide +kernel⟩
theorem ok9 (ih : Ok w K mg base c n) : FnOk pw w K mg base (L2.CX pw w) (3 * (n + 1)) c.a9 c.d9 ["names"] (SpC K 1 (callN pg (n + 1) 9)) :=
  fn_step (P := pg) (d := f9) rfl c.F9 sc9 rfl rfl rfl fun cdv A outer s H E hr2 => by
    have hr := hr2.mono (j := 3 * n) (by omega)
    have nd := sc9.nd
    have rm := rm_of hr
    exact (ssz_cons (sz_ret (ez_dc (own := [("name", 1), ("many", 2), ("swap", 3)]) rfl nd (iz_e (Ez.d (ez_var rfl (vz rfl)))) (blkOk_by (by kernel_rfl)) (by decide) (fun _ ⟨_, _, _, _, _, _, e, tk⟩ => by subst e; exact (gz_tup rfl (gzs_cons (gz_name nd rfl (lz rfl)) (gzs_cons (gz_name nd rfl (lz rfl)) (gzs_cons (gz_name nd rfl (lz rfl)) gzs_nil))))) (fun _ ⟨_, _, _, _, _, _, e, tk⟩ => by subst e; exact (Ez.d (ez_var rfl (vz rfl)))) (fun _ ⟨_, _, _, _, _, _, e, tk⟩ => by subst e; exact (Ez.d (ez_tup (fz_cons (Ez.d (ez_var rfl (vz rfl))) (fz_cons (Ez.d (ez_var rfl (vz rfl))) fz_nil)))))))
      ssz_nil)
theorem sc10 : FnScope ["names", "thing", "many", "own", "part"] ["names", "thing"] (defScope (top 17)) := ⟨rfl, rfl, rfl, by decide +kernel, rfl, by decide +kernel, by decide +kernel⟩
theorem ok10 (ih : Ok w K mg base c n) : FnOk pw w K mg base (L2.CX pw w) (3 * (n + 1)) c.a10 c.d10 ["names", "thing"] (SpC K 2 (callN pg (n + 1) 10)) :=
  fn_step (P := pg) (d := f10) rfl c.F10 sc10 rfl rfl rfl fun cdv A outer s H E hr2 => by
    have hr := hr2.mono (j := 3 * n) (by omega)
    have nd := sc10.nd
    have rm := rm_of hr
    exact (ssz_cons (sz_if (tz_w (wz_or (tz_not (tz_val (Ez.d (ez_call ih.o3 (fun _ h => callN_len (d := f3) rfl h) hr rfl c.m3 c.F3.kp c.b3 .nil (fun _ => .nil) (takes_of rfl rfl rfl rfl) (az_d rfl (Ez.d (ez_var rfl (vz rfl))) (az_d rfl (Ez.d (ez_glb (pe_glob (v := (.int 2)) rfl c.g_PAIR ⟨_, rfl⟩) (fun _ => .int _) rfl)) az_nil)))))) (wz_or (tz_not (tz_val (Ez.d (ez_isi (T := .str) rfl c.n_isinstance rfl c.n_str (Ez.b (ez_ix rfl zo_idx (bz_var rfl (vz rfl)) (Ez.b (ez_c pe_int (fun _ => .int _)) (fun _ h => by cases h)) (fun _ _ => rfl)) (fun _ h => by cases h)))))) (wz_or1 (tz_not (tz_val (Ez.d (ez_isi (T := .tuple) rfl c.n_isinstance rfl c.n_tuple (Ez.b (ez_ix rfl zo_idx (bz_var rfl (vz rfl)) (Ez.b (ez_c pe_int (fun _ => .int _)) (fun _ h => by cases h)) (fun _ _ => rfl)) (fun _ h => by cases h)))))))))) (ssz_cons (sz_ret (ez_c pe_bl (fun _ => .bl _)))
      ssz_nil) ssz_nil)
      (ssz_cons (sz_setLc (own := [("own", 3)]) rfl nd rfl rfl rfl (iz_e (Ez.d (ez_var rfl (vz rfl)))) (blkOk_by (by kernel_rfl)) (.inr ⟨rfl, rfl, (takes_of rfl rfl rfl rfl)⟩) (by decide) (fun _ _ ⟨_, _, _, _, _, _, e, tk⟩ => by subst e; exact (gz_name nd rfl (lz rfl))) (fun _ _ ⟨_, _, _, _, _, _, e, tk⟩ => by subst e; exact (oz_so (tz_cmp rfl bool_eq (zo_eq rm) (Ez.b (ez_ix rfl zo_idx (bz_var rfl (vz rfl)) (Ez.b (ez_c pe_int (fun _ => .int _)) (fun _ h => by cases h)) (fun _ _ => rfl)) (fun _ h => by cases h)) (Ez.b (ez_ix rfl zo_idx (bz_var rfl (vz rfl)) (Ez.b (ez_c pe_int (fun _ => .int _)) (fun _ h => by cases h)) (fun _ _ => rfl)) (fun _ h => by cases h)) rfl))) (fun _ _ ⟨_, _, _, _, _, _, e, tk⟩ => by subst e; exact (Ez.d (ez_ix rfl zo_idx (bz_var rfl (vz rfl)) (Ez.b (ez_c pe_int (fun _ => .int _)) (fun _ h => by cases h)) (fun _ _ => rfl)))))
      (ssz_cons (sz_ret (ez_and (Ez.d (ez_cmp rfl (zo_eq rm) (bz_var rfl (vz rfl)) (Ez.b (ez_lst (fz_cons (Ez.d (ez_call1 rfl zc_len rfl c.n_len bt_len (Ez.b (ez_ix rfl zo_idx (bz_var rfl (vz rfl)) (Ez.b (ez_c pe_int (fun _ => .int _)) (fun _ h => by cases h)) (fun _ _ => rfl)) (fun _ h => by cases h)))) fz_nil)) (fun _ h => by cases h)) rfl)) (ez_one (ez_call1 rfl (zc_all rfl) rfl c.n_all bt_all (Ez.b (ez_lc (own := [("part", 4)]) rfl nd (iz_e (Ez.d (ez_ix rfl zo_idx (bz_var rfl (vz rfl)) (Ez.b (ez_c pe_int (fun _ => .int _)) (fun _ h => by cases h)) (fun _ _ => rfl)))) (blkOk_by (by kernel_rfl)) (.inr ⟨rfl, rfl, (takes_of rfl rfl rfl rfl)⟩) (by decide) (fun _ _ ⟨_, _, _, _, _, _, e, tk⟩ => by subst e; exact (gz_name nd rfl (lz rfl))) (fun _ _ ⟨_, _, _, _, _, _, e, tk⟩ => by subst e; exact oz_no) (fun _ _ ⟨_, _, _, _, _, _, e, tk⟩ => by subst e; exact (Ez.d (ez_call ih.o10 (fun _ h => callN_len (d := f10) rfl h) hr rfl c.m10 c.F10.kp c.b10 .nil (fun _ => .nil) tk (az_d rfl (Ez.d (ez_var rfl (vz rfl))) (az_d rfl (Ez.d (ez_var rfl (vz rfl))) az_nil)))))) (fun _ h => by cases h))))))
      ssz_nil)))
theorem sc11 : FnScope ["term", "part"] ["term"] (defScope (top 18)) := ⟨rfl, rfl, rfl, by decide +kernel, rfl, by decide +kernel, by decide +kernel⟩
theorem ok11 (ih : Ok w K mg base c n) : FnOk pw w K mg base (L2.CX pw w) (3 * (n + 1)) c.a11 c.d11 ["term"] (SpC K 1 (callN pg (n + 1) 11)) :=
  fn_step (P := pg) (d := f11) rfl c.F11 sc11 rfl rfl rfl fun cdv A outer s H E hr2 => by
    have hr := hr2.mono (j := 3 * n) (by omega)
    have nd := sc11.nd
    have rm := rm_of hr
    exact (ssz_cons (sz_ret (ez_op rfl zo_add (Ez.b (ez_c pe_int (fun _ => .int _)) (fun _ h => by cases h)) (Ez.b (ez_call1 rfl (zc_sum rfl) rfl c.n_sum bt_sum (Ez.b (ez_lc (own := [("part", 1)]) rfl nd (iz_e (Ez.d (ez_ix rfl zo_idx (bz_var rfl (vz rfl)) (Ez.b (ez_c pe_int (fun _ => .int _)) (fun _ h => by cases h)) (fun _ _ => rfl)))) (blkOk_by (by kernel_rfl)) (.inr ⟨rfl, rfl, (takes_of rfl rfl rfl rfl)⟩) (by decide) (fun _ _ ⟨_, _, _, _, _, _, e, tk⟩ => by subst e; exact (gz_name nd rfl (lz rfl))) (fun _ _ ⟨_, _, _, _, _, _, e, tk⟩ => by subst e; exact oz_no) (fun _ _ ⟨_, _, _, _, _, _, e, tk⟩ => by subst e; exact (Ez.d (ez_call ih.o11 (fun _ h => callN_len (d := f11) rfl h) hr rfl c.m11 c.F11.kp c.b11 .nil (fun _ => .nil) tk (az_d rfl (Ez.d (ez_var rfl (vz rfl))) az_nil))))) (fun _ h => by cases h))) (fun _ h => by cases h))))
      ssz_nil)
theorem sc12 : FnScope ["term", "part"] ["term"] (defScope (top 19)) := ⟨rfl, rfl, rfl, by decide +kernel, rfl, by decide +kernel, by decide +kernel⟩
theorem ok12 (ih : Ok w K mg base c n) : FnOk pw w K mg base (L2.CX pw w) (3 * (n + 1)) c.a12 c.d12 ["term"] (SpC K 1 (callN pg (n + 1) 12)) :=
  fn_step (P := pg) (d := f12) rfl c.F12 sc12 rfl rfl rfl fun cdv A outer s H E hr2 => by
    have hr := hr2.mono (j := 3 * n) (by omega)
    have nd := sc12.nd
    have rm := rm_of hr
    exact (ssz_cons (sz_ret (ez_tup (fz_cons (Ez.d (ez_call ih.o11 (fun _ h => callN_len (d := f11) rfl h) hr rfl c.m11 c.F11.kp c.b11 .nil (fun _ => .nil) (takes_of rfl rfl rfl rfl) (az_d rfl (Ez.d (ez_var rfl (vz rfl))) az_nil))) (fz_cons (Ez.d (ez_ix rfl zo_idx (bz_var rfl (vz rfl)) (Ez.b (ez_c pe_int (fun _ => .int _)) (fun _ h => by cases h)) (fun _ _ => rfl))) (fz_cons (Ez.d (ez_callT rfl zc_tuple rfl c.n_tuple bt_tuple (Ez.b (ez_lc (own := [("part", 1)]) rfl nd (iz_e (Ez.d (ez_ix rfl zo_idx (bz_var rfl (vz rfl)) (Ez.b (ez_c pe_int (fun _ => .int _)) (fun _ h => by cases h)) (fun _ _ => rfl)))) (blkOk_by (by kernel_rfl)) (.inr ⟨rfl, rfl, (takes_of rfl rfl rfl rfl)⟩) (by decide) (fun _ _ ⟨_, _, _, _, _, _, e, tk⟩ => by subst e; exact (gz_name nd rfl (lz rfl))) (fun _ _ ⟨_, _, _, _, _, _, e, tk⟩ => by subst e; exact oz_no) (fun _ _ ⟨_, _, _, _, _, _, e, tk⟩ => by subst e; exact (Ez.d (ez_call ih.o12 (fun _ h => callN_len (d := f12) rfl h) hr rfl c.m12 c.F12.kp c.b12 .nil (fun _ => .nil) tk (az_d rfl (Ez.d (ez_var rfl (vz rfl))) az_nil))))) (fun _ h => by cases h)))) fz_nil)))))
      ssz_nil)
theorem sc13 : FnScope ["known", "term", "parts", "part"] ["known", "term"] (defScope (top 20)) := ⟨rfl, rfl, rfl, by decide +kernel, rfl, by decide +kernel, by decide +kernel⟩
theorem ok13 (ih : Ok w K mg base c n) : FnOk pw w K mg base (L2.CX pw w) (3 * (n + 1)) c.a13 c.d13 ["known", "term"] (SpC K 2 (callN pg (n + 1) 13)) :=
  fn_step (P := pg) (d := f13) rfl c.F13 sc13 rfl rfl rfl fun cdv A outer s H E hr2 => by
    have hr := hr2.mono (j := 3 * n) (by omega)
    have nd := sc13.nd
    have rm := rm_of hr
    exact (ssz_cons (sz_setLc (own := [("part", 3)]) rfl nd rfl rfl rfl (iz_e (Ez.d (ez_ix rfl zo_idx (bz_var rfl (vz rfl)) (Ez.b (ez_c pe_int (fun _ => .int _)) (fun _ h => by cases h)) (fun _ _ => rfl)))) (blkOk_by (by kernel_rfl)) (.inr ⟨rfl, rfl, (takes_of rfl rfl rfl rfl)⟩) (by decide) (fun _ _ ⟨_, _, _, _, _, _, e, tk⟩ => by subst e; exact (gz_name nd rfl (lz rfl))) (fun _ _ ⟨_, _, _, _, _, _, e, tk⟩ => by subst e; exact oz_no) (fun _ _ ⟨_, _, _, _, _, _, e, tk⟩ => by subst e; exact (Ez.d (ez_call ih.o13 (fun _ h => callN_len (d := f13) rfl h) hr rfl c.m13 c.F13.kp c.b13 .nil (fun _ => .nil) tk (az_ow rfl (vz rfl) (az_d rfl (Ez.d (ez_var rfl (vz rfl))) az_nil))))))
      (ssz_cons (sz_ret (ez_tup (fz_cons (Ez.d (ez_ix rfl zo_idx (bz_var rfl (vz rfl)) (Ez.b (ez_c pe_int (fun _ => .int _)) (fun _ h => by cases h)) (fun _ _ => rfl))) (fz_cons (Ez.d (ez_callT rfl zc_tuple rfl c.n_tuple bt_tuple (Ez.b (ez_if (tz_val (Ez.d (ez_ix rfl zo_idx (Ez.b (ez_dget rm rfl (vz rfl) (Ez.d (ez_ix rfl zo_idx (bz_var rfl (vz rfl)) (Ez.b (ez_c pe_int (fun _ => .int _)) (fun _ h => by cases h)) (fun _ _ => rfl))) (fun _ _ => rfl)) (fun _ h => by cases h)) (Ez.b (ez_c pe_int (fun _ => .int _)) (fun _ h => by cases h)) (fun _ _ => rfl)))) (ez_srtk ih.o12 rfl c.b12 hr2 rfl c.n_sorted rfl c.m12 rfl (Ez.d (ez_var rfl (vz rfl)))) (ez_var rfl (vz rfl))) (fun _ h => by cases h)))) fz_nil))))
      ssz_nil))
theorem sc14 : FnScope ["names", "term"] ["names", "term"] (defScope (top 21)) := ⟨rfl, rfl, rfl, by decide +kernel, rfl, by decide +kernel, by decide +kernel⟩
theorem ok14 (ih : Ok w K mg base c n) : FnOk pw w K mg base (L2.CX pw w) (3 * (n + 1)) c.a14 c.d14 ["names", "term"] (SpC K 2 (callN pg (n + 1) 14)) :=
  fn_step (P := pg) (d := f14) rfl c.F14 sc14 rfl rfl rfl fun cdv A outer s H E hr2 => by
    have hr := hr2.mono (j := 3 * n) (by omega)
    have nd := sc14.nd
    have rm := rm_of hr
    exact (ssz_cons (sz_ret (ez_call ih.o13 (fun _ h => callN_len (d := f13) rfl h) hr rfl c.m13 c.F13.kp c.b13 .nil (fun _ => .nil) (takes_of rfl rfl rfl rfl) (az_own (fun _ h => by cases h) (ez_call ih.o9 (fun _ h => callN_len (d := f9) rfl h) hr rfl c.m9 c.F9.kp c.b9 .nil (fun _ => .nil) (takes_of rfl rfl rfl rfl) (az_d rfl (Ez.d (ez_var rfl (vz rfl))) az_nil)) (az_d rfl (Ez.d (ez_call ih.o6 (fun _ h => callN_len (d := f6) rfl h) hr rfl c.m6 c.F6.kp c.b6 .nil (fun _ => .nil) (takes_of rfl rfl rfl rfl) (az_d rfl (Ez.d (ez_var rfl (vz rfl))) az_nil))) az_nil))))
      ssz_nil)
theorem sc15 : FnScope ["names", "thing"] ["names", "thing"] (defScope (top 22)) := ⟨rfl, rfl, rfl, by decide +kernel, rfl, by decide +kernel, by decide +kernel⟩
theorem ok15 (ih : Ok w K mg base c n) : FnOk pw w K mg base (L2.CX pw w) (3 * (n + 1)) c.a15 c.d15 ["names", "thing"] (SpC K 2 (callN pg (n + 1) 15)) :=
  fn_step (P := pg) (d := f15) rfl c.F15 sc15 rfl rfl rfl fun cdv A outer s H E hr2 => by
    have hr := hr2.mono (j := 3 * n) (by omega)
    have nd := sc15.nd
    have rm := rm_of hr
    exact (ssz_cons (sz_ret (ez_and (Ez.d (ez_call ih.o10 (fun _ h => callN_len (d := f10) rfl h) hr rfl c.m10 c.F10.kp c.b10 .nil (fun _ => .nil) (takes_of rfl rfl rfl rfl) (az_d rfl (Ez.d (ez_var rfl (vz rfl))) (az_d rfl (Ez.d (ez_var rfl (vz rfl))) az_nil)))) (ez_one (ez_cmp rfl (zo_eq rm) (Ez.b (ez_call ih.o14 (fun _ h => callN_len (d := f14) rfl h) hr rfl c.m14 c.F14.kp c.b14 .nil (fun _ => .nil) (takes_of rfl rfl rfl rfl) (az_d rfl (Ez.d (ez_var rfl (vz rfl))) (az_d rfl (Ez.d (ez_var rfl (vz rfl))) az_nil))) (fun _ h => by cases h)) (bz_var rfl (vz rfl)) rfl))))
      ssz_nil)
theorem sc16 : FnScope ["names", "thing"] ["names", "thing"] (defScope (top 25)) := ⟨rfl, rfl, rfl, by decide +kernel, rfl, by decide +kernel, by decide +kernel⟩
theorem ok16 (ih : Ok w K mg base c n) : FnOk pw w K mg base (L2.CX pw w) (3 * (n + 1)) c.a16 c.d16 ["names", "thing"] (SpC K 2 (callN pg (n + 1) 16)) :=
  fn_step (P := pg) (d := f16) rfl c.F16 sc16 rfl rfl rfl fun cdv A outer s H E hr2 => by
    have hr := hr2.mono (j := 3 * n) (by omega)
    have nd := sc16.nd
    have rm := rm_of hr
    exact (ssz_cons (sz_if (tz_w (wz_or (tz_not (tz_val (Ez.d (ez_call ih.o3 (fun _ h => callN_len (d := f3) rfl h) hr rfl c.m3 c.F3.kp c.b3 .nil (fun _ => .nil) (takes_of rfl rfl rfl rfl) (az_d rfl (Ez.d (ez_var rfl (vz rfl))) (az_d rfl (Ez.d (ez_glb (pe_glob (v := (.int 3)) rfl c.g_TRIPLE ⟨_, rfl⟩) (fun _ => .int _) rfl)) az_nil)))))) (wz_or1 (tz_not (tz_val (Ez.d (ez_call ih.o1 (fun _ h => callN_len (d := f1) rfl h) hr rfl c.m1 c.F1.kp c.b1 .nil (fun _ => .nil) (takes_of rfl rfl rfl rfl) (az_d rfl (Ez.d (ez_ix rfl zo_idx (bz_var rfl (vz rfl)) (Ez.b (ez_c pe_int (fun _ => .int _)) (fun _ h => by cases h)) (fun _ _ => rfl))) (az_d rfl (Ez.d (ez_c pe_int (fun _ => .int _))) az_nil))))))))) (ssz_cons (sz_ret (ez_c pe_bl (fun _ => .bl _)))
      ssz_nil) ssz_nil)
      (ssz_cons (sz_ret (ez_and (Ez.d (ez_call ih.o15 (fun _ h => callN_len (d := f15) rfl h) hr rfl c.m15 c.F15.kp c.b15 .nil (fun _ => .nil) (takes_of rfl rfl rfl rfl) (az_d rfl (Ez.d (ez_var rfl (vz rfl))) (az_d rfl (Ez.d (ez_ix rfl zo_idx (bz_var rfl (vz rfl)) (Ez.b (ez_c pe_int (fun _ => .int _)) (fun _ h => by cases h)) (fun _ _ => rfl))) az_nil)))) (ez_and (Ez.d (ez_call ih.o15 (fun _ h => callN_len (d := f15) rfl h) hr rfl c.m15 c.F15.kp c.b15 .nil (fun _ => .nil) (takes_of rfl rfl rfl rfl) (az_d rfl (Ez.d (ez_var rfl (vz rfl))) (az_d rfl (Ez.d (ez_ix rfl zo_idx (bz_var rfl (vz rfl)) (Ez.b (ez_c pe_int (fun _ => .int _)) (fun _ h => by cases h)) (fun _ _ => rfl))) az_nil)))) (ez_one (ez_cmp rfl (zo_ne rm) (Ez.b (ez_ix rfl zo_idx (bz_var rfl (vz rfl)) (Ez.b (ez_c pe_int (fun _ => .int _)) (fun _ h => by cases h)) (fun _ _ => rfl)) (fun _ h => by cases h)) (Ez.b (ez_ix rfl zo_idx (bz_var rfl (vz rfl)) (Ez.b (ez_c pe_int (fun _ => .int _)) (fun _ h => by cases h)) (fun _ _ => rfl)) (fun _ h => by cases h)) rfl)))))
      ssz_nil))
theorem sc17 : FnScope ["thing", "rule"] ["thing"] (defScope (top 26)) := ⟨rfl, rfl, rfl, by decide +kernel, rfl, by decide +kernel, by decide +kernel⟩
theorem ok17 (ih : Ok w K mg base c n) : FnOk pw w K mg base (L2.CX pw w) (3 * (n + 1)) c.a17 c.d17 ["thing"] (SpC K 1 (callN pg (n + 1) 17)) :=
  fn_step (P := pg) (d := f17) rfl c.F17 sc17 rfl rfl rfl fun cdv A outer s H E hr2 => by
    have hr := hr2.mono (j := 3 * n) (by omega)
    have nd := sc17.nd
    have rm := rm_of hr
    exact (ssz_cons (sz_if (tz_w (wz_or (tz_not (tz_val (Ez.d (ez_call ih.o3 (fun _ h => callN_len (d := f3) rfl h) hr rfl c.m3 c.F3.kp c.b3 .nil (fun _ => .nil) (takes_of rfl rfl rfl rfl) (az_d rfl (Ez.d (ez_var rfl (vz rfl))) (az_d rfl (Ez.d (ez_c pe_int (fun _ => .int _))) az_nil)))))) (wz_or (tz_not (tz_val (Ez.d (ez_call ih.o8 (fun _ h => callN_len (d := f8) rfl h) hr rfl c.m8 c.F8.kp c.b8 .nil (fun _ => .nil) (takes_of rfl rfl rfl rfl) (az_d rfl (Ez.d (ez_ix rfl zo_idx (bz_var rfl (vz rfl)) (Ez.b (ez_c pe_int (fun _ => .int _)) (fun _ h => by cases h)) (fun _ _ => rfl))) az_nil))))) (wz_or1 (tz_not (tz_val (Ez.d (ez_isi (T := .tuple) rfl c.n_isinstance rfl c.n_tuple (Ez.b (ez_ix rfl zo_idx (bz_var rfl (vz rfl)) (Ez.b (ez_c pe_int (fun _ => .int _)) (fun _ h => by cases h)) (fun _ _ => rfl)) (fun _ h => by cases h)))))))))) (ssz_cons (sz_ret (ez_c pe_bl (fun _ => .bl _)))
      ssz_nil) ssz_nil)
      (ssz_cons (sz_ret (ez_call1 rfl (zc_all rfl) rfl c.n_all bt_all (Ez.b (ez_lc (own := [("rule", 1)]) rfl nd (iz_e (Ez.d (ez_ix rfl zo_idx (bz_var rfl (vz rfl)) (Ez.b (ez_c pe_int (fun _ => .int _)) (fun _ h => by cases h)) (fun _ _ => rfl)))) (blkOk_by (by kernel_rfl)) (.inr ⟨rfl, rfl, (takes_of rfl rfl rfl rfl)⟩) (by decide) (fun _ _ ⟨_, _, _, _, _, _, e, tk⟩ => by subst e; exact (gz_name nd rfl (lz rfl))) (fun _ _ ⟨_, _, _, _, _, _, e, tk⟩ => by subst e; exact oz_no) (fun _ _ ⟨_, _, _, _, _, _, e, tk⟩ => by subst e; exact (Ez.d (ez_call ih.o16 (fun _ h => callN_len (d := f16) rfl h) hr rfl c.m16 c.F16.kp c.b16 .nil (fun _ => .nil) tk (az_d rfl (Ez.d (ez_ix rfl zo_idx (bz_var rfl (vz rfl)) (Ez.b (ez_c pe_int (fun _ => .int _)) (fun _ h => by cases h)) (fun _ _ => rfl))) (az_d rfl (Ez.d (ez_var rfl (vz rfl))) az_nil)))))) (fun _ h => by cases h))))
      ssz_nil))
theorem sc18 : FnScope ["names", "left", "right", "price", "one", "other"] ["names", "left", "right", "price"] (defScope (top 27)) := ⟨rfl, rfl, rfl, by decide +kernel, rfl, by decide +kernel, by decide +kernel⟩
theorem ok18 (ih : Ok w K mg base c n) : FnOk pw w K mg base (L2.CX pw w) (3 * (n + 1)) c.a18 c.d18 ["names", "left", "right", "price"] (SpC K 4 (callN pg (n + 1) 18)) :=
  fn_step (P := pg) (d := f18) rfl c.F18 sc18 rfl rfl rfl fun cdv A outer s H E hr2 => by
    have hr := hr2.mono (j := 3 * n) (by omega)
    have nd := sc18.nd
    have rm := rm_of hr
    exact (ssz_cons (sz_par rfl nd rfl rfl (by decide) rfl rfl (mz_cons (ez_call ih.o14 (fun _ h => callN_len (d := f14) rfl h) hr rfl c.m14 c.F14.kp c.b14 .nil (fun _ => .nil) (takes_of rfl rfl rfl rfl) (az_d rfl (Ez.d (ez_var rfl (vz rfl))) (az_d rfl (Ez.d (ez_var rfl (vz rfl))) az_nil))) (mz_cons (ez_call ih.o14 (fun _ h => callN_len (d := f14) rfl h) hr rfl c.m14 c.F14.kp c.b14 .nil (fun _ => .nil) (takes_of rfl rfl rfl rfl) (az_d rfl (Ez.d (ez_var rfl (vz rfl))) (az_d rfl (Ez.d (ez_var rfl (vz rfl))) az_nil))) mz_nil)) rfl)
      (ssz_cons (sz_if (tz_cmp rfl bool_eq (zo_eq rm) (bz_var rfl (vz rfl)) (bz_var rfl (vz rfl)) rfl) (ssz_cons (sz_raise rfl (takes_of rfl rfl rfl rfl) (pmk_own0 PySem.F.excBase_ValueError c.xi_Unfit c.m_Unfit c.xk_Unfit (raises_own c.xs_Unfit c.xt_Unfit) rfl))
      ssz_nil) ssz_nil)
      (ssz_cons (sz_ret (ez_tup (fz_cons (Ez.d (ez_var rfl (vz rfl))) (fz_cons (Ez.d (ez_var rfl (vz rfl))) (fz_cons (Ez.d (ez_var rfl (vz rfl))) fz_nil)))))
      ssz_nil)))
theorem sc19 : FnScope ["names", "rules", "table", "left", "right", "price"] ["names", "rules"] (defScope (top 28)) := ⟨rfl, rfl, rfl, by decide +kernel, rfl, by decide +kernel, by decide +kernel⟩
theorem ok19 (ih : Ok w K mg base c n) : FnOk pw w K mg base (L2.CX pw w) (3 * (n + 1)) c.a19 c.d19 ["names", "rules"] (SpC K 2 (callN pg (n + 1) 19)) :=
  fn_step (P := pg) (d := f19) rfl c.F19 sc19 rfl rfl rfl fun cdv A outer s H E hr2 => by
    have hr := hr2.mono (j := 3 * n) (by omega)
    have nd := sc19.nd
    have rm := rm_of hr
    exact (ssz_cons (sz_set nd rfl (lz rfl) (ez_call ih.o6 (fun _ h => callN_len (d := f6) rfl h) hr rfl c.m6 c.F6.kp c.b6 .nil (fun _ => .nil) (takes_of rfl rfl rfl rfl) (az_d rfl (Ez.d (ez_var rfl (vz rfl))) az_nil)))
      (ssz_cons (sz_ret (ez_tup (fz_cons (Ez.d (ez_var rfl (vz rfl))) (fz_cons (Ez.d (ez_callT rfl zc_tuple rfl c.n_tuple bt_tuple (Ez.b (ez_lc (own := [("left", 3), ("right", 4), ("price", 5)]) rfl nd (iz_e (Ez.d (ez_var rfl (vz rfl)))) (blkOk_by (by kernel_rfl)) (.inr ⟨rfl, rfl, (takes_of rfl rfl rfl rfl)⟩) (by decide) (fun _ _ ⟨_, _, _, _, _, _, e, tk⟩ => by subst e; exact (gz_tup rfl (gzs_cons (gz_name nd rfl (lz rfl)) (gzs_cons (gz_name nd rfl (lz rfl)) (gzs_cons (gz_name nd rfl (lz rfl)) gzs_nil))))) (fun _ _ ⟨_, _, _, _, _, _, e, tk⟩ => by subst e; exact oz_no) (fun _ _ ⟨_, _, _, _, _, _, e, tk⟩ => by subst e; exact (Ez.d (ez_call ih.o18 (fun _ h => callN_len (d := f18) rfl h) hr rfl c.m18 c.F18.kp c.b18 .nil (fun _ => .nil) tk (az_d rfl (Ez.d (ez_var rfl (vz rfl))) (az_d rfl (Ez.d (ez_var rfl (vz rfl))) (az_d rfl (Ez.d (ez_var rfl (vz rfl))) (az_d rfl (Ez.d (ez_var rfl (vz rfl))) az_nil)))))))) (fun _ h => by cases h)))) fz_nil))))
      ssz_nil))
theorem sc20 : FnScope ["script", "k", "own"] ["script", "k"] (defScope (top 30)) := ⟨rfl, rfl, rfl, by decide +kernel, rfl, by decide +kernel, by decide +kernel⟩
theorem ok20 (ih : Ok w K mg base c n) : FnOk pw w K mg base (L2.CX pw w) (3 * (n + 1)) c.a20 c.d20 ["script", "k"] (SpC K 2 (callN pg (n + 1) 20)) :=
  fn_step (P := pg) (d := f20) rfl c.F20 sc20 rfl rfl rfl fun cdv A outer s H E hr2 => by
    have hr := hr2.mono (j := 3 * n) (by omega)
    have nd := sc20.nd
    have rm := rm_of hr
    exact (ssz_cons (sz_set nd rfl (lz rfl) (ez_if (tz_cmp rfl bool_lt zo_lt (bz_var rfl (vz rfl)) (Ez.b (ez_call1 rfl zc_len rfl c.n_len bt_len (bz_var rfl (vz rfl))) (fun _ h => by cases h)) rfl) (ez_ix rfl zo_idx (bz_var rfl (vz rfl)) (bz_var rfl (vz rfl)) (fun _ _ => rfl)) (ez_c pe_int (fun _ => .int _))))
      (ssz_cons (sz_ret (ez_lst (fz_cons (Ez.d (ez_op rfl zo_mul (Ez.b (ez_call1 rfl zc_abs rfl c.n_abs bt_abs (bz_var rfl (vz rfl))) (fun _ h => by cases h)) (Ez.b (ez_callT rfl zc_int rfl c.n_int bt_int (Ez.b (ez_cmp rfl zo_ge (Ez.b (ez_call1 rfl zc_abs rfl c.n_abs bt_abs (bz_var rfl (vz rfl))) (fun _ h => by cases h)) (Ez.b (ez_op rfl zo_pow (Ez.b (ez_c pe_int (fun _ => .int _)) (fun _ h => by cases h)) (Ez.b (ez_c pe_int (fun _ => .int _)) (fun _ h => by cases h))) (fun _ h => by cases h)) rfl) (fun _ h => by cases h))) (fun _ h => by cases h)))) (fz_cons (Ez.d (ez_op rfl zo_add (Ez.b (ez_op rfl zo_add (Ez.b (ez_op rfl zo_mod (Ez.b (ez_callT rfl zc_int rfl c.n_int bt_int (bz_var rfl (vz rfl))) (fun _ h => by cases h)) (Ez.b (ez_c pe_int (fun _ => .int _)) (fun _ h => by cases h))) (fun _ h => by cases h)) (Ez.b (ez_op rfl zo_mul (Ez.b (ez_c pe_int (fun _ => .int _)) (fun _ h => by cases h)) (bz_var rfl (vz rfl))) (fun _ h => by cases h))) (fun _ h => by cases h)) (Ez.b (ez_c pe_int (fun _ => .int _)) (fun _ h => by cases h)))) (fz_cons (Ez.d (ez_c pe_int (fun _ => .int _))) fz_nil)))))
      ssz_nil))
theorem sc21 : FnScope ["urn", "low", "once", "far", "twice", "drawn"] ["urn", "low"] (defScope (top 31)) := ⟨rfl, rfl, rfl, by decide +kernel, rfl, by decide +kernel, by decide +kernel⟩
theorem ok21 (ih : Ok w K mg base c n) : FnOk pw w K mg base (L2.CX pw w) (3 * (n + 1)) c.a21 c.d21 ["urn", "low"] (SpC K 2 (callN pg (n + 1) 21)) :=
  fn_step (P := pg) (d := f21) rfl c.F21 sc21 rfl rfl rfl fun cdv A outer s H E hr2 => by
    have hr := hr2.mono (j := 3 * n) (by omega)
    have nd := sc21.nd
    have rm := rm_of hr
    exact (ssz_cons (sz_if (tz_cmp rfl bool_gt zo_gt (Ez.b (ez_ix rfl zo_idx (bz_var rfl (vz rfl)) (Ez.b (ez_c pe_int (fun _ => .int _)) (fun _ h => by cases h)) (fun _ _ => rfl)) (fun _ h => by cases h)) (Ez.b (ez_c pe_int (fun _ => .int _)) (fun _ h => by cases h)) rfl) (ssz_cons (sz_set nd rfl (lz rfl) (ez_op rfl zo_mod (Ez.b (ez_callT rfl zc_int rfl c.n_int bt_int (Ez.b (ez_ix rfl zo_idx (bz_var rfl (vz rfl)) (Ez.b (ez_c pe_int (fun _ => .int _)) (fun _ h => by cases h)) (fun _ _ => rfl)) (fun _ h => by cases h))) (fun _ h => by cases h)) (bz_var rfl (vz rfl))))
      (ssz_cons (sz_put rm rfl (vz rfl) (Ez.d (ez_op rfl zo_fdiv (Ez.b (ez_ix rfl zo_idx (bz_var rfl (vz rfl)) (Ez.b (ez_c pe_int (fun _ => .int _)) (fun _ h => by cases h)) (fun _ _ => rfl)) (fun _ h => by cases h)) (bz_var rfl (vz rfl)))) (Ez.d (ez_c pe_int (fun _ => .int _))) (fun _ => rfl))
      (ssz_cons (sz_ret (ez_var rfl (vz rfl)))
      ssz_nil))) ssz_nil)
      (ssz_cons (sz_put rm rfl (vz rfl) (Ez.d (ez_op rfl zo_add (Ez.b (ez_ix rfl zo_idx (bz_var rfl (vz rfl)) (Ez.b (ez_c pe_int (fun _ => .int _)) (fun _ h => by cases h)) (fun _ _ => rfl)) (fun _ h => by cases h)) (Ez.b (ez_c pe_int (fun _ => .int _)) (fun _ h => by cases h)))) (Ez.d (ez_c pe_int (fun _ => .int _))) (fun _ => rfl))
      (ssz_cons (sz_set nd rfl (lz rfl) (ez_op rfl zo_mod (Ez.b (ez_callT rfl zc_int rfl c.n_int bt_int (Ez.b (ez_op rfl zo_mul (Ez.b (ez_op rfl zo_add (Ez.b (ez_ix rfl zo_idx (bz_var rfl (vz rfl)) (Ez.b (ez_c pe_int (fun _ => .int _)) (fun _ h => by cases h)) (fun _ _ => rfl)) (fun _ h => by cases h)) (Ez.b (ez_op rfl zo_mul (Ez.b (ez_c pe_int (fun _ => .int _)) (fun _ h => by cases h)) (Ez.b (ez_ix rfl zo_idx (bz_var rfl (vz rfl)) (Ez.b (ez_c pe_int (fun _ => .int _)) (fun _ h => by cases h)) (fun _ _ => rfl)) (fun _ h => by cases h))) (fun _ h => by cases h))) (fun _ h => by cases h)) (Ez.b (ez_op rfl zo_add (Ez.b (ez_c pe_int (fun _ => .int _)) (fun _ h => by cases h)) (Ez.b (ez_ix rfl zo_idx (bz_var rfl (vz rfl)) (Ez.b (ez_c pe_int (fun _ => .int _)) (fun _ h => by cases h)) (fun _ _ => rfl)) (fun _ h => by cases h))) (fun _ h => by cases h))) (fun _ h => by cases h))) (fun _ h => by cases h)) (Ez.b (ez_c pe_int (fun _ => .int _)) (fun _ h => by cases h))))
      (ssz_cons (sz_set nd rfl (lz rfl) (ez_op rfl zo_add (Ez.b (ez_op rfl zo_mod (Ez.b (ez_callT rfl zc_int rfl c.n_int bt_int (bz_var rfl (vz rfl))) (fun _ h => by cases h)) (Ez.b (ez_c pe_int (fun _ => .int _)) (fun _ h => by cases h))) (fun _ h => by cases h)) (Ez.b (ez_c pe_int (fun _ => .int _)) (fun _ h => by cases h))))
      (ssz_cons (sz_set nd rfl (lz rfl) (ez_op rfl zo_mod (Ez.b (ez_callT rfl zc_int rfl c.n_int bt_int (Ez.b (ez_op rfl zo_mul (Ez.b (ez_op rfl zo_add (Ez.b (ez_op rfl zo_add (bz_var rfl (vz rfl)) (Ez.b (ez_ix rfl zo_idx (bz_var rfl (vz rfl)) (Ez.b (ez_c pe_int (fun _ => .int _)) (fun _ h => by cases h)) (fun _ _ => rfl)) (fun _ h => by cases h))) (fun _ h => by cases h)) (Ez.b (ez_op rfl zo_fdiv (Ez.b (ez_ix rfl zo_idx (bz_var rfl (vz rfl)) (Ez.b (ez_c pe_int (fun _ => .int _)) (fun _ h => by cases h)) (fun _ _ => rfl)) (fun _ h => by cases h)) (Ez.b (ez_c pe_int (fun _ => .int _)) (fun _ h => by cases h))) (fun _ h => by cases h))) (fun _ h => by cases h)) (bz_var rfl (vz rfl))) (fun _ h => by cases h))) (fun _ h => by cases h)) (Ez.b (ez_c pe_int (fun _ => .int _)) (fun _ h => by cases h))))
      (ssz_cons (sz_ret (ez_op rfl zo_mod (Ez.b (ez_callT rfl zc_int rfl c.n_int bt_int (Ez.b (ez_op rfl zo_fdiv (Ez.b (ez_op rfl zo_mod (Ez.b (ez_callT rfl zc_int rfl c.n_int bt_int (Ez.b (ez_op rfl zo_add (Ez.b (ez_op rfl zo_mul (bz_var rfl (vz rfl)) (Ez.b (ez_c pe_int (fun _ => .int _)) (fun _ h => by cases h))) (fun _ h => by cases h)) (bz_var rfl (vz rfl))) (fun _ h => by cases h))) (fun _ h => by cases h)) (Ez.b (ez_c pe_int (fun _ => .int _)) (fun _ h => by cases h))) (fun _ h => by cases h)) (Ez.b (ez_c pe_int (fun _ => .int _)) (fun _ h => by cases h))) (fun _ h => by cases h))) (fun _ h => by cases h)) (bz_var rfl (vz rfl))))
      ssz_nil))))))
theorem sc22 : FnScope ["script", "roof", "found", "k", "own", "at"] ["script", "roof"] (defScope (top 32)) := ⟨rfl, rfl, rfl, by decide +kernel, rfl, by decide +kernel, by decide +kernel⟩
theorem ok22 (ih : Ok w K mg base c n) : FnOk pw w K mg base (L2.CX pw w) (3 * (n + 1)) c.a22 c.d22 ["script", "roof"] (SpC K 2 (callN pg (n + 1) 22)) :=
  fn_step (P := pg) (d := f22) rfl c.F22 sc22 rfl rfl rfl fun cdv A outer s H E hr2 => by
    have hr := hr2.mono (j := 3 * n) (by omega)
    have nd := sc22.nd
    have rm := rm_of hr
    exact (ssz_cons (sz_set nd rfl (lz rfl) (ez_oro (ez_callT rfl zc_list rfl c.n_list bt_list (Ez.b (ez_slc (bz_var rfl (vz rfl)) pz_no (pz_so (Ez.d (ez_var rfl (vz rfl))))) (fun _ h => by cases h))) (ez_one (ez_lst (fz_cons (Ez.d (ez_c pe_int (fun _ => .int _))) fz_nil)))))
      (ssz_cons (sz_for (passes_of rfl) rfl (iz_enm rfl c.n_enumerate (Ez.d (ez_slc (bz_var rfl (vz rfl)) (pz_so (Ez.d (ez_var rfl (vz rfl)))) (pz_so (Ez.d (ez_c pe_int (fun _ => .int _))))))) (gz_tup rfl (gzs_cons (gz_name nd rfl (lz rfl)) (gzs_cons (gz_name nd rfl (lz rfl)) gzs_nil))) (ssz_cons (sz_set nd rfl (lz rfl) (ez_op rfl zo_mod (Ez.b (ez_callT rfl zc_int rfl c.n_int bt_int (bz_var rfl (vz rfl))) (fun _ h => by cases h)) (bz_var rfl (vz rfl))))
      (ssz_cons (sz_put rm rfl (vz rfl) (Ez.d (ez_op rfl zo_add (Ez.b (ez_ix rfl zo_idx (bz_var rfl (vz rfl)) (bz_var rfl (vz rfl)) (fun _ _ => rfl)) (fun _ h => by cases h)) (Ez.b (ez_op rfl zo_mul (bz_var rfl (vz rfl)) (Ez.b (ez_op rfl zo_add (bz_var rfl (vz rfl)) (Ez.b (ez_c pe_int (fun _ => .int _)) (fun _ h => by cases h))) (fun _ h => by cases h))) (fun _ h => by cases h)))) (Ez.d (ez_var rfl (vz rfl))) (fun _ => rfl))
      ssz_nil)))
      (ssz_cons (sz_ret (ez_var rfl (vz rfl)))
      ssz_nil)))
theorem sc23 : FnScope ["urn", "some"] ["urn", "some"] (defScope (top 33)) := ⟨rfl, rfl, rfl, by decide +kernel, rfl, by decide +kernel, by decide +kernel⟩
theorem ok23 (ih : Ok w K mg base c n) : FnOk pw w K mg base (L2.CX pw w) (3 * (n + 1)) c.a23 c.d23 ["urn", "some"] (SpC K 2 (callN pg (n + 1) 23)) :=
  fn_step (P := pg) (d := f23) rfl c.F23 sc23 rfl rfl rfl fun cdv A outer s H E hr2 => by
    have hr := hr2.mono (j := 3 * n) (by omega)
    have nd := sc23.nd
    have rm := rm_of hr
    exact (ssz_cons (sz_ret (ez_ix rfl zo_idx (bz_var rfl (vz rfl)) (Ez.b (ez_call ih.o21 (fun _ h => callN_len (d := f21) rfl h) hr rfl c.m21 c.F21.kp c.b21 .nil (fun _ => .nil) (takes_of rfl rfl rfl rfl) (az_ow rfl (vz rfl) (az_d rfl (Ez.d (ez_call1 rfl zc_len rfl c.n_len bt_len (bz_var rfl (vz rfl)))) az_nil))) (fun _ h => by cases h)) (fun _ _ => rfl)))
      ssz_nil)
theorem sc24 : FnScope ["mine", "due", "near", "far"] ["mine", "due"] (defScope (top 34)) := ⟨rfl, rfl, rfl, by decide +kernel, rfl, by decide +kernel, by decide +kernel⟩
theorem ok24 (ih : Ok w K mg base c n) : FnOk pw w K mg base (L2.CX pw w) (3 * (n + 1)) c.a24 c.d24 ["mine", "due"] (SpC K 2 (callN pg (n + 1) 24)) :=
  fn_step (P := pg) (d := f24) rfl c.F24 sc24 rfl rfl rfl fun cdv A outer s H E hr2 => by
    have hr := hr2.mono (j := 3 * n) (by omega)
    have nd := sc24.nd
    have rm := rm_of hr
    exact (ssz_cons (sz_if (tz_val (Ez.d (ez_isi2 (T := .list) (U := .tuple) rfl c.n_isinstance rfl c.n_list rfl c.n_tuple (bz_var rfl (vz rfl))))) (ssz_cons (sz_if (tz_w (wz_or (tz_cmp rfl bool_ne (zo_ne rm) (Ez.b (ez_isi (T := .list) rfl c.n_isinstance rfl c.n_list (bz_var rfl (vz rfl))) (fun _ h => by cases h)) (Ez.b (ez_isi (T := .list) rfl c.n_isinstance rfl c.n_list (bz_var rfl (vz rfl))) (fun _ h => by cases h)) rfl) (wz_or1 (tz_cmp rfl bool_ne (zo_ne rm) (Ez.b (ez_isi (T := .tuple) rfl c.n_isinstance rfl c.n_tuple (bz_var rfl (vz rfl))) (fun _ h => by cases h)) (Ez.b (ez_isi (T := .tuple) rfl c.n_isinstance rfl c.n_tuple (bz_var rfl (vz rfl))) (fun _ h => by cases h)) rfl)))) (ssz_cons (sz_ret (ez_c pe_bl (fun _ => .bl _)))
      ssz_nil) ssz_nil)
      (ssz_cons (sz_ret (ez_and (Ez.d (ez_cmp rfl (zo_eq rm) (Ez.b (ez_call1 rfl zc_len rfl c.n_len bt_len (bz_var rfl (vz rfl))) (fun _ h => by cases h)) (Ez.b (ez_call1 rfl zc_len rfl c.n_len bt_len (bz_var rfl (vz rfl))) (fun _ h => by cases h)) rfl)) (ez_one (ez_call1 rfl (zc_all rfl) rfl c.n_all bt_all (Ez.b (ez_lc (own := [("near", 2), ("far", 3)]) rfl nd (iz_zip rfl c.n_zip (Ez.d (ez_var rfl (vz rfl))) (Ez.d (ez_var rfl (vz rfl)))) (blkOk_by (by kernel_rfl)) (.inr ⟨rfl, rfl, (takes_of rfl rfl rfl rfl)⟩) (by decide) (fun _ _ ⟨_, _, _, _, _, _, e, tk⟩ => by subst e; exact (gz_tup rfl (gzs_cons (gz_name nd rfl (lz rfl)) (gzs_cons (gz_name nd rfl (lz rfl)) gzs_nil)))) (fun _ _ ⟨_, _, _, _, _, _, e, tk⟩ => by subst e; exact oz_no) (fun _ _ ⟨_, _, _, _, _, _, e, tk⟩ => by subst e; exact (Ez.d (ez_call ih.o24 (fun _ h => callN_len (d := f24) rfl h) hr rfl c.m24 c.F24.kp c.b24 .nil (fun _ => .nil) tk (az_d rfl (Ez.d (ez_var rfl (vz rfl))) (az_d rfl (Ez.d (ez_var rfl (vz rfl))) az_nil)))))) (fun _ h => by cases h))))))
      ssz_nil)) ssz_nil)
      (ssz_cons (sz_if (tz_w (wz_or (tz_isN (bz_var rfl (vz rfl))) (wz_or1 (tz_val (Ez.d (ez_isi2 (T := .bool) (U := .str) rfl c.n_isinstance rfl c.n_bool rfl c.n_str (bz_var rfl (vz rfl)))))))) (ssz_cons (sz_ret (ez_and (Ez.d (ez_cmp rfl (zo_eq rm) (bz_var rfl (vz rfl)) (bz_var rfl (vz rfl)) rfl)) (ez_and (Ez.d (ez_cmp rfl (zo_eq rm) (Ez.b (ez_isi (T := .bool) rfl c.n_isinstance rfl c.n_bool (bz_var rfl (vz rfl))) (fun _ h => by cases h)) (Ez.b (ez_isi (T := .bool) rfl c.n_isinstance rfl c.n_bool (bz_var rfl (vz rfl))) (fun _ h => by cases h)) rfl)) (ez_one (ez_cmp rfl (zo_eq rm) (Ez.b (ez_isN (bz_var rfl (vz rfl))) (fun _ h => by cases h)) (Ez.b (ez_isN (bz_var rfl (vz rfl))) (fun _ h => by cases h)) rfl)))))
      ssz_nil) ssz_nil)
      (ssz_cons (sz_ret (ez_and (Ez.d (ez_isi (T := .int) rfl c.n_isinstance rfl c.n_int (bz_var rfl (vz rfl)))) (ez_and (Ez.d (ez_not (Ez.d (ez_isi (T := .bool) rfl c.n_isinstance rfl c.n_bool (bz_var rfl (vz rfl)))))) (ez_one (ez_cmp rfl (zo_eq rm) (bz_var rfl (vz rfl)) (bz_var rfl (vz rfl)) rfl)))))
      ssz_nil)))
theorem sc25 : FnScope ["matter", "own"] ["matter"] (defScope (top 35)) := ⟨rfl, rfl, rfl, by decide +kernel, rfl, by decide +kernel, by decide +kernel⟩
theorem ok25 (ih : Ok w K mg base c n) : FnOk pw w K mg base (L2.CX pw w) (3 * (n + 1)) c.a25 c.d25 ["matter"] (SpC K 1 (callN pg (n + 1) 25)) :=
  fn_step (P := pg) (d := f25) rfl c.F25 sc25 rfl rfl rfl fun cdv A outer s H E hr2 => by
    have hr := hr2.mono (j := 3 * n) (by omega)
    have nd := sc25.nd
    have rm := rm_of hr
    exact (ssz_cons (sz_ret (ez_if (tz_val (Ez.d (ez_isi2 (T := .list) (U := .tuple) rfl c.n_isinstance rfl c.n_list rfl c.n_tuple (bz_var rfl (vz rfl))))) (ez_lc (own := [("own", 1)]) rfl nd (iz_e (Ez.d (ez_var rfl (vz rfl)))) (blkOk_by (by kernel_rfl)) (.inr ⟨rfl, rfl, (takes_of rfl rfl rfl rfl)⟩) (by decide) (fun _ _ ⟨_, _, _, _, _, _, e, tk⟩ => by subst e; exact (gz_name nd rfl (lz rfl))) (fun _ _ ⟨_, _, _, _, _, _, e, tk⟩ => by subst e; exact oz_no) (fun _ _ ⟨_, _, _, _, _, _, e, tk⟩ => by subst e; exact (Ez.d (ez_call ih.o25 (fun _ h => callN_len (d := f25) rfl h) hr rfl c.m25 c.F25.kp c.b25 .nil (fun _ => .nil) tk (az_d rfl (Ez.d (ez_var rfl (vz rfl))) az_nil))))) (ez_var rfl (vz rfl))))
      ssz_nil)
theorem sc26 : FnScope ["urn", "matter"] ["urn", "matter"] (defScope (top 36)) := ⟨rfl, rfl, rfl, by decide +kernel, rfl, by decide +kernel, by decide +kernel⟩
theorem ok26 (ih : Ok w K mg base c n) : FnOk pw w K mg base (L2.CX pw w) (3 * (n + 1)) c.a26 c.d26 ["urn", "matter"] (SpC K 2 (callN pg (n + 1) 26)) :=
  fn_step (P := pg) (d := f26) rfl c.F26 sc26 rfl rfl rfl fun cdv A outer s H E hr2 => by
    have hr := hr2.mono (j := 3 * n) (by omega)
    have nd := sc26.nd
    have rm := rm_of hr
    exact (ssz_cons (sz_ret (ez_if (tz_cmp rfl bool_eq (zo_eq rm) (Ez.b (ez_call ih.o21 (fun _ h => callN_len (d := f21) rfl h) hr rfl c.m21 c.F21.kp c.b21 .nil (fun _ => .nil) (takes_of rfl rfl rfl rfl) (az_ow rfl (vz rfl) (az_d rfl (Ez.d (ez_c pe_int (fun _ => .int _))) az_nil))) (fun _ h => by cases h)) (Ez.b (ez_c pe_int (fun _ => .int _)) (fun _ h => by cases h)) rfl) (ez_call ih.o25 (fun _ h => callN_len (d := f25) rfl h) hr rfl c.m25 c.F25.kp c.b25 .nil (fun _ => .nil) (takes_of rfl rfl rfl rfl) (az_d rfl (Ez.d (ez_var rfl (vz rfl))) az_nil)) (ez_var rfl (vz rfl))))
      ssz_nil)
theorem sc27 : FnScope ["term", "keys", "part", "own"] ["term"] (defScope (top 37)) := ⟨rfl, rfl, rfl, by decide +kernel, rfl, by decide +kernel, by decide +kernel⟩
theorem ok27 (ih : Ok w K mg base c n) : FnOk pw w K mg base (L2.CX pw w) (3 * (n + 1)) c.a27 c.d27 ["term"] (SpC K 1 (callN pg (n + 1) 27)) :=
  fn_step (P := pg) (d := f27) rfl c.F27 sc27 rfl rfl rfl fun cdv A outer s H E hr2 => by
    have hr := hr2.mono (j := 3 * n) (by omega)
    have nd := sc27.nd
    have rm := rm_of hr
    exact (ssz_cons (sz_setLc (own := [("part", 2)]) rfl nd rfl rfl rfl (iz_e (Ez.d (ez_ix rfl zo_idx (bz_var rfl (vz rfl)) (Ez.b (ez_c pe_int (fun _ => .int _)) (fun _ h => by cases h)) (fun _ _ => rfl)))) (blkOk_by (by kernel_rfl)) (.inr ⟨rfl, rfl, (takes_of rfl rfl rfl rfl)⟩) (by decide) (fun _ _ ⟨_, _, _, _, _, _, e, tk⟩ => by subst e; exact (gz_name nd rfl (lz rfl))) (fun _ _ ⟨_, _, _, _, _, _, e, tk⟩ => by subst e; exact oz_no) (fun _ _ ⟨_, _, _, _, _, _, e, tk⟩ => by subst e; exact (Ez.d (ez_call ih.o27 (fun _ h => callN_len (d := f27) rfl h) hr rfl c.m27 c.F27.kp c.b27 .nil (fun _ => .nil) tk (az_d rfl (Ez.d (ez_var rfl (vz rfl))) az_nil)))))
      (ssz_cons (sz_ret (ez_tup (fz_cons (Ez.d (ez_op rfl zo_add (Ez.b (ez_c pe_int (fun _ => .int _)) (fun _ h => by cases h)) (Ez.b (ez_call1 rfl (zc_sum rfl) rfl c.n_sum bt_sum (Ez.b (ez_lc (own := [("own", 3)]) rfl nd (iz_e (Ez.d (ez_var rfl (vz rfl)))) (blkOk_by (by kernel_rfl)) (.inr ⟨rfl, rfl, (takes_of rfl rfl rfl rfl)⟩) (by decide) (fun _ _ ⟨_, _, _, _, _, _, e, tk⟩ => by subst e; exact (gz_name nd rfl (lz rfl))) (fun _ _ ⟨_, _, _, _, _, _, e, tk⟩ => by subst e; exact oz_no) (fun _ _ ⟨_, _, _, _, _, _, e, tk⟩ => by subst e; exact (Ez.d (ez_ix rfl zo_idx (bz_var rfl (vz rfl)) (Ez.b (ez_c pe_int (fun _ => .int _)) (fun _ h => by cases h)) (fun _ _ => rfl))))) (fun _ h => by cases h))) (fun _ h => by cases h)))) (fz_cons (Ez.d (ez_ix rfl zo_idx (bz_var rfl (vz rfl)) (Ez.b (ez_c pe_int (fun _ => .int _)) (fun _ h => by cases h)) (fun _ _ => rfl))) (fz_cons (Ez.d (ez_callT rfl zc_tuple rfl c.n_tuple bt_tuple (bz_var rfl (vz rfl)))) fz_nil)))))
      ssz_nil))
theorem sc28 : FnScope ["names", "term", "parts", "swap", "part", "own"] ["names", "term"] (defScope (top 38)) := ⟨rfl, rfl, rfl, by decide +kernel, rfl, by decide +kernel, by decide +kernel⟩
theorem ok28 (ih : Ok w K mg base c n) : FnOk pw w K mg base (L2.CX pw w) (3 * (n + 1)) c.a28 c.d28 ["names", "term"] (SpC K 2 (callN pg (n + 1) 28)) :=
  fn_step (P := pg) (d := f28) rfl c.F28 sc28 rfl rfl rfl fun cdv A outer s H E hr2 => by
    have hr := hr2.mono (j := 3 * n) (by omega)
    have nd := sc28.nd
    have rm := rm_of hr
    exact (ssz_cons (sz_setLc (own := [("part", 4)]) rfl nd rfl rfl rfl (iz_e (Ez.d (ez_ix rfl zo_idx (bz_var rfl (vz rfl)) (Ez.b (ez_c pe_int (fun _ => .int _)) (fun _ h => by cases h)) (fun _ _ => rfl)))) (blkOk_by (by kernel_rfl)) (.inr ⟨rfl, rfl, (takes_of rfl rfl rfl rfl)⟩) (by decide) (fun _ _ ⟨_, _, _, _, _, _, e, tk⟩ => by subst e; exact (gz_name nd rfl (lz rfl))) (fun _ _ ⟨_, _, _, _, _, _, e, tk⟩ => by subst e; exact oz_no) (fun _ _ ⟨_, _, _, _, _, _, e, tk⟩ => by subst e; exact (Ez.d (ez_call ih.o28 (fun _ h => callN_len (d := f28) rfl h) hr rfl c.m28 c.F28.kp c.b28 .nil (fun _ => .nil) tk (az_d rfl (Ez.d (ez_var rfl (vz rfl))) (az_d rfl (Ez.d (ez_var rfl (vz rfl))) az_nil))))))
      (ssz_cons (sz_set nd rfl (lz rfl) (ez_cmp rfl (zo_eq rm) (Ez.b (ez_lc (own := [("own", 5)]) rfl nd (iz_e (Ez.d (ez_var rfl (vz rfl)))) (blkOk_by (by kernel_rfl)) (.inr ⟨rfl, rfl, (takes_of rfl rfl rfl rfl)⟩) (by decide) (fun _ _ ⟨_, _, _, _, _, _, e, tk⟩ => by subst e; exact (gz_name nd rfl (lz rfl))) (fun _ _ ⟨_, _, _, _, _, _, e, tk⟩ => by subst e; exact (oz_so (tz_cmp rfl bool_eq (zo_eq rm) (Ez.b (ez_ix rfl zo_idx (bz_var rfl (vz rfl)) (Ez.b (ez_c pe_int (fun _ => .int _)) (fun _ h => by cases h)) (fun _ _ => rfl)) (fun _ h => by cases h)) (Ez.b (ez_ix rfl zo_idx (bz_var rfl (vz rfl)) (Ez.b (ez_c pe_int (fun _ => .int _)) (fun _ h => by cases h)) (fun _ _ => rfl)) (fun _ h => by cases h)) rfl))) (fun _ _ ⟨_, _, _, _, _, _, e, tk⟩ => by subst e; exact (Ez.d (ez_ix rfl zo_idx (bz_var rfl (vz rfl)) (Ez.b (ez_c pe_int (fun _ => .int _)) (fun _ h => by cases h)) (fun _ _ => rfl))))) (fun _ h => by cases h)) (Ez.b (ez_lst (fz_cons (Ez.d (ez_c pe_bl (fun _ => .bl _))) fz_nil)) (fun _ h => by cases h)) rfl))
      (ssz_cons (sz_ret (ez_tup (fz_cons (Ez.d (ez_ix rfl zo_idx (bz_var rfl (vz rfl)) (Ez.b (ez_c pe_int (fun _ => .int _)) (fun _ h => by cases h)) (fun _ _ => rfl))) (fz_cons (Ez.d (ez_callT rfl zc_tuple rfl c.n_tuple bt_tuple (Ez.b (ez_if (tz_val (Ez.d (ez_var rfl (vz rfl)))) (ez_srtk ih.o27 rfl c.b27 hr2 rfl c.n_sorted rfl c.m27 rfl (Ez.d (ez_var rfl (vz rfl)))) (ez_var rfl (vz rfl))) (fun _ h => by cases h)))) fz_nil))))
      ssz_nil)))
theorem sc29 : FnScope ["urn", "rows"] ["urn"] (defScope (top 39)) := ⟨rfl, rfl, rfl, by decide +kernel, rfl, by decide +kernel, by decide +kernel⟩
theorem ok29 (ih : Ok w K mg base c n) : FnOk pw w K mg base (L2.CX pw w) (3 * (n + 1)) c.a29 c.d29 ["urn"] (SpC K 1 (callN pg (n + 1) 29)) :=
  fn_step (P := pg) (d := f29) rfl c.F29 sc29 rfl rfl rfl fun cdv A outer s H E hr2 => by
    have hr := hr2.mono (j := 3 * n) (by omega)
    have nd := sc29.nd
    have rm := rm_of hr
    exact (ssz_cons (sz_set nd rfl (lz rfl) (ez_op rfl zo_add (Ez.b (ez_op rfl zo_add (Ez.b (ez_lst (fz_cons (Ez.d (ez_tup (fz_cons (Ez.d (ez_c pe_str (fun _ => .str _))) (fz_cons (Ez.d (ez_c pe_int (fun _ => .int _))) (fz_cons (Ez.d (ez_c pe_bl (fun _ => .bl _))) fz_nil))))) (fz_cons (Ez.d (ez_tup (fz_cons (Ez.d (ez_c pe_str (fun _ => .str _))) (fz_cons (Ez.d (ez_c pe_int (fun _ => .int _))) (fz_cons (Ez.d (ez_c pe_bl (fun _ => .bl _))) fz_nil))))) fz_nil))) (fun _ h => by cases h)) (Ez.b (ez_rep (fz_cons (Ez.d (ez_tup (fz_cons (Ez.d (ez_c pe_str (fun _ => .str _))) (fz_cons (Ez.d (ez_c pe_int (fun _ => .int _))) (fz_cons (Ez.d (ez_c pe_bl (fun _ => .bl _))) fz_nil))))) fz_nil) (Ez.d (ez_call ih.o21 (fun _ h => callN_len (d := f21) rfl h) hr rfl c.m21 c.F21.kp c.b21 .nil (fun _ => .nil) (takes_of rfl rfl rfl rfl) (az_ow rfl (vz rfl) (az_d rfl (Ez.d (ez_c pe_int (fun _ => .int _))) az_nil))))) (fun _ h => by cases h))) (fun _ h => by cases h)) (Ez.b (ez_rep (fz_cons (Ez.d (ez_tup (fz_cons (Ez.d (ez_c pe_str (fun _ => .str _))) (fz_cons (Ez.d (ez_c pe_int (fun _ => .int _))) (fz_cons (Ez.d (ez_c pe_bl (fun _ => .bl _))) fz_nil))))) fz_nil) (Ez.d (ez_call ih.o21 (fun _ h => callN_len (d := f21) rfl h) hr rfl c.m21 c.F21.kp c.b21 .nil (fun _ => .nil) (takes_of rfl rfl rfl rfl) (az_ow rfl (vz rfl) (az_d rfl (Ez.d (ez_c pe_int (fun _ => .int _))) az_nil))))) (fun _ h => by cases h))))
      (ssz_cons (sz_ret (ez_callT rfl zc_tuple rfl c.n_tuple bt_tuple (Ez.b (ez_call1 rfl (zc_sorted rm) rfl c.n_sorted bt_sorted (Ez.b (ez_op rfl zo_add (Ez.b (ez_op rfl zo_add (bz_var rfl (vz rfl)) (Ez.b (ez_rep (fz_cons (Ez.d (ez_tup (fz_cons (Ez.d (ez_c pe_str (fun _ => .str _))) (fz_cons (Ez.d (ez_c pe_int (fun _ => .int _))) (fz_cons (Ez.d (ez_c pe_bl (fun _ => .bl _))) fz_nil))))) fz_nil) (Ez.d (ez_call ih.o21 (fun _ h => callN_len (d := f21) rfl h) hr rfl c.m21 c.F21.kp c.b21 .nil (fun _ => .nil) (takes_of rfl rfl rfl rfl) (az_ow rfl (vz rfl) (az_d rfl (Ez.d (ez_c pe_int (fun _ => .int _))) az_nil))))) (fun _ h => by cases h))) (fun _ h => by cases h)) (Ez.b (ez_rep (fz_cons (Ez.d (ez_tup (fz_cons (Ez.d (ez_c pe_str (fun _ => .str _))) (fz_cons (Ez.d (ez_c pe_int (fun _ => .int _))) (fz_cons (Ez.d (ez_c pe_bl (fun _ => .bl _))) fz_nil))))) fz_nil) (Ez.d (ez_op rfl zo_sub (Ez.b (ez_c pe_int (fun _ => .int _)) (fun _ h => by cases h)) (Ez.b (ez_callT rfl zc_int rfl c.n_int bt_int (Ez.b (ez_cmp rfl (zo_eq rm) (Ez.b (ez_call ih.o21 (fun _ h => callN_len (d := f21) rfl h) hr rfl c.m21 c.F21.kp c.b21 .nil (fun _ => .nil) (takes_of rfl rfl rfl rfl) (az_ow rfl (vz rfl) (az_d rfl (Ez.d (ez_c pe_int (fun _ => .int _))) az_nil))) (fun _ h => by cases h)) (Ez.b (ez_c pe_int (fun _ => .int _)) (fun _ h => by cases h)) rfl) (fun _ h => by cases h))) (fun _ h => by cases h))))) (fun _ h => by cases h))) (fun _ h => by cases h))) (fun _ h => by cases h))))
      ssz_nil))
theorem sc30 : FnScope ["urn", "names", "most", "bare", "name", "many", "swap", "parts", "left", "place", "own"] ["urn", "names", "most"] (defScope (top 40)) := ⟨rfl, rfl, rfl, by decide +kernel, rfl, by decide +kernel, by decide +kernel⟩
theorem ok30 (ih : Ok w K mg base c n) : FnOk pw w K mg base (L2.CX pw w) (3 * (n + 1)) c.a30 c.d30 ["urn", "names", "most"] (SpC K 3 (callN pg (n + 1) 30)) :=
  fn_step (P := pg) (d := f30) rfl c.F30 sc30 rfl rfl rfl fun cdv A outer s H E hr2 => by
    have hr := hr2.mono (j := 3 * n) (by omega)
    have nd := sc30.nd
    have rm := rm_of hr
    exact (ssz_cons (sz_setLc (own := [("own", 10)]) rfl nd rfl rfl rfl (iz_e (Ez.d (ez_var rfl (vz rfl)))) (blkOk_by (by kernel_rfl)) (.inr ⟨rfl, rfl, (takes_of rfl rfl rfl rfl)⟩) (by decide) (fun _ _ ⟨_, _, _, _, _, _, e, tk⟩ => by subst e; exact (gz_name nd rfl (lz rfl))) (fun _ _ ⟨_, _, _, _, _, _, e, tk⟩ => by subst e; exact (oz_so (tz_cmp rfl bool_eq (zo_eq rm) (Ez.b (ez_ix rfl zo_idx (bz_var rfl (vz rfl)) (Ez.b (ez_c pe_int (fun _ => .int _)) (fun _ h => by cases h)) (fun _ _ => rfl)) (fun _ h => by cases h)) (Ez.b (ez_c pe_int (fun _ => .int _)) (fun _ h => by cases h)) rfl))) (fun _ _ ⟨_, _, _, _, _, _, e, tk⟩ => by subst e; exact (Ez.d (ez_var rfl (vz rfl)))))
      (ssz_cons (sz_asg (ez_call ih.o23 (fun _ h => callN_len (d := f23) rfl h) hr rfl c.m23 c.F23.kp c.b23 .nil (fun _ => .nil) (takes_of rfl rfl rfl rfl) (az_ow rfl (vz rfl) (az_d rfl (Ez.d (ez_if (tz_cmp rfl bool_gt zo_gt (bz_var rfl (vz rfl)) (Ez.b (ez_c pe_int (fun _ => .int _)) (fun _ h => by cases h)) rfl) (ez_lc (own := [("own", 10)]) rfl nd (iz_e (Ez.d (ez_var rfl (vz rfl)))) (blkOk_by (by kernel_rfl)) (.inr ⟨rfl, rfl, (takes_of rfl rfl rfl rfl)⟩) (by decide) (fun _ _ ⟨_, _, _, _, _, _, e, tk⟩ => by subst e; exact (gz_name nd rfl (lz rfl))) (fun _ _ ⟨_, _, _, _, _, _, e, tk⟩ => by subst e; exact (oz_so (tz_cmp rfl bool_lt zo_lt (Ez.b (ez_ix rfl zo_idx (bz_var rfl (vz rfl)) (Ez.b (ez_c pe_int (fun _ => .int _)) (fun _ h => by cases h)) (fun _ _ => rfl)) (fun _ h => by cases h)) (bz_var rfl (vz rfl)) rfl))) (fun _ _ ⟨_, _, _, _, _, _, e, tk⟩ => by subst e; exact (Ez.d (ez_var rfl (vz rfl))))) (ez_var rfl (vz rfl)))) az_nil))) (gz_tup rfl (gzs_cons (gz_name nd rfl (lz rfl)) (gzs_cons (gz_name nd rfl (lz rfl)) (gzs_cons (gz_name nd rfl (lz rfl)) gzs_nil)))))
      (ssz_cons (sz_par rfl nd rfl rfl (by decide) rfl rfl (mz_cons (ez_lst fz_nil) (mz_cons (ez_op rfl zo_sub (bz_var rfl (vz rfl)) (Ez.b (ez_c pe_int (fun _ => .int _)) (fun _ h => by cases h))) mz_nil)) rfl)
      (ssz_cons (sz_for (passes_of rfl) rfl (iz_rng rfl c.n_range (Ez.d (ez_var rfl (vz rfl)))) (gz_name nd rfl (lz rfl)) (ssz_cons (sz_set nd rfl (lz rfl) (ez_call ih.o30 (fun _ h => callN_len (d := f30) rfl h) hr rfl c.m30 c.F30.kp c.b30 .nil (fun _ => .nil) (takes_of rfl rfl rfl rfl) (az_ow rfl (vz rfl) (az_d rfl (Ez.d (ez_var rfl (vz rfl))) (az_d rfl (Ez.d (ez_call2 rfl (zc_max2 rfl) rfl c.n_max bt_max (Ez.b (ez_c pe_int (fun _ => .int _)) (fun _ h => by cases h)) (Ez.b (ez_op rfl zo_sub (bz_var rfl (vz rfl)) (Ez.b (ez_op rfl zo_sub (Ez.b (ez_op rfl zo_sub (bz_var rfl (vz rfl)) (Ez.b (ez_c pe_int (fun _ => .int _)) (fun _ h => by cases h))) (fun _ h => by cases h)) (bz_var rfl (vz rfl))) (fun _ h => by cases h))) (fun _ h => by cases h)))) az_nil)))))
      (ssz_cons (sz_app rfl (vz rfl) (Ez.d (ez_var rfl (vz rfl))))
      (ssz_cons (sz_set nd rfl (lz rfl) (ez_op rfl zo_sub (bz_var rfl (vz rfl)) (Ez.b (ez_ix rfl zo_idx (Ez.b (ez_call ih.o27 (fun _ h => callN_len (d := f27) rfl h) hr rfl c.m27 c.F27.kp c.b27 .nil (fun _ => .nil) (takes_of rfl rfl rfl rfl) (az_d rfl (Ez.d (ez_var rfl (vz rfl))) az_nil)) (fun _ h => by cases h)) (Ez.b (ez_c pe_int (fun _ => .int _)) (fun _ h => by cases h)) (fun _ _ => rfl)) (fun _ h => by cases h))))
      ssz_nil))))
      (ssz_cons (sz_ret (ez_tup (fz_cons (Ez.d (ez_var rfl (vz rfl))) (fz_cons (Ez.d (ez_callT rfl zc_tuple rfl c.n_tuple bt_tuple (bz_var rfl (vz rfl)))) fz_nil))))
      ssz_nil)))))
theorem sc31 : FnScope ["door", "names", "left", "right", "price"] ["door", "names", "left", "right", "price"] (defScope (top 41)) := ⟨rfl, rfl, rfl, by decide +kernel, rfl, by decide +kernel, by decide +kernel⟩
theorem ok31 (ih : Ok w K mg base c n) : FnOk pw w K mg base (L2.CX pw w) (3 * (n + 1)) c.a31 c.d31 ["door", "names", "left", "right", "price"] (SpC K 5 (callN pg (n + 1) 31)) :=
  fn_step (P := pg) (d := f31) rfl c.F31 sc31 rfl rfl rfl fun cdv A outer s H E hr2 => by
    have hr := hr2.mono (j := 3 * n) (by omega)
    have nd := sc31.nd
    have rm := rm_of hr
    exact (ssz_cons (sz_try rfl rfl ⟨rfl, rfl, .inl c.m_Unfit⟩ (takes_of rfl rfl rfl rfl) (exm_of c.xm_Unfit) (fun _ _ _ tk pso => (ssz_cons (sz_ret (ez_if (tz_cmp rfl bool_eq (zo_eq rm) (bz_var rfl (vz rfl)) (Ez.b (ez_c pe_int (fun _ => .int _)) (fun _ h => by cases h)) rfl) (ez_call ih.o18 (fun _ h => callN_len (d := f18) rfl h) hr rfl c.m18 c.F18.kp c.b18 .nil (fun _ => .nil) tk (az_d rfl (Ez.d (ez_var rfl (vz rfl))) (az_d rfl (Ez.d (ez_var rfl (vz rfl))) (az_d rfl (Ez.d (ez_var rfl (vz rfl))) (az_d rfl (Ez.d (ez_var rfl (vz rfl))) az_nil))))) (ez_call ih.o19 (fun _ h => callN_len (d := f19) rfl h) hr rfl c.m19 c.F19.kp c.b19 .nil (fun _ => .nil) tk (az_d rfl (Ez.d (ez_var rfl (vz rfl))) (az_d rfl (Ez.d (ez_var rfl (vz rfl))) az_nil)))))
      ssz_nil)) (fun _ _ _ => (ez_c pe_str (fun _ => .str _))))
      ssz_nil)
theorem sc32 : FnScope ["script", "urn", "names", "rows", "due", "bad", "lap", "book", "got", "one", "things", "wrong", "other", "price", "near", "far", "own"] ["script"] (defScope (top 42)) := ⟨rfl, rfl, rfl, by decide +kernel, rfl, by decide +kernel, by decide +kernel⟩
theorem ok32 (ih : Ok w K mg base c n) : FnOk pw w K mg base (L2.CX pw w) (3 * (n + 1)) c.a32 c.d32 ["script"] (SpC K 1 (callN pg (n + 1) 32)) :=
  fn_step (P := pg) (d := f32) rfl c.F32 sc32 rfl rfl rfl fun cdv A outer s H E hr2 => by
    have hr := hr2.mono (j := 3 * n) (by omega)
    have nd := sc32.nd
    have rm := rm_of hr
    exact (ssz_cons (sz_set nd rfl (lz rfl) (ez_call ih.o20 (fun _ h => callN_len (d := f20) rfl h) hr rfl c.m20 c.F20.kp c.b20 .nil (fun _ => .nil) (takes_of rfl rfl rfl rfl) (az_d rfl (Ez.d (ez_call ih.o22 (fun _ h => callN_len (d := f22) rfl h) hr rfl c.m22 c.F22.kp c.b22 .nil (fun _ => .nil) (takes_of rfl rfl rfl rfl) (az_d rfl (Ez.d (ez_var rfl (vz rfl))) (az_d rfl (Ez.d (ez_c pe_int (fun _ => .int _))) az_nil)))) (az_d rfl (Ez.d (ez_c pe_int (fun _ => .int _))) az_nil))))
      (ssz_cons (sz_set nd rfl (lz rfl) (ez_call ih.o29 (fun _ h => callN_len (d := f29) rfl h) hr rfl c.m29 c.F29.kp c.b29 .nil (fun _ => .nil) (takes_of rfl rfl rfl rfl) (az_ow rfl (vz rfl) az_nil)))
      (ssz_cons (sz_par3 rfl nd rfl rfl rfl (by decide) (by decide) (by decide) rfl rfl rfl (mz_cons (ez_lst fz_nil) (mz_cons (ez_lst fz_nil) (mz_cons (ez_c pe_bl (fun _ => .bl _)) mz_nil))) rfl)
      (ssz_cons (sz_for (passes_of rfl) rfl (iz_rng rfl c.n_range (Ez.d (ez_call ih.o21 (fun _ h => callN_len (d := f21) rfl h) hr rfl c.m21 c.F21.kp c.b21 .nil (fun _ => .nil) (takes_of rfl rfl rfl rfl) (az_ow rfl (vz rfl) (az_d rfl (Ez.d (ez_c pe_int (fun _ => .int _))) az_nil))))) (gz_name nd rfl (lz rfl)) (ssz_cons (sz_par3 rfl nd rfl rfl rfl (by decide) (by decide) (by decide) rfl rfl rfl (mz_cons (ez_call ih.o30 (fun _ h => callN_len (d := f30) rfl h) hr rfl c.m30 c.F30.kp c.b30 .nil (fun _ => .nil) (takes_of rfl rfl rfl rfl) (az_ow rfl (vz rfl) (az_d rfl (Ez.d (ez_var rfl (vz rfl))) (az_d rfl (Ez.d (ez_c pe_int (fun _ => .int _))) az_nil)))) (mz_cons (ez_call ih.o30 (fun _ h => callN_len (d := f30) rfl h) hr rfl c.m30 c.F30.kp c.b30 .nil (fun _ => .nil) (takes_of rfl rfl rfl rfl) (az_ow rfl (vz rfl) (az_d rfl (Ez.d (ez_var rfl (vz rfl))) (az_d rfl (Ez.d (ez_c pe_int (fun _ => .int _))) az_nil)))) (mz_cons (ez_call ih.o21 (fun _ h => callN_len (d := f21) rfl h) hr rfl c.m21 c.F21.kp c.b21 .nil (fun _ => .nil) (takes_of rfl rfl rfl rfl) (az_ow rfl (vz rfl) (az_d rfl (Ez.d (ez_c pe_int (fun _ => .int _))) az_nil))) mz_nil))) rfl)
      (ssz_cons (sz_if (tz_cmp rfl bool_eq (zo_eq rm) (Ez.b (ez_call ih.o21 (fun _ h => callN_len (d := f21) rfl h) hr rfl c.m21 c.F21.kp c.b21 .nil (fun _ => .nil) (takes_of rfl rfl rfl rfl) (az_ow rfl (vz rfl) (az_d rfl (Ez.d (ez_c pe_int (fun _ => .int _))) az_nil))) (fun _ h => by cases h)) (Ez.b (ez_c pe_int (fun _ => .int _)) (fun _ h => by cases h)) rfl) (ssz_cons (sz_set nd rfl (lz rfl) (ez_call ih.o28 (fun _ h => callN_len (d := f28) rfl h) hr rfl c.m28 c.F28.kp c.b28 .nil (fun _ => .nil) (takes_of rfl rfl rfl rfl) (az_d rfl (Ez.d (ez_var rfl (vz rfl))) (az_d rfl (Ez.d (ez_var rfl (vz rfl))) az_nil))))
      ssz_nil) ssz_nil)
      (ssz_cons (sz_par rfl nd rfl rfl (by decide) rfl rfl (mz_cons (ez_call ih.o28 (fun _ h => callN_len (d := f28) rfl h) hr rfl c.m28 c.F28.kp c.b28 .nil (fun _ => .nil) (takes_of rfl rfl rfl rfl) (az_d rfl (Ez.d (ez_var rfl (vz rfl))) (az_d rfl (Ez.d (ez_var rfl (vz rfl))) az_nil))) (mz_cons (ez_call ih.o28 (fun _ h => callN_len (d := f28) rfl h) hr rfl c.m28 c.F28.kp c.b28 .nil (fun _ => .nil) (takes_of rfl rfl rfl rfl) (az_d rfl (Ez.d (ez_var rfl (vz rfl))) (az_d rfl (Ez.d (ez_var rfl (vz rfl))) az_nil))) mz_nil)) rfl)
      (ssz_cons (sz_app rfl (vz rfl) (Ez.d (ez_tup (fz_cons (Ez.d (ez_var rfl (vz rfl))) (fz_cons (Ez.d (ez_var rfl (vz rfl))) (fz_cons (Ez.d (ez_var rfl (vz rfl))) fz_nil))))))
      (ssz_cons (sz_app rfl (vz rfl) (Ez.d (ez_tup (fz_cons (Ez.d (ez_var rfl (vz rfl))) (fz_cons (Ez.d (ez_var rfl (vz rfl))) (fz_cons (Ez.d (ez_var rfl (vz rfl))) fz_nil))))))
      (ssz_cons (sz_set nd rfl (lz rfl) (ez_or (Ez.d (ez_var rfl (vz rfl))) (ez_one (ez_cmp rfl (zo_eq rm) (bz_var rfl (vz rfl)) (bz_var rfl (vz rfl)) rfl))))
      (ssz_cons (sz_set nd rfl (lz rfl) (ez_lst (fz_cons (Ez.d (ez_call ih.o31 (fun _ h => callN_len (d := f31) rfl h) hr rfl c.m31 c.F31.kp c.b31 .nil (fun _ => .nil) (takes_of rfl rfl rfl rfl) (az_d rfl (Ez.d (ez_c pe_int (fun _ => .int _))) (az_d rfl (Ez.d (ez_var rfl (vz rfl))) (az_d rfl (Ez.d (ez_call ih.o26 (fun _ h => callN_len (d := f26) rfl h) hr rfl c.m26 c.F26.kp c.b26 .nil (fun _ => .nil) (takes_of rfl rfl rfl rfl) (az_ow rfl (vz rfl) (az_d rfl (Ez.d (ez_var rfl (vz rfl))) az_nil)))) (az_d rfl (Ez.d (ez_var rfl (vz rfl))) (az_d rfl (Ez.d (ez_var rfl (vz rfl))) az_nil))))))) (fz_cons (Ez.d (ez_call ih.o16 (fun _ h => callN_len (d := f16) rfl h) hr rfl c.m16 c.F16.kp c.b16 .nil (fun _ => .nil) (takes_of rfl rfl rfl rfl) (az_d rfl (Ez.d (ez_var rfl (vz rfl))) (az_d rfl (Ez.d (ez_tup (fz_cons (Ez.d (ez_var rfl (vz rfl))) (fz_cons (Ez.d (ez_var rfl (vz rfl))) (fz_cons (Ez.d (ez_var rfl (vz rfl))) fz_nil))))) az_nil)))) (fz_cons (Ez.d (ez_call ih.o16 (fun _ h => callN_len (d := f16) rfl h) hr rfl c.m16 c.F16.kp c.b16 .nil (fun _ => .nil) (takes_of rfl rfl rfl rfl) (az_d rfl (Ez.d (ez_var rfl (vz rfl))) (az_d rfl (Ez.d (ez_tup (fz_cons (Ez.d (ez_var rfl (vz rfl))) (fz_cons (Ez.d (ez_var rfl (vz rfl))) (fz_cons (Ez.d (ez_var rfl (vz rfl))) fz_nil))))) az_nil)))) (fz_cons (Ez.d (ez_call ih.o16 (fun _ h => callN_len (d := f16) rfl h) hr rfl c.m16 c.F16.kp c.b16 .nil (fun _ => .nil) (takes_of rfl rfl rfl rfl) (az_d rfl (Ez.d (ez_var rfl (vz rfl))) (az_d rfl (Ez.d (ez_tup (fz_cons (Ez.d (ez_var rfl (vz rfl))) (fz_cons (Ez.d (ez_var rfl (vz rfl))) (fz_cons (Ez.d (ez_un rfl zu_neg (Ez.b (ez_c pe_int (fun _ => .int _)) (fun _ h => by cases h)))) fz_nil))))) az_nil)))) fz_nil))))))
      (ssz_cons (sz_set nd rfl (lz rfl) (ez_op rfl zo_add (bz_var rfl (vz rfl)) (Ez.b (ez_lst (fz_cons (Ez.d (ez_call ih.o16 (fun _ h => callN_len (d := f16) rfl h) hr rfl c.m16 c.F16.kp c.b16 .nil (fun _ => .nil) (takes_of rfl rfl rfl rfl) (az_d rfl (Ez.d (ez_var rfl (vz rfl))) (az_d rfl (Ez.d (ez_tup (fz_cons (Ez.d (ez_var rfl (vz rfl))) (fz_cons (Ez.d (ez_var rfl (vz rfl))) (fz_cons (Ez.d (ez_c pe_bl (fun _ => .bl _))) fz_nil))))) az_nil)))) (fz_cons (Ez.d (ez_call ih.o16 (fun _ h => callN_len (d := f16) rfl h) hr rfl c.m16 c.F16.kp c.b16 .nil (fun _ => .nil) (takes_of rfl rfl rfl rfl) (az_d rfl (Ez.d (ez_var rfl (vz rfl))) (az_d rfl (Ez.d (ez_lst (fz_cons (Ez.d (ez_var rfl (vz rfl))) (fz_cons (Ez.d (ez_var rfl (vz rfl))) (fz_cons (Ez.d (ez_var rfl (vz rfl))) fz_nil))))) az_nil)))) fz_nil))) (fun _ h => by cases h))))
      (ssz_cons (sz_if (tz_not (tz_val (Ez.d (ez_call ih.o24 (fun _ h => callN_len (d := f24) rfl h) hr rfl c.m24 c.F24.kp c.b24 .nil (fun _ => .nil) (takes_of rfl rfl rfl rfl) (az_d rfl (Ez.d (ez_var rfl (vz rfl))) (az_d rfl (Ez.d (ez_lst (fz_cons (Ez.d (ez_if (tz_cmp rfl bool_ne (zo_ne rm) (bz_var rfl (vz rfl)) (bz_var rfl (vz rfl)) rfl) (ez_tup (fz_cons (Ez.d (ez_var rfl (vz rfl))) (fz_cons (Ez.d (ez_var rfl (vz rfl))) (fz_cons (Ez.d (ez_var rfl (vz rfl))) fz_nil)))) (ez_c pe_str (fun _ => .str _)))) (fz_cons (Ez.d (ez_cmp rfl (zo_ne rm) (bz_var rfl (vz rfl)) (bz_var rfl (vz rfl)) rfl)) (fz_cons (Ez.d (ez_and (Ez.d (ez_cmp rfl (zo_eq rm) (bz_var rfl (vz rfl)) (bz_var rfl (vz rfl)) rfl)) (ez_one (ez_cmp rfl (zo_ne rm) (bz_var rfl (vz rfl)) (bz_var rfl (vz rfl)) rfl)))) (fz_cons (Ez.d (ez_c pe_bl (fun _ => .bl _))) (fz_cons (Ez.d (ez_c pe_bl (fun _ => .bl _))) (fz_cons (Ez.d (ez_c pe_bl (fun _ => .bl _))) fz_nil)))))))) az_nil)))))) (ssz_cons (sz_ret (ez_c pe_bl (fun _ => .bl _)))
      ssz_nil) ssz_nil)
      ssz_nil))))))))))
      (ssz_cons (sz_set nd rfl (lz rfl) (ez_tup (fz_cons (Ez.d (ez_var rfl (vz rfl))) (fz_cons (Ez.d (ez_callT rfl zc_tuple rfl c.n_tuple bt_tuple (bz_var rfl (vz rfl)))) fz_nil))))
      (ssz_cons (sz_set nd rfl (lz rfl) (ez_lst (fz_cons (Ez.d (ez_call ih.o31 (fun _ h => callN_len (d := f31) rfl h) hr rfl c.m31 c.F31.kp c.b31 .nil (fun _ => .nil) (takes_of rfl rfl rfl rfl) (az_d rfl (Ez.d (ez_c pe_int (fun _ => .int _))) (az_d rfl (Ez.d (ez_call ih.o26 (fun _ h => callN_len (d := f26) rfl h) hr rfl c.m26 c.F26.kp c.b26 .nil (fun _ => .nil) (takes_of rfl rfl rfl rfl) (az_ow rfl (vz rfl) (az_d rfl (Ez.d (ez_var rfl (vz rfl))) az_nil)))) (az_d rfl (Ez.d (ez_call ih.o26 (fun _ h => callN_len (d := f26) rfl h) hr rfl c.m26 c.F26.kp c.b26 .nil (fun _ => .nil) (takes_of rfl rfl rfl rfl) (az_ow rfl (vz rfl) (az_d rfl (Ez.d (ez_var rfl (vz rfl))) az_nil)))) (az_d rfl (Ez.d (ez_c pe_non (fun _ => .non))) (az_d rfl (Ez.d (ez_c pe_non (fun _ => .non))) az_nil))))))) (fz_cons (Ez.d (ez_call ih.o17 (fun _ h => callN_len (d := f17) rfl h) hr rfl c.m17 c.F17.kp c.b17 .nil (fun _ => .nil) (takes_of rfl rfl rfl rfl) (az_d rfl (Ez.d (ez_var rfl (vz rfl))) az_nil))) (fz_cons (Ez.d (ez_call ih.o17 (fun _ h => callN_len (d := f17) rfl h) hr rfl c.m17 c.F17.kp c.b17 .nil (fun _ => .nil) (takes_of rfl rfl rfl rfl) (az_d rfl (Ez.d (ez_callT rfl zc_list rfl c.n_list bt_list (bz_var rfl (vz rfl)))) az_nil))) (fz_cons (Ez.d (ez_call ih.o17 (fun _ h => callN_len (d := f17) rfl h) hr rfl c.m17 c.F17.kp c.b17 .nil (fun _ => .nil) (takes_of rfl rfl rfl rfl) (az_d rfl (Ez.d (ez_tup (fz_cons (Ez.d (ez_var rfl (vz rfl))) (fz_cons (Ez.d (ez_callT rfl zc_list rfl c.n_list bt_list (bz_var rfl (vz rfl)))) fz_nil)))) az_nil))) fz_nil))))))
      (ssz_cons (sz_set nd rfl (lz rfl) (ez_op rfl zo_add (bz_var rfl (vz rfl)) (Ez.b (ez_lst (fz_cons (Ez.d (ez_call ih.o17 (fun _ h => callN_len (d := f17) rfl h) hr rfl c.m17 c.F17.kp c.b17 .nil (fun _ => .nil) (takes_of rfl rfl rfl rfl) (az_d rfl (Ez.d (ez_tup (fz_cons (Ez.d (ez_rev (bz_var rfl (vz rfl)))) (fz_cons (Ez.d (ez_callT rfl zc_tuple rfl c.n_tuple bt_tuple (bz_var rfl (vz rfl)))) fz_nil)))) az_nil))) (fz_cons (Ez.d (ez_call ih.o17 (fun _ h => callN_len (d := f17) rfl h) hr rfl c.m17 c.F17.kp c.b17 .nil (fun _ => .nil) (takes_of rfl rfl rfl rfl) (az_d rfl (Ez.d (ez_var rfl (vz rfl))) az_nil))) (fz_cons (Ez.d (ez_call ih.o17 (fun _ h => callN_len (d := f17) rfl h) hr rfl c.m17 c.F17.kp c.b17 .nil (fun _ => .nil) (takes_of rfl rfl rfl rfl) (az_d rfl (Ez.d (ez_tup (fz_cons (Ez.d (ez_tup fz_nil)) (fz_cons (Ez.d (ez_tup fz_nil)) fz_nil)))) az_nil))) fz_nil)))) (fun _ h => by cases h))))
      (ssz_cons (sz_if (tz_not (tz_val (Ez.d (ez_call ih.o24 (fun _ h => callN_len (d := f24) rfl h) hr rfl c.m24 c.F24.kp c.b24 .nil (fun _ => .nil) (takes_of rfl rfl rfl rfl) (az_d rfl (Ez.d (ez_var rfl (vz rfl))) (az_d rfl (Ez.d (ez_lst (fz_cons (Ez.d (ez_if (tz_val (Ez.d (ez_var rfl (vz rfl)))) (ez_c pe_str (fun _ => .str _)) (ez_var rfl (vz rfl)))) (fz_cons (Ez.d (ez_not (Ez.d (ez_var rfl (vz rfl))))) (fz_cons (Ez.d (ez_c pe_bl (fun _ => .bl _))) (fz_cons (Ez.d (ez_c pe_bl (fun _ => .bl _))) (fz_cons (Ez.d (ez_c pe_bl (fun _ => .bl _))) (fz_cons (Ez.d (ez_c pe_bl (fun _ => .bl _))) (fz_cons (Ez.d (ez_c pe_bl (fun _ => .bl _))) fz_nil))))))))) az_nil)))))) (ssz_cons (sz_ret (ez_c pe_bl (fun _ => .bl _)))
      ssz_nil) ssz_nil)
      (ssz_cons (sz_if (tz_w (wz_and (tz_not (tz_val (Ez.d (ez_var rfl (vz rfl))))) (wz_and (tz_cmp rfl bool_ne (zo_ne rm) (bz_var rfl (vz rfl)) (Ez.b (ez_lst fz_nil) (fun _ h => by cases h)) rfl) (wz_and1 (tz_not (tz_val (Ez.d (ez_call ih.o24 (fun _ h => callN_len (d := f24) rfl h) hr rfl c.m24 c.F24.kp c.b24 .nil (fun _ => .nil) (takes_of rfl rfl rfl rfl) (az_d rfl (Ez.d (ez_call ih.o18 (fun _ h => callN_len (d := f18) rfl h) hr rfl c.m18 c.F18.kp c.bd18 c.dv18 (fun _ => (.cons (.int _) .nil)) (takes_of rfl rfl rfl rfl) (az_d rfl (Ez.d (ez_var rfl (vz rfl))) (az_d rfl (Ez.d (ez_ix rfl zo_idx (Ez.b (ez_ix rfl zo_idx (bz_var rfl (vz rfl)) (Ez.b (ez_c pe_int (fun _ => .int _)) (fun _ h => by cases h)) (fun _ _ => rfl)) (fun _ h => by cases h)) (Ez.b (ez_c pe_int (fun _ => .int _)) (fun _ h => by cases h)) (fun _ _ => rfl))) (az_d rfl (Ez.d (ez_ix rfl zo_idx (Ez.b (ez_ix rfl zo_idx (bz_var rfl (vz rfl)) (Ez.b (ez_c pe_int (fun _ => .int _)) (fun _ h => by cases h)) (fun _ _ => rfl)) (fun _ h => by cases h)) (Ez.b (ez_c pe_int (fun _ => .int _)) (fun _ h => by cases h)) (fun _ _ => rfl))) az_nil))))) (az_d rfl (Ez.d (ez_op rfl zo_add (Ez.b (ez_slc (Ez.b (ez_ix rfl zo_idx (bz_var rfl (vz rfl)) (Ez.b (ez_c pe_int (fun _ => .int _)) (fun _ h => by cases h)) (fun _ _ => rfl)) (fun _ h => by cases h)) pz_no (pz_so (Ez.d (ez_c pe_int (fun _ => .int _))))) (fun _ h => by cases h)) (Ez.b (ez_tup (fz_cons (Ez.d (ez_c pe_int (fun _ => .int _))) fz_nil)) (fun _ h => by cases h)))) az_nil)))))))))) (ssz_cons (sz_ret (ez_c pe_bl (fun _ => .bl _)))
      ssz_nil) ssz_nil)
      (ssz_cons (sz_set nd rfl (lz rfl) (ez_call ih.o30 (fun _ h => callN_len (d := f30) rfl h) hr rfl c.m30 c.F30.kp c.b30 .nil (fun _ => .nil) (takes_of rfl rfl rfl rfl) (az_ow rfl (vz rfl) (az_d rfl (Ez.d (ez_var rfl (vz rfl))) (az_d rfl (Ez.d (ez_c pe_int (fun _ => .int _))) az_nil)))))
      (ssz_cons (sz_set nd rfl (lz rfl) (ez_lst (fz_cons (Ez.d (ez_c pe_non (fun _ => .non))) (fz_cons (Ez.d (ez_tup fz_nil)) (fz_cons (Ez.d (ez_c pe_str (fun _ => .str _))) (fz_cons (Ez.d (ez_tup (fz_cons (Ez.d (ez_c pe_str (fun _ => .str _))) fz_nil))) (fz_cons (Ez.d (ez_tup (fz_cons (Ez.d (ez_c pe_str (fun _ => .str _))) (fz_cons (Ez.d (ez_tup fz_nil)) fz_nil)))) (fz_cons (Ez.d (ez_tup (fz_cons (Ez.d (ez_c pe_str (fun _ => .str _))) (fz_cons (Ez.d (ez_tup (fz_cons (Ez.d (ez_tup (fz_cons (Ez.d (ez_c pe_str (fun _ => .str _))) (fz_cons (Ez.d (ez_tup fz_nil)) fz_nil)))) fz_nil))) fz_nil)))) (fz_cons (Ez.d (ez_tup (fz_cons (Ez.d (ez_ix rfl zo_idx (bz_var rfl (vz rfl)) (Ez.b (ez_c pe_int (fun _ => .int _)) (fun _ h => by cases h)) (fun _ _ => rfl))) (fz_cons (Ez.d (ez_callT rfl zc_list rfl c.n_list bt_list (Ez.b (ez_ix rfl zo_idx (bz_var rfl (vz rfl)) (Ez.b (ez_c pe_int (fun _ => .int _)) (fun _ h => by cases h)) (fun _ _ => rfl)) (fun _ h => by cases h)))) fz_nil)))) (fz_cons (Ez.d (ez_tup (fz_cons (Ez.d (ez_ix rfl zo_idx (bz_var rfl (vz rfl)) (Ez.b (ez_c pe_int (fun _ => .int _)) (fun _ h => by cases h)) (fun _ _ => rfl))) (fz_cons (Ez.d (ez_op rfl zo_add (Ez.b (ez_ix rfl zo_idx (bz_var rfl (vz rfl)) (Ez.b (ez_c pe_int (fun _ => .int _)) (fun _ h => by cases h)) (fun _ _ => rfl)) (fun _ h => by cases h)) (Ez.b (ez_tup (fz_cons (Ez.d (ez_var rfl (vz rfl))) fz_nil)) (fun _ h => by cases h)))) fz_nil)))) (fz_cons (Ez.d (ez_lst (fz_cons (Ez.d (ez_ix rfl zo_idx (bz_var rfl (vz rfl)) (Ez.b (ez_c pe_int (fun _ => .int _)) (fun _ h => by cases h)) (fun _ _ => rfl))) (fz_cons (Ez.d (ez_ix rfl zo_idx (bz_var rfl (vz rfl)) (Ez.b (ez_c pe_int (fun _ => .int _)) (fun _ h => by cases h)) (fun _ _ => rfl))) fz_nil)))) (fz_cons (Ez.d (ez_tup (fz_cons (Ez.d (ez_c pe_int (fun _ => .int _))) (fz_cons (Ez.d (ez_tup fz_nil)) fz_nil)))) (fz_cons (Ez.d (ez_tup (fz_cons (Ez.d (ez_c pe_bl (fun _ => .bl _))) (fz_cons (Ez.d (ez_tup fz_nil)) fz_nil)))) fz_nil)))))))))))))
      (ssz_cons (sz_set nd rfl (lz rfl) (ez_op rfl zo_add (Ez.b (ez_lc (own := [("own", 16)]) rfl nd (iz_e (Ez.d (ez_var rfl (vz rfl)))) (blkOk_by (by kernel_rfl)) (.inr ⟨rfl, rfl, (takes_of rfl rfl rfl rfl)⟩) (by decide) (fun _ _ ⟨_, _, _, _, _, _, e, tk⟩ => by subst e; exact (gz_name nd rfl (lz rfl))) (fun _ _ ⟨_, _, _, _, _, _, e, tk⟩ => by subst e; exact oz_no) (fun _ _ ⟨_, _, _, _, _, _, e, tk⟩ => by subst e; exact (Ez.d (ez_lst (fz_cons (Ez.d (ez_call ih.o10 (fun _ h => callN_len (d := f10) rfl h) hr rfl c.m10 c.F10.kp c.b10 .nil (fun _ => .nil) tk (az_d rfl (Ez.d (ez_var rfl (vz rfl))) (az_d rfl (Ez.d (ez_var rfl (vz rfl))) az_nil)))) (fz_cons (Ez.d (ez_call ih.o15 (fun _ h => callN_len (d := f15) rfl h) hr rfl c.m15 c.F15.kp c.b15 .nil (fun _ => .nil) tk (az_d rfl (Ez.d (ez_var rfl (vz rfl))) (az_d rfl (Ez.d (ez_var rfl (vz rfl))) az_nil)))) fz_nil)))))) (fun _ h => by cases h)) (Ez.b (ez_lst (fz_cons (Ez.d (ez_call ih.o10 (fun _ h => callN_len (d := f10) rfl h) hr rfl c.m10 c.F10.kp c.b10 .nil (fun _ => .nil) (takes_of rfl rfl rfl rfl) (az_d rfl (Ez.d (ez_var rfl (vz rfl))) (az_d rfl (Ez.d (ez_var rfl (vz rfl))) az_nil)))) (fz_cons (Ez.d (ez_cmp rfl (zo_eq rm) (Ez.b (ez_call ih.o15 (fun _ h => callN_len (d := f15) rfl h) hr rfl c.m15 c.F15.kp c.b15 .nil (fun _ => .nil) (takes_of rfl rfl rfl rfl) (az_d rfl (Ez.d (ez_var rfl (vz rfl))) (az_d rfl (Ez.d (ez_var rfl (vz rfl))) az_nil))) (fun _ h => by cases h)) (Ez.b (ez_cmp rfl (zo_eq rm) (Ez.b (ez_call ih.o14 (fun _ h => callN_len (d := f14) rfl h) hr rfl c.m14 c.F14.kp c.b14 .nil (fun _ => .nil) (takes_of rfl rfl rfl rfl) (az_d rfl (Ez.d (ez_var rfl (vz rfl))) (az_d rfl (Ez.d (ez_var rfl (vz rfl))) az_nil))) (fun _ h => by cases h)) (bz_var rfl (vz rfl)) rfl) (fun _ h => by cases h)) rfl)) fz_nil))) (fun _ h => by cases h))))
      (ssz_cons (sz_if (tz_not (tz_val (Ez.d (ez_call ih.o24 (fun _ h => callN_len (d := f24) rfl h) hr rfl c.m24 c.F24.kp c.b24 .nil (fun _ => .nil) (takes_of rfl rfl rfl rfl) (az_d rfl (Ez.d (ez_var rfl (vz rfl))) (az_d rfl (Ez.d (ez_op rfl zo_add (Ez.b (ez_rep (fz_cons (Ez.d (ez_lst (fz_cons (Ez.d (ez_c pe_bl (fun _ => .bl _))) (fz_cons (Ez.d (ez_c pe_bl (fun _ => .bl _))) fz_nil)))) fz_nil) (Ez.d (ez_call1 rfl zc_len rfl c.n_len bt_len (bz_var rfl (vz rfl))))) (fun _ h => by cases h)) (Ez.b (ez_lst (fz_cons (Ez.d (ez_c pe_bl (fun _ => .bl _))) (fz_cons (Ez.d (ez_c pe_bl (fun _ => .bl _))) fz_nil))) (fun _ h => by cases h)))) az_nil)))))) (ssz_cons (sz_ret (ez_c pe_bl (fun _ => .bl _)))
      ssz_nil) ssz_nil)
      (ssz_cons (sz_set nd rfl (lz rfl) (ez_lst (fz_cons (Ez.d (ez_op rfl zo_add (bz_var rfl (vz rfl)) (Ez.b (ez_slc (bz_var rfl (vz rfl)) pz_no (pz_so (Ez.d (ez_c pe_int (fun _ => .int _))))) (fun _ h => by cases h)))) (fz_cons (Ez.d (ez_tup (fz_cons (Ez.d (ez_tup (fz_cons (Ez.d (ez_c pe_str (fun _ => .str _))) (fz_cons (Ez.d (ez_c pe_int (fun _ => .int _))) (fz_cons (Ez.d (ez_c pe_int (fun _ => .int _))) fz_nil))))) fz_nil))) fz_nil))))
      (ssz_cons (sz_set nd rfl (lz rfl) (ez_op rfl zo_add (bz_var rfl (vz rfl)) (Ez.b (ez_lst (fz_cons (Ez.d (ez_tup (fz_cons (Ez.d (ez_tup (fz_cons (Ez.d (ez_c pe_str (fun _ => .str _))) (fz_cons (Ez.d (ez_c pe_int (fun _ => .int _))) (fz_cons (Ez.d (ez_c pe_bl (fun _ => .bl _))) fz_nil))))) fz_nil))) (fz_cons (Ez.d (ez_tup (fz_cons (Ez.d (ez_tup (fz_cons (Ez.d (ez_c pe_str (fun _ => .str _))) (fz_cons (Ez.d (ez_c pe_int (fun _ => .int _))) (fz_cons (Ez.d (ez_c pe_bl (fun _ => .bl _))) fz_nil))))) fz_nil))) (fz_cons (Ez.d (ez_tup (fz_cons (Ez.d (ez_tup (fz_cons (Ez.d (ez_c pe_str (fun _ => .str _))) (fz_cons (Ez.d (ez_c pe_int (fun _ => .int _))) (fz_cons (Ez.d (ez_c pe_bl (fun _ => .bl _))) fz_nil))))) fz_nil))) (fz_cons (Ez.d (ez_tup (fz_cons (Ez.d (ez_tup (fz_cons (Ez.d (ez_c pe_str (fun _ => .str _))) (fz_cons (Ez.d (ez_c pe_int (fun _ => .int _))) (fz_cons (Ez.d (ez_c pe_bl (fun _ => .bl _))) fz_nil))))) fz_nil))) (fz_cons (Ez.d (ez_tup (fz_cons (Ez.d (ez_tup (fz_cons (Ez.d (ez_c pe_str (fun _ => .str _))) (fz_cons (Ez.d (ez_c pe_int (fun _ => .int _))) (fz_cons (Ez.d (ez_c pe_bl (fun _ => .bl _))) fz_nil))))) fz_nil))) (fz_cons (Ez.d (ez_tup (fz_cons (Ez.d (ez_tup (fz_cons (Ez.d (ez_c pe_str (fun _ => .str _))) (fz_cons (Ez.d (ez_c pe_bl (fun _ => .bl _))) (fz_cons (Ez.d (ez_c pe_bl (fun _ => .bl _))) fz_nil))))) fz_nil))) (fz_cons (Ez.d (ez_tup (fz_cons (Ez.d (ez_lst (fz_cons (Ez.d (ez_c pe_str (fun _ => .str _))) (fz_cons (Ez.d (ez_c pe_int (fun _ => .int _))) (fz_cons (Ez.d (ez_c pe_bl (fun _ => .bl _))) fz_nil))))) fz_nil))) (fz_cons (Ez.d (ez_callT rfl zc_list rfl c.n_list bt_list (bz_var rfl (vz rfl)))) (fz_cons (Ez.d (ez_c pe_non (fun _ => .non))) fz_nil)))))))))) (fun _ h => by cases h))))
      (ssz_cons (sz_ret (ez_call ih.o24 (fun _ h => callN_len (d := f24) rfl h) hr rfl c.m24 c.F24.kp c.b24 .nil (fun _ => .nil) (takes_of rfl rfl rfl rfl) (az_d rfl (Ez.d (ez_op rfl zo_add (Ez.b (ez_lc (own := [("own", 16)]) rfl nd (iz_e (Ez.d (ez_var rfl (vz rfl)))) (blkOk_by (by kernel_rfl)) (.inr ⟨rfl, rfl, (takes_of rfl rfl rfl rfl)⟩) (by decide) (fun _ _ ⟨_, _, _, _, _, _, e, tk⟩ => by subst e; exact (gz_name nd rfl (lz rfl))) (fun _ _ ⟨_, _, _, _, _, _, e, tk⟩ => by subst e; exact oz_no) (fun _ _ ⟨_, _, _, _, _, _, e, tk⟩ => by subst e; exact (Ez.d (ez_call ih.o8 (fun _ h => callN_len (d := f8) rfl h) hr rfl c.m8 c.F8.kp c.b8 .nil (fun _ => .nil) tk (az_d rfl (Ez.d (ez_var rfl (vz rfl))) az_nil))))) (fun _ h => by cases h)) (Ez.b (ez_lst (fz_cons (Ez.d (ez_call ih.o8 (fun _ h => callN_len (d := f8) rfl h) hr rfl c.m8 c.F8.kp c.b8 .nil (fun _ => .nil) (takes_of rfl rfl rfl rfl) (az_d rfl (Ez.d (ez_var rfl (vz rfl))) az_nil))) (fz_cons (Ez.d (ez_call ih.o8 (fun _ h => callN_len (d := f8) rfl h) hr rfl c.m8 c.F8.kp c.b8 .nil (fun _ => .nil) (takes_of rfl rfl rfl rfl) (az_d rfl (Ez.d (ez_tup fz_nil)) az_nil))) (fz_cons (Ez.d (ez_call ih.o8 (fun _ h => callN_len (d := f8) rfl h) hr rfl c.m8 c.F8.kp c.b8 .nil (fun _ => .nil) (takes_of rfl rfl rfl rfl) (az_d rfl (Ez.d (ez_tup (fz_cons (Ez.d (ez_tup (fz_cons (Ez.d (ez_c pe_str (fun _ => .str _))) (fz_cons (Ez.d (ez_c pe_int (fun _ => .int _))) (fz_cons (Ez.d (ez_c pe_bl (fun _ => .bl _))) fz_nil))))) fz_nil))) az_nil))) fz_nil)))) (fun _ h => by cases h)))) (az_d rfl (Ez.d (ez_op rfl zo_add (Ez.b (ez_rep (fz_cons (Ez.d (ez_c pe_bl (fun _ => .bl _))) fz_nil) (Ez.d (ez_call1 rfl zc_len rfl c.n_len bt_len (bz_var rfl (vz rfl))))) (fun _ h => by cases h)) (Ez.b (ez_lst (fz_cons (Ez.d (ez_c pe_bl (fun _ => .bl _))) (fz_cons (Ez.d (ez_c pe_bl (fun _ => .bl _))) (fz_cons (Ez.d (ez_c pe_bl (fun _ => .bl _))) fz_nil)))) (fun _ h => by cases h)))) az_nil))))
      ssz_nil))))))))))))))))
theorem ok_succ (ih : Ok w K mg base c n) : Ok w K mg base c (n + 1) := ⟨ok0 ih, ok1 ih, ok2 ih, ok3 ih, ok4 ih, ok5 ih, ok6 ih, ok7 ih, ok8 ih, ok9 ih, ok10 ih, ok11 ih, ok12 ih, ok13 ih, ok14 ih, ok15 ih, ok16 ih, ok17 ih, ok18 ih, ok19 ih, ok20 ih, ok21 ih, ok22 ih, ok23 ih, ok24 ih, ok25 ih, ok26 ih, ok27 ih, ok28 ih, ok29 ih, ok30 ih, ok31 ih, ok32 ih⟩
theorem ok_all : ∀ n, Ok w K mg base c n
  | 0 => ⟨fn_zero, fn_zero, fn_zero, fn_zero, fn_zero, fn_zero, fn_zero, fn_zero, fn_zero, fn_zero, fn_zero, fn_zero, fn_zero, fn_zero, fn_zero, fn_zero, fn_zero, fn_zero, fn_zero, fn_zero, fn_zero, fn_zero, fn_zero, fn_zero, fn_zero, fn_zero, fn_zero, fn_zero, fn_zero, fn_zero, fn_zero, fn_zero, fn_zero⟩
  | n + 1 => ok_succ (ok_all n)
end
/-! ### the head: facts by names, the run -/
def e0 : He.DefD := ⟨("is_number", none), "is_number", "is_number", defArgs (top 5), defBody (top 5), defScope (top 5), [], []⟩
def e1 : He.DefD := ⟨("is_from", none), "is_from", "is_from", defArgs (top 6), defBody (top 6), defScope (top 6), [], []⟩
def e2 : He.DefD := ⟨("is_below", none), "is_below", "is_below", defArgs (top 7), defBody (top 7), defScope (top 7), [], []⟩
def e3 : He.DefD := ⟨("is_row", none), "is_row", "is_row", defArgs (top 8), defBody (top 8), defScope (top 8), [], []⟩
def e4 : He.DefD := ⟨("is_name", none), "is_name", "is_name", defArgs (top 9), defBody (top 9), defScope (top 9), [], []⟩
def e5 : He.DefD := ⟨("rises", none), "rises", "rises", defArgs (top 10), defBody (top 10), defScope (top 10), [], []⟩
def e6 : He.DefD := ⟨("tuple_of", none), "tuple_of", "tuple_of", defArgs (top 11), defBody (top 11), defScope (top 11), [], []⟩
def e7 : He.DefD := ⟨("is_entry", none), "is_entry", "is_entry", defArgs (top 14), defBody (top 14), defScope (top 14), [], []⟩
def e8 : He.DefD := ⟨("is_names", none), "is_names", "is_names", defArgs (top 15), defBody (top 15), defScope (top 15), [], []⟩
def e9 : He.DefD := ⟨("entries", none), "entries", "entries", defArgs (top 16), defBody (top 16), defScope (top 16), [], []⟩
def e10 : He.DefD := ⟨("is_term", none), "is_term", "is_term", defArgs (top 17), defBody (top 17), defScope (top 17), [], []⟩
def e11 : He.DefD := ⟨("size", none), "size", "size", defArgs (top 18), defBody (top 18), defScope (top 18), [], []⟩
def e12 : He.DefD := ⟨("key", none), "key", "key", defArgs (top 19), defBody (top 19), defScope (top 19), [], []⟩
def e13 : He.DefD := ⟨("formed", none), "formed", "formed", defArgs (top 20), defBody (top 20), defScope (top 20), [], []⟩
def e14 : He.DefD := ⟨("form", none), "form", "form", defArgs (top 21), defBody (top 21), defScope (top 21), [], []⟩
def e15 : He.DefD := ⟨("is_form", none), "is_form", "is_form", defArgs (top 22), defBody (top 22), defScope (top 22), [], []⟩
def e16 : He.DefD := ⟨("is_rule", none), "is_rule", "is_rule", defArgs (top 25), defBody (top 25), defScope (top 25), [], []⟩
def e17 : He.DefD := ⟨("is_book", none), "is_book", "is_book", defArgs (top 26), defBody (top 26), defScope (top 26), [], []⟩
def e18 : He.DefD := ⟨("rule_of", none), "rule_of", "rule_of", defArgs (top 27), defBody (top 27), defScope (top 27), [.int 0], []⟩
def e19 : He.DefD := ⟨("book_of", none), "book_of", "book_of", defArgs (top 28), defBody (top 28), defScope (top 28), [], []⟩
def e20 : He.DefD := ⟨("_law_box", none), "_law_box", "_law_box", defArgs (top 30), defBody (top 30), defScope (top 30), [], []⟩
def e21 : He.DefD := ⟨("_law_take", none), "_law_take", "_law_take", defArgs (top 31), defBody (top 31), defScope (top 31), [], []⟩
def e22 : He.DefD := ⟨("_law_cells", none), "_law_cells", "_law_cells", defArgs (top 32), defBody (top 32), defScope (top 32), [], []⟩
def e23 : He.DefD := ⟨("_law_of", none), "_law_of", "_law_of", defArgs (top 33), defBody (top 33), defScope (top 33), [], []⟩
def e24 : He.DefD := ⟨("_law_same", none), "_law_same", "_law_same", defArgs (top 34), defBody (top 34), defScope (top 34), [], []⟩
def e25 : He.DefD := ⟨("_law_lists", none), "_law_lists", "_law_lists", defArgs (top 35), defBody (top 35), defScope (top 35), [], []⟩
def e26 : He.DefD := ⟨("_law_soft", none), "_law_soft", "_law_soft", defArgs (top 36), defBody (top 36), defScope (top 36), [], []⟩
def e27 : He.DefD := ⟨("_law_key", none), "_law_key", "_law_key", defArgs (top 37), defBody (top 37), defScope (top 37), [], []⟩
def e28 : He.DefD := ⟨("_law_form", none), "_law_form", "_law_form", defArgs (top 38), defBody (top 38), defScope (top 38), [], []⟩
def e29 : He.DefD := ⟨("_law_names", none), "_law_names", "_law_names", defArgs (top 39), defBody (top 39), defScope (top 39), [], []⟩
def e30 : He.DefD := ⟨("_law_term", none), "_law_term", "_law_term", defArgs (top 40), defBody (top 40), defScope (top 40), [], []⟩
def e31 : He.DefD := ⟨("_law_heard", none), "_law_heard", "_law_heard", defArgs (top 41), defBody (top 41), defScope (top 41), [], []⟩
def e32 : He.DefD := ⟨("law", none), "law", "law", defArgs (top 42), defBody (top 42), defScope (top 42), [], []⟩
def fn : List He.DefD := [e0, e1, e2, e3, e4, e5, e6, e7, e8, e9, e10, e11, e12, e13, e14, e15, e16, e17, e18, e19, e20, e21, e22, e23, e24, e25, e26, e27, e28, e29, e30, e31, e32]
def fa : List He.Fa := [.glo "is_number", .glo "is_from", .glo "is_below", .glo "is_row", .glo "is_name", .glo "rises", .glo "tuple_of", .glo "is_entry", .glo "is_names", .glo "entries", .glo "is_term", .glo "size", .glo "key", .glo "formed", .glo "form", .glo "is_form", .glo "is_rule", .glo "is_book", .glo "rule_of", .glo "book_of", .glo "_law_box", .glo "_law_take", .glo "_law_cells", .glo "_law_of", .glo "_law_same", .glo "_law_lists", .glo "_law_soft", .glo "_law_key", .glo "_law_form", .glo "_law_names", .glo "_law_term", .glo "_law_heard", .glo "law", .free "abs", .free "all", .free "bool", .free "enumerate", .free "int", .free "isinstance", .free "len", .free "list", .free "max", .free "range", .free "sorted", .free "str", .free "sum", .free "tuple", .free "zip", .str "LETTERS" "abcdefghijklmnopqrstuvwxyz", .int "LONGEST" 8, .int "PAIR" 2, .int "TRIPLE" 3, .glo "Unfit", .exc "Unfit", .exm "Unfit" "Unfit" true]
abbrev R : PySem.W.OpenRow := PySem.W.OpenLaw.row PySem.Challenge.rw_canlead_k03_rules_and_books_told
abbrev hk : PySem.W.Hook := He.hookD 4 fa fn
def ob (s : PySem.W.SharedT) : He.AlD := He.obsDG 4 fa fn (HandSHeadRun.getT s)
theorem ob_eq (s : PySem.W.SharedT) : ob s = hk.obs s.abs := He.obsDG_eq (HandSHeadRun.getT_eq s)
def loose0 : List Str := ["is_number", "is_from", "is_below", "is_row", "is_name", "rises", "tuple_of", "is_entry", "is_names", "entries", "is_term", "size", "key", "formed", "form", "is_form", "is_rule", "is_book", "rule_of", "book_of"]
def loose1 : List Str := ["_law_box", "_law_take", "_law_cells", "_law_of", "_law_same", "_law_lists", "_law_soft", "_law_key", "_law_form", "_law_names", "_law_term", "_law_heard", "LETTERS", "LONGEST", "PAIR", "TRIPLE", "Unfit"]
abbrev loose : List Str := loose0 ++ loose1
theorem run (w : World) : HandSHeadRun.RunEq R (PySem.W.view R.prog [42]) hk ob 4000 loose w := by
  intro os
  kernel_rfl
theorem facts {K : PySem.W.Frag} {h : Heap} {mg : Str → Option Value} (X : K.In h) (G : h.Ns mainGlobals mg) (c : He.SaysD fa fn K) : Nonempty (Fx K mg) := by
  obtain ⟨t0, g0⟩ := He.str_ok X G (c.fact 48 rfl)
  obtain ⟨t1, g1⟩ := He.int_ok X G (c.fact 49 rfl)
  obtain ⟨t2, g2⟩ := He.int_ok X G (c.fact 50 rfl)
  obtain ⟨t3, g3⟩ := He.int_ok X G (c.fact 51 rfl)
  obtain ⟨q0, F0⟩ := c.def_ 0 (d := e0) rfl
  obtain ⟨q1, F1⟩ := c.def_ 1 (d := e1) rfl
  obtain ⟨q2, F2⟩ := c.def_ 2 (d := e2) rfl
  obtain ⟨q3, F3⟩ := c.def_ 3 (d := e3) rfl
  obtain ⟨q4, F4⟩ := c.def_ 4 (d := e4) rfl
  obtain ⟨q5, F5⟩ := c.def_ 5 (d := e5) rfl
  obtain ⟨q6, F6⟩ := c.def_ 6 (d := e6) rfl
  obtain ⟨q7, F7⟩ := c.def_ 7 (d := e7) rfl
  obtain ⟨q8, F8⟩ := c.def_ 8 (d := e8) rfl
  obtain ⟨q9, F9⟩ := c.def_ 9 (d := e9) rfl
  obtain ⟨q10, F10⟩ := c.def_ 10 (d := e10) rfl
  obtain ⟨q11, F11⟩ := c.def_ 11 (d := e11) rfl
  obtain ⟨q12, F12⟩ := c.def_ 12 (d := e12) rfl
  obtain ⟨q13, F13⟩ := c.def_ 13 (d := e13) rfl
  obtain ⟨q14, F14⟩ := c.def_ 14 (d := e14) rfl
  obtain ⟨q15, F15⟩ := c.def_ 15 (d := e15) rfl
  obtain ⟨q16, F16⟩ := c.def_ 16 (d := e16) rfl
  obtain ⟨q17, F17⟩ := c.def_ 17 (d := e17) rfl
  obtain ⟨q18, F18⟩ := c.def_ 18 (d := e18) rfl
  have b18 : Binds K q18 ["names", "left", "right", "price"] [] := by
    obtain ⟨ds, v, b⟩ := FunD.binds1 (ps := ["names", "left", "right", "price"]) F18 4 1 (by intro h; cases h) rfl (fun T kV doc pm an cdv ct us its h1 h2 => match us, its, h1, h2 with | [_, _, _, _], [_], _, _ => ⟨_, rfl, rfl⟩)
    cases v
    exact b
  obtain ⟨ds18, v18, bd18⟩ := FunD.binds1 (ps := ["names", "left", "right", "price"]) F18 3 0 (by intro h; cases h) rfl (fun T kV doc pm an cdv ct us its h1 h2 => match us, its, h1, h2 with | [_, _, _], [_], _, _ => ⟨_, rfl, rfl⟩)
  obtain ⟨q19, F19⟩ := c.def_ 19 (d := e19) rfl
  obtain ⟨q20, F20⟩ := c.def_ 20 (d := e20) rfl
  obtain ⟨q21, F21⟩ := c.def_ 21 (d := e21) rfl
  obtain ⟨q22, F22⟩ := c.def_ 22 (d := e22) rfl
  obtain ⟨q23, F23⟩ := c.def_ 23 (d := e23) rfl
  obtain ⟨q24, F24⟩ := c.def_ 24 (d := e24) rfl
  obtain ⟨q25, F25⟩ := c.def_ 25 (d := e25) rfl
  obtain ⟨q26, F26⟩ := c.def_ 26 (d := e26) rfl
  obtain ⟨q27, F27⟩ := c.def_ 27 (d := e27) rfl
  obtain ⟨q28, F28⟩ := c.def_ 28 (d := e28) rfl
  obtain ⟨q29, F29⟩ := c.def_ 29 (d := e29) rfl
  obtain ⟨q30, F30⟩ := c.def_ 30 (d := e30) rfl
  obtain ⟨q31, F31⟩ := c.def_ 31 (d := e31) rfl
  obtain ⟨q32, F32⟩ := c.def_ 32 (d := e32) rfl
  obtain ⟨x1, x2, x3, x4⟩ := He.exc_ok (c.fact 53 (f := .exc "Unfit") rfl)
  exact ⟨⟨He.free_ok X G (c.fact 33 rfl),
    He.free_ok X G (c.fact 34 rfl),
    He.free_ok X G (c.fact 35 rfl),
    He.free_ok X G (c.fact 36 rfl),
    He.free_ok X G (c.fact 37 rfl),
    He.free_ok X G (c.fact 38 rfl),
    He.free_ok X G (c.fact 39 rfl),
    He.free_ok X G (c.fact 40 rfl),
    He.free_ok X G (c.fact 41 rfl),
    He.free_ok X G (c.fact 42 rfl),
    He.free_ok X G (c.fact 43 rfl),
    He.free_ok X G (c.fact 44 rfl),
    He.free_ok X G (c.fact 45 rfl),
    He.free_ok X G (c.fact 46 rfl),
    He.free_ok X G (c.fact 47 rfl),
    t0,
    g0,
    t1,
    g1,
    t2,
    g2,
    t3,
    g3,
    _,
    q0,
    F0,
    He.glo_ok X G (c.fact 0 rfl),
    FunD.bindsN F0 fun _ _ _ _ _ _ us hl => match us, hl with | [_], _ => rfl,
    _,
    q1,
    F1,
    He.glo_ok X G (c.fact 1 rfl),
    FunD.bindsN F1 fun _ _ _ _ _ _ us hl => match us, hl with | [_, _], _ => rfl,
    _,
    q2,
    F2,
    He.glo_ok X G (c.fact 2 rfl),
    FunD.bindsN F2 fun _ _ _ _ _ _ us hl => match us, hl with | [_, _], _ => rfl,
    _,
    q3,
    F3,
    He.glo_ok X G (c.fact 3 rfl),
    FunD.bindsN F3 fun _ _ _ _ _ _ us hl => match us, hl with | [_, _], _ => rfl,
    _,
    q4,
    F4,
    He.glo_ok X G (c.fact 4 rfl),
    FunD.bindsN F4 fun _ _ _ _ _ _ us hl => match us, hl with | [_], _ => rfl,
    _,
    q5,
    F5,
    He.glo_ok X G (c.fact 5 rfl),
    FunD.bindsN F5 fun _ _ _ _ _ _ us hl => match us, hl with | [_], _ => rfl,
    _,
    q6,
    F6,
    He.glo_ok X G (c.fact 6 rfl),
    FunD.bindsN F6 fun _ _ _ _ _ _ us hl => match us, hl with | [_], _ => rfl,
    _,
    q7,
    F7,
    He.glo_ok X G (c.fact 7 rfl),
    FunD.bindsN F7 fun _ _ _ _ _ _ us hl => match us, hl with | [_], _ => rfl,
    _,
    q8,
    F8,
    He.glo_ok X G (c.fact 8 rfl),
    FunD.bindsN F8 fun _ _ _ _ _ _ us hl => match us, hl with | [_], _ => rfl,
    _,
    q9,
    F9,
    He.glo_ok X G (c.fact 9 rfl),
    FunD.bindsN F9 fun _ _ _ _ _ _ us hl => match us, hl with | [_], _ => rfl,
    _,
    q10,
    F10,
    He.glo_ok X G (c.fact 10 rfl),
    FunD.bindsN F10 fun _ _ _ _ _ _ us hl => match us, hl with | [_, _], _ => rfl,
    _,
    q11,
    F11,
    He.glo_ok X G (c.fact 11 rfl),
    FunD.bindsN F11 fun _ _ _ _ _ _ us hl => match us, hl with | [_], _ => rfl,
    _,
    q12,
    F12,
    He.glo_ok X G (c.fact 12 rfl),
    FunD.bindsN F12 fun _ _ _ _ _ _ us hl => match us, hl with | [_], _ => rfl,
    _,
    q13,
    F13,
    He.glo_ok X G (c.fact 13 rfl),
    FunD.bindsN F13 fun _ _ _ _ _ _ us hl => match us, hl with | [_, _], _ => rfl,
    _,
    q14,
    F14,
    He.glo_ok X G (c.fact 14 rfl),
    FunD.bindsN F14 fun _ _ _ _ _ _ us hl => match us, hl with | [_, _], _ => rfl,
    _,
    q15,
    F15,
    He.glo_ok X G (c.fact 15 rfl),
    FunD.bindsN F15 fun _ _ _ _ _ _ us hl => match us, hl with | [_, _], _ => rfl,
    _,
    q16,
    F16,
    He.glo_ok X G (c.fact 16 rfl),
    FunD.bindsN F16 fun _ _ _ _ _ _ us hl => match us, hl with | [_, _], _ => rfl,
    _,
    q17,
    F17,
    He.glo_ok X G (c.fact 17 rfl),
    FunD.bindsN F17 fun _ _ _ _ _ _ us hl => match us, hl with | [_], _ => rfl,
    _,
    q18,
    F18,
    He.glo_ok X G (c.fact 18 rfl),
    b18,
    ds18,
    bd18,
    v18,
    _,
    q19,
    F19,
    He.glo_ok X G (c.fact 19 rfl),
    FunD.bindsN F19 fun _ _ _ _ _ _ us hl => match us, hl with | [_, _], _ => rfl,
    _,
    q20,
    F20,
    He.glo_ok X G (c.fact 20 rfl),
    FunD.bindsN F20 fun _ _ _ _ _ _ us hl => match us, hl with | [_, _], _ => rfl,
    _,
    q21,
    F21,
    He.glo_ok X G (c.fact 21 rfl),
    FunD.bindsN F21 fun _ _ _ _ _ _ us hl => match us, hl with | [_, _], _ => rfl,
    _,
    q22,
    F22,
    He.glo_ok X G (c.fact 22 rfl),
    FunD.bindsN F22 fun _ _ _ _ _ _ us hl => match us, hl with | [_, _], _ => rfl,
    _,
    q23,
    F23,
    He.glo_ok X G (c.fact 23 rfl),
    FunD.bindsN F23 fun _ _ _ _ _ _ us hl => match us, hl with | [_, _], _ => rfl,
    _,
    q24,
    F24,
    He.glo_ok X G (c.fact 24 rfl),
    FunD.bindsN F24 fun _ _ _ _ _ _ us hl => match us, hl with | [_, _], _ => rfl,
    _,
    q25,
    F25,
    He.glo_ok X G (c.fact 25 rfl),
    FunD.bindsN F25 fun _ _ _ _ _ _ us hl => match us, hl with | [_], _ => rfl,
    _,
    q26,
    F26,
    He.glo_ok X G (c.fact 26 rfl),
    FunD.bindsN F26 fun _ _ _ _ _ _ us hl => match us, hl with | [_, _], _ => rfl,
    _,
    q27,
    F27,
    He.glo_ok X G (c.fact 27 rfl),
    FunD.bindsN F27 fun _ _ _ _ _ _ us hl => match us, hl with | [_], _ => rfl,
    _,
    q28,
    F28,
    He.glo_ok X G (c.fact 28 rfl),
    FunD.bindsN F28 fun _ _ _ _ _ _ us hl => match us, hl with | [_, _], _ => rfl,
    _,
    q29,
    F29,
    He.glo_ok X G (c.fact 29 rfl),
    FunD.bindsN F29 fun _ _ _ _ _ _ us hl => match us, hl with | [_], _ => rfl,
    _,
    q30,
    F30,
    He.glo_ok X G (c.fact 30 rfl),
    FunD.bindsN F30 fun _ _ _ _ _ _ us hl => match us, hl with | [_, _, _], _ => rfl,
    _,
    q31,
    F31,
    He.glo_ok X G (c.fact 31 rfl),
    FunD.bindsN F31 fun _ _ _ _ _ _ us hl => match us, hl with | [_, _, _, _, _], _ => rfl,
    _,
    q32,
    F32,
    He.glo_ok X G (c.fact 32 rfl),
    FunD.bindsN F32 fun _ _ _ _ _ _ us hl => match us, hl with | [_], _ => rfl,
    He.glo_ok X G (c.fact 52 rfl),
    x1,
    x2,
    x3,
    x4,
    He.exm_ok (c.fact 54 (f := .exm "Unfit" "Unfit" true) rfl)⟩⟩
/-- the law's plain side -/
def Plain (n : Nat) : Prop := ∀ ns : List Int, ns.length ≤ 63 → (∀ z ∈ ns, Builtin.Int.intBits z ≤ 1048576) → ∃ outs, callN pg n 32 [.v (.list (ns.map .int))] = .ok (.v (.bool true)) outs
theorem ints_dp {K : PySem.W.Frag} {H : Hp} : ∀ ns : List Int, DpAll K H (ns.map V.int) (ns.map PyData.int)
  | [] => .nil
  | i :: r => .cons (.int i) (ints_dp r)
theorem sp_of {K : PySem.W.Frag} {H : Hp} {a : Addr} {ns : List Int} {n : Nat} (hS : SqL K H a (ns.map V.int)) (h : ∃ outs, callN pg n 32 [.v (.list (ns.map .int))] = .ok (.v (.bool true)) outs) : SpC K 1 (callN pg n 32) [.ref a] H (fun v _ => v = .bl true) fun _ _ _ => False := by
  obtain ⟨outs, e⟩ := h
  refine ⟨rfl, H, [.v (.list (ns.map .int))], [], ⟨some (.ref a), [], [], [], rfl, rfl, .inr ⟨_, rfl, .lst hS (ints_dp ns), rfl⟩, rfl, rfl⟩, Own.start (Sub.refl H) List.nodup_nil (fun _ m => by cases m) (fun _ m => by cases m), ?_⟩
  rw [e]
  intro v Hv' H' ⟨as, r, _⟩
  obtain ⟨s, r', b, b', e1, _, r1, _⟩ := r
  cases e1
  rcases r1 with ⟨q, _⟩ | ⟨v', e2, q, _⟩
  · cases q
  · cases e2
    cases q
    rfl
end K03
open PySem PySem.W PySem.Calls PyProof.Rows
theorem K03.holds {n : Nat} (pl : K03.Plain n) (hroom : L2.Room (3 * n) callerA) : PySem.Challenge.rw_canlead_k03_rules_and_books_told.Holds := by
  w_on; o_law
  refine HandSHeadRun.head_any (r := OpenLaw.row PySem.Challenge.rw_canlead_k03_rules_and_books_told) (q := view (OpenLaw.row PySem.Challenge.rw_canlead_k03_rules_and_books_told).prog [42]) (H := K03.hk) (ob := K03.ob) (M := 4000) (loose := K03.loose) (d := HandSHeadRun.topDef (OpenLaw.row PySem.Challenge.rw_canlead_k03_rules_and_books_told).prog 42) (kwd := []) K03.ob_eq
    (by kernel_rfl) (fun s => by kernel_rfl) K03.run (by kernel_rfl) (by kernel_rfl) (by kernel_rfl) (by rfl) (by first | assumption | decide +kernel) (by decide +kernel) ⟨rfl, rfl, rfl, rfl, rfl, by decide +kernel⟩ ?hw ?hc
  case hw => w_witness2
  case hc =>
    refine Z.walk_z (l := PySem.Challenge.rw_canlead_k03_rules_and_books_told) (n := 63) (k := 3 * n) (x := "script") (CX := L2.CX K03.pw) rfl (by decide) (by kernel_rfl) hroom ?F (fun _ _ _ _ _ z => Z.cx_no z)
    intro w mg fa h Y G hmg0
    obtain ⟨K, KX, c⟩ := Y
    have hmg : mg ("law" : PySem.Str) = some (.ref fa) := by
      have e : (HandSHeadRun.topDef (OpenLaw.row PySem.Challenge.rw_canlead_k03_rules_and_books_told).prog 42).name = ("law" : PySem.Str) := by kernel_rfl
      rw [← e]
      exact hmg0
    obtain ⟨c⟩ := K03.facts KX G c
    have e := hmg.symm.trans c.m32
    cases e
    have b := L2.FunD.bindsA (ps := ["script"]) c.F32 fun _ _ _ _ _ _ us hl => match us, hl with | [_], _ => rfl
    exact ⟨K, c.d32, Z.SpC K 1 (Z.callN K03.pg n 32), KX, (fun s v => b s [v] rfl), (fun H a ns hl hb hS => K03.sp_of hS (pl ns hl hb)), fun base _ _ => (K03.ok_all n).o32⟩
end
section
set_option Elab.async false
set_option linter.all false
set_option maxRecDepth 100000
namespace Z
open PySem L2

/-! ### reading the evaluator off -/
theorem callN_of {P : Prog} {n f : Nat} {os : List O} {d : Fn} (Γ : Env) (b : Ss) (io : List Nat) (a : Nat) (h : P.fns[f]? = some d) (h1 : os.length = d.arity := by rfl) (h2 : d.arity ≤ d.n := by decide) (h3 : (d.io.all (· < d.arity)) = true := by rfl) (h4 : padTo d.n os = Γ := by rfl) (h5 : d.body = b := by rfl) (h6 : d.io = io := by rfl) (h7 : d.arity = a := by rfl) :
    callN P (n + 1) f os = (evSs ⟨callN P n, P.glob, io, P.fuel, P.exm⟩ b Γ).res io a := by
  subst h4 h5 h6 h7
  simp only [callN, h]
  rw [if_pos ⟨h1, h2, h3⟩]
theorem evSs_cons {C : Cfg} {s : S} {ss : Ss} {Γ : Env} : evSs C (.cons s ss) Γ = (evS C s Γ).seq fun Γ1 => evSs C ss Γ1 := by simp only [evSs]
/-- the statement at a place; what stands behind -/
def Ss.nth : Ss → Nat → S
  | .nil, _ => .pass
  | .cons s _, 0 => s
  | .cons _ r, n + 1 => r.nth n
def Ss.drop : Ss → Nat → Ss
  | r, 0 => r
  | .nil, _ + 1 => .nil
  | .cons _ r, n + 1 => r.drop n
def Ss.len : Ss → Nat
  | .nil => 0
  | .cons _ r => r.len + 1
theorem Ss.split : ∀ (b : Ss) (k : Nat), k < b.len → b.drop k = .cons (b.nth k) (b.drop (k + 1))
  | .nil, _, h => absurd h (Nat.not_lt_zero _)
  | .cons _ r, 0, _ => by cases r <;> rfl
  | .cons _ r, k + 1, h => Ss.split r k (Nat.lt_of_succ_lt_succ h)
/-- one statement further -/
theorem step_nx {C : Cfg} {b : Ss} {Γ Γ' : Env} (k : Nat) (hk : k < b.len) (h : evS C (b.nth k) Γ = .nx Γ') : evSs C (b.drop k) Γ = evSs C (b.drop (k + 1)) Γ' := by
  rw [Ss.split b k hk]
  simp only [evSs, h, Out.seq]
theorem step_rt {C : Cfg} {b : Ss} {Γ Γ' : Env} {o : O} (k : Nat) (hk : k < b.len) (h : evS C (b.nth k) Γ = .rt o Γ') : evSs C (b.drop k) Γ = .rt o Γ' := by
  rw [Ss.split b k hk]
  simp only [evSs, h, Out.seq]
theorem evSs_nil {C : Cfg} {Γ : Env} : evSs C .nil Γ = .nx Γ := by simp only [evSs]
section
variable {α β : Type} {Γ : Env} {d : D} {b : Bool} {a : α} {c : Exc}
theorem rb_ok (f : α → R β) : (R.ok a).bind f = f a := rfl
theorem rb_ex (f : α → R β) : (R.ex c Γ : R α).bind f = .ex c Γ := rfl
theorem ro_ok (f : α → Out) : (R.ok a).out f = f a := rfl
theorem ro_ex (f : α → Out) : (R.ex c Γ : R α).out f = .ex c Γ := rfl
theorem rn_ok : (R.ok a).nox = .ok a := rfl
theorem op_so (f : α → R β) : opt (some a) f = f a := rfl
theorem td_v : toD (.ok (.v d, Γ)) = .ok (d, Γ) := rfl
theorem td_l {xs : List D} : toD (.ok (.lst xs, Γ)) = .ok (.list xs, Γ) := rfl
theorem td_ex : toD (.ex c Γ) = .ex c Γ := rfl
theorem ts_b : tst (.bool b) = some b := rfl
theorem ts_l {xs : List D} : tst (.list xs) = some (!xs.isEmpty) := rfl
theorem ts_t {xs : List D} : tst (.tuple xs) = some (!xs.isEmpty) := rfl
theorem ts_i {i : Int} : tst (.int i) = some (i != 0) := rfl
theorem pk_nil : peeks Γ [] = some [] := rfl
theorem pk_v {r : List (Nat ⊕ O)} : peeks Γ (.inr (.v d) :: r) = (peeks Γ r).map (d :: ·) := by
  cases h : peeks Γ r <;> simp only [peeks, h, O.fz, Option.map_some, Option.map_none]
theorem pk_l {xs : List D} {r : List (Nat ⊕ O)} : peeks Γ (.inr (.lst xs) :: r) = (peeks Γ r).map (.list xs :: ·) := by
  cases h : peeks Γ r <;> simp only [peeks, h, O.fz, Option.map_some, Option.map_none]
theorem pk_i {i : Nat} {r : List (Nat ⊕ O)} : peeks Γ (.inl i :: r) = (slot Γ i).fz.bind fun d => (peeks Γ r).map (d :: ·) := by
  cases h : peeks Γ r <;> cases h' : (slot Γ i).fz <;> simp only [peeks, h, h', Option.map_some, Option.map_none, Option.bind_some, Option.bind_none]
theorem ih_v : isHole (.v d) = false := rfl
theorem ih_l {xs : List D} : isHole (.lst xs) = false := rfl
theorem ih_d {xs : List (Key × D)} : isHole (.dic xs) = false := rfl
theorem fz_v : O.fz (.v d) = some d := rfl
theorem fz_l {xs : List D} : O.fz (.lst xs) = some (.list xs) := rfl
theorem sq_nx (f : Env → Out) : (Out.nx Γ).seq f = f Γ := rfl
theorem sq_rt {o : O} (f : Env → Out) : (Out.rt o Γ).seq f = .rt o Γ := rfl
theorem sq_ex (f : Env → Out) : (Out.ex c Γ).seq f = .ex c Γ := rfl
theorem rs_rt {io : List Nat} {n : Nat} {o : O} : (Out.rt o Γ).res io n = .ok o (outs io n Γ) := rfl
theorem rs_nx {io : List Nat} {n : Nat} : (Out.nx Γ).res io n = .ok (.v .none) (outs io n Γ) := rfl
theorem rs_ex {io : List Nat} {n : Nat} : (Out.ex c Γ).res io n = .ex c (outs io n Γ) := rfl
theorem of_so : Out.of (some Γ) = .nx Γ := rfl
theorem st_def {ro : List Nat} {i : Nat} {o : O} : setT ro Γ (.v i) o = setS ro Γ i o := by unfold setT; rfl
theorem st_tup {ro : List Nat} {ts : List Tg} {xs : List D} : setT ro Γ (.t ts) (.v (.tuple xs)) = setTs ro Γ ts xs := by simp only [setT]
theorem st_lst {ro : List Nat} {ts : List Tg} {xs : List D} : setT ro Γ (.t ts) (.v (.list xs)) = setTs ro Γ ts xs := by simp only [setT]
theorem cb_ok {o : O} {outs : List O} {as : Es} : (CRes.ok o outs).back as Γ = .ok (o, unfill as outs Γ) := rfl
theorem cb_ex {outs : List O} {as : Es} : (CRes.ex c outs).back as Γ = .ex c (unfill as outs Γ) := rfl
theorem fin_ok {own : List Nat} {Γ0 : Env} {mk : α → O} : (R.ok (a, Γ)).fin own Γ0 mk = .ok (mk a, backs Γ Γ0 own) := rfl
theorem fin_ex {own : List Nat} {Γ0 : Env} {mk : α → O} : (R.ex c Γ : R (α × Env)).fin own Γ0 mk = .ex c (backs Γ Γ0 own) := rfl
theorem p_eq {x y : D} (h : eqOk x y = true) : prF .eq [x, y] = some (.v (.bool (PyData.eqv x y))) := by show fEq x y = _; unfold fEq; rw [if_pos h]
theorem p_ne {x y : D} (h : eqOk x y = true) : prF .ne [x, y] = some (.v (.bool (!PyData.eqv x y))) := by show fNe x y = _; unfold fNe; rw [if_pos h]
theorem p_isi {ts : List Ty} {x : D} : prF (.isi ts) [x] = some (.v (.bool (ts.any (isTy x)))) := rfl
theorem p_lenT {xs : List D} : prF .len [.tuple xs] = some (.v (.int xs.length)) := rfl
theorem p_lenL {xs : List D} : prF .len [.list xs] = some (.v (.int xs.length)) := rfl
theorem p_int {i : Int} : prF .int [.int i] = some (.v (.int i)) := rfl
theorem p_intB {b : Bool} : prF .int [.bool b] = some (.v (.int (bI b))) := rfl
theorem p_abs {i : Int} : prF .abs [.int i] = some (.v (.int (if i < 0 then -i else i))) := rfl
theorem p_add {i j : Int} : prF .add [.int i, .int j] = some (.v (.int (i + j))) := rfl
theorem p_sub {i j : Int} : prF .sub [.int i, .int j] = some (.v (.int (i - j))) := rfl
theorem p_neg {i : Int} : prF .neg [.int i] = some (.v (.int (-i))) := rfl
theorem p_mul {i j : Int} (h : mulOk i j = true) : prF .mul [.int i, .int j] = some (.v (.int (i * j))) := by show fMul (.int i) (.int j) = _; simp only [fMul]; rw [if_pos h]
theorem p_mod {i j : Int} (h : 0 < j) : prF .mod [.int i, .int j] = some (.v (.int (i % j))) := by show fMod (.int i) (.int j) = _; simp only [fMod]; rw [if_pos h]
theorem p_fdiv {i j : Int} (h : 0 < j ∧ j < 1073741824) : prF .fdiv [.int i, .int j] = some (.v (.int (i / j))) := by show fFdiv (.int i) (.int j) = _; simp only [fFdiv]; rw [if_pos h]
theorem p_lt {i j : Int} : prF .lt [.int i, .int j] = some (.v (.bool (decide (i < j)))) := rfl
theorem p_gt {i j : Int} : prF .gt [.int i, .int j] = some (.v (.bool (decide (j < i)))) := rfl
theorem p_le {i j : Int} : prF .le [.int i, .int j] = some (.v (.bool (decide (i ≤ j)))) := rfl
theorem p_ge {i j : Int} : prF .ge [.int i, .int j] = some (.v (.bool (decide (j ≤ i)))) := rfl
theorem p_max {i j : Int} : prF .max2 [.int i, .int j] = some (.v (.int (if j > i then j else i))) := rfl
theorem p_min {i j : Int} : prF .min2 [.int i, .int j] = some (.v (.int (if j < i then j else i))) := rfl
theorem p_isN {x : D} : prF .isN [x] = some (.v (.bool (isNone x))) := rfl
theorem p_notN {x : D} : prF .notN [x] = some (.v (.bool (!isNone x))) := rfl
theorem p_tupL {xs : List D} : prF .tuple [.list xs] = some (.v (.tuple xs)) := rfl
theorem p_tupT {xs : List D} : prF .tuple [.tuple xs] = some (.v (.tuple xs)) := rfl
theorem p_lstL {xs : List D} : prF .list [.list xs] = some (.lst xs) := rfl
theorem p_lstT {xs : List D} : prF .list [.tuple xs] = some (.lst xs) := rfl
theorem p_idxT {xs : List D} {i : Int} {x : D} (h : atI xs i = some x) : prF .idx [.tuple xs, .int i] = some (.v x) := by show (atI xs i).map O.v = _; rw [h]; rfl
theorem p_idxL {xs : List D} {i : Int} {x : D} (h : atI xs i = some x) : prF .idx [.list xs, .int i] = some (.v x) := by show (atI xs i).map O.v = _; rw [h]; rfl
theorem p_all {xs : List D} {bs : List Bool} (h : bools xs = some bs) : prF .all [.list xs] = some (.v (.bool (bs.all id))) := by show (bools xs).map _ = _; rw [h]; rfl
theorem p_any {xs : List D} {bs : List Bool} (h : bools xs = some bs) : prF .any [.list xs] = some (.v (.bool (bs.any id))) := by show (bools xs).map _ = _; rw [h]; rfl
theorem p_sum {xs : List D} {bs : List Int} (h : intsD xs = some bs) : prF .sum [.list xs] = some (.v (.int bs.sum)) := by show (intsD xs).map _ = _; rw [h]; rfl
theorem p_addL {xs ys : List D} (h : xs.length + ys.length ≤ LIM) : prF .add [.list xs, .list ys] = some (.lst (xs ++ ys)) := by show fAdd (.list xs) (.list ys) = _; simp only [fAdd]; rw [if_pos h]
theorem p_addT {xs ys : List D} (h : xs.length + ys.length ≤ LIM) : prF .add [.tuple xs, .tuple ys] = some (.v (.tuple (xs ++ ys))) := by show fAdd (.tuple xs) (.tuple ys) = _; simp only [fAdd]; rw [if_pos h]
theorem p_addS {xs ys : List D} (h : xs.length + ys.length ≤ 1000) : prF .add [.list xs, .list ys] = some (.lst (xs ++ ys)) := p_addL (Nat.le_trans h (by simp [LIM, sizeLine]))
theorem p_addU {xs ys : List D} (h : xs.length + ys.length ≤ 1000) : prF .add [.tuple xs, .tuple ys] = some (.v (.tuple (xs ++ ys))) := p_addT (Nat.le_trans h (by simp [LIM, sizeLine]))
theorem ap_S {xs : List D} {d : D} (h : xs.length < 1000) : appO (.lst xs) d = some (.lst (xs ++ [d])) := if_pos (Nat.lt_trans h (by simp [LIM, sizeLine]))
theorem il_l {xs : List D} : isLst (.lst xs) = true := rfl
theorem io_i {i : Int} : intO (.int i) = some i := rfl
theorem p_rev {xs : List D} : prF .rev [.tuple xs] = some (.v (.tuple xs.reverse)) := rfl
theorem ft_ {ds : List D} (h : ds.length ≤ LIM) : fTup ds = some (.v (.tuple ds)) := if_pos h
theorem fl_ {ds : List D} (h : ds.length ≤ LIM) : fLst ds = some (.lst ds) := if_pos h
theorem ft0 : fTup [] = some (.v (.tuple [])) := ft_ (by simp [LIM, sizeLine])
theorem ft1 {a : D} : fTup [a] = some (.v (.tuple [a])) := ft_ (by simp [LIM, sizeLine])
theorem ft2 {a b : D} : fTup [a, b] = some (.v (.tuple [a, b])) := ft_ (by simp [LIM, sizeLine])
theorem ft3 {a b c : D} : fTup [a, b, c] = some (.v (.tuple [a, b, c])) := ft_ (by simp [LIM, sizeLine])
theorem ft4 {a b c d : D} : fTup [a, b, c, d] = some (.v (.tuple [a, b, c, d])) := ft_ (by simp [LIM, sizeLine])
theorem fl0 : fLst [] = some (.lst []) := fl_ (by simp [LIM, sizeLine])
theorem fl1 {a : D} : fLst [a] = some (.lst [a]) := fl_ (by simp [LIM, sizeLine])
theorem fl2 {a b : D} : fLst [a, b] = some (.lst [a, b]) := fl_ (by simp [LIM, sizeLine])
theorem fl3 {a b c : D} : fLst [a, b, c] = some (.lst [a, b, c]) := fl_ (by simp [LIM, sizeLine])
theorem fl4 {a b c d : D} : fLst [a, b, c, d] = some (.lst [a, b, c, d]) := fl_ (by simp [LIM, sizeLine])
theorem fl5 {a b c d e : D} : fLst [a, b, c, d, e] = some (.lst [a, b, c, d, e]) := fl_ (by simp [LIM, sizeLine])
theorem fl6 {a b c d e f : D} : fLst [a, b, c, d, e, f] = some (.lst [a, b, c, d, e, f]) := fl_ (by simp [LIM, sizeLine])
theorem fl7 {a b c d e f g : D} : fLst [a, b, c, d, e, f, g] = some (.lst [a, b, c, d, e, f, g]) := fl_ (by simp [LIM, sizeLine])
theorem fl8 {a b c d e f g h : D} : fLst [a, b, c, d, e, f, g, h] = some (.lst [a, b, c, d, e, f, g, h]) := fl_ (by simp [LIM, sizeLine])
theorem fl9 {a b c d e f g h i : D} : fLst [a, b, c, d, e, f, g, h, i] = some (.lst [a, b, c, d, e, f, g, h, i]) := fl_ (by simp [LIM, sizeLine])
theorem fl10 {a b c d e f g h i j : D} : fLst [a, b, c, d, e, f, g, h, i, j] = some (.lst [a, b, c, d, e, f, g, h, i, j]) := fl_ (by simp [LIM, sizeLine])
theorem fl11 {a b c d e f g h i j k : D} : fLst [a, b, c, d, e, f, g, h, i, j, k] = some (.lst [a, b, c, d, e, f, g, h, i, j, k]) := fl_ (by simp [LIM, sizeLine])
theorem sm0 : prF .sum [.list []] = some (.v (.int 0)) := rfl
theorem sm1 {i : Int} : prF .sum [.list [.int i]] = some (.v (.int i)) := by rw [p_sum (bs := [i]) rfl]; simp
theorem sm2 {i j : Int} : prF .sum [.list [.int i, .int j]] = some (.v (.int (i + j))) := by rw [p_sum (bs := [i, j]) rfl]; simp
theorem sl_L {xs : List D} {lo hi : Option Int} : f1 (fun d => fSlc d lo hi) [.list xs] = some (.lst (cutD xs lo hi)) := rfl
theorem sl_T {xs : List D} {lo hi : Option Int} (h : ¬ (HT.sIx xs.length 0 lo = 0 ∧ HT.sIx xs.length xs.length hi = xs.length)) : f1 (fun d => fSlc d lo hi) [.tuple xs] = some (.v (.tuple (cutD xs lo hi))) := by
  show fSlc (.tuple xs) lo hi = _
  simp only [fSlc]
  rw [if_neg h]
theorem bools_map {β : Type} (f : β → Bool) : ∀ xs : List β, bools (xs.map fun x => .bool (f x)) = some (xs.map f)
  | [] => rfl
  | x :: xs => by simp only [List.map_cons, bools, bools_map f xs, Option.map_some]
theorem ints_map {β : Type} (f : β → Int) : ∀ xs : List β, intsD (xs.map fun x => .int (f x)) = some (xs.map f)
  | [] => rfl
  | x :: xs => by simp only [List.map_cons, intsD, ints_map f xs, Option.map_some]
end
theorem ixN_nat {n k : Nat} (h : k < n) : ixN n (k : Int) = some k := by
  unfold ixN
  rw [if_pos (Int.natCast_nonneg k), if_pos (by omega)]
  rfl
theorem atI_nat {α : Type} {xs : List α} {k : Nat} {x : α} (h : xs[k]? = some x) : atI xs (k : Int) = some x := by
  unfold atI
  rw [ixN_nat (by rcases Nat.lt_or_ge k xs.length with q | q; exact q; rw [List.getElem?_eq_none q] at h; cases h)]
  exact h
theorem ix0L {a : D} {r : List D} : prF .idx [.list (a :: r), .int 0] = some (.v a) := p_idxL (atI_nat (k := 0) rfl)
theorem ix0T {a : D} {r : List D} : prF .idx [.tuple (a :: r), .int 0] = some (.v a) := p_idxT (atI_nat (k := 0) rfl)
theorem ix1L {a b : D} {r : List D} : prF .idx [.list (a :: b :: r), .int 1] = some (.v b) := p_idxL (atI_nat (k := 1) rfl)
theorem ix1T {a b : D} {r : List D} : prF .idx [.tuple (a :: b :: r), .int 1] = some (.v b) := p_idxT (atI_nat (k := 1) rfl)
theorem ix2L {a b c : D} {r : List D} : prF .idx [.list (a :: b :: c :: r), .int 2] = some (.v c) := p_idxL (atI_nat (k := 2) rfl)
theorem ix2T {a b c : D} {r : List D} : prF .idx [.tuple (a :: b :: c :: r), .int 2] = some (.v c) := p_idxT (atI_nat (k := 2) rfl)
theorem pu0 {a d : D} {r : List D} : putO (.lst (a :: r)) (.int 0) d = some (.lst (d :: r)) := by
  show (putL _ (0 : Nat) d).map O.lst = _
  unfold putL
  rw [ixN_nat (by simp)]
  rfl
theorem pu1 {a b d : D} {r : List D} : putO (.lst (a :: b :: r)) (.int 1) d = some (.lst (a :: d :: r)) := by
  show (putL _ (1 : Nat) d).map O.lst = _
  unfold putL
  rw [ixN_nat (by simp)]
  rfl
theorem pu2 {a b c d : D} {r : List D} : putO (.lst (a :: b :: c :: r)) (.int 2) d = some (.lst (a :: b :: d :: r)) := by
  show (putL _ (2 : Nat) d).map O.lst = _
  unfold putL
  rw [ixN_nat (by simp)]
  rfl
theorem eqok_l {a b : D} (h : dp a ≤ 60) : eqOk a b = true := decide_eq_true (Nat.le_trans (Nat.min_le_left _ _) h)
theorem eqok_r {a b : D} (h : dp b ≤ 60) : eqOk a b = true := decide_eq_true (Nat.le_trans (Nat.min_le_right _ _) h)
theorem p_eqI {i j : Int} : prF .eq [.int i, .int j] = some (.v (.bool (i == j))) := by rw [p_eq (by rfl)]; simp only [PyData.eqv]
theorem p_neI {i j : Int} : prF .ne [.int i, .int j] = some (.v (.bool (!(i == j)))) := by rw [p_ne (by rfl)]; simp only [PyData.eqv]
theorem p_eqB {i j : Bool} : prF .eq [.bool i, .bool j] = some (.v (.bool (i == j))) := by rw [p_eq (by rfl)]; simp only [PyData.eqv]
theorem p_neB {i j : Bool} : prF .ne [.bool i, .bool j] = some (.v (.bool (!(i == j)))) := by rw [p_ne (by rfl)]; simp only [PyData.eqv]
theorem p_eqS {i j : Str} : prF .eq [.str i, .str j] = some (.v (.bool (i == j))) := by rw [p_eq (by rfl)]; simp only [PyData.eqv]
theorem p_neS {i j : Str} : prF .ne [.str i, .str j] = some (.v (.bool (!(i == j)))) := by rw [p_ne (by rfl)]; simp only [PyData.eqv]
theorem lcL_map {β : Type} {f : D → Env → R (List D × Env)} {P : Env → Prop} {enc : β → D} {g : β → List D} : ∀ {xs : List β} {Γ : Env}, (∀ d ∈ xs, ∀ Γ, P Γ → ∃ Γ', f (enc d) Γ = .ok (g d, Γ') ∧ P Γ') → P Γ → ∃ Γ', lcL f (xs.map enc) Γ = .ok ((xs.map g).flatten, Γ') ∧ P Γ'
  | [], Γ, _, p => ⟨Γ, rfl, p⟩
  | d :: r, Γ, h, p => by
    obtain ⟨Γ1, e1, p1⟩ := h d List.mem_cons_self Γ p
    obtain ⟨Γ2, e2, p2⟩ := lcL_map (xs := r) (fun x hx => h x (List.mem_cons_of_mem _ hx)) p1
    refine ⟨Γ2, ?_, p2⟩
    simp only [lcL, List.map_cons, e1, R.bind, e2, List.flatten_cons]
/-- a comprehension, as one step -/
theorem lc_rw {β : Type} {f : D → Env → R (List D × Env)} {enc : β → D} {xs : List β} {own : List Nat} {Γ0 : Env} {mk : List D → O} (P : Env → Prop) (g : β → List D) (Γ1 : Env)
    (h : ∀ d ∈ xs, ∀ Γ, P Γ → ∃ Γ', f (enc d) Γ = .ok (g d, Γ') ∧ P Γ') (p : P (holes Γ0 own)) (hb : ∀ Γ', P Γ' → backs Γ' Γ0 own = Γ1) :
    (lcL f (xs.map enc) (holes Γ0 own)).fin own Γ0 mk = .ok (mk (xs.map g).flatten, Γ1) := by
  obtain ⟨Γ', e, p'⟩ := lcL_map (f := f) h p
  rw [e, fin_ok, hb Γ' p']
theorem lc_rwD {f : D → Env → R (List D × Env)} {xs : List D} {own : List Nat} {Γ0 : Env} {mk : List D → O} (P : Env → Prop) (g : D → List D) (Γ1 : Env)
    (h : ∀ d ∈ xs, ∀ Γ, P Γ → ∃ Γ', f d Γ = .ok (g d, Γ') ∧ P Γ') (p : P (holes Γ0 own)) (hb : ∀ Γ', P Γ' → backs Γ' Γ0 own = Γ1) :
    (lcL f xs (holes Γ0 own)).fin own Γ0 mk = .ok (mk (xs.map g).flatten, Γ1) := by
  obtain ⟨Γ', e, p'⟩ := lcL_map (f := f) (enc := id) (xs := xs) h p
  rw [List.map_id] at e
  rw [e, fin_ok, hb Γ' p']
theorem lcL_exc {β : Type} {c : Exc} {f : D → Env → R (List D × Env)} {P : Env → Prop} {enc : β → D} {g : β → List D} {q : β → Bool} : ∀ {xs : List β} {Γ : Env},
    (∀ d ∈ xs, ∀ Γ, P Γ → (q d = false → ∃ Γ', f (enc d) Γ = .ok (g d, Γ') ∧ P Γ') ∧ (q d = true → ∃ Γ', f (enc d) Γ = .ex c Γ')) → P Γ → xs.any q = true → ∃ Γ', lcL f (xs.map enc) Γ = .ex c Γ'
  | [], Γ, _, _, h => by cases h
  | d :: r, Γ, h, p, hq => by
    cases e : q d with
    | true =>
      obtain ⟨Γ1, e1⟩ := (h d List.mem_cons_self Γ p).2 e
      exact ⟨Γ1, by simp only [lcL, List.map_cons, e1, R.bind]⟩
    | false =>
      obtain ⟨Γ1, e1, p1⟩ := (h d List.mem_cons_self Γ p).1 e
      rw [List.any_cons, e, Bool.false_or] at hq
      obtain ⟨Γ2, e2⟩ := lcL_exc (xs := r) (fun x hx => h x (List.mem_cons_of_mem _ hx)) p1 hq
      exact ⟨Γ2, by simp only [lcL, List.map_cons, e1, R.bind, e2]⟩
def lcEnv (f : D → Env → R (List D × Env)) (xs : List D) (Γ : Env) : Env := match lcL f xs Γ with
  | .ex _ Γ' => Γ'
  | _ => Γ
theorem lc_exw {β : Type} {f : D → Env → R (List D × Env)} {enc : β → D} {xs : List β} {own : List Nat} {Γ0 : Env} {mk : List D → O} (P : Env → Prop) (g : β → List D) (q : β → Bool) (c : Exc)
    (h : ∀ d ∈ xs, ∀ Γ, P Γ → (q d = false → ∃ Γ', f (enc d) Γ = .ok (g d, Γ') ∧ P Γ') ∧ (q d = true → ∃ Γ', f (enc d) Γ = .ex c Γ')) (p : P (holes Γ0 own)) (hq : xs.any q = true) :
    (lcL f (xs.map enc) (holes Γ0 own)).fin own Γ0 mk = .ex c (backs (lcEnv f (xs.map enc) (holes Γ0 own)) Γ0 own) := by
  obtain ⟨Γ', e⟩ := lcL_exc (f := f) h p hq
  unfold lcEnv
  rw [e, fin_ex]
theorem outsA_nil : ∀ (k n : Nat) (Γ : Env), outsA [] k n Γ = List.replicate n .hole
  | _, 0, _ => rfl
  | k, n + 1, [] => by rw [outsA, outsA_nil, List.replicate_succ]
  | k, n + 1, o :: Γ => by rw [outsA, outsA_nil, List.replicate_succ, if_neg (by simp)]
theorem outs_nil {n : Nat} {Γ : Env} : outs [] n Γ = List.replicate n .hole := outsA_nil 0 n Γ
theorem ca_rt {m : Str → Str → Option Bool} {o : O} {Γ : Env} {c : Exc} {h : Env → Out} : (Out.rt o Γ).catch m c h = .rt o Γ := rfl
theorem ca_nx {m : Str → Str → Option Bool} {Γ : Env} {c : Exc} {h : Env → Out} : (Out.nx Γ).catch m c h = .nx Γ := rfl
theorem ca_ex {m : Str → Str → Option Bool} {Γ : Env} {c c' : Exc} {h : Env → Out} (e : m c' c = some true) : (Out.ex c' Γ).catch m c h = h Γ := by simp only [Out.catch, e]
theorem flat1 {β : Type} (v : β → D) (xs : List β) : (xs.map fun x => [v x]).flatten = xs.map v := by induction xs with
  | nil => rfl
  | cons x xs ih => simp only [List.map_cons, List.flatten_cons, ih]; rfl
theorem flat_if {β : Type} (q : β → Bool) (v : β → D) (xs : List β) : (xs.map fun x => if q x then [v x] else []).flatten = (xs.filter q).map v := by induction xs with
  | nil => rfl
  | cons x xs ih =>
    cases h : q x <;> simp only [List.map_cons, List.flatten_cons, ih, h, List.filter_cons, if_true, if_false, Bool.false_eq_true] <;> rfl
theorem forL_ok {f : D → Env → Out} {P : Nat → Env → Prop} : ∀ {xs : List D} {k : Nat} {Γ : Env}, (∀ d ∈ xs, ∀ k Γ, P k Γ → ∃ Γ', f d Γ = .nx Γ' ∧ P (k + 1) Γ') → P k Γ → ∃ Γ', forL f xs Γ = .nx Γ' ∧ P (k + xs.length) Γ'
  | [], k, Γ, _, p => ⟨Γ, rfl, p⟩
  | d :: r, k, Γ, h, p => by
    obtain ⟨Γ1, e1, p1⟩ := h d List.mem_cons_self k Γ p
    obtain ⟨Γ2, e2, p2⟩ := forL_ok (xs := r) (fun x hx => h x (List.mem_cons_of_mem _ hx)) p1
    refine ⟨Γ2, ?_, ?_⟩
    · simp only [forL, e1, e2]
    · rw [List.length_cons, show k + (r.length + 1) = k + 1 + r.length by omega]; exact p2
theorem forL_to {f : D → Env → Out} {P : Nat → Env → Prop} {Q : Out → Prop} {xs : List D} {k : Nat} {Γ : Env} (h : ∀ d ∈ xs, ∀ k Γ, P k Γ → ∃ Γ', f d Γ = .nx Γ' ∧ P (k + 1) Γ') (p : P k Γ) (q : ∀ Γ', P (k + xs.length) Γ' → Q (.nx Γ')) : Q (forL f xs Γ) := by
  obtain ⟨Γ', e, p'⟩ := forL_ok h p
  rw [e]
  exact q Γ' p'
theorem forL_okB {f : D → Env → Out} {P : Nat → Env → Prop} {B : Nat} : ∀ {xs : List D} {k : Nat} {Γ : Env}, k + xs.length ≤ B → (∀ d ∈ xs, ∀ k Γ, k < B → P k Γ → ∃ Γ', f d Γ = .nx Γ' ∧ P (k + 1) Γ') → P k Γ → ∃ Γ', forL f xs Γ = .nx Γ' ∧ P (k + xs.length) Γ'
  | [], k, Γ, _, _, p => ⟨Γ, rfl, p⟩
  | d :: r, k, Γ, hB, h, p => by
    rw [List.length_cons] at hB
    obtain ⟨Γ1, e1, p1⟩ := h d List.mem_cons_self k Γ (by omega) p
    obtain ⟨Γ2, e2, p2⟩ := forL_okB (xs := r) (by omega) (fun x hx => h x (List.mem_cons_of_mem _ hx)) p1
    refine ⟨Γ2, ?_, ?_⟩
    · simp only [forL, e1, e2]
    · rw [List.length_cons, show k + (r.length + 1) = k + 1 + r.length by omega]; exact p2
end Z
end
section
set_option Elab.async false
set_option linter.all false
set_option maxRecDepth 100000
namespace K03
open Z PySem
theorem c0 (n : Nat) (d : D) : callN pg (n + 1) 0 [.v d] = .ok (.v (.bool (isTy d .int && !isTy d .bool))) [.hole] := by
  rw [callN_of [.v d] b0 [] 1 (d := f0) rfl]
  unfold b0
  cases d <;> simp only [evSs_cons, evSs_nil, evS, ev, evB, evF, evA, evP, evM, evI, evO, rb_ok, rb_ex, ro_ok, ro_ex, rn_ok, op_so, td_v, td_l, td_ex, ts_b, ts_l, ts_t, ts_i, Z.pk_nil, pk_v, pk_l, pk_i, ih_v, ih_l, ih_d, fz_v, fz_l, sq_nx, sq_rt, sq_ex, rs_rt, rs_nx, rs_ex, of_so, st_def, st_tup, st_lst, cb_ok, cb_ex, fin_ok, fin_ex, p_isi, p_lenT, p_lenL, p_int, p_intB, p_abs, p_add, p_sub, p_neg, p_lt, p_gt, p_le, p_ge, p_max, p_min, p_isN, p_notN, p_tupL, p_tupT, p_lstL, p_lstT, p_rev, ix0L, ix0T, ix1L, ix1T, ix2L, ix2T, pu0, pu1, pu2, ft0, ft1, ft2, ft3, ft4, fl0, fl1, fl2, fl3, fl4, fl5, fl6, fl7, fl8, fl9, fl10, fl11, ca_rt, ca_nx, io_i, ap_S, il_l, p_addS, p_addU, Nat.reduceLeDiff, sl_L, Int.natCast_zero, Int.natCast_one, Int.cast_ofNat_Int, sm0, sm1, sm2, p_eqI, p_neI, p_eqB, p_neB, p_eqS, p_neS, Option.map_some, Option.bind_some, slot, setS, setTs, isOw, Z.fill, unfill, owV, outs, outsA, List.getD_cons_zero, List.getD_cons_succ, List.set_cons_zero, List.set_cons_succ, List.length_cons, List.length_nil, List.any_cons, List.any_nil, List.append_nil, List.nil_append, List.cons_append, List.map_cons, List.map_nil, isTy, Bool.or_false, Bool.or_true, Bool.false_or, Bool.true_or, Bool.not_true, Bool.not_false, Bool.true_and, Bool.false_and, Bool.and_true, Bool.and_false, if_true, if_false, Bool.false_eq_true, reduceIte, List.not_mem_nil, List.mem_cons, or_false, false_or, not_false_eq_true, not_true_eq_false, and_true, and_false, and_self, true_and, Nat.reduceLT, Nat.reduceAdd, Nat.zero_add, Nat.lt_add_one, Nat.reduceEqDiff, Nat.lt_add_left_iff_pos, Nat.zero_lt_succ, Nat.zero_lt_one, Nat.succ_ne_self, reduceCtorEq, Nat.zero_ne_one, Nat.one_ne_zero, decide_true, decide_false, beq_self_eq_true, Int.reduceBEq, Int.reduceLT, Int.reduceLE, Int.reduceAdd, Int.reduceSub, Int.reduceNeg]
theorem c3 (n : Nat) (ds : List D) (i : Int) : callN pg (n + 1) 3 [.v (.tuple ds), .v (.int i)] = .ok (.v (.bool ((ds.length : Int) == i))) [.hole, .hole] := by
  rw [callN_of [.v (.tuple ds), .v (.int i)] b3 [] 2 (d := f3) rfl]
  unfold b3
  simp only [evSs_cons, evSs_nil, evS, ev, evB, evF, evA, evP, evM, evI, evO, rb_ok, rb_ex, ro_ok, ro_ex, rn_ok, op_so, td_v, td_l, td_ex, ts_b, ts_l, ts_t, ts_i, Z.pk_nil, pk_v, pk_l, pk_i, ih_v, ih_l, ih_d, fz_v, fz_l, sq_nx, sq_rt, sq_ex, rs_rt, rs_nx, rs_ex, of_so, st_def, st_tup, st_lst, cb_ok, cb_ex, fin_ok, fin_ex, p_isi, p_lenT, p_lenL, p_int, p_intB, p_abs, p_add, p_sub, p_neg, p_lt, p_gt, p_le, p_ge, p_max, p_min, p_isN, p_notN, p_tupL, p_tupT, p_lstL, p_lstT, p_rev, ix0L, ix0T, ix1L, ix1T, ix2L, ix2T, pu0, pu1, pu2, ft0, ft1, ft2, ft3, ft4, fl0, fl1, fl2, fl3, fl4, fl5, fl6, fl7, fl8, fl9, fl10, fl11, ca_rt, ca_nx, io_i, ap_S, il_l, p_addS, p_addU, Nat.reduceLeDiff, sl_L, Int.natCast_zero, Int.natCast_one, Int.cast_ofNat_Int, sm0, sm1, sm2, p_eqI, p_neI, p_eqB, p_neB, p_eqS, p_neS, Option.map_some, Option.bind_some, slot, setS, setTs, isOw, Z.fill, unfill, owV, outs, outsA, List.getD_cons_zero, List.getD_cons_succ, List.set_cons_zero, List.set_cons_succ, List.length_cons, List.length_nil, List.any_cons, List.any_nil, List.append_nil, List.nil_append, List.cons_append, List.map_cons, List.map_nil, isTy, Bool.or_false, Bool.or_true, Bool.false_or, Bool.true_or, Bool.not_true, Bool.not_false, Bool.true_and, Bool.false_and, Bool.and_true, Bool.and_false, if_true, if_false, Bool.false_eq_true, reduceIte, List.not_mem_nil, List.mem_cons, or_false, false_or, not_false_eq_true, not_true_eq_false, and_true, and_false, and_self, true_and, Nat.reduceLT, Nat.reduceAdd, Nat.zero_add, Nat.lt_add_one, Nat.reduceEqDiff, Nat.lt_add_left_iff_pos, Nat.zero_lt_succ, Nat.zero_lt_one, Nat.succ_ne_self, reduceCtorEq, Nat.zero_ne_one, Nat.one_ne_zero, decide_true, decide_false, beq_self_eq_true, Int.reduceBEq, Int.reduceLT, Int.reduceLE, Int.reduceAdd, Int.reduceSub, Int.reduceNeg]
theorem c3_2 (n : Nat) (ds : List D) : callN pg (n + 1) 3 [.v (.tuple ds), .v (.int 2)] = .ok (.v (.bool (decide (ds.length = 2)))) [.hole, .hole] := by
  rw [c3, show ((ds.length : Int) == 2) = decide (ds.length = 2) from decide_eq_decide.mpr (by omega)]
theorem c3_3 (n : Nat) (ds : List D) : callN pg (n + 1) 3 [.v (.tuple ds), .v (.int 3)] = .ok (.v (.bool (decide (ds.length = 3)))) [.hole, .hole] := by
  rw [c3, show ((ds.length : Int) == 3) = decide (ds.length = 3) from decide_eq_decide.mpr (by omega)]
theorem g_pair : pg.glob "PAIR" = some (.int 2) := by kernel_rfl
theorem g_triple : pg.glob "TRIPLE" = some (.int 3) := by kernel_rfl
theorem c3n (n : Nat) (d : D) (i : Int) (h : isTy d .tuple = false) : callN pg (n + 1) 3 [.v d, .v (.int i)] = .ok (.v (.bool false)) [.hole, .hole] := by
  rw [callN_of [.v d, .v (.int i)] b3 [] 2 (d := f3) rfl]
  unfold b3
  cases d <;> first | (cases h; done) | simp only [evSs_cons, evSs_nil, evS, ev, evB, evF, evA, evP, evM, evI, evO, rb_ok, rb_ex, ro_ok, ro_ex, rn_ok, op_so, td_v, td_l, td_ex, ts_b, ts_l, ts_t, ts_i, Z.pk_nil, pk_v, pk_l, pk_i, ih_v, ih_l, ih_d, fz_v, fz_l, sq_nx, sq_rt, sq_ex, rs_rt, rs_nx, rs_ex, of_so, st_def, st_tup, st_lst, cb_ok, cb_ex, fin_ok, fin_ex, p_isi, p_lenT, p_lenL, p_int, p_intB, p_abs, p_add, p_sub, p_neg, p_lt, p_gt, p_le, p_ge, p_max, p_min, p_isN, p_notN, p_tupL, p_tupT, p_lstL, p_lstT, p_rev, ix0L, ix0T, ix1L, ix1T, ix2L, ix2T, pu0, pu1, pu2, ft0, ft1, ft2, ft3, ft4, fl0, fl1, fl2, fl3, fl4, fl5, fl6, fl7, fl8, fl9, fl10, fl11, ca_rt, ca_nx, io_i, ap_S, il_l, p_addS, p_addU, Nat.reduceLeDiff, sl_L, Int.natCast_zero, Int.natCast_one, Int.cast_ofNat_Int, sm0, sm1, sm2, p_eqI, p_neI, p_eqB, p_neB, p_eqS, p_neS, Option.map_some, Option.bind_some, slot, setS, setTs, isOw, Z.fill, unfill, owV, outs, outsA, List.getD_cons_zero, List.getD_cons_succ, List.set_cons_zero, List.set_cons_succ, List.length_cons, List.length_nil, List.any_cons, List.any_nil, List.append_nil, List.nil_append, List.cons_append, List.map_cons, List.map_nil, isTy, Bool.or_false, Bool.or_true, Bool.false_or, Bool.true_or, Bool.not_true, Bool.not_false, Bool.true_and, Bool.false_and, Bool.and_true, Bool.and_false, if_true, if_false, Bool.false_eq_true, reduceIte, List.not_mem_nil, List.mem_cons, or_false, false_or, not_false_eq_true, not_true_eq_false, and_true, and_false, and_self, true_and, Nat.reduceLT, Nat.reduceAdd, Nat.zero_add, Nat.lt_add_one, Nat.reduceEqDiff, Nat.lt_add_left_iff_pos, Nat.zero_lt_succ, Nat.zero_lt_one, Nat.succ_ne_self, reduceCtorEq, Nat.zero_ne_one, Nat.one_ne_zero, decide_true, decide_false, beq_self_eq_true, Int.reduceBEq, Int.reduceLT, Int.reduceLE, Int.reduceAdd, Int.reduceSub, Int.reduceNeg]
mutual
def tupD : D → D
  | .list xs | .tuple xs => .tuple (tupDs xs)
  | d => d
def tupDs : List D → List D
  | [] => []
  | d :: r => tupD d :: tupDs r
end
theorem tupDs_map : ∀ xs : List D, tupDs xs = xs.map tupD
  | [] => rfl
  | x :: xs => by simp only [tupDs, List.map_cons, tupDs_map xs]
theorem c6 : ∀ (n : Nat) (d : D), dp d < n → callN pg n 6 [.v d] = .ok (.v (tupD d)) [.hole]
  | 0, _, h => absurd h (Nat.not_lt_zero _)
  | n + 1, d, h => by
    rw [callN_of [.v d, .hole] b6 [] 1 (d := f6) rfl]
    unfold b6
    have ih : ∀ x, dp x < n → callN pg n 6 [.v x] = .ok (.v (tupD x)) [.hole] := c6 n
    cases d with
    | list xs =>
      have hx : ∀ x ∈ xs, dp x < n := fun x hx => by have := dp_le hx; unfold dp at h; omega
      simp only [evSs_cons, evSs_nil, evS, ev, evB, evF, evA, evP, evM, evI, evO, rb_ok, rb_ex, ro_ok, ro_ex, rn_ok, op_so, td_v, td_l, td_ex, ts_b, ts_l, ts_t, ts_i, Z.pk_nil, pk_v, pk_l, pk_i, ih_v, ih_l, ih_d, fz_v, fz_l, sq_nx, sq_rt, sq_ex, rs_rt, rs_nx, rs_ex, of_so, st_def, st_tup, st_lst, cb_ok, cb_ex, fin_ok, fin_ex, p_isi, p_lenT, p_lenL, p_int, p_intB, p_abs, p_add, p_sub, p_neg, p_lt, p_gt, p_le, p_ge, p_max, p_min, p_isN, p_notN, p_tupL, p_tupT, p_lstL, p_lstT, p_rev, ix0L, ix0T, ix1L, ix1T, ix2L, ix2T, pu0, pu1, pu2, ft0, ft1, ft2, ft3, ft4, fl0, fl1, fl2, fl3, fl4, fl5, fl6, fl7, fl8, fl9, fl10, fl11, ca_rt, ca_nx, io_i, ap_S, il_l, p_addS, p_addU, Nat.reduceLeDiff, sl_L, Int.natCast_zero, Int.natCast_one, Int.cast_ofNat_Int, sm0, sm1, sm2, p_eqI, p_neI, p_eqB, p_neB, p_eqS, p_neS, Option.map_some, Option.bind_some, slot, setS, setTs, isOw, Z.fill, unfill, owV, outs, outsA, List.getD_cons_zero, List.getD_cons_succ, List.set_cons_zero, List.set_cons_succ, List.length_cons, List.length_nil, List.any_cons, List.any_nil, List.append_nil, List.nil_append, List.cons_append, List.map_cons, List.map_nil, isTy, Bool.or_false, Bool.or_true, Bool.false_or, Bool.true_or, Bool.not_true, Bool.not_false, Bool.true_and, Bool.false_and, Bool.and_true, Bool.and_false, if_true, if_false, Bool.false_eq_true, reduceIte, List.not_mem_nil, List.mem_cons, or_false, false_or, not_false_eq_true, not_true_eq_false, and_true, and_false, and_self, true_and, Nat.reduceLT, Nat.reduceAdd, Nat.zero_add, Nat.lt_add_one, Nat.reduceEqDiff, Nat.lt_add_left_iff_pos, Nat.zero_lt_succ, Nat.zero_lt_one, Nat.succ_ne_self, reduceCtorEq, Nat.zero_ne_one, Nat.one_ne_zero, decide_true, decide_false, beq_self_eq_true, Int.reduceBEq, Int.reduceLT, Int.reduceLE, Int.reduceAdd, Int.reduceSub, Int.reduceNeg, walkD]
      rw [lc_rwD (fun Γ => ∃ o, Γ = [.v (.list xs), o]) (fun d => [tupD d]) [.v (.list xs), .hole] ?_ ⟨_, rfl⟩ (by rintro _ ⟨o, rfl⟩; rfl)]
      · simp only [evSs_cons, evSs_nil, evS, ev, evB, evF, evA, evP, evM, evI, evO, rb_ok, rb_ex, ro_ok, ro_ex, rn_ok, op_so, td_v, td_l, td_ex, ts_b, ts_l, ts_t, ts_i, Z.pk_nil, pk_v, pk_l, pk_i, ih_v, ih_l, ih_d, fz_v, fz_l, sq_nx, sq_rt, sq_ex, rs_rt, rs_nx, rs_ex, of_so, st_def, st_tup, st_lst, cb_ok, cb_ex, fin_ok, fin_ex, p_isi, p_lenT, p_lenL, p_int, p_intB, p_abs, p_add, p_sub, p_neg, p_lt, p_gt, p_le, p_ge, p_max, p_min, p_isN, p_notN, p_tupL, p_tupT, p_lstL, p_lstT, p_rev, ix0L, ix0T, ix1L, ix1T, ix2L, ix2T, pu0, pu1, pu2, ft0, ft1, ft2, ft3, ft4, fl0, fl1, fl2, fl3, fl4, fl5, fl6, fl7, fl8, fl9, fl10, fl11, ca_rt, ca_nx, io_i, ap_S, il_l, p_addS, p_addU, Nat.reduceLeDiff, sl_L, Int.natCast_zero, Int.natCast_one, Int.cast_ofNat_Int, sm0, sm1, sm2, p_eqI, p_neI, p_eqB, p_neB, p_eqS, p_neS, Option.map_some, Option.bind_some, slot, setS, setTs, isOw, Z.fill, unfill, owV, outs, outsA, List.getD_cons_zero, List.getD_cons_succ, List.set_cons_zero, List.set_cons_succ, List.length_cons, List.length_nil, List.any_cons, List.any_nil, List.append_nil, List.nil_append, List.cons_append, List.map_cons, List.map_nil, isTy, Bool.or_false, Bool.or_true, Bool.false_or, Bool.true_or, Bool.not_true, Bool.not_false, Bool.true_and, Bool.false_and, Bool.and_true, Bool.and_false, if_true, if_false, Bool.false_eq_true, reduceIte, List.not_mem_nil, List.mem_cons, or_false, false_or, not_false_eq_true, not_true_eq_false, and_true, and_false, and_self, true_and, Nat.reduceLT, Nat.reduceAdd, Nat.zero_add, Nat.lt_add_one, Nat.reduceEqDiff, Nat.lt_add_left_iff_pos, Nat.zero_lt_succ, Nat.zero_lt_one, Nat.succ_ne_self, reduceCtorEq, Nat.zero_ne_one, Nat.one_ne_zero, decide_true, decide_false, beq_self_eq_true, Int.reduceBEq, Int.reduceLT, Int.reduceLE, Int.reduceAdd, Int.reduceSub, Int.reduceNeg, flat1, tupD, tupDs_map]
      · rintro x hm _ ⟨o, rfl⟩
        refine ⟨[.v (.list xs), .v x], ?_, _, rfl⟩
        simp only [evSs_cons, evSs_nil, evS, ev, evB, evF, evA, evP, evM, evI, evO, rb_ok, rb_ex, ro_ok, ro_ex, rn_ok, op_so, td_v, td_l, td_ex, ts_b, ts_l, ts_t, ts_i, Z.pk_nil, pk_v, pk_l, pk_i, ih_v, ih_l, ih_d, fz_v, fz_l, sq_nx, sq_rt, sq_ex, rs_rt, rs_nx, rs_ex, of_so, st_def, st_tup, st_lst, cb_ok, cb_ex, fin_ok, fin_ex, p_isi, p_lenT, p_lenL, p_int, p_intB, p_abs, p_add, p_sub, p_neg, p_lt, p_gt, p_le, p_ge, p_max, p_min, p_isN, p_notN, p_tupL, p_tupT, p_lstL, p_lstT, p_rev, ix0L, ix0T, ix1L, ix1T, ix2L, ix2T, pu0, pu1, pu2, ft0, ft1, ft2, ft3, ft4, fl0, fl1, fl2, fl3, fl4, fl5, fl6, fl7, fl8, fl9, fl10, fl11, ca_rt, ca_nx, io_i, ap_S, il_l, p_addS, p_addU, Nat.reduceLeDiff, sl_L, Int.natCast_zero, Int.natCast_one, Int.cast_ofNat_Int, sm0, sm1, sm2, p_eqI, p_neI, p_eqB, p_neB, p_eqS, p_neS, Option.map_some, Option.bind_some, slot, setS, setTs, isOw, Z.fill, unfill, owV, outs, outsA, List.getD_cons_zero, List.getD_cons_succ, List.set_cons_zero, List.set_cons_succ, List.length_cons, List.length_nil, List.any_cons, List.any_nil, List.append_nil, List.nil_append, List.cons_append, List.map_cons, List.map_nil, isTy, Bool.or_false, Bool.or_true, Bool.false_or, Bool.true_or, Bool.not_true, Bool.not_false, Bool.true_and, Bool.false_and, Bool.and_true, Bool.and_false, if_true, if_false, Bool.false_eq_true, reduceIte, List.not_mem_nil, List.mem_cons, or_false, false_or, not_false_eq_true, not_true_eq_false, and_true, and_false, and_self, true_and, Nat.reduceLT, Nat.reduceAdd, Nat.zero_add, Nat.lt_add_one, Nat.reduceEqDiff, Nat.lt_add_left_iff_pos, Nat.zero_lt_succ, Nat.zero_lt_one, Nat.succ_ne_self, reduceCtorEq, Nat.zero_ne_one, Nat.one_ne_zero, decide_true, decide_false, beq_self_eq_true, Int.reduceBEq, Int.reduceLT, Int.reduceLE, Int.reduceAdd, Int.reduceSub, Int.reduceNeg, holes, ih x (hx x hm)]
    | tuple xs =>
      have hx : ∀ x ∈ xs, dp x < n := fun x hx => by have := dp_le hx; unfold dp at h; omega
      simp only [evSs_cons, evSs_nil, evS, ev, evB, evF, evA, evP, evM, evI, evO, rb_ok, rb_ex, ro_ok, ro_ex, rn_ok, op_so, td_v, td_l, td_ex, ts_b, ts_l, ts_t, ts_i, Z.pk_nil, pk_v, pk_l, pk_i, ih_v, ih_l, ih_d, fz_v, fz_l, sq_nx, sq_rt, sq_ex, rs_rt, rs_nx, rs_ex, of_so, st_def, st_tup, st_lst, cb_ok, cb_ex, fin_ok, fin_ex, p_isi, p_lenT, p_lenL, p_int, p_intB, p_abs, p_add, p_sub, p_neg, p_lt, p_gt, p_le, p_ge, p_max, p_min, p_isN, p_notN, p_tupL, p_tupT, p_lstL, p_lstT, p_rev, ix0L, ix0T, ix1L, ix1T, ix2L, ix2T, pu0, pu1, pu2, ft0, ft1, ft2, ft3, ft4, fl0, fl1, fl2, fl3, fl4, fl5, fl6, fl7, fl8, fl9, fl10, fl11, ca_rt, ca_nx, io_i, ap_S, il_l, p_addS, p_addU, Nat.reduceLeDiff, sl_L, Int.natCast_zero, Int.natCast_one, Int.cast_ofNat_Int, sm0, sm1, sm2, p_eqI, p_neI, p_eqB, p_neB, p_eqS, p_neS, Option.map_some, Option.bind_some, slot, setS, setTs, isOw, Z.fill, unfill, owV, outs, outsA, List.getD_cons_zero, List.getD_cons_succ, List.set_cons_zero, List.set_cons_succ, List.length_cons, List.length_nil, List.any_cons, List.any_nil, List.append_nil, List.nil_append, List.cons_append, List.map_cons, List.map_nil, isTy, Bool.or_false, Bool.or_true, Bool.false_or, Bool.true_or, Bool.not_true, Bool.not_false, Bool.true_and, Bool.false_and, Bool.and_true, Bool.and_false, if_true, if_false, Bool.false_eq_true, reduceIte, List.not_mem_nil, List.mem_cons, or_false, false_or, not_false_eq_true, not_true_eq_false, and_true, and_false, and_self, true_and, Nat.reduceLT, Nat.reduceAdd, Nat.zero_add, Nat.lt_add_one, Nat.reduceEqDiff, Nat.lt_add_left_iff_pos, Nat.zero_lt_succ, Nat.zero_lt_one, Nat.succ_ne_self, reduceCtorEq, Nat.zero_ne_one, Nat.one_ne_zero, decide_true, decide_false, beq_self_eq_true, Int.reduceBEq, Int.reduceLT, Int.reduceLE, Int.reduceAdd, Int.reduceSub, Int.reduceNeg, walkD]
      rw [lc_rwD (fun Γ => ∃ o, Γ = [.v (.tuple xs), o]) (fun d => [tupD d]) [.v (.tuple xs), .hole] ?_ ⟨_, rfl⟩ (by rintro _ ⟨o, rfl⟩; rfl)]
      · simp only [evSs_cons, evSs_nil, evS, ev, evB, evF, evA, evP, evM, evI, evO, rb_ok, rb_ex, ro_ok, ro_ex, rn_ok, op_so, td_v, td_l, td_ex, ts_b, ts_l, ts_t, ts_i, Z.pk_nil, pk_v, pk_l, pk_i, ih_v, ih_l, ih_d, fz_v, fz_l, sq_nx, sq_rt, sq_ex, rs_rt, rs_nx, rs_ex, of_so, st_def, st_tup, st_lst, cb_ok, cb_ex, fin_ok, fin_ex, p_isi, p_lenT, p_lenL, p_int, p_intB, p_abs, p_add, p_sub, p_neg, p_lt, p_gt, p_le, p_ge, p_max, p_min, p_isN, p_notN, p_tupL, p_tupT, p_lstL, p_lstT, p_rev, ix0L, ix0T, ix1L, ix1T, ix2L, ix2T, pu0, pu1, pu2, ft0, ft1, ft2, ft3, ft4, fl0, fl1, fl2, fl3, fl4, fl5, fl6, fl7, fl8, fl9, fl10, fl11, ca_rt, ca_nx, io_i, ap_S, il_l, p_addS, p_addU, Nat.reduceLeDiff, sl_L, Int.natCast_zero, Int.natCast_one, Int.cast_ofNat_Int, sm0, sm1, sm2, p_eqI, p_neI, p_eqB, p_neB, p_eqS, p_neS, Option.map_some, Option.bind_some, slot, setS, setTs, isOw, Z.fill, unfill, owV, outs, outsA, List.getD_cons_zero, List.getD_cons_succ, List.set_cons_zero, List.set_cons_succ, List.length_cons, List.length_nil, List.any_cons, List.any_nil, List.append_nil, List.nil_append, List.cons_append, List.map_cons, List.map_nil, isTy, Bool.or_false, Bool.or_true, Bool.false_or, Bool.true_or, Bool.not_true, Bool.not_false, Bool.true_and, Bool.false_and, Bool.and_true, Bool.and_false, if_true, if_false, Bool.false_eq_true, reduceIte, List.not_mem_nil, List.mem_cons, or_false, false_or, not_false_eq_true, not_true_eq_false, and_true, and_false, and_self, true_and, Nat.reduceLT, Nat.reduceAdd, Nat.zero_add, Nat.lt_add_one, Nat.reduceEqDiff, Nat.lt_add_left_iff_pos, Nat.zero_lt_succ, Nat.zero_lt_one, Nat.succ_ne_self, reduceCtorEq, Nat.zero_ne_one, Nat.one_ne_zero, decide_true, decide_false, beq_self_eq_true, Int.reduceBEq, Int.reduceLT, Int.reduceLE, Int.reduceAdd, Int.reduceSub, Int.reduceNeg, flat1, tupD, tupDs_map]
      · rintro x hm _ ⟨o, rfl⟩
        refine ⟨[.v (.tuple xs), .v x], ?_, _, rfl⟩
        simp only [evSs_cons, evSs_nil, evS, ev, evB, evF, evA, evP, evM, evI, evO, rb_ok, rb_ex, ro_ok, ro_ex, rn_ok, op_so, td_v, td_l, td_ex, ts_b, ts_l, ts_t, ts_i, Z.pk_nil, pk_v, pk_l, pk_i, ih_v, ih_l, ih_d, fz_v, fz_l, sq_nx, sq_rt, sq_ex, rs_rt, rs_nx, rs_ex, of_so, st_def, st_tup, st_lst, cb_ok, cb_ex, fin_ok, fin_ex, p_isi, p_lenT, p_lenL, p_int, p_intB, p_abs, p_add, p_sub, p_neg, p_lt, p_gt, p_le, p_ge, p_max, p_min, p_isN, p_notN, p_tupL, p_tupT, p_lstL, p_lstT, p_rev, ix0L, ix0T, ix1L, ix1T, ix2L, ix2T, pu0, pu1, pu2, ft0, ft1, ft2, ft3, ft4, fl0, fl1, fl2, fl3, fl4, fl5, fl6, fl7, fl8, fl9, fl10, fl11, ca_rt, ca_nx, io_i, ap_S, il_l, p_addS, p_addU, Nat.reduceLeDiff, sl_L, Int.natCast_zero, Int.natCast_one, Int.cast_ofNat_Int, sm0, sm1, sm2, p_eqI, p_neI, p_eqB, p_neB, p_eqS, p_neS, Option.map_some, Option.bind_some, slot, setS, setTs, isOw, Z.fill, unfill, owV, outs, outsA, List.getD_cons_zero, List.getD_cons_succ, List.set_cons_zero, List.set_cons_succ, List.length_cons, List.length_nil, List.any_cons, List.any_nil, List.append_nil, List.nil_append, List.cons_append, List.map_cons, List.map_nil, isTy, Bool.or_false, Bool.or_true, Bool.false_or, Bool.true_or, Bool.not_true, Bool.not_false, Bool.true_and, Bool.false_and, Bool.and_true, Bool.and_false, if_true, if_false, Bool.false_eq_true, reduceIte, List.not_mem_nil, List.mem_cons, or_false, false_or, not_false_eq_true, not_true_eq_false, and_true, and_false, and_self, true_and, Nat.reduceLT, Nat.reduceAdd, Nat.zero_add, Nat.lt_add_one, Nat.reduceEqDiff, Nat.lt_add_left_iff_pos, Nat.zero_lt_succ, Nat.zero_lt_one, Nat.succ_ne_self, reduceCtorEq, Nat.zero_ne_one, Nat.one_ne_zero, decide_true, decide_false, beq_self_eq_true, Int.reduceBEq, Int.reduceLT, Int.reduceLE, Int.reduceAdd, Int.reduceSub, Int.reduceNeg, holes, ih x (hx x hm)]
    | _ => 
      simp only [evSs_cons, evSs_nil, evS, ev, evB, evF, evA, evP, evM, evI, evO, rb_ok, rb_ex, ro_ok, ro_ex, rn_ok, op_so, td_v, td_l, td_ex, ts_b, ts_l, ts_t, ts_i, Z.pk_nil, pk_v, pk_l, pk_i, ih_v, ih_l, ih_d, fz_v, fz_l, sq_nx, sq_rt, sq_ex, rs_rt, rs_nx, rs_ex, of_so, st_def, st_tup, st_lst, cb_ok, cb_ex, fin_ok, fin_ex, p_isi, p_lenT, p_lenL, p_int, p_intB, p_abs, p_add, p_sub, p_neg, p_lt, p_gt, p_le, p_ge, p_max, p_min, p_isN, p_notN, p_tupL, p_tupT, p_lstL, p_lstT, p_rev, ix0L, ix0T, ix1L, ix1T, ix2L, ix2T, pu0, pu1, pu2, ft0, ft1, ft2, ft3, ft4, fl0, fl1, fl2, fl3, fl4, fl5, fl6, fl7, fl8, fl9, fl10, fl11, ca_rt, ca_nx, io_i, ap_S, il_l, p_addS, p_addU, Nat.reduceLeDiff, sl_L, Int.natCast_zero, Int.natCast_one, Int.cast_ofNat_Int, sm0, sm1, sm2, p_eqI, p_neI, p_eqB, p_neB, p_eqS, p_neS, Option.map_some, Option.bind_some, slot, setS, setTs, isOw, Z.fill, unfill, owV, outs, outsA, List.getD_cons_zero, List.getD_cons_succ, List.set_cons_zero, List.set_cons_succ, List.length_cons, List.length_nil, List.any_cons, List.any_nil, List.append_nil, List.nil_append, List.cons_append, List.map_cons, List.map_nil, isTy, Bool.or_false, Bool.or_true, Bool.false_or, Bool.true_or, Bool.not_true, Bool.not_false, Bool.true_and, Bool.false_and, Bool.and_true, Bool.and_false, if_true, if_false, Bool.false_eq_true, reduceIte, List.not_mem_nil, List.mem_cons, or_false, false_or, not_false_eq_true, not_true_eq_false, and_true, and_false, and_self, true_and, Nat.reduceLT, Nat.reduceAdd, Nat.zero_add, Nat.lt_add_one, Nat.reduceEqDiff, Nat.lt_add_left_iff_pos, Nat.zero_lt_succ, Nat.zero_lt_one, Nat.succ_ne_self, reduceCtorEq, Nat.zero_ne_one, Nat.one_ne_zero, decide_true, decide_false, beq_self_eq_true, Int.reduceBEq, Int.reduceLT, Int.reduceLE, Int.reduceAdd, Int.reduceSub, Int.reduceNeg, tupD]
mutual
def lisD : D → D
  | .list xs | .tuple xs => .list (lisDs xs)
  | d => d
def lisDs : List D → List D
  | [] => []
  | d :: r => lisD d :: lisDs r
end
theorem lisDs_map : ∀ xs : List D, lisDs xs = xs.map lisD
  | [] => rfl
  | x :: xs => by simp only [lisDs, List.map_cons, lisDs_map xs]
mutual
theorem tup_lis : ∀ d : D, tupD (lisD d) = tupD d
  | .list xs => by simp only [lisD, tupD, tups_lis xs]
  | .tuple xs => by simp only [lisD, tupD, tups_lis xs]
  | .none | .bool _ | .int _ | .str _ | .dict _ => by simp only [lisD]
theorem tups_lis : ∀ ds : List D, tupDs (lisDs ds) = tupDs ds
  | [] => rfl
  | d :: ds => by simp only [lisDs, tupDs, tup_lis d, tups_lis ds]
end
mutual
theorem dp_lis : ∀ d : D, dp (lisD d) = dp d
  | .list xs => by simp only [lisD, dp, dps_lis xs]
  | .tuple xs => by simp only [lisD, dp, dps_lis xs]
  | .none | .bool _ | .int _ | .str _ | .dict _ => by simp only [lisD]
theorem dps_lis : ∀ ds : List D, dpAll (lisDs ds) = dpAll ds
  | [] => rfl
  | d :: ds => by simp only [lisDs, dpAll, dp_lis d, dps_lis ds]
end
def ofD : D → O
  | .list xs => .lst xs
  | d => .v d
theorem td_of (d : D) (Γ : Z.Env) : toD (.ok (ofD d, Γ)) = .ok (d, Γ) := by cases d <;> rfl
theorem c25 : ∀ (n : Nat) (d : D), dp d < n → callN pg n 25 [.v d] = .ok (ofD (lisD d)) [.hole]
  | 0, _, h => absurd h (Nat.not_lt_zero _)
  | n + 1, d, h => by
    rw [callN_of [.v d, .hole] b25 [] 1 (d := f25) rfl]
    unfold b25
    have ih : ∀ x, dp x < n → callN pg n 25 [.v x] = .ok (ofD (lisD x)) [.hole] := c25 n
    cases d with
    | list xs =>
      have hx : ∀ x ∈ xs, dp x < n := fun x hx => by have := dp_le hx; unfold dp at h; omega
      simp only [evSs_cons, evSs_nil, evS, ev, evB, evF, evA, evP, evM, evI, evO, rb_ok, rb_ex, ro_ok, ro_ex, rn_ok, op_so, td_v, td_l, td_ex, ts_b, ts_l, ts_t, ts_i, Z.pk_nil, pk_v, pk_l, pk_i, ih_v, ih_l, ih_d, fz_v, fz_l, sq_nx, sq_rt, sq_ex, rs_rt, rs_nx, rs_ex, of_so, st_def, st_tup, st_lst, cb_ok, cb_ex, fin_ok, fin_ex, p_isi, p_lenT, p_lenL, p_int, p_intB, p_abs, p_add, p_sub, p_neg, p_lt, p_gt, p_le, p_ge, p_max, p_min, p_isN, p_notN, p_tupL, p_tupT, p_lstL, p_lstT, p_rev, ix0L, ix0T, ix1L, ix1T, ix2L, ix2T, pu0, pu1, pu2, ft0, ft1, ft2, ft3, ft4, fl0, fl1, fl2, fl3, fl4, fl5, fl6, fl7, fl8, fl9, fl10, fl11, ca_rt, ca_nx, io_i, ap_S, il_l, p_addS, p_addU, Nat.reduceLeDiff, sl_L, Int.natCast_zero, Int.natCast_one, Int.cast_ofNat_Int, sm0, sm1, sm2, p_eqI, p_neI, p_eqB, p_neB, p_eqS, p_neS, Option.map_some, Option.bind_some, slot, setS, setTs, isOw, Z.fill, unfill, owV, outs, outsA, List.getD_cons_zero, List.getD_cons_succ, List.set_cons_zero, List.set_cons_succ, List.length_cons, List.length_nil, List.any_cons, List.any_nil, List.append_nil, List.nil_append, List.cons_append, List.map_cons, List.map_nil, isTy, Bool.or_false, Bool.or_true, Bool.false_or, Bool.true_or, Bool.not_true, Bool.not_false, Bool.true_and, Bool.false_and, Bool.and_true, Bool.and_false, if_true, if_false, Bool.false_eq_true, reduceIte, List.not_mem_nil, List.mem_cons, or_false, false_or, not_false_eq_true, not_true_eq_false, and_true, and_false, and_self, true_and, Nat.reduceLT, Nat.reduceAdd, Nat.zero_add, Nat.lt_add_one, Nat.reduceEqDiff, Nat.lt_add_left_iff_pos, Nat.zero_lt_succ, Nat.zero_lt_one, Nat.succ_ne_self, reduceCtorEq, Nat.zero_ne_one, Nat.one_ne_zero, decide_true, decide_false, beq_self_eq_true, Int.reduceBEq, Int.reduceLT, Int.reduceLE, Int.reduceAdd, Int.reduceSub, Int.reduceNeg, walkD]
      rw [lc_rwD (fun Γ => ∃ o, Γ = [.v (.list xs), o]) (fun d => [lisD d]) [.v (.list xs), .hole] ?_ ⟨_, rfl⟩ (by rintro _ ⟨o, rfl⟩; rfl)]
      · simp only [evSs_cons, evSs_nil, evS, ev, evB, evF, evA, evP, evM, evI, evO, rb_ok, rb_ex, ro_ok, ro_ex, rn_ok, op_so, td_v, td_l, td_ex, ts_b, ts_l, ts_t, ts_i, Z.pk_nil, pk_v, pk_l, pk_i, ih_v, ih_l, ih_d, fz_v, fz_l, sq_nx, sq_rt, sq_ex, rs_rt, rs_nx, rs_ex, of_so, st_def, st_tup, st_lst, cb_ok, cb_ex, fin_ok, fin_ex, p_isi, p_lenT, p_lenL, p_int, p_intB, p_abs, p_add, p_sub, p_neg, p_lt, p_gt, p_le, p_ge, p_max, p_min, p_isN, p_notN, p_tupL, p_tupT, p_lstL, p_lstT, p_rev, ix0L, ix0T, ix1L, ix1T, ix2L, ix2T, pu0, pu1, pu2, ft0, ft1, ft2, ft3, ft4, fl0, fl1, fl2, fl3, fl4, fl5, fl6, fl7, fl8, fl9, fl10, fl11, ca_rt, ca_nx, io_i, ap_S, il_l, p_addS, p_addU, Nat.reduceLeDiff, sl_L, Int.natCast_zero, Int.natCast_one, Int.cast_ofNat_Int, sm0, sm1, sm2, p_eqI, p_neI, p_eqB, p_neB, p_eqS, p_neS, Option.map_some, Option.bind_some, slot, setS, setTs, isOw, Z.fill, unfill, owV, outs, outsA, List.getD_cons_zero, List.getD_cons_succ, List.set_cons_zero, List.set_cons_succ, List.length_cons, List.length_nil, List.any_cons, List.any_nil, List.append_nil, List.nil_append, List.cons_append, List.map_cons, List.map_nil, isTy, Bool.or_false, Bool.or_true, Bool.false_or, Bool.true_or, Bool.not_true, Bool.not_false, Bool.true_and, Bool.false_and, Bool.and_true, Bool.and_false, if_true, if_false, Bool.false_eq_true, reduceIte, List.not_mem_nil, List.mem_cons, or_false, false_or, not_false_eq_true, not_true_eq_false, and_true, and_false, and_self, true_and, Nat.reduceLT, Nat.reduceAdd, Nat.zero_add, Nat.lt_add_one, Nat.reduceEqDiff, Nat.lt_add_left_iff_pos, Nat.zero_lt_succ, Nat.zero_lt_one, Nat.succ_ne_self, reduceCtorEq, Nat.zero_ne_one, Nat.one_ne_zero, decide_true, decide_false, beq_self_eq_true, Int.reduceBEq, Int.reduceLT, Int.reduceLE, Int.reduceAdd, Int.reduceSub, Int.reduceNeg, flat1, lisD, lisDs_map, ofD]
      · rintro x hm _ ⟨o, rfl⟩
        refine ⟨[.v (.list xs), .v x], ?_, _, rfl⟩
        simp only [evSs_cons, evSs_nil, evS, ev, evB, evF, evA, evP, evM, evI, evO, rb_ok, rb_ex, ro_ok, ro_ex, rn_ok, op_so, td_v, td_l, td_ex, ts_b, ts_l, ts_t, ts_i, Z.pk_nil, pk_v, pk_l, pk_i, ih_v, ih_l, ih_d, fz_v, fz_l, sq_nx, sq_rt, sq_ex, rs_rt, rs_nx, rs_ex, of_so, st_def, st_tup, st_lst, cb_ok, cb_ex, fin_ok, fin_ex, p_isi, p_lenT, p_lenL, p_int, p_intB, p_abs, p_add, p_sub, p_neg, p_lt, p_gt, p_le, p_ge, p_max, p_min, p_isN, p_notN, p_tupL, p_tupT, p_lstL, p_lstT, p_rev, ix0L, ix0T, ix1L, ix1T, ix2L, ix2T, pu0, pu1, pu2, ft0, ft1, ft2, ft3, ft4, fl0, fl1, fl2, fl3, fl4, fl5, fl6, fl7, fl8, fl9, fl10, fl11, ca_rt, ca_nx, io_i, ap_S, il_l, p_addS, p_addU, Nat.reduceLeDiff, sl_L, Int.natCast_zero, Int.natCast_one, Int.cast_ofNat_Int, sm0, sm1, sm2, p_eqI, p_neI, p_eqB, p_neB, p_eqS, p_neS, Option.map_some, Option.bind_some, slot, setS, setTs, isOw, Z.fill, unfill, owV, outs, outsA, List.getD_cons_zero, List.getD_cons_succ, List.set_cons_zero, List.set_cons_succ, List.length_cons, List.length_nil, List.any_cons, List.any_nil, List.append_nil, List.nil_append, List.cons_append, List.map_cons, List.map_nil, isTy, Bool.or_false, Bool.or_true, Bool.false_or, Bool.true_or, Bool.not_true, Bool.not_false, Bool.true_and, Bool.false_and, Bool.and_true, Bool.and_false, if_true, if_false, Bool.false_eq_true, reduceIte, List.not_mem_nil, List.mem_cons, or_false, false_or, not_false_eq_true, not_true_eq_false, and_true, and_false, and_self, true_and, Nat.reduceLT, Nat.reduceAdd, Nat.zero_add, Nat.lt_add_one, Nat.reduceEqDiff, Nat.lt_add_left_iff_pos, Nat.zero_lt_succ, Nat.zero_lt_one, Nat.succ_ne_self, reduceCtorEq, Nat.zero_ne_one, Nat.one_ne_zero, decide_true, decide_false, beq_self_eq_true, Int.reduceBEq, Int.reduceLT, Int.reduceLE, Int.reduceAdd, Int.reduceSub, Int.reduceNeg, holes, ih x (hx x hm), td_of]
    | tuple xs =>
      have hx : ∀ x ∈ xs, dp x < n := fun x hx => by have := dp_le hx; unfold dp at h; omega
      simp only [evSs_cons, evSs_nil, evS, ev, evB, evF, evA, evP, evM, evI, evO, rb_ok, rb_ex, ro_ok, ro_ex, rn_ok, op_so, td_v, td_l, td_ex, ts_b, ts_l, ts_t, ts_i, Z.pk_nil, pk_v, pk_l, pk_i, ih_v, ih_l, ih_d, fz_v, fz_l, sq_nx, sq_rt, sq_ex, rs_rt, rs_nx, rs_ex, of_so, st_def, st_tup, st_lst, cb_ok, cb_ex, fin_ok, fin_ex, p_isi, p_lenT, p_lenL, p_int, p_intB, p_abs, p_add, p_sub, p_neg, p_lt, p_gt, p_le, p_ge, p_max, p_min, p_isN, p_notN, p_tupL, p_tupT, p_lstL, p_lstT, p_rev, ix0L, ix0T, ix1L, ix1T, ix2L, ix2T, pu0, pu1, pu2, ft0, ft1, ft2, ft3, ft4, fl0, fl1, fl2, fl3, fl4, fl5, fl6, fl7, fl8, fl9, fl10, fl11, ca_rt, ca_nx, io_i, ap_S, il_l, p_addS, p_addU, Nat.reduceLeDiff, sl_L, Int.natCast_zero, Int.natCast_one, Int.cast_ofNat_Int, sm0, sm1, sm2, p_eqI, p_neI, p_eqB, p_neB, p_eqS, p_neS, Option.map_some, Option.bind_some, slot, setS, setTs, isOw, Z.fill, unfill, owV, outs, outsA, List.getD_cons_zero, List.getD_cons_succ, List.set_cons_zero, List.set_cons_succ, List.length_cons, List.length_nil, List.any_cons, List.any_nil, List.append_nil, List.nil_append, List.cons_append, List.map_cons, List.map_nil, isTy, Bool.or_false, Bool.or_true, Bool.false_or, Bool.true_or, Bool.not_true, Bool.not_false, Bool.true_and, Bool.false_and, Bool.and_true, Bool.and_false, if_true, if_false, Bool.false_eq_true, reduceIte, List.not_mem_nil, List.mem_cons, or_false, false_or, not_false_eq_true, not_true_eq_false, and_true, and_false, and_self, true_and, Nat.reduceLT, Nat.reduceAdd, Nat.zero_add, Nat.lt_add_one, Nat.reduceEqDiff, Nat.lt_add_left_iff_pos, Nat.zero_lt_succ, Nat.zero_lt_one, Nat.succ_ne_self, reduceCtorEq, Nat.zero_ne_one, Nat.one_ne_zero, decide_true, decide_false, beq_self_eq_true, Int.reduceBEq, Int.reduceLT, Int.reduceLE, Int.reduceAdd, Int.reduceSub, Int.reduceNeg, walkD]
      rw [lc_rwD (fun Γ => ∃ o, Γ = [.v (.tuple xs), o]) (fun d => [lisD d]) [.v (.tuple xs), .hole] ?_ ⟨_, rfl⟩ (by rintro _ ⟨o, rfl⟩; rfl)]
      · simp only [evSs_cons, evSs_nil, evS, ev, evB, evF, evA, evP, evM, evI, evO, rb_ok, rb_ex, ro_ok, ro_ex, rn_ok, op_so, td_v, td_l, td_ex, ts_b, ts_l, ts_t, ts_i, Z.pk_nil, pk_v, pk_l, pk_i, ih_v, ih_l, ih_d, fz_v, fz_l, sq_nx, sq_rt, sq_ex, rs_rt, rs_nx, rs_ex, of_so, st_def, st_tup, st_lst, cb_ok, cb_ex, fin_ok, fin_ex, p_isi, p_lenT, p_lenL, p_int, p_intB, p_abs, p_add, p_sub, p_neg, p_lt, p_gt, p_le, p_ge, p_max, p_min, p_isN, p_notN, p_tupL, p_tupT, p_lstL, p_lstT, p_rev, ix0L, ix0T, ix1L, ix1T, ix2L, ix2T, pu0, pu1, pu2, ft0, ft1, ft2, ft3, ft4, fl0, fl1, fl2, fl3, fl4, fl5, fl6, fl7, fl8, fl9, fl10, fl11, ca_rt, ca_nx, io_i, ap_S, il_l, p_addS, p_addU, Nat.reduceLeDiff, sl_L, Int.natCast_zero, Int.natCast_one, Int.cast_ofNat_Int, sm0, sm1, sm2, p_eqI, p_neI, p_eqB, p_neB, p_eqS, p_neS, Option.map_some, Option.bind_some, slot, setS, setTs, isOw, Z.fill, unfill, owV, outs, outsA, List.getD_cons_zero, List.getD_cons_succ, List.set_cons_zero, List.set_cons_succ, List.length_cons, List.length_nil, List.any_cons, List.any_nil, List.append_nil, List.nil_append, List.cons_append, List.map_cons, List.map_nil, isTy, Bool.or_false, Bool.or_true, Bool.false_or, Bool.true_or, Bool.not_true, Bool.not_false, Bool.true_and, Bool.false_and, Bool.and_true, Bool.and_false, if_true, if_false, Bool.false_eq_true, reduceIte, List.not_mem_nil, List.mem_cons, or_false, false_or, not_false_eq_true, not_true_eq_false, and_true, and_false, and_self, true_and, Nat.reduceLT, Nat.reduceAdd, Nat.zero_add, Nat.lt_add_one, Nat.reduceEqDiff, Nat.lt_add_left_iff_pos, Nat.zero_lt_succ, Nat.zero_lt_one, Nat.succ_ne_self, reduceCtorEq, Nat.zero_ne_one, Nat.one_ne_zero, decide_true, decide_false, beq_self_eq_true, Int.reduceBEq, Int.reduceLT, Int.reduceLE, Int.reduceAdd, Int.reduceSub, Int.reduceNeg, flat1, lisD, lisDs_map, ofD]
      · rintro x hm _ ⟨o, rfl⟩
        refine ⟨[.v (.tuple xs), .v x], ?_, _, rfl⟩
        simp only [evSs_cons, evSs_nil, evS, ev, evB, evF, evA, evP, evM, evI, evO, rb_ok, rb_ex, ro_ok, ro_ex, rn_ok, op_so, td_v, td_l, td_ex, ts_b, ts_l, ts_t, ts_i, Z.pk_nil, pk_v, pk_l, pk_i, ih_v, ih_l, ih_d, fz_v, fz_l, sq_nx, sq_rt, sq_ex, rs_rt, rs_nx, rs_ex, of_so, st_def, st_tup, st_lst, cb_ok, cb_ex, fin_ok, fin_ex, p_isi, p_lenT, p_lenL, p_int, p_intB, p_abs, p_add, p_sub, p_neg, p_lt, p_gt, p_le, p_ge, p_max, p_min, p_isN, p_notN, p_tupL, p_tupT, p_lstL, p_lstT, p_rev, ix0L, ix0T, ix1L, ix1T, ix2L, ix2T, pu0, pu1, pu2, ft0, ft1, ft2, ft3, ft4, fl0, fl1, fl2, fl3, fl4, fl5, fl6, fl7, fl8, fl9, fl10, fl11, ca_rt, ca_nx, io_i, ap_S, il_l, p_addS, p_addU, Nat.reduceLeDiff, sl_L, Int.natCast_zero, Int.natCast_one, Int.cast_ofNat_Int, sm0, sm1, sm2, p_eqI, p_neI, p_eqB, p_neB, p_eqS, p_neS, Option.map_some, Option.bind_some, slot, setS, setTs, isOw, Z.fill, unfill, owV, outs, outsA, List.getD_cons_zero, List.getD_cons_succ, List.set_cons_zero, List.set_cons_succ, List.length_cons, List.length_nil, List.any_cons, List.any_nil, List.append_nil, List.nil_append, List.cons_append, List.map_cons, List.map_nil, isTy, Bool.or_false, Bool.or_true, Bool.false_or, Bool.true_or, Bool.not_true, Bool.not_false, Bool.true_and, Bool.false_and, Bool.and_true, Bool.and_false, if_true, if_false, Bool.false_eq_true, reduceIte, List.not_mem_nil, List.mem_cons, or_false, false_or, not_false_eq_true, not_true_eq_false, and_true, and_false, and_self, true_and, Nat.reduceLT, Nat.reduceAdd, Nat.zero_add, Nat.lt_add_one, Nat.reduceEqDiff, Nat.lt_add_left_iff_pos, Nat.zero_lt_succ, Nat.zero_lt_one, Nat.succ_ne_self, reduceCtorEq, Nat.zero_ne_one, Nat.one_ne_zero, decide_true, decide_false, beq_self_eq_true, Int.reduceBEq, Int.reduceLT, Int.reduceLE, Int.reduceAdd, Int.reduceSub, Int.reduceNeg, holes, ih x (hx x hm), td_of]
    | _ => 
      simp only [evSs_cons, evSs_nil, evS, ev, evB, evF, evA, evP, evM, evI, evO, rb_ok, rb_ex, ro_ok, ro_ex, rn_ok, op_so, td_v, td_l, td_ex, ts_b, ts_l, ts_t, ts_i, Z.pk_nil, pk_v, pk_l, pk_i, ih_v, ih_l, ih_d, fz_v, fz_l, sq_nx, sq_rt, sq_ex, rs_rt, rs_nx, rs_ex, of_so, st_def, st_tup, st_lst, cb_ok, cb_ex, fin_ok, fin_ex, p_isi, p_lenT, p_lenL, p_int, p_intB, p_abs, p_add, p_sub, p_neg, p_lt, p_gt, p_le, p_ge, p_max, p_min, p_isN, p_notN, p_tupL, p_tupT, p_lstL, p_lstT, p_rev, ix0L, ix0T, ix1L, ix1T, ix2L, ix2T, pu0, pu1, pu2, ft0, ft1, ft2, ft3, ft4, fl0, fl1, fl2, fl3, fl4, fl5, fl6, fl7, fl8, fl9, fl10, fl11, ca_rt, ca_nx, io_i, ap_S, il_l, p_addS, p_addU, Nat.reduceLeDiff, sl_L, Int.natCast_zero, Int.natCast_one, Int.cast_ofNat_Int, sm0, sm1, sm2, p_eqI, p_neI, p_eqB, p_neB, p_eqS, p_neS, Option.map_some, Option.bind_some, slot, setS, setTs, isOw, Z.fill, unfill, owV, outs, outsA, List.getD_cons_zero, List.getD_cons_succ, List.set_cons_zero, List.set_cons_succ, List.length_cons, List.length_nil, List.any_cons, List.any_nil, List.append_nil, List.nil_append, List.cons_append, List.map_cons, List.map_nil, isTy, Bool.or_false, Bool.or_true, Bool.false_or, Bool.true_or, Bool.not_true, Bool.not_false, Bool.true_and, Bool.false_and, Bool.and_true, Bool.and_false, if_true, if_false, Bool.false_eq_true, reduceIte, List.not_mem_nil, List.mem_cons, or_false, false_or, not_false_eq_true, not_true_eq_false, and_true, and_false, and_self, true_and, Nat.reduceLT, Nat.reduceAdd, Nat.zero_add, Nat.lt_add_one, Nat.reduceEqDiff, Nat.lt_add_left_iff_pos, Nat.zero_lt_succ, Nat.zero_lt_one, Nat.succ_ne_self, reduceCtorEq, Nat.zero_ne_one, Nat.one_ne_zero, decide_true, decide_false, beq_self_eq_true, Int.reduceBEq, Int.reduceLT, Int.reduceLE, Int.reduceAdd, Int.reduceSub, Int.reduceNeg, lisD, ofD]
/-! ### terms -/
abbrev Nm := Str × Int × Bool
def eN (e : Nm) : D := .tuple [.str e.1, .int e.2.1, .bool e.2.2]
def eNs (N : List Nm) : D := .tuple (N.map eN)
inductive T where
  | z (x : Str)
  | o (x : Str) (t : T)
  | w (x : Str) (t u : T)
  deriving DecidableEq
def T.e : T → D
  | .z x => .tuple [.str x, .tuple []]
  | .o x t => .tuple [.str x, .tuple [t.e]]
  | .w x t u => .tuple [.str x, .tuple [t.e, u.e]]
def T.sz : T → Nat
  | .z _ => 1
  | .o _ t => 1 + t.sz
  | .w _ t u => 1 + (t.sz + u.sz)
def look (N : List Nm) (x : Str) : List Nm := N.filter fun e => e.1 == x
def T.ok (N : List Nm) : T → Prop
  | .z x => look N x = [(x, 0, false)]
  | .o x t => look N x = [(x, 1, false)] ∧ t.ok N
  | .w x t u => (∃ s, look N x = [(x, 2, s)]) ∧ t.ok N ∧ u.ok N
/-- the key -/
def T.k : T → D
  | .z x => .tuple [.int 1, .str x, .tuple []]
  | .o x t => .tuple [.int (T.o x t).sz, .str x, .tuple [t.k]]
  | .w x t u => .tuple [.int (T.w x t u).sz, .str x, .tuple [t.k, u.k]]
def le (t u : T) : Bool := !W.dataLt u.k t.k
def sw (N : List Nm) (x : Str) : Bool := (look N x).map (·.2.2) == [true]
/-- the form -/
def T.f (N : List Nm) : T → T
  | .z x => .z x
  | .o x t => .o x (t.f N)
  | .w x t u => if sw N x && !le (t.f N) (u.f N) then .w x (u.f N) (t.f N) else .w x (t.f N) (u.f N)
theorem sz_pos : ∀ t : T, 1 ≤ t.sz
  | .z _ => Nat.le_refl _
  | .o _ t => by unfold T.sz; omega
  | .w _ t u => by unfold T.sz; omega
theorem f_sz (N : List Nm) : ∀ t : T, (t.f N).sz = t.sz
  | .z _ => rfl
  | .o _ t => by simp only [T.f, T.sz, f_sz N t]
  | .w _ t u => by
    unfold T.f
    split <;> simp only [T.sz, f_sz N t, f_sz N u] <;> omega
theorem le_total (t u : T) : le t u = true ∨ le u t = true := by
  unfold le
  cases h : W.dataLt u.k t.k with
  | false => exact .inl rfl
  | true =>
    right
    have q : (PyProof.Rows.KeyOrd.kle (O := PyProof.Rows.listOrd PyProof.Rows.itemOrd) (W.keyToks u.k) (W.keyToks t.k)) := PyProof.Rows.KeyOrd.klt_asymm h
    have q : W.dataLt t.k u.k = false := q
    rw [q]
    try rfl
theorem f_f (N : List Nm) : ∀ t : T, (t.f N).f N = t.f N
  | .z _ => rfl
  | .o _ t => by simp only [T.f, f_f N t]
  | .w x t u => by
    cases h : (sw N x && !le (t.f N) (u.f N)) with
    | false => rw [T.f, if_neg (by simp [h]), T.f, f_f N t, f_f N u, if_neg (by simp [h])]
    | true =>
      rw [T.f, if_pos h, T.f, f_f N t, f_f N u, if_neg]
      rw [Bool.and_eq_true] at h
      have h2 : le (t.f N) (u.f N) = false := by simpa using h.2
      rcases le_total (t.f N) (u.f N) with q | q
      · rw [h2] at q; cases q
      · simp [q]
theorem f_ok (N : List Nm) : ∀ t : T, t.ok N → (t.f N).ok N
  | .z _, h => h
  | .o _ t, h => ⟨h.1, f_ok N t h.2⟩
  | .w _ t u, h => by
    unfold T.f
    split
    · exact ⟨h.1, f_ok N u h.2.2, f_ok N t h.2.1⟩
    · exact ⟨h.1, f_ok N t h.2.1, f_ok N u h.2.2⟩
theorem dp_e : ∀ t : T, dp t.e ≤ 2 * t.sz
  | .z _ => by simp [T.e, dp, dpAll, T.sz]
  | .o _ t => by have := dp_e t; simp [T.e, dp, dpAll, T.sz]; omega
  | .w _ t u => by have := dp_e t; have := dp_e u; simp [T.e, dp, dpAll, T.sz]; omega
theorem str_beq (x y : Str) : (x == y) = decide (x = y) := rfl
theorem eqv_e : ∀ t u : T, PyData.eqv t.e u.e = decide (t = u)
  | .z x, .z y => by simp [T.e, PyData.eqv, PyData.eqvAll, str_beq]
  | .z x, .o y u => by simp [T.e, PyData.eqv, PyData.eqvAll, str_beq]
  | .z x, .w y u v => by simp [T.e, PyData.eqv, PyData.eqvAll, str_beq]
  | .o x t, .z y => by simp [T.e, PyData.eqv, PyData.eqvAll, str_beq]
  | .o x t, .o y u => by simp [T.e, PyData.eqv, PyData.eqvAll, str_beq, eqv_e t u]
  | .o x t, .w y u v => by simp [T.e, PyData.eqv, PyData.eqvAll, str_beq]
  | .w x t t', .z y => by simp [T.e, PyData.eqv, PyData.eqvAll, str_beq]
  | .w x t t', .o y u => by simp [T.e, PyData.eqv, PyData.eqvAll, str_beq]
  | .w x t t', .w y u v => by simp [T.e, PyData.eqv, PyData.eqvAll, str_beq, eqv_e t u, eqv_e t' v]
theorem p_eqE {t u : T} (h : t.sz ≤ 30) : prF .eq [t.e, u.e] = some (.v (.bool (decide (t = u)))) := by
  rw [p_eq (eqok_l (by have := dp_e t; omega)), eqv_e]
theorem p_neE {t u : T} (h : t.sz ≤ 30) : prF .ne [t.e, u.e] = some (.v (.bool (!decide (t = u)))) := by
  rw [p_ne (eqok_l (by have := dp_e t; omega)), eqv_e]
theorem tup_e : ∀ t : T, tupD t.e = t.e
  | .z _ => rfl
  | .o _ t => by simp only [T.e, tupD, tupDs, tup_e t]
  | .w _ t u => by simp only [T.e, tupD, tupDs, tup_e t, tup_e u]

/-! ### size, key -/
theorem c11 : ∀ (n : Nat) (t : T), t.sz ≤ n → callN pg n 11 [.v t.e] = .ok (.v (.int t.sz)) [.hole]
  | 0, t, h => by have := sz_pos t; omega
  | n + 1, t, h => by
    have ih : ∀ u : T, u.sz < t.sz → callN pg n 11 [.v u.e] = .ok (.v (.int u.sz)) [.hole] := fun u hu => c11 n u (by omega)
    rw [callN_of [.v t.e, .hole] b11 [] 1 (d := f11) rfl]
    unfold b11
    cases t with
    | z x => simp only [evSs_cons, evSs_nil, evS, ev, evB, evF, evA, evP, evM, evI, evO, rb_ok, rb_ex, ro_ok, ro_ex, rn_ok, op_so, td_v, td_l, td_ex, ts_b, ts_l, ts_t, ts_i, Z.pk_nil, pk_v, pk_l, pk_i, ih_v, ih_l, ih_d, fz_v, fz_l, sq_nx, sq_rt, sq_ex, rs_rt, rs_nx, rs_ex, of_so, st_def, st_tup, st_lst, cb_ok, cb_ex, fin_ok, fin_ex, p_isi, p_lenT, p_lenL, p_int, p_intB, p_abs, p_add, p_sub, p_neg, p_lt, p_gt, p_le, p_ge, p_max, p_min, p_isN, p_notN, p_tupL, p_tupT, p_lstL, p_lstT, p_rev, ix0L, ix0T, ix1L, ix1T, ix2L, ix2T, pu0, pu1, pu2, ft0, ft1, ft2, ft3, ft4, fl0, fl1, fl2, fl3, fl4, fl5, fl6, fl7, fl8, fl9, fl10, fl11, ca_rt, ca_nx, io_i, ap_S, il_l, p_addS, p_addU, Nat.reduceLeDiff, sl_L, Int.natCast_zero, Int.natCast_one, Int.cast_ofNat_Int, sm0, sm1, sm2, p_eqI, p_neI, p_eqB, p_neB, p_eqS, p_neS, Option.map_some, Option.bind_some, slot, setS, setTs, isOw, Z.fill, unfill, owV, outs, outsA, List.getD_cons_zero, List.getD_cons_succ, List.set_cons_zero, List.set_cons_succ, List.length_cons, List.length_nil, List.any_cons, List.any_nil, List.append_nil, List.nil_append, List.cons_append, List.map_cons, List.map_nil, isTy, Bool.or_false, Bool.or_true, Bool.false_or, Bool.true_or, Bool.not_true, Bool.not_false, Bool.true_and, Bool.false_and, Bool.and_true, Bool.and_false, if_true, if_false, Bool.false_eq_true, reduceIte, List.not_mem_nil, List.mem_cons, or_false, false_or, not_false_eq_true, not_true_eq_false, and_true, and_false, and_self, true_and, Nat.reduceLT, Nat.reduceAdd, Nat.zero_add, Nat.lt_add_one, Nat.reduceEqDiff, Nat.lt_add_left_iff_pos, Nat.zero_lt_succ, Nat.zero_lt_one, Nat.succ_ne_self, reduceCtorEq, Nat.zero_ne_one, Nat.one_ne_zero, decide_true, decide_false, beq_self_eq_true, Int.reduceBEq, Int.reduceLT, Int.reduceLE, Int.reduceAdd, Int.reduceSub, Int.reduceNeg, T.e, walkD, lcL, holes, backs, onlyV, T.sz]; try rfl
    | o x t =>
      have h1 := ih t (by simp only [T.sz]; omega)
      simp only [evSs_cons, evSs_nil, evS, ev, evB, evF, evA, evP, evM, evI, evO, rb_ok, rb_ex, ro_ok, ro_ex, rn_ok, op_so, td_v, td_l, td_ex, ts_b, ts_l, ts_t, ts_i, Z.pk_nil, pk_v, pk_l, pk_i, ih_v, ih_l, ih_d, fz_v, fz_l, sq_nx, sq_rt, sq_ex, rs_rt, rs_nx, rs_ex, of_so, st_def, st_tup, st_lst, cb_ok, cb_ex, fin_ok, fin_ex, p_isi, p_lenT, p_lenL, p_int, p_intB, p_abs, p_add, p_sub, p_neg, p_lt, p_gt, p_le, p_ge, p_max, p_min, p_isN, p_notN, p_tupL, p_tupT, p_lstL, p_lstT, p_rev, ix0L, ix0T, ix1L, ix1T, ix2L, ix2T, pu0, pu1, pu2, ft0, ft1, ft2, ft3, ft4, fl0, fl1, fl2, fl3, fl4, fl5, fl6, fl7, fl8, fl9, fl10, fl11, ca_rt, ca_nx, io_i, ap_S, il_l, p_addS, p_addU, Nat.reduceLeDiff, sl_L, Int.natCast_zero, Int.natCast_one, Int.cast_ofNat_Int, sm0, sm1, sm2, p_eqI, p_neI, p_eqB, p_neB, p_eqS, p_neS, Option.map_some, Option.bind_some, slot, setS, setTs, isOw, Z.fill, unfill, owV, outs, outsA, List.getD_cons_zero, List.getD_cons_succ, List.set_cons_zero, List.set_cons_succ, List.length_cons, List.length_nil, List.any_cons, List.any_nil, List.append_nil, List.nil_append, List.cons_append, List.map_cons, List.map_nil, isTy, Bool.or_false, Bool.or_true, Bool.false_or, Bool.true_or, Bool.not_true, Bool.not_false, Bool.true_and, Bool.false_and, Bool.and_true, Bool.and_false, if_true, if_false, Bool.false_eq_true, reduceIte, List.not_mem_nil, List.mem_cons, or_false, false_or, not_false_eq_true, not_true_eq_false, and_true, and_false, and_self, true_and, Nat.reduceLT, Nat.reduceAdd, Nat.zero_add, Nat.lt_add_one, Nat.reduceEqDiff, Nat.lt_add_left_iff_pos, Nat.zero_lt_succ, Nat.zero_lt_one, Nat.succ_ne_self, reduceCtorEq, Nat.zero_ne_one, Nat.one_ne_zero, decide_true, decide_false, beq_self_eq_true, Int.reduceBEq, Int.reduceLT, Int.reduceLE, Int.reduceAdd, Int.reduceSub, Int.reduceNeg, T.e, walkD, lcL, holes, backs, onlyV, h1, T.sz]
      simp
    | w x t u =>
      have h1 := ih t (by simp only [T.sz]; omega)
      have h2 := ih u (by simp only [T.sz]; omega)
      simp only [evSs_cons, evSs_nil, evS, ev, evB, evF, evA, evP, evM, evI, evO, rb_ok, rb_ex, ro_ok, ro_ex, rn_ok, op_so, td_v, td_l, td_ex, ts_b, ts_l, ts_t, ts_i, Z.pk_nil, pk_v, pk_l, pk_i, ih_v, ih_l, ih_d, fz_v, fz_l, sq_nx, sq_rt, sq_ex, rs_rt, rs_nx, rs_ex, of_so, st_def, st_tup, st_lst, cb_ok, cb_ex, fin_ok, fin_ex, p_isi, p_lenT, p_lenL, p_int, p_intB, p_abs, p_add, p_sub, p_neg, p_lt, p_gt, p_le, p_ge, p_max, p_min, p_isN, p_notN, p_tupL, p_tupT, p_lstL, p_lstT, p_rev, ix0L, ix0T, ix1L, ix1T, ix2L, ix2T, pu0, pu1, pu2, ft0, ft1, ft2, ft3, ft4, fl0, fl1, fl2, fl3, fl4, fl5, fl6, fl7, fl8, fl9, fl10, fl11, ca_rt, ca_nx, io_i, ap_S, il_l, p_addS, p_addU, Nat.reduceLeDiff, sl_L, Int.natCast_zero, Int.natCast_one, Int.cast_ofNat_Int, sm0, sm1, sm2, p_eqI, p_neI, p_eqB, p_neB, p_eqS, p_neS, Option.map_some, Option.bind_some, slot, setS, setTs, isOw, Z.fill, unfill, owV, outs, outsA, List.getD_cons_zero, List.getD_cons_succ, List.set_cons_zero, List.set_cons_succ, List.length_cons, List.length_nil, List.any_cons, List.any_nil, List.append_nil, List.nil_append, List.cons_append, List.map_cons, List.map_nil, isTy, Bool.or_false, Bool.or_true, Bool.false_or, Bool.true_or, Bool.not_true, Bool.not_false, Bool.true_and, Bool.false_and, Bool.and_true, Bool.and_false, if_true, if_false, Bool.false_eq_true, reduceIte, List.not_mem_nil, List.mem_cons, or_false, false_or, not_false_eq_true, not_true_eq_false, and_true, and_false, and_self, true_and, Nat.reduceLT, Nat.reduceAdd, Nat.zero_add, Nat.lt_add_one, Nat.reduceEqDiff, Nat.lt_add_left_iff_pos, Nat.zero_lt_succ, Nat.zero_lt_one, Nat.succ_ne_self, reduceCtorEq, Nat.zero_ne_one, Nat.one_ne_zero, decide_true, decide_false, beq_self_eq_true, Int.reduceBEq, Int.reduceLT, Int.reduceLE, Int.reduceAdd, Int.reduceSub, Int.reduceNeg, T.e, walkD, lcL, holes, backs, onlyV, h1, h2, T.sz]
      simp
theorem c12 : ∀ (n : Nat) (t : T), t.sz + 1 ≤ n → callN pg n 12 [.v t.e] = .ok (.v t.k) [.hole]
  | 0, t, h => by omega
  | n + 1, t, h => by
    have ih : ∀ u : T, u.sz < t.sz → callN pg n 12 [.v u.e] = .ok (.v u.k) [.hole] := fun u hu => c12 n u (by omega)
    have h0 := c11 n t (by omega)
    rw [callN_of [.v t.e, .hole] b12 [] 1 (d := f12) rfl]
    unfold b12
    cases t with
    | z x =>
      simp only [T.e] at h0
      simp only [evSs_cons, evSs_nil, evS, ev, evB, evF, evA, evP, evM, evI, evO, rb_ok, rb_ex, ro_ok, ro_ex, rn_ok, op_so, td_v, td_l, td_ex, ts_b, ts_l, ts_t, ts_i, Z.pk_nil, pk_v, pk_l, pk_i, ih_v, ih_l, ih_d, fz_v, fz_l, sq_nx, sq_rt, sq_ex, rs_rt, rs_nx, rs_ex, of_so, st_def, st_tup, st_lst, cb_ok, cb_ex, fin_ok, fin_ex, p_isi, p_lenT, p_lenL, p_int, p_intB, p_abs, p_add, p_sub, p_neg, p_lt, p_gt, p_le, p_ge, p_max, p_min, p_isN, p_notN, p_tupL, p_tupT, p_lstL, p_lstT, p_rev, ix0L, ix0T, ix1L, ix1T, ix2L, ix2T, pu0, pu1, pu2, ft0, ft1, ft2, ft3, ft4, fl0, fl1, fl2, fl3, fl4, fl5, fl6, fl7, fl8, fl9, fl10, fl11, ca_rt, ca_nx, io_i, ap_S, il_l, p_addS, p_addU, Nat.reduceLeDiff, sl_L, Int.natCast_zero, Int.natCast_one, Int.cast_ofNat_Int, sm0, sm1, sm2, p_eqI, p_neI, p_eqB, p_neB, p_eqS, p_neS, Option.map_some, Option.bind_some, slot, setS, setTs, isOw, Z.fill, unfill, owV, outs, outsA, List.getD_cons_zero, List.getD_cons_succ, List.set_cons_zero, List.set_cons_succ, List.length_cons, List.length_nil, List.any_cons, List.any_nil, List.append_nil, List.nil_append, List.cons_append, List.map_cons, List.map_nil, isTy, Bool.or_false, Bool.or_true, Bool.false_or, Bool.true_or, Bool.not_true, Bool.not_false, Bool.true_and, Bool.false_and, Bool.and_true, Bool.and_false, if_true, if_false, Bool.false_eq_true, reduceIte, List.not_mem_nil, List.mem_cons, or_false, false_or, not_false_eq_true, not_true_eq_false, and_true, and_false, and_self, true_and, Nat.reduceLT, Nat.reduceAdd, Nat.zero_add, Nat.lt_add_one, Nat.reduceEqDiff, Nat.lt_add_left_iff_pos, Nat.zero_lt_succ, Nat.zero_lt_one, Nat.succ_ne_self, reduceCtorEq, Nat.zero_ne_one, Nat.one_ne_zero, decide_true, decide_false, beq_self_eq_true, Int.reduceBEq, Int.reduceLT, Int.reduceLE, Int.reduceAdd, Int.reduceSub, Int.reduceNeg, T.e, h0, walkD, lcL, holes, backs, onlyV, T.k, T.sz]
      try rfl
    | o x t =>
      have h1 := ih t (by simp only [T.sz]; omega)
      simp only [T.e] at h0
      simp only [evSs_cons, evSs_nil, evS, ev, evB, evF, evA, evP, evM, evI, evO, rb_ok, rb_ex, ro_ok, ro_ex, rn_ok, op_so, td_v, td_l, td_ex, ts_b, ts_l, ts_t, ts_i, Z.pk_nil, pk_v, pk_l, pk_i, ih_v, ih_l, ih_d, fz_v, fz_l, sq_nx, sq_rt, sq_ex, rs_rt, rs_nx, rs_ex, of_so, st_def, st_tup, st_lst, cb_ok, cb_ex, fin_ok, fin_ex, p_isi, p_lenT, p_lenL, p_int, p_intB, p_abs, p_add, p_sub, p_neg, p_lt, p_gt, p_le, p_ge, p_max, p_min, p_isN, p_notN, p_tupL, p_tupT, p_lstL, p_lstT, p_rev, ix0L, ix0T, ix1L, ix1T, ix2L, ix2T, pu0, pu1, pu2, ft0, ft1, ft2, ft3, ft4, fl0, fl1, fl2, fl3, fl4, fl5, fl6, fl7, fl8, fl9, fl10, fl11, ca_rt, ca_nx, io_i, ap_S, il_l, p_addS, p_addU, Nat.reduceLeDiff, sl_L, Int.natCast_zero, Int.natCast_one, Int.cast_ofNat_Int, sm0, sm1, sm2, p_eqI, p_neI, p_eqB, p_neB, p_eqS, p_neS, Option.map_some, Option.bind_some, slot, setS, setTs, isOw, Z.fill, unfill, owV, outs, outsA, List.getD_cons_zero, List.getD_cons_succ, List.set_cons_zero, List.set_cons_succ, List.length_cons, List.length_nil, List.any_cons, List.any_nil, List.append_nil, List.nil_append, List.cons_append, List.map_cons, List.map_nil, isTy, Bool.or_false, Bool.or_true, Bool.false_or, Bool.true_or, Bool.not_true, Bool.not_false, Bool.true_and, Bool.false_and, Bool.and_true, Bool.and_false, if_true, if_false, Bool.false_eq_true, reduceIte, List.not_mem_nil, List.mem_cons, or_false, false_or, not_false_eq_true, not_true_eq_false, and_true, and_false, and_self, true_and, Nat.reduceLT, Nat.reduceAdd, Nat.zero_add, Nat.lt_add_one, Nat.reduceEqDiff, Nat.lt_add_left_iff_pos, Nat.zero_lt_succ, Nat.zero_lt_one, Nat.succ_ne_self, reduceCtorEq, Nat.zero_ne_one, Nat.one_ne_zero, decide_true, decide_false, beq_self_eq_true, Int.reduceBEq, Int.reduceLT, Int.reduceLE, Int.reduceAdd, Int.reduceSub, Int.reduceNeg, T.e, h0, walkD, lcL, holes, backs, onlyV, h1, T.k]
    | w x t u =>
      have h1 := ih t (by simp only [T.sz]; omega)
      have h2 := ih u (by simp only [T.sz]; omega)
      simp only [T.e] at h0
      simp only [evSs_cons, evSs_nil, evS, ev, evB, evF, evA, evP, evM, evI, evO, rb_ok, rb_ex, ro_ok, ro_ex, rn_ok, op_so, td_v, td_l, td_ex, ts_b, ts_l, ts_t, ts_i, Z.pk_nil, pk_v, pk_l, pk_i, ih_v, ih_l, ih_d, fz_v, fz_l, sq_nx, sq_rt, sq_ex, rs_rt, rs_nx, rs_ex, of_so, st_def, st_tup, st_lst, cb_ok, cb_ex, fin_ok, fin_ex, p_isi, p_lenT, p_lenL, p_int, p_intB, p_abs, p_add, p_sub, p_neg, p_lt, p_gt, p_le, p_ge, p_max, p_min, p_isN, p_notN, p_tupL, p_tupT, p_lstL, p_lstT, p_rev, ix0L, ix0T, ix1L, ix1T, ix2L, ix2T, pu0, pu1, pu2, ft0, ft1, ft2, ft3, ft4, fl0, fl1, fl2, fl3, fl4, fl5, fl6, fl7, fl8, fl9, fl10, fl11, ca_rt, ca_nx, io_i, ap_S, il_l, p_addS, p_addU, Nat.reduceLeDiff, sl_L, Int.natCast_zero, Int.natCast_one, Int.cast_ofNat_Int, sm0, sm1, sm2, p_eqI, p_neI, p_eqB, p_neB, p_eqS, p_neS, Option.map_some, Option.bind_some, slot, setS, setTs, isOw, Z.fill, unfill, owV, outs, outsA, List.getD_cons_zero, List.getD_cons_succ, List.set_cons_zero, List.set_cons_succ, List.length_cons, List.length_nil, List.any_cons, List.any_nil, List.append_nil, List.nil_append, List.cons_append, List.map_cons, List.map_nil, isTy, Bool.or_false, Bool.or_true, Bool.false_or, Bool.true_or, Bool.not_true, Bool.not_false, Bool.true_and, Bool.false_and, Bool.and_true, Bool.and_false, if_true, if_false, Bool.false_eq_true, reduceIte, List.not_mem_nil, List.mem_cons, or_false, false_or, not_false_eq_true, not_true_eq_false, and_true, and_false, and_self, true_and, Nat.reduceLT, Nat.reduceAdd, Nat.zero_add, Nat.lt_add_one, Nat.reduceEqDiff, Nat.lt_add_left_iff_pos, Nat.zero_lt_succ, Nat.zero_lt_one, Nat.succ_ne_self, reduceCtorEq, Nat.zero_ne_one, Nat.one_ne_zero, decide_true, decide_false, beq_self_eq_true, Int.reduceBEq, Int.reduceLT, Int.reduceLE, Int.reduceAdd, Int.reduceSub, Int.reduceNeg, T.e, h0, walkD, lcL, holes, backs, onlyV, h1, h2, T.k]
/-- the first part of a key -/
theorem k_cons (t : T) : ∃ r, t.k = .tuple (.int t.sz :: r) := by cases t <;> exact ⟨_, rfl⟩
theorem c27 : ∀ (n : Nat) (t : T), t.sz ≤ n → callN pg n 27 [.v t.e] = .ok (.v t.k) [.hole]
  | 0, t, h => by have := sz_pos t; omega
  | n + 1, t, h => by
    have ih : ∀ u : T, u.sz < t.sz → callN pg n 27 [.v u.e] = .ok (.v u.k) [.hole] := fun u hu => c27 n u (by omega)
    rw [callN_of [.v t.e, .hole, .hole, .hole] b27 [] 1 (d := f27) rfl]
    unfold b27
    cases t with
    | z x =>
      simp only [evSs_cons, evSs_nil, evS, ev, evB, evF, evA, evP, evM, evI, evO, rb_ok, rb_ex, ro_ok, ro_ex, rn_ok, op_so, td_v, td_l, td_ex, ts_b, ts_l, ts_t, ts_i, Z.pk_nil, pk_v, pk_l, pk_i, ih_v, ih_l, ih_d, fz_v, fz_l, sq_nx, sq_rt, sq_ex, rs_rt, rs_nx, rs_ex, of_so, st_def, st_tup, st_lst, cb_ok, cb_ex, fin_ok, fin_ex, p_isi, p_lenT, p_lenL, p_int, p_intB, p_abs, p_add, p_sub, p_neg, p_lt, p_gt, p_le, p_ge, p_max, p_min, p_isN, p_notN, p_tupL, p_tupT, p_lstL, p_lstT, p_rev, ix0L, ix0T, ix1L, ix1T, ix2L, ix2T, pu0, pu1, pu2, ft0, ft1, ft2, ft3, ft4, fl0, fl1, fl2, fl3, fl4, fl5, fl6, fl7, fl8, fl9, fl10, fl11, ca_rt, ca_nx, io_i, ap_S, il_l, p_addS, p_addU, Nat.reduceLeDiff, sl_L, Int.natCast_zero, Int.natCast_one, Int.cast_ofNat_Int, sm0, sm1, sm2, p_eqI, p_neI, p_eqB, p_neB, p_eqS, p_neS, Option.map_some, Option.bind_some, slot, setS, setTs, isOw, Z.fill, unfill, owV, outs, outsA, List.getD_cons_zero, List.getD_cons_succ, List.set_cons_zero, List.set_cons_succ, List.length_cons, List.length_nil, List.any_cons, List.any_nil, List.append_nil, List.nil_append, List.cons_append, List.map_cons, List.map_nil, isTy, Bool.or_false, Bool.or_true, Bool.false_or, Bool.true_or, Bool.not_true, Bool.not_false, Bool.true_and, Bool.false_and, Bool.and_true, Bool.and_false, if_true, if_false, Bool.false_eq_true, reduceIte, List.not_mem_nil, List.mem_cons, or_false, false_or, not_false_eq_true, not_true_eq_false, and_true, and_false, and_self, true_and, Nat.reduceLT, Nat.reduceAdd, Nat.zero_add, Nat.lt_add_one, Nat.reduceEqDiff, Nat.lt_add_left_iff_pos, Nat.zero_lt_succ, Nat.zero_lt_one, Nat.succ_ne_self, reduceCtorEq, Nat.zero_ne_one, Nat.one_ne_zero, decide_true, decide_false, beq_self_eq_true, Int.reduceBEq, Int.reduceLT, Int.reduceLE, Int.reduceAdd, Int.reduceSub, Int.reduceNeg, T.e, walkD, lcL, holes, backs, onlyV, T.k, T.sz]
      try rfl
    | o x t =>
      have h1 := ih t (by simp only [T.sz]; omega)
      obtain ⟨r, e⟩ := k_cons t
      simp only [evSs_cons, evSs_nil, evS, ev, evB, evF, evA, evP, evM, evI, evO, rb_ok, rb_ex, ro_ok, ro_ex, rn_ok, op_so, td_v, td_l, td_ex, ts_b, ts_l, ts_t, ts_i, Z.pk_nil, pk_v, pk_l, pk_i, ih_v, ih_l, ih_d, fz_v, fz_l, sq_nx, sq_rt, sq_ex, rs_rt, rs_nx, rs_ex, of_so, st_def, st_tup, st_lst, cb_ok, cb_ex, fin_ok, fin_ex, p_isi, p_lenT, p_lenL, p_int, p_intB, p_abs, p_add, p_sub, p_neg, p_lt, p_gt, p_le, p_ge, p_max, p_min, p_isN, p_notN, p_tupL, p_tupT, p_lstL, p_lstT, p_rev, ix0L, ix0T, ix1L, ix1T, ix2L, ix2T, pu0, pu1, pu2, ft0, ft1, ft2, ft3, ft4, fl0, fl1, fl2, fl3, fl4, fl5, fl6, fl7, fl8, fl9, fl10, fl11, ca_rt, ca_nx, io_i, ap_S, il_l, p_addS, p_addU, Nat.reduceLeDiff, sl_L, Int.natCast_zero, Int.natCast_one, Int.cast_ofNat_Int, sm0, sm1, sm2, p_eqI, p_neI, p_eqB, p_neB, p_eqS, p_neS, Option.map_some, Option.bind_some, slot, setS, setTs, isOw, Z.fill, unfill, owV, outs, outsA, List.getD_cons_zero, List.getD_cons_succ, List.set_cons_zero, List.set_cons_succ, List.length_cons, List.length_nil, List.any_cons, List.any_nil, List.append_nil, List.nil_append, List.cons_append, List.map_cons, List.map_nil, isTy, Bool.or_false, Bool.or_true, Bool.false_or, Bool.true_or, Bool.not_true, Bool.not_false, Bool.true_and, Bool.false_and, Bool.and_true, Bool.and_false, if_true, if_false, Bool.false_eq_true, reduceIte, List.not_mem_nil, List.mem_cons, or_false, false_or, not_false_eq_true, not_true_eq_false, and_true, and_false, and_self, true_and, Nat.reduceLT, Nat.reduceAdd, Nat.zero_add, Nat.lt_add_one, Nat.reduceEqDiff, Nat.lt_add_left_iff_pos, Nat.zero_lt_succ, Nat.zero_lt_one, Nat.succ_ne_self, reduceCtorEq, Nat.zero_ne_one, Nat.one_ne_zero, decide_true, decide_false, beq_self_eq_true, Int.reduceBEq, Int.reduceLT, Int.reduceLE, Int.reduceAdd, Int.reduceSub, Int.reduceNeg, T.e, walkD, lcL, holes, backs, onlyV, h1, T.k, e, T.sz]
      simp
    | w x t u =>
      have h1 := ih t (by simp only [T.sz]; omega)
      have h2 := ih u (by simp only [T.sz]; omega)
      obtain ⟨r, e⟩ := k_cons t
      obtain ⟨r', e'⟩ := k_cons u
      simp only [evSs_cons, evSs_nil, evS, ev, evB, evF, evA, evP, evM, evI, evO, rb_ok, rb_ex, ro_ok, ro_ex, rn_ok, op_so, td_v, td_l, td_ex, ts_b, ts_l, ts_t, ts_i, Z.pk_nil, pk_v, pk_l, pk_i, ih_v, ih_l, ih_d, fz_v, fz_l, sq_nx, sq_rt, sq_ex, rs_rt, rs_nx, rs_ex, of_so, st_def, st_tup, st_lst, cb_ok, cb_ex, fin_ok, fin_ex, p_isi, p_lenT, p_lenL, p_int, p_intB, p_abs, p_add, p_sub, p_neg, p_lt, p_gt, p_le, p_ge, p_max, p_min, p_isN, p_notN, p_tupL, p_tupT, p_lstL, p_lstT, p_rev, ix0L, ix0T, ix1L, ix1T, ix2L, ix2T, pu0, pu1, pu2, ft0, ft1, ft2, ft3, ft4, fl0, fl1, fl2, fl3, fl4, fl5, fl6, fl7, fl8, fl9, fl10, fl11, ca_rt, ca_nx, io_i, ap_S, il_l, p_addS, p_addU, Nat.reduceLeDiff, sl_L, Int.natCast_zero, Int.natCast_one, Int.cast_ofNat_Int, sm0, sm1, sm2, p_eqI, p_neI, p_eqB, p_neB, p_eqS, p_neS, Option.map_some, Option.bind_some, slot, setS, setTs, isOw, Z.fill, unfill, owV, outs, outsA, List.getD_cons_zero, List.getD_cons_succ, List.set_cons_zero, List.set_cons_succ, List.length_cons, List.length_nil, List.any_cons, List.any_nil, List.append_nil, List.nil_append, List.cons_append, List.map_cons, List.map_nil, isTy, Bool.or_false, Bool.or_true, Bool.false_or, Bool.true_or, Bool.not_true, Bool.not_false, Bool.true_and, Bool.false_and, Bool.and_true, Bool.and_false, if_true, if_false, Bool.false_eq_true, reduceIte, List.not_mem_nil, List.mem_cons, or_false, false_or, not_false_eq_true, not_true_eq_false, and_true, and_false, and_self, true_and, Nat.reduceLT, Nat.reduceAdd, Nat.zero_add, Nat.lt_add_one, Nat.reduceEqDiff, Nat.lt_add_left_iff_pos, Nat.zero_lt_succ, Nat.zero_lt_one, Nat.succ_ne_self, reduceCtorEq, Nat.zero_ne_one, Nat.one_ne_zero, decide_true, decide_false, beq_self_eq_true, Int.reduceBEq, Int.reduceLT, Int.reduceLE, Int.reduceAdd, Int.reduceSub, Int.reduceNeg, T.e, walkD, lcL, holes, backs, onlyV, h1, h2, T.k, e, e', T.sz]
      simp

/-! ### sorted by key -/
mutual
theorem alike_k : ∀ t u : T, W.alike t.k u.k = true
  | .z _, .z _ | .z _, .o _ _ | .z _, .w _ _ _ | .o _ _, .z _ | .w _ _ _, .z _ => by simp [T.k, W.alike, W.alikeAll]
  | .o _ t, .o _ u => by simp [T.k, W.alike, W.alikeAll, alike_k t u]
  | .o _ t, .w _ u _ => by simp [T.k, W.alike, W.alikeAll, alike_k t u]
  | .w _ t _, .o _ u => by simp [T.k, W.alike, W.alikeAll, alike_k t u]
  | .w _ t t', .w _ u u' => by simp [T.k, W.alike, W.alikeAll, alike_k t u, alike_k t' u']
end
theorem depth_k : ∀ t : T, t.k.depth ≤ 2 * t.sz + 2
  | .z _ => by simp [T.k, PyData.depth, PyData.depthAll, T.sz]
  | .o _ t => by have := depth_k t; simp [T.k, PyData.depth, PyData.depthAll, T.sz]; omega
  | .w _ t u => by have := depth_k t; have := depth_k u; simp [T.k, PyData.depth, PyData.depthAll, T.sz]; omega
theorem tup1_k (t : T) : isTup1 t.k = true := by cases t <;> rfl
theorem sortOk2 {t u : T} (ht : t.sz ≤ 20) (hu : u.sz ≤ 20) : sortOk [t.k, u.k] = true := by
  have h1 := depth_k t
  have h2 := depth_k u
  simp [sortOk, pairAlike, alikeTo, alike_k, tup1_k]
  omega
theorem sort2 (t u : T) : ((([t.e, u.e].zip [t.k, u.k]).mergeSort (W.dataLe false (·.2))).map (·.1)) = if le t u then [t.e, u.e] else [u.e, t.e] := by
  have q : W.dataLe false (fun p : D × D => p.2) (t.e, t.k) (u.e, u.k) = le t u := rfl
  simp [List.mergeSort, List.MergeSort.Internal.splitInTwo, List.merge, q]
  cases le t u <;> simp
/-! ### is_term -/
theorem eq_l0 {j : Int} : prF .eq [.list [], .list [.int j]] = some (.v (.bool false)) := by rw [p_eq (by rfl)]; simp only [PyData.eqv, PyData.eqvAll]
theorem eq_l1 {i j : Int} : prF .eq [.list [.int i], .list [.int j]] = some (.v (.bool (i == j))) := by rw [p_eq (by rfl)]; simp only [PyData.eqv, PyData.eqvAll, Bool.and_true]
theorem eq_b1 {i j : Bool} : prF .eq [.list [.bool i], .list [.bool j]] = some (.v (.bool (i == j))) := by rw [p_eq (by rfl)]; simp only [PyData.eqv, PyData.eqvAll, Bool.and_true]
theorem al0 : prF .all [.list []] = some (.v (.bool true)) := rfl
theorem al1 {a : Bool} : prF .all [.list [.bool a]] = some (.v (.bool a)) := by rw [p_all (bs := [a]) rfl]; simp
theorem al2 {a b : Bool} : prF .all [.list [.bool a, .bool b]] = some (.v (.bool (a && b))) := by rw [p_all (bs := [a, b]) rfl]; simp
theorem lk1 (N : List Nm) (x : Str) : (N.map fun e => if (e.1 == x) = true then [PyData.int e.2.1] else []).flatten = (look N x).map fun e => .int e.2.1 := flat_if (fun e : Nm => e.1 == x) (fun e => .int e.2.1) N
theorem lk2 (N : List Nm) (x : Str) : (N.map fun e => if (e.1 == x) = true then [PyData.bool e.2.2] else []).flatten = (look N x).map fun e => .bool e.2.2 := flat_if (fun e : Nm => e.1 == x) (fun e => .bool e.2.2) N
/-- is_term of a row of a name and parts: what the names tell, then the parts -/
theorem c10_row {N : List Nm} {n : Nat} {x : Str} {ps : List D} : callN pg (n + 2) 10 [.v (eNs N), .v (.tuple [.str x, .tuple ps])] =
    (evSs ⟨callN pg (n + 1), pg.glob, [], pg.fuel, pg.exm⟩ (.cons (.ret (.and_ (.pr .eq (.cons (.var 2) (.cons (.lst (.cons (.pr .len (.cons (.pr .idx (.cons (.var 1) (.cons (.cst (.int 1)) .nil))) .nil)) .nil)) .nil))) (.pr .all (.cons (.lc [4] (.v 4) (.e (.pr .idx (.cons (.var 1) (.cons (.cst (.int 1)) .nil)))) .no (.call 10 (.cons (.var 0) (.cons (.var 4) .nil)) [])) .nil)))) .nil)
      [.v (eNs N), .v (.tuple [.str x, .tuple ps]), .lst ((look N x).map fun e => .int e.2.1), .hole, .hole]).res [] 2 := by
  rw [callN_of [.v (eNs N), .v (.tuple [.str x, .tuple ps]), .hole, .hole, .hole] b10 [] 2 (d := f10) rfl]
  unfold b10
  rw [evSs_cons, evS]
  have h1 : ev ⟨callN pg (n + 1), pg.glob, [], pg.fuel, pg.exm⟩ (.or_ (.not (.call 3 (.cons (.var 1) (.cons (.glb "PAIR") .nil)) [])) (.or_ (.not (.pr (.isi [.str]) (.cons (.pr .idx (.cons (.var 1) (.cons (.cst (.int 0)) .nil))) .nil))) (.not (.pr (.isi [.tuple]) (.cons (.pr .idx (.cons (.var 1) (.cons (.cst (.int 1)) .nil))) .nil))))) [.v (eNs N), .v (.tuple [.str x, .tuple ps]), .hole, .hole, .hole] = .ok (.v (.bool false), [.v (eNs N), .v (.tuple [.str x, .tuple ps]), .hole, .hole, .hole]) := by
    simp only [evSs_cons, evSs_nil, evS, ev, evB, evF, evA, evP, evM, evI, evO, rb_ok, rb_ex, ro_ok, ro_ex, rn_ok, op_so, td_v, td_l, td_ex, ts_b, ts_l, ts_t, ts_i, Z.pk_nil, pk_v, pk_l, pk_i, ih_v, ih_l, ih_d, fz_v, fz_l, sq_nx, sq_rt, sq_ex, rs_rt, rs_nx, rs_ex, of_so, st_def, st_tup, st_lst, cb_ok, cb_ex, fin_ok, fin_ex, p_isi, p_lenT, p_lenL, p_int, p_intB, p_abs, p_add, p_sub, p_neg, p_lt, p_gt, p_le, p_ge, p_max, p_min, p_isN, p_notN, p_tupL, p_tupT, p_lstL, p_lstT, p_rev, ix0L, ix0T, ix1L, ix1T, ix2L, ix2T, pu0, pu1, pu2, ft0, ft1, ft2, ft3, ft4, fl0, fl1, fl2, fl3, fl4, fl5, fl6, fl7, fl8, fl9, fl10, fl11, ca_rt, ca_nx, io_i, ap_S, il_l, p_addS, p_addU, Nat.reduceLeDiff, sl_L, Int.natCast_zero, Int.natCast_one, Int.cast_ofNat_Int, sm0, sm1, sm2, p_eqI, p_neI, p_eqB, p_neB, p_eqS, p_neS, Option.map_some, Option.bind_some, slot, setS, setTs, isOw, Z.fill, unfill, owV, outs, outsA, List.getD_cons_zero, List.getD_cons_succ, List.set_cons_zero, List.set_cons_succ, List.length_cons, List.length_nil, List.any_cons, List.any_nil, List.append_nil, List.nil_append, List.cons_append, List.map_cons, List.map_nil, isTy, Bool.or_false, Bool.or_true, Bool.false_or, Bool.true_or, Bool.not_true, Bool.not_false, Bool.true_and, Bool.false_and, Bool.and_true, Bool.and_false, if_true, if_false, Bool.false_eq_true, reduceIte, List.not_mem_nil, List.mem_cons, or_false, false_or, not_false_eq_true, not_true_eq_false, and_true, and_false, and_self, true_and, Nat.reduceLT, Nat.reduceAdd, Nat.zero_add, Nat.lt_add_one, Nat.reduceEqDiff, Nat.lt_add_left_iff_pos, Nat.zero_lt_succ, Nat.zero_lt_one, Nat.succ_ne_self, reduceCtorEq, Nat.zero_ne_one, Nat.one_ne_zero, decide_true, decide_false, beq_self_eq_true, Int.reduceBEq, Int.reduceLT, Int.reduceLE, Int.reduceAdd, Int.reduceSub, Int.reduceNeg, c3_2, g_pair]
  rw [h1]
  simp only [evSs_cons, evSs_nil, evS, ev, evB, evF, evA, evP, evM, evI, evO, rb_ok, rb_ex, ro_ok, ro_ex, rn_ok, op_so, td_v, td_l, td_ex, ts_b, ts_l, ts_t, ts_i, Z.pk_nil, pk_v, pk_l, pk_i, ih_v, ih_l, ih_d, fz_v, fz_l, sq_nx, sq_rt, sq_ex, rs_rt, rs_nx, rs_ex, of_so, st_def, st_tup, st_lst, cb_ok, cb_ex, fin_ok, fin_ex, p_isi, p_lenT, p_lenL, p_int, p_intB, p_abs, p_add, p_sub, p_neg, p_lt, p_gt, p_le, p_ge, p_max, p_min, p_isN, p_notN, p_tupL, p_tupT, p_lstL, p_lstT, p_rev, ix0L, ix0T, ix1L, ix1T, ix2L, ix2T, pu0, pu1, pu2, ft0, ft1, ft2, ft3, ft4, fl0, fl1, fl2, fl3, fl4, fl5, fl6, fl7, fl8, fl9, fl10, fl11, ca_rt, ca_nx, io_i, ap_S, il_l, p_addS, p_addU, Nat.reduceLeDiff, sl_L, Int.natCast_zero, Int.natCast_one, Int.cast_ofNat_Int, sm0, sm1, sm2, p_eqI, p_neI, p_eqB, p_neB, p_eqS, p_neS, Option.map_some, Option.bind_some, slot, setS, setTs, isOw, Z.fill, unfill, owV, outs, outsA, List.getD_cons_zero, List.getD_cons_succ, List.set_cons_zero, List.set_cons_succ, List.length_cons, List.length_nil, List.any_cons, List.any_nil, List.append_nil, List.nil_append, List.cons_append, List.map_cons, List.map_nil, isTy, Bool.or_false, Bool.or_true, Bool.false_or, Bool.true_or, Bool.not_true, Bool.not_false, Bool.true_and, Bool.false_and, Bool.and_true, Bool.and_false, if_true, if_false, Bool.false_eq_true, reduceIte, List.not_mem_nil, List.mem_cons, or_false, false_or, not_false_eq_true, not_true_eq_false, and_true, and_false, and_self, true_and, Nat.reduceLT, Nat.reduceAdd, Nat.zero_add, Nat.lt_add_one, Nat.reduceEqDiff, Nat.lt_add_left_iff_pos, Nat.zero_lt_succ, Nat.zero_lt_one, Nat.succ_ne_self, reduceCtorEq, Nat.zero_ne_one, Nat.one_ne_zero, decide_true, decide_false, beq_self_eq_true, Int.reduceBEq, Int.reduceLT, Int.reduceLE, Int.reduceAdd, Int.reduceSub, Int.reduceNeg]
  unfold eNs
  simp only [evSs_cons, evSs_nil, evS, ev, evB, evF, evA, evP, evM, evI, evO, rb_ok, rb_ex, ro_ok, ro_ex, rn_ok, op_so, td_v, td_l, td_ex, ts_b, ts_l, ts_t, ts_i, Z.pk_nil, pk_v, pk_l, pk_i, ih_v, ih_l, ih_d, fz_v, fz_l, sq_nx, sq_rt, sq_ex, rs_rt, rs_nx, rs_ex, of_so, st_def, st_tup, st_lst, cb_ok, cb_ex, fin_ok, fin_ex, p_isi, p_lenT, p_lenL, p_int, p_intB, p_abs, p_add, p_sub, p_neg, p_lt, p_gt, p_le, p_ge, p_max, p_min, p_isN, p_notN, p_tupL, p_tupT, p_lstL, p_lstT, p_rev, ix0L, ix0T, ix1L, ix1T, ix2L, ix2T, pu0, pu1, pu2, ft0, ft1, ft2, ft3, ft4, fl0, fl1, fl2, fl3, fl4, fl5, fl6, fl7, fl8, fl9, fl10, fl11, ca_rt, ca_nx, io_i, ap_S, il_l, p_addS, p_addU, Nat.reduceLeDiff, sl_L, Int.natCast_zero, Int.natCast_one, Int.cast_ofNat_Int, sm0, sm1, sm2, p_eqI, p_neI, p_eqB, p_neB, p_eqS, p_neS, Option.map_some, Option.bind_some, slot, setS, setTs, isOw, Z.fill, unfill, owV, outs, outsA, List.getD_cons_zero, List.getD_cons_succ, List.set_cons_zero, List.set_cons_succ, List.length_cons, List.length_nil, List.any_cons, List.any_nil, List.append_nil, List.nil_append, List.cons_append, List.map_cons, List.map_nil, isTy, Bool.or_false, Bool.or_true, Bool.false_or, Bool.true_or, Bool.not_true, Bool.not_false, Bool.true_and, Bool.false_and, Bool.and_true, Bool.and_false, if_true, if_false, Bool.false_eq_true, reduceIte, List.not_mem_nil, List.mem_cons, or_false, false_or, not_false_eq_true, not_true_eq_false, and_true, and_false, and_self, true_and, Nat.reduceLT, Nat.reduceAdd, Nat.zero_add, Nat.lt_add_one, Nat.reduceEqDiff, Nat.lt_add_left_iff_pos, Nat.zero_lt_succ, Nat.zero_lt_one, Nat.succ_ne_self, reduceCtorEq, Nat.zero_ne_one, Nat.one_ne_zero, decide_true, decide_false, beq_self_eq_true, Int.reduceBEq, Int.reduceLT, Int.reduceLE, Int.reduceAdd, Int.reduceSub, Int.reduceNeg, walkD]
  rw [lc_rw (fun Γ => ∃ o, Γ = [.v (.tuple (N.map eN)), .v (.tuple [.str x, .tuple ps]), .hole, o, .hole]) (fun e => if (e.1 == x) = true then [PyData.int e.2.1] else []) [.v (.tuple (N.map eN)), .v (.tuple [.str x, .tuple ps]), .hole, .hole, .hole] ?_ ⟨_, rfl⟩ (by rintro _ ⟨o, rfl⟩; rfl)]
  · simp only [evSs_cons, evSs_nil, evS, ev, evB, evF, evA, evP, evM, evI, evO, rb_ok, rb_ex, ro_ok, ro_ex, rn_ok, op_so, td_v, td_l, td_ex, ts_b, ts_l, ts_t, ts_i, Z.pk_nil, pk_v, pk_l, pk_i, ih_v, ih_l, ih_d, fz_v, fz_l, sq_nx, sq_rt, sq_ex, rs_rt, rs_nx, rs_ex, of_so, st_def, st_tup, st_lst, cb_ok, cb_ex, fin_ok, fin_ex, p_isi, p_lenT, p_lenL, p_int, p_intB, p_abs, p_add, p_sub, p_neg, p_lt, p_gt, p_le, p_ge, p_max, p_min, p_isN, p_notN, p_tupL, p_tupT, p_lstL, p_lstT, p_rev, ix0L, ix0T, ix1L, ix1T, ix2L, ix2T, pu0, pu1, pu2, ft0, ft1, ft2, ft3, ft4, fl0, fl1, fl2, fl3, fl4, fl5, fl6, fl7, fl8, fl9, fl10, fl11, ca_rt, ca_nx, io_i, ap_S, il_l, p_addS, p_addU, Nat.reduceLeDiff, sl_L, Int.natCast_zero, Int.natCast_one, Int.cast_ofNat_Int, sm0, sm1, sm2, p_eqI, p_neI, p_eqB, p_neB, p_eqS, p_neS, Option.map_some, Option.bind_some, slot, setS, setTs, isOw, Z.fill, unfill, owV, outs, outsA, List.getD_cons_zero, List.getD_cons_succ, List.set_cons_zero, List.set_cons_succ, List.length_cons, List.length_nil, List.any_cons, List.any_nil, List.append_nil, List.nil_append, List.cons_append, List.map_cons, List.map_nil, isTy, Bool.or_false, Bool.or_true, Bool.false_or, Bool.true_or, Bool.not_true, Bool.not_false, Bool.true_and, Bool.false_and, Bool.and_true, Bool.and_false, if_true, if_false, Bool.false_eq_true, reduceIte, List.not_mem_nil, List.mem_cons, or_false, false_or, not_false_eq_true, not_true_eq_false, and_true, and_false, and_self, true_and, Nat.reduceLT, Nat.reduceAdd, Nat.zero_add, Nat.lt_add_one, Nat.reduceEqDiff, Nat.lt_add_left_iff_pos, Nat.zero_lt_succ, Nat.zero_lt_one, Nat.succ_ne_self, reduceCtorEq, Nat.zero_ne_one, Nat.one_ne_zero, decide_true, decide_false, beq_self_eq_true, Int.reduceBEq, Int.reduceLT, Int.reduceLE, Int.reduceAdd, Int.reduceSub, Int.reduceNeg, lk1]
  · rintro e he _ ⟨o, rfl⟩
    refine ⟨[.v (.tuple (N.map eN)), .v (.tuple [.str x, .tuple ps]), .hole, .v (eN e), .hole], ?_, _, rfl⟩
    unfold eN
    simp only [evSs_cons, evSs_nil, evS, ev, evB, evF, evA, evP, evM, evI, evO, rb_ok, rb_ex, ro_ok, ro_ex, rn_ok, op_so, td_v, td_l, td_ex, ts_b, ts_l, ts_t, ts_i, Z.pk_nil, pk_v, pk_l, pk_i, ih_v, ih_l, ih_d, fz_v, fz_l, sq_nx, sq_rt, sq_ex, rs_rt, rs_nx, rs_ex, of_so, st_def, st_tup, st_lst, cb_ok, cb_ex, fin_ok, fin_ex, p_isi, p_lenT, p_lenL, p_int, p_intB, p_abs, p_add, p_sub, p_neg, p_lt, p_gt, p_le, p_ge, p_max, p_min, p_isN, p_notN, p_tupL, p_tupT, p_lstL, p_lstT, p_rev, ix0L, ix0T, ix1L, ix1T, ix2L, ix2T, pu0, pu1, pu2, ft0, ft1, ft2, ft3, ft4, fl0, fl1, fl2, fl3, fl4, fl5, fl6, fl7, fl8, fl9, fl10, fl11, ca_rt, ca_nx, io_i, ap_S, il_l, p_addS, p_addU, Nat.reduceLeDiff, sl_L, Int.natCast_zero, Int.natCast_one, Int.cast_ofNat_Int, sm0, sm1, sm2, p_eqI, p_neI, p_eqB, p_neB, p_eqS, p_neS, Option.map_some, Option.bind_some, slot, setS, setTs, isOw, Z.fill, unfill, owV, outs, outsA, List.getD_cons_zero, List.getD_cons_succ, List.set_cons_zero, List.set_cons_succ, List.length_cons, List.length_nil, List.any_cons, List.any_nil, List.append_nil, List.nil_append, List.cons_append, List.map_cons, List.map_nil, isTy, Bool.or_false, Bool.or_true, Bool.false_or, Bool.true_or, Bool.not_true, Bool.not_false, Bool.true_and, Bool.false_and, Bool.and_true, Bool.and_false, if_true, if_false, Bool.false_eq_true, reduceIte, List.not_mem_nil, List.mem_cons, or_false, false_or, not_false_eq_true, not_true_eq_false, and_true, and_false, and_self, true_and, Nat.reduceLT, Nat.reduceAdd, Nat.zero_add, Nat.lt_add_one, Nat.reduceEqDiff, Nat.lt_add_left_iff_pos, Nat.zero_lt_succ, Nat.zero_lt_one, Nat.succ_ne_self, reduceCtorEq, Nat.zero_ne_one, Nat.one_ne_zero, decide_true, decide_false, beq_self_eq_true, Int.reduceBEq, Int.reduceLT, Int.reduceLE, Int.reduceAdd, Int.reduceSub, Int.reduceNeg, holes]
    cases e.1 == x <;> rfl
theorem c10 {N : List Nm} : ∀ (n : Nat) (t : T), t.ok N → t.sz + 1 ≤ n → callN pg n 10 [.v (eNs N), .v t.e] = .ok (.v (.bool true)) [.hole, .hole]
  | 0, t, _, h => by omega
  | 1, t, _, h => by have := sz_pos t; omega
  | n + 2, t, hok, h => by
    have ih : ∀ u : T, u.ok N → u.sz < t.sz → callN pg (n + 1) 10 [.v (eNs N), .v u.e] = .ok (.v (.bool true)) [.hole, .hole] := fun u hu hs => c10 (n + 1) u hu (by omega)
    cases t with
    | z x =>
      simp only [T.e]
      rw [c10_row, show look N x = _ from hok]
      simp only [evSs_cons, evSs_nil, evS, ev, evB, evF, evA, evP, evM, evI, evO, rb_ok, rb_ex, ro_ok, ro_ex, rn_ok, op_so, td_v, td_l, td_ex, ts_b, ts_l, ts_t, ts_i, Z.pk_nil, pk_v, pk_l, pk_i, ih_v, ih_l, ih_d, fz_v, fz_l, sq_nx, sq_rt, sq_ex, rs_rt, rs_nx, rs_ex, of_so, st_def, st_tup, st_lst, cb_ok, cb_ex, fin_ok, fin_ex, p_isi, p_lenT, p_lenL, p_int, p_intB, p_abs, p_add, p_sub, p_neg, p_lt, p_gt, p_le, p_ge, p_max, p_min, p_isN, p_notN, p_tupL, p_tupT, p_lstL, p_lstT, p_rev, ix0L, ix0T, ix1L, ix1T, ix2L, ix2T, pu0, pu1, pu2, ft0, ft1, ft2, ft3, ft4, fl0, fl1, fl2, fl3, fl4, fl5, fl6, fl7, fl8, fl9, fl10, fl11, ca_rt, ca_nx, io_i, ap_S, il_l, p_addS, p_addU, Nat.reduceLeDiff, sl_L, Int.natCast_zero, Int.natCast_one, Int.cast_ofNat_Int, sm0, sm1, sm2, p_eqI, p_neI, p_eqB, p_neB, p_eqS, p_neS, Option.map_some, Option.bind_some, slot, setS, setTs, isOw, Z.fill, unfill, owV, outs, outsA, List.getD_cons_zero, List.getD_cons_succ, List.set_cons_zero, List.set_cons_succ, List.length_cons, List.length_nil, List.any_cons, List.any_nil, List.append_nil, List.nil_append, List.cons_append, List.map_cons, List.map_nil, isTy, Bool.or_false, Bool.or_true, Bool.false_or, Bool.true_or, Bool.not_true, Bool.not_false, Bool.true_and, Bool.false_and, Bool.and_true, Bool.and_false, if_true, if_false, Bool.false_eq_true, reduceIte, List.not_mem_nil, List.mem_cons, or_false, false_or, not_false_eq_true, not_true_eq_false, and_true, and_false, and_self, true_and, Nat.reduceLT, Nat.reduceAdd, Nat.zero_add, Nat.lt_add_one, Nat.reduceEqDiff, Nat.lt_add_left_iff_pos, Nat.zero_lt_succ, Nat.zero_lt_one, Nat.succ_ne_self, reduceCtorEq, Nat.zero_ne_one, Nat.one_ne_zero, decide_true, decide_false, beq_self_eq_true, Int.reduceBEq, Int.reduceLT, Int.reduceLE, Int.reduceAdd, Int.reduceSub, Int.reduceNeg, eq_l1, walkD, lcL, holes, backs, onlyV, al0]
      try rfl
    | o x t =>
      have h1 := ih t hok.2 (by simp only [T.sz]; omega)
      simp only [T.e]
      rw [c10_row, show look N x = _ from hok.1]
      simp only [evSs_cons, evSs_nil, evS, ev, evB, evF, evA, evP, evM, evI, evO, rb_ok, rb_ex, ro_ok, ro_ex, rn_ok, op_so, td_v, td_l, td_ex, ts_b, ts_l, ts_t, ts_i, Z.pk_nil, pk_v, pk_l, pk_i, ih_v, ih_l, ih_d, fz_v, fz_l, sq_nx, sq_rt, sq_ex, rs_rt, rs_nx, rs_ex, of_so, st_def, st_tup, st_lst, cb_ok, cb_ex, fin_ok, fin_ex, p_isi, p_lenT, p_lenL, p_int, p_intB, p_abs, p_add, p_sub, p_neg, p_lt, p_gt, p_le, p_ge, p_max, p_min, p_isN, p_notN, p_tupL, p_tupT, p_lstL, p_lstT, p_rev, ix0L, ix0T, ix1L, ix1T, ix2L, ix2T, pu0, pu1, pu2, ft0, ft1, ft2, ft3, ft4, fl0, fl1, fl2, fl3, fl4, fl5, fl6, fl7, fl8, fl9, fl10, fl11, ca_rt, ca_nx, io_i, ap_S, il_l, p_addS, p_addU, Nat.reduceLeDiff, sl_L, Int.natCast_zero, Int.natCast_one, Int.cast_ofNat_Int, sm0, sm1, sm2, p_eqI, p_neI, p_eqB, p_neB, p_eqS, p_neS, Option.map_some, Option.bind_some, slot, setS, setTs, isOw, Z.fill, unfill, owV, outs, outsA, List.getD_cons_zero, List.getD_cons_succ, List.set_cons_zero, List.set_cons_succ, List.length_cons, List.length_nil, List.any_cons, List.any_nil, List.append_nil, List.nil_append, List.cons_append, List.map_cons, List.map_nil, isTy, Bool.or_false, Bool.or_true, Bool.false_or, Bool.true_or, Bool.not_true, Bool.not_false, Bool.true_and, Bool.false_and, Bool.and_true, Bool.and_false, if_true, if_false, Bool.false_eq_true, reduceIte, List.not_mem_nil, List.mem_cons, or_false, false_or, not_false_eq_true, not_true_eq_false, and_true, and_false, and_self, true_and, Nat.reduceLT, Nat.reduceAdd, Nat.zero_add, Nat.lt_add_one, Nat.reduceEqDiff, Nat.lt_add_left_iff_pos, Nat.zero_lt_succ, Nat.zero_lt_one, Nat.succ_ne_self, reduceCtorEq, Nat.zero_ne_one, Nat.one_ne_zero, decide_true, decide_false, beq_self_eq_true, Int.reduceBEq, Int.reduceLT, Int.reduceLE, Int.reduceAdd, Int.reduceSub, Int.reduceNeg, eq_l1, walkD, lcL, holes, backs, onlyV, al1, h1]
      try rfl
    | w x t u =>
      have h1 := ih t hok.2.1 (by simp only [T.sz]; omega)
      have h2 := ih u hok.2.2 (by simp only [T.sz]; omega)
      obtain ⟨s, e⟩ := hok.1
      simp only [T.e]
      rw [c10_row, e]
      simp only [evSs_cons, evSs_nil, evS, ev, evB, evF, evA, evP, evM, evI, evO, rb_ok, rb_ex, ro_ok, ro_ex, rn_ok, op_so, td_v, td_l, td_ex, ts_b, ts_l, ts_t, ts_i, Z.pk_nil, pk_v, pk_l, pk_i, ih_v, ih_l, ih_d, fz_v, fz_l, sq_nx, sq_rt, sq_ex, rs_rt, rs_nx, rs_ex, of_so, st_def, st_tup, st_lst, cb_ok, cb_ex, fin_ok, fin_ex, p_isi, p_lenT, p_lenL, p_int, p_intB, p_abs, p_add, p_sub, p_neg, p_lt, p_gt, p_le, p_ge, p_max, p_min, p_isN, p_notN, p_tupL, p_tupT, p_lstL, p_lstT, p_rev, ix0L, ix0T, ix1L, ix1T, ix2L, ix2T, pu0, pu1, pu2, ft0, ft1, ft2, ft3, ft4, fl0, fl1, fl2, fl3, fl4, fl5, fl6, fl7, fl8, fl9, fl10, fl11, ca_rt, ca_nx, io_i, ap_S, il_l, p_addS, p_addU, Nat.reduceLeDiff, sl_L, Int.natCast_zero, Int.natCast_one, Int.cast_ofNat_Int, sm0, sm1, sm2, p_eqI, p_neI, p_eqB, p_neB, p_eqS, p_neS, Option.map_some, Option.bind_some, slot, setS, setTs, isOw, Z.fill, unfill, owV, outs, outsA, List.getD_cons_zero, List.getD_cons_succ, List.set_cons_zero, List.set_cons_succ, List.length_cons, List.length_nil, List.any_cons, List.any_nil, List.append_nil, List.nil_append, List.cons_append, List.map_cons, List.map_nil, isTy, Bool.or_false, Bool.or_true, Bool.false_or, Bool.true_or, Bool.not_true, Bool.not_false, Bool.true_and, Bool.false_and, Bool.and_true, Bool.and_false, if_true, if_false, Bool.false_eq_true, reduceIte, List.not_mem_nil, List.mem_cons, or_false, false_or, not_false_eq_true, not_true_eq_false, and_true, and_false, and_self, true_and, Nat.reduceLT, Nat.reduceAdd, Nat.zero_add, Nat.lt_add_one, Nat.reduceEqDiff, Nat.lt_add_left_iff_pos, Nat.zero_lt_succ, Nat.zero_lt_one, Nat.succ_ne_self, reduceCtorEq, Nat.zero_ne_one, Nat.one_ne_zero, decide_true, decide_false, beq_self_eq_true, Int.reduceBEq, Int.reduceLT, Int.reduceLE, Int.reduceAdd, Int.reduceSub, Int.reduceNeg, eq_l1, walkD, lcL, holes, backs, onlyV, al2, h1, h2]
      try rfl

/-! ### forms -/
/-- what the dict of names tells -/
def kv (e : Nm) : L2.Key × D := (.inr e.1, .tuple [.int e.2.1, .bool e.2.2])
theorem getK_look (x : Str) (k : Int) (b : Bool) : ∀ N : List Nm, look N x = [(x, k, b)] → getK (N.map kv) (.inr x) = some (.tuple [.int k, .bool b])
  | [], h => by cases h
  | e :: N, h => by
    unfold look at h
    rw [List.filter_cons] at h
    simp only [List.map_cons, kv, getK]
    by_cases q : e.1 = x
    · rw [if_pos (by simp [q])] at h
      have h1 := (List.cons.inj h).1
      subst h1
      simp
    · rw [if_neg (by simpa using q)] at h
      rw [if_neg (by simpa using q)]
      exact getK_look x k b N h
theorem sw_of {N : List Nm} {x : Str} {k : Int} {b : Bool} (h : look N x = [(x, k, b)]) : sw N x = b := by
  unfold sw
  rw [h]
  cases b <;> rfl
theorem tupf {N : List Nm} {x : Str} {t u : T} (d : List D) (h : d = if sw N x && !le (t.f N) (u.f N) then [(u.f N).e, (t.f N).e] else [(t.f N).e, (u.f N).e]) : PyData.tuple [.str x, .tuple d] = ((T.w x t u).f N).e := by
  subst h
  simp only [T.f]
  split <;> rfl
theorem c13 {N : List Nm} : ∀ (n : Nat) (t : T), t.ok N → t.sz + 2 ≤ n → t.sz ≤ 20 → callN pg n 13 [.dic (N.map kv), .v t.e] = .ok (.v (t.f N).e) [.dic (N.map kv), .hole]
  | 0, t, _, h, _ => by omega
  | n + 1, t, hok, h, h20 => by
    have ih : ∀ u : T, u.ok N → u.sz < t.sz → callN pg n 13 [.dic (N.map kv), .v u.e] = .ok (.v (u.f N).e) [.dic (N.map kv), .hole] := fun u hu hs => c13 n u hu (by omega) (by omega)
    have hk : ∀ u : T, u.sz < t.sz → callN pg n 12 [.v (u.f N).e] = .ok (.v (u.f N).k) [.hole] := fun u hs => c12 n _ (by rw [f_sz]; omega)
    rw [callN_of [.dic (N.map kv), .v t.e, .hole, .hole] b13 [0] 2 (d := f13) rfl]
    unfold b13
    cases t with
    | z x =>
      have g := getK_look x 0 false N hok
      simp only [evSs_cons, evSs_nil, evS, ev, evB, evF, evA, evP, evM, evI, evO, rb_ok, rb_ex, ro_ok, ro_ex, rn_ok, op_so, td_v, td_l, td_ex, ts_b, ts_l, ts_t, ts_i, Z.pk_nil, pk_v, pk_l, pk_i, ih_v, ih_l, ih_d, fz_v, fz_l, sq_nx, sq_rt, sq_ex, rs_rt, rs_nx, rs_ex, of_so, st_def, st_tup, st_lst, cb_ok, cb_ex, fin_ok, fin_ex, p_isi, p_lenT, p_lenL, p_int, p_intB, p_abs, p_add, p_sub, p_neg, p_lt, p_gt, p_le, p_ge, p_max, p_min, p_isN, p_notN, p_tupL, p_tupT, p_lstL, p_lstT, p_rev, ix0L, ix0T, ix1L, ix1T, ix2L, ix2T, pu0, pu1, pu2, ft0, ft1, ft2, ft3, ft4, fl0, fl1, fl2, fl3, fl4, fl5, fl6, fl7, fl8, fl9, fl10, fl11, ca_rt, ca_nx, io_i, ap_S, il_l, p_addS, p_addU, Nat.reduceLeDiff, sl_L, Int.natCast_zero, Int.natCast_one, Int.cast_ofNat_Int, sm0, sm1, sm2, p_eqI, p_neI, p_eqB, p_neB, p_eqS, p_neS, Option.map_some, Option.bind_some, slot, setS, setTs, isOw, Z.fill, unfill, owV, outs, outsA, List.getD_cons_zero, List.getD_cons_succ, List.set_cons_zero, List.set_cons_succ, List.length_cons, List.length_nil, List.any_cons, List.any_nil, List.append_nil, List.nil_append, List.cons_append, List.map_cons, List.map_nil, isTy, Bool.or_false, Bool.or_true, Bool.false_or, Bool.true_or, Bool.not_true, Bool.not_false, Bool.true_and, Bool.false_and, Bool.and_true, Bool.and_false, if_true, if_false, Bool.false_eq_true, reduceIte, List.not_mem_nil, List.mem_cons, or_false, false_or, not_false_eq_true, not_true_eq_false, and_true, and_false, and_self, true_and, Nat.reduceLT, Nat.reduceAdd, Nat.zero_add, Nat.lt_add_one, Nat.reduceEqDiff, Nat.lt_add_left_iff_pos, Nat.zero_lt_succ, Nat.zero_lt_one, Nat.succ_ne_self, reduceCtorEq, Nat.zero_ne_one, Nat.one_ne_zero, decide_true, decide_false, beq_self_eq_true, Int.reduceBEq, Int.reduceLT, Int.reduceLE, Int.reduceAdd, Int.reduceSub, Int.reduceNeg, T.e, walkD, lcL, holes, backs, onlyV, dicO, keyD, g]
      try rfl
    | o x t =>
      have g := getK_look x 1 false N hok.1
      have h1 := ih t hok.2 (by simp only [T.sz]; omega)
      simp only [evSs_cons, evSs_nil, evS, ev, evB, evF, evA, evP, evM, evI, evO, rb_ok, rb_ex, ro_ok, ro_ex, rn_ok, op_so, td_v, td_l, td_ex, ts_b, ts_l, ts_t, ts_i, Z.pk_nil, pk_v, pk_l, pk_i, ih_v, ih_l, ih_d, fz_v, fz_l, sq_nx, sq_rt, sq_ex, rs_rt, rs_nx, rs_ex, of_so, st_def, st_tup, st_lst, cb_ok, cb_ex, fin_ok, fin_ex, p_isi, p_lenT, p_lenL, p_int, p_intB, p_abs, p_add, p_sub, p_neg, p_lt, p_gt, p_le, p_ge, p_max, p_min, p_isN, p_notN, p_tupL, p_tupT, p_lstL, p_lstT, p_rev, ix0L, ix0T, ix1L, ix1T, ix2L, ix2T, pu0, pu1, pu2, ft0, ft1, ft2, ft3, ft4, fl0, fl1, fl2, fl3, fl4, fl5, fl6, fl7, fl8, fl9, fl10, fl11, ca_rt, ca_nx, io_i, ap_S, il_l, p_addS, p_addU, Nat.reduceLeDiff, sl_L, Int.natCast_zero, Int.natCast_one, Int.cast_ofNat_Int, sm0, sm1, sm2, p_eqI, p_neI, p_eqB, p_neB, p_eqS, p_neS, Option.map_some, Option.bind_some, slot, setS, setTs, isOw, Z.fill, unfill, owV, outs, outsA, List.getD_cons_zero, List.getD_cons_succ, List.set_cons_zero, List.set_cons_succ, List.length_cons, List.length_nil, List.any_cons, List.any_nil, List.append_nil, List.nil_append, List.cons_append, List.map_cons, List.map_nil, isTy, Bool.or_false, Bool.or_true, Bool.false_or, Bool.true_or, Bool.not_true, Bool.not_false, Bool.true_and, Bool.false_and, Bool.and_true, Bool.and_false, if_true, if_false, Bool.false_eq_true, reduceIte, List.not_mem_nil, List.mem_cons, or_false, false_or, not_false_eq_true, not_true_eq_false, and_true, and_false, and_self, true_and, Nat.reduceLT, Nat.reduceAdd, Nat.zero_add, Nat.lt_add_one, Nat.reduceEqDiff, Nat.lt_add_left_iff_pos, Nat.zero_lt_succ, Nat.zero_lt_one, Nat.succ_ne_self, reduceCtorEq, Nat.zero_ne_one, Nat.one_ne_zero, decide_true, decide_false, beq_self_eq_true, Int.reduceBEq, Int.reduceLT, Int.reduceLE, Int.reduceAdd, Int.reduceSub, Int.reduceNeg, T.e, walkD, lcL, holes, backs, onlyV, dicO, keyD, g, h1]
      try rfl
    | w x t u =>
      obtain ⟨s, e⟩ := hok.1
      have g := getK_look x 2 s N e
      have h1 := ih t hok.2.1 (by simp only [T.sz]; omega)
      have h2 := ih u hok.2.2 (by simp only [T.sz]; omega)
      have k1 := hk t (by simp only [T.sz]; omega)
      have k2 := hk u (by simp only [T.sz]; omega)
      have so : sortOk [(t.f N).k, (u.f N).k] = true := sortOk2 (by rw [f_sz]; simp only [T.sz] at h20; omega) (by rw [f_sz]; simp only [T.sz] at h20; omega)
      cases s with
      | false =>
        simp only [evSs_cons, evSs_nil, evS, ev, evB, evF, evA, evP, evM, evI, evO, rb_ok, rb_ex, ro_ok, ro_ex, rn_ok, op_so, td_v, td_l, td_ex, ts_b, ts_l, ts_t, ts_i, Z.pk_nil, pk_v, pk_l, pk_i, ih_v, ih_l, ih_d, fz_v, fz_l, sq_nx, sq_rt, sq_ex, rs_rt, rs_nx, rs_ex, of_so, st_def, st_tup, st_lst, cb_ok, cb_ex, fin_ok, fin_ex, p_isi, p_lenT, p_lenL, p_int, p_intB, p_abs, p_add, p_sub, p_neg, p_lt, p_gt, p_le, p_ge, p_max, p_min, p_isN, p_notN, p_tupL, p_tupT, p_lstL, p_lstT, p_rev, ix0L, ix0T, ix1L, ix1T, ix2L, ix2T, pu0, pu1, pu2, ft0, ft1, ft2, ft3, ft4, fl0, fl1, fl2, fl3, fl4, fl5, fl6, fl7, fl8, fl9, fl10, fl11, ca_rt, ca_nx, io_i, ap_S, il_l, p_addS, p_addU, Nat.reduceLeDiff, sl_L, Int.natCast_zero, Int.natCast_one, Int.cast_ofNat_Int, sm0, sm1, sm2, p_eqI, p_neI, p_eqB, p_neB, p_eqS, p_neS, Option.map_some, Option.bind_some, slot, setS, setTs, isOw, Z.fill, unfill, owV, outs, outsA, List.getD_cons_zero, List.getD_cons_succ, List.set_cons_zero, List.set_cons_succ, List.length_cons, List.length_nil, List.any_cons, List.any_nil, List.append_nil, List.nil_append, List.cons_append, List.map_cons, List.map_nil, isTy, Bool.or_false, Bool.or_true, Bool.false_or, Bool.true_or, Bool.not_true, Bool.not_false, Bool.true_and, Bool.false_and, Bool.and_true, Bool.and_false, if_true, if_false, Bool.false_eq_true, reduceIte, List.not_mem_nil, List.mem_cons, or_false, false_or, not_false_eq_true, not_true_eq_false, and_true, and_false, and_self, true_and, Nat.reduceLT, Nat.reduceAdd, Nat.zero_add, Nat.lt_add_one, Nat.reduceEqDiff, Nat.lt_add_left_iff_pos, Nat.zero_lt_succ, Nat.zero_lt_one, Nat.succ_ne_self, reduceCtorEq, Nat.zero_ne_one, Nat.one_ne_zero, decide_true, decide_false, beq_self_eq_true, Int.reduceBEq, Int.reduceLT, Int.reduceLE, Int.reduceAdd, Int.reduceSub, Int.reduceNeg, T.e, walkD, lcL, holes, backs, onlyV, dicO, keyD, g, h1, h2, tupf (N := N) (x := x) (t := t) (u := u) [(t.f N).e, (u.f N).e] (by rw [sw_of e]; rfl)]
      | true =>
        simp only [evSs_cons, evSs_nil, evS, ev, evB, evF, evA, evP, evM, evI, evO, rb_ok, rb_ex, ro_ok, ro_ex, rn_ok, op_so, td_v, td_l, td_ex, ts_b, ts_l, ts_t, ts_i, Z.pk_nil, pk_v, pk_l, pk_i, ih_v, ih_l, ih_d, fz_v, fz_l, sq_nx, sq_rt, sq_ex, rs_rt, rs_nx, rs_ex, of_so, st_def, st_tup, st_lst, cb_ok, cb_ex, fin_ok, fin_ex, p_isi, p_lenT, p_lenL, p_int, p_intB, p_abs, p_add, p_sub, p_neg, p_lt, p_gt, p_le, p_ge, p_max, p_min, p_isN, p_notN, p_tupL, p_tupT, p_lstL, p_lstT, p_rev, ix0L, ix0T, ix1L, ix1T, ix2L, ix2T, pu0, pu1, pu2, ft0, ft1, ft2, ft3, ft4, fl0, fl1, fl2, fl3, fl4, fl5, fl6, fl7, fl8, fl9, fl10, fl11, ca_rt, ca_nx, io_i, ap_S, il_l, p_addS, p_addU, Nat.reduceLeDiff, sl_L, Int.natCast_zero, Int.natCast_one, Int.cast_ofNat_Int, sm0, sm1, sm2, p_eqI, p_neI, p_eqB, p_neB, p_eqS, p_neS, Option.map_some, Option.bind_some, slot, setS, setTs, isOw, Z.fill, unfill, owV, outs, outsA, List.getD_cons_zero, List.getD_cons_succ, List.set_cons_zero, List.set_cons_succ, List.length_cons, List.length_nil, List.any_cons, List.any_nil, List.append_nil, List.nil_append, List.cons_append, List.map_cons, List.map_nil, isTy, Bool.or_false, Bool.or_true, Bool.false_or, Bool.true_or, Bool.not_true, Bool.not_false, Bool.true_and, Bool.false_and, Bool.and_true, Bool.and_false, if_true, if_false, Bool.false_eq_true, reduceIte, List.not_mem_nil, List.mem_cons, or_false, false_or, not_false_eq_true, not_true_eq_false, and_true, and_false, and_self, true_and, Nat.reduceLT, Nat.reduceAdd, Nat.zero_add, Nat.lt_add_one, Nat.reduceEqDiff, Nat.lt_add_left_iff_pos, Nat.zero_lt_succ, Nat.zero_lt_one, Nat.succ_ne_self, reduceCtorEq, Nat.zero_ne_one, Nat.one_ne_zero, decide_true, decide_false, beq_self_eq_true, Int.reduceBEq, Int.reduceLT, Int.reduceLE, Int.reduceAdd, Int.reduceSub, Int.reduceNeg, T.e, walkD, lcL, holes, backs, onlyV, dicO, keyD, g, h1, h2, k1, k2, lstO, keysOf, keyR, so, sort2]
        rw [tupf (N := N) _ (by rw [sw_of e]; cases le (t.f N) (u.f N) <;> rfl)]
theorem eq_bs (bs : List Bool) : prF .eq [.list (bs.map .bool), .list [.bool true]] = some (.v (.bool (bs == [true]))) := by
  rw [p_eq (eqok_r (by decide))]
  cases bs with
  | nil => rfl
  | cons b r => cases r with
    | nil => simp [PyData.eqv, PyData.eqvAll]
    | cons c r => simp [PyData.eqv, PyData.eqvAll]
theorem st28 {N : List Nm} {C : Cfg} {x : Str} {ps : List D} {o : O} (hC : C.ro = []) : evS C (b28.nth 1) [.v (eNs N), .v (.tuple [.str x, .tuple ps]), o, .hole, .hole, .hole] = .nx [.v (eNs N), .v (.tuple [.str x, .tuple ps]), o, .v (.bool (sw N x)), .hole, .hole] := by
  unfold b28
  simp only [Ss.nth]
  unfold eNs
  simp only [evSs_cons, evSs_nil, evS, ev, evB, evF, evA, evP, evM, evI, evO, rb_ok, rb_ex, ro_ok, ro_ex, rn_ok, op_so, td_v, td_l, td_ex, ts_b, ts_l, ts_t, ts_i, Z.pk_nil, pk_v, pk_l, pk_i, ih_v, ih_l, ih_d, fz_v, fz_l, sq_nx, sq_rt, sq_ex, rs_rt, rs_nx, rs_ex, of_so, st_def, st_tup, st_lst, cb_ok, cb_ex, fin_ok, fin_ex, p_isi, p_lenT, p_lenL, p_int, p_intB, p_abs, p_add, p_sub, p_neg, p_lt, p_gt, p_le, p_ge, p_max, p_min, p_isN, p_notN, p_tupL, p_tupT, p_lstL, p_lstT, p_rev, ix0L, ix0T, ix1L, ix1T, ix2L, ix2T, pu0, pu1, pu2, ft0, ft1, ft2, ft3, ft4, fl0, fl1, fl2, fl3, fl4, fl5, fl6, fl7, fl8, fl9, fl10, fl11, ca_rt, ca_nx, io_i, ap_S, il_l, p_addS, p_addU, Nat.reduceLeDiff, sl_L, Int.natCast_zero, Int.natCast_one, Int.cast_ofNat_Int, sm0, sm1, sm2, p_eqI, p_neI, p_eqB, p_neB, p_eqS, p_neS, Option.map_some, Option.bind_some, slot, setS, setTs, isOw, Z.fill, unfill, owV, outs, outsA, List.getD_cons_zero, List.getD_cons_succ, List.set_cons_zero, List.set_cons_succ, List.length_cons, List.length_nil, List.any_cons, List.any_nil, List.append_nil, List.nil_append, List.cons_append, List.map_cons, List.map_nil, isTy, Bool.or_false, Bool.or_true, Bool.false_or, Bool.true_or, Bool.not_true, Bool.not_false, Bool.true_and, Bool.false_and, Bool.and_true, Bool.and_false, if_true, if_false, Bool.false_eq_true, reduceIte, List.not_mem_nil, List.mem_cons, or_false, false_or, not_false_eq_true, not_true_eq_false, and_true, and_false, and_self, true_and, Nat.reduceLT, Nat.reduceAdd, Nat.zero_add, Nat.lt_add_one, Nat.reduceEqDiff, Nat.lt_add_left_iff_pos, Nat.zero_lt_succ, Nat.zero_lt_one, Nat.succ_ne_self, reduceCtorEq, Nat.zero_ne_one, Nat.one_ne_zero, decide_true, decide_false, beq_self_eq_true, Int.reduceBEq, Int.reduceLT, Int.reduceLE, Int.reduceAdd, Int.reduceSub, Int.reduceNeg, walkD]
  rw [lc_rw (fun Γ => ∃ q, Γ = [.v (.tuple (N.map eN)), .v (.tuple [.str x, .tuple ps]), o, .hole, .hole, q]) (fun e => if (e.1 == x) = true then [PyData.bool e.2.2] else []) [.v (.tuple (N.map eN)), .v (.tuple [.str x, .tuple ps]), o, .hole, .hole, .hole] ?_ ⟨_, rfl⟩ (by rintro _ ⟨o, rfl⟩; rfl)]
  · have q : (look N x).map (fun e => PyData.bool e.2.2) = ((look N x).map (·.2.2)).map .bool := by rw [List.map_map]; try rfl
    simp only [evSs_cons, evSs_nil, evS, ev, evB, evF, evA, evP, evM, evI, evO, rb_ok, rb_ex, ro_ok, ro_ex, rn_ok, op_so, td_v, td_l, td_ex, ts_b, ts_l, ts_t, ts_i, Z.pk_nil, pk_v, pk_l, pk_i, ih_v, ih_l, ih_d, fz_v, fz_l, sq_nx, sq_rt, sq_ex, rs_rt, rs_nx, rs_ex, of_so, st_def, st_tup, st_lst, cb_ok, cb_ex, fin_ok, fin_ex, p_isi, p_lenT, p_lenL, p_int, p_intB, p_abs, p_add, p_sub, p_neg, p_lt, p_gt, p_le, p_ge, p_max, p_min, p_isN, p_notN, p_tupL, p_tupT, p_lstL, p_lstT, p_rev, ix0L, ix0T, ix1L, ix1T, ix2L, ix2T, pu0, pu1, pu2, ft0, ft1, ft2, ft3, ft4, fl0, fl1, fl2, fl3, fl4, fl5, fl6, fl7, fl8, fl9, fl10, fl11, ca_rt, ca_nx, io_i, ap_S, il_l, p_addS, p_addU, Nat.reduceLeDiff, sl_L, Int.natCast_zero, Int.natCast_one, Int.cast_ofNat_Int, sm0, sm1, sm2, p_eqI, p_neI, p_eqB, p_neB, p_eqS, p_neS, Option.map_some, Option.bind_some, slot, setS, setTs, isOw, Z.fill, unfill, owV, outs, outsA, List.getD_cons_zero, List.getD_cons_succ, List.set_cons_zero, List.set_cons_succ, List.length_cons, List.length_nil, List.any_cons, List.any_nil, List.append_nil, List.nil_append, List.cons_append, List.map_cons, List.map_nil, isTy, Bool.or_false, Bool.or_true, Bool.false_or, Bool.true_or, Bool.not_true, Bool.not_false, Bool.true_and, Bool.false_and, Bool.and_true, Bool.and_false, if_true, if_false, Bool.false_eq_true, reduceIte, List.not_mem_nil, List.mem_cons, or_false, false_or, not_false_eq_true, not_true_eq_false, and_true, and_false, and_self, true_and, Nat.reduceLT, Nat.reduceAdd, Nat.zero_add, Nat.lt_add_one, Nat.reduceEqDiff, Nat.lt_add_left_iff_pos, Nat.zero_lt_succ, Nat.zero_lt_one, Nat.succ_ne_self, reduceCtorEq, Nat.zero_ne_one, Nat.one_ne_zero, decide_true, decide_false, beq_self_eq_true, Int.reduceBEq, Int.reduceLT, Int.reduceLE, Int.reduceAdd, Int.reduceSub, Int.reduceNeg, lk2, q, eq_bs, hC]
    try rfl
  · rintro e he _ ⟨q, rfl⟩
    refine ⟨[.v (.tuple (N.map eN)), .v (.tuple [.str x, .tuple ps]), o, .hole, .hole, .v (eN e)], ?_, _, rfl⟩
    unfold eN
    simp only [evSs_cons, evSs_nil, evS, ev, evB, evF, evA, evP, evM, evI, evO, rb_ok, rb_ex, ro_ok, ro_ex, rn_ok, op_so, td_v, td_l, td_ex, ts_b, ts_l, ts_t, ts_i, Z.pk_nil, pk_v, pk_l, pk_i, ih_v, ih_l, ih_d, fz_v, fz_l, sq_nx, sq_rt, sq_ex, rs_rt, rs_nx, rs_ex, of_so, st_def, st_tup, st_lst, cb_ok, cb_ex, fin_ok, fin_ex, p_isi, p_lenT, p_lenL, p_int, p_intB, p_abs, p_add, p_sub, p_neg, p_lt, p_gt, p_le, p_ge, p_max, p_min, p_isN, p_notN, p_tupL, p_tupT, p_lstL, p_lstT, p_rev, ix0L, ix0T, ix1L, ix1T, ix2L, ix2T, pu0, pu1, pu2, ft0, ft1, ft2, ft3, ft4, fl0, fl1, fl2, fl3, fl4, fl5, fl6, fl7, fl8, fl9, fl10, fl11, ca_rt, ca_nx, io_i, ap_S, il_l, p_addS, p_addU, Nat.reduceLeDiff, sl_L, Int.natCast_zero, Int.natCast_one, Int.cast_ofNat_Int, sm0, sm1, sm2, p_eqI, p_neI, p_eqB, p_neB, p_eqS, p_neS, Option.map_some, Option.bind_some, slot, setS, setTs, isOw, Z.fill, unfill, owV, outs, outsA, List.getD_cons_zero, List.getD_cons_succ, List.set_cons_zero, List.set_cons_succ, List.length_cons, List.length_nil, List.any_cons, List.any_nil, List.append_nil, List.nil_append, List.cons_append, List.map_cons, List.map_nil, isTy, Bool.or_false, Bool.or_true, Bool.false_or, Bool.true_or, Bool.not_true, Bool.not_false, Bool.true_and, Bool.false_and, Bool.and_true, Bool.and_false, if_true, if_false, Bool.false_eq_true, reduceIte, List.not_mem_nil, List.mem_cons, or_false, false_or, not_false_eq_true, not_true_eq_false, and_true, and_false, and_self, true_and, Nat.reduceLT, Nat.reduceAdd, Nat.zero_add, Nat.lt_add_one, Nat.reduceEqDiff, Nat.lt_add_left_iff_pos, Nat.zero_lt_succ, Nat.zero_lt_one, Nat.succ_ne_self, reduceCtorEq, Nat.zero_ne_one, Nat.one_ne_zero, decide_true, decide_false, beq_self_eq_true, Int.reduceBEq, Int.reduceLT, Int.reduceLE, Int.reduceAdd, Int.reduceSub, Int.reduceNeg, holes, hC]
    cases e.1 == x <;> rfl
theorem c28 {N : List Nm} : ∀ (n : Nat) (t : T), t.ok N → t.sz + 1 ≤ n → t.sz ≤ 20 → callN pg n 28 [.v (eNs N), .v t.e] = .ok (.v (t.f N).e) [.hole, .hole]
  | 0, t, _, h, _ => by omega
  | n + 1, t, hok, h, h20 => by
    have ih : ∀ u : T, u.ok N → u.sz < t.sz → callN pg n 28 [.v (eNs N), .v u.e] = .ok (.v (u.f N).e) [.hole, .hole] := fun u hu hs => c28 n u hu (by omega) (by omega)
    have hk : ∀ u : T, u.sz < t.sz → callN pg n 27 [.v (u.f N).e] = .ok (.v (u.f N).k) [.hole] := fun u hs => c27 n _ (by rw [f_sz]; omega)
    rw [callN_of [.v (eNs N), .v t.e, .hole, .hole, .hole, .hole] b28 [] 2 (d := f28) rfl]
    cases t with
    | z x =>
      rw [show b28 = b28.drop 0 from rfl, step_nx 0 (by decide) (Γ' := [.v (eNs N), .v (T.z x).e, .lst [], .hole, .hole, .hole])]
      · simp only [T.e]
        rw [step_nx 1 (by decide) (st28 rfl), sw_of (show look N x = _ from hok)]
        unfold b28
        simp only [evSs_cons, evSs_nil, evS, ev, evB, evF, evA, evP, evM, evI, evO, rb_ok, rb_ex, ro_ok, ro_ex, rn_ok, op_so, td_v, td_l, td_ex, ts_b, ts_l, ts_t, ts_i, Z.pk_nil, pk_v, pk_l, pk_i, ih_v, ih_l, ih_d, fz_v, fz_l, sq_nx, sq_rt, sq_ex, rs_rt, rs_nx, rs_ex, of_so, st_def, st_tup, st_lst, cb_ok, cb_ex, fin_ok, fin_ex, p_isi, p_lenT, p_lenL, p_int, p_intB, p_abs, p_add, p_sub, p_neg, p_lt, p_gt, p_le, p_ge, p_max, p_min, p_isN, p_notN, p_tupL, p_tupT, p_lstL, p_lstT, p_rev, ix0L, ix0T, ix1L, ix1T, ix2L, ix2T, pu0, pu1, pu2, ft0, ft1, ft2, ft3, ft4, fl0, fl1, fl2, fl3, fl4, fl5, fl6, fl7, fl8, fl9, fl10, fl11, ca_rt, ca_nx, io_i, ap_S, il_l, p_addS, p_addU, Nat.reduceLeDiff, sl_L, Int.natCast_zero, Int.natCast_one, Int.cast_ofNat_Int, sm0, sm1, sm2, p_eqI, p_neI, p_eqB, p_neB, p_eqS, p_neS, Option.map_some, Option.bind_some, slot, setS, setTs, isOw, Z.fill, unfill, owV, outs, outsA, List.getD_cons_zero, List.getD_cons_succ, List.set_cons_zero, List.set_cons_succ, List.length_cons, List.length_nil, List.any_cons, List.any_nil, List.append_nil, List.nil_append, List.cons_append, List.map_cons, List.map_nil, isTy, Bool.or_false, Bool.or_true, Bool.false_or, Bool.true_or, Bool.not_true, Bool.not_false, Bool.true_and, Bool.false_and, Bool.and_true, Bool.and_false, if_true, if_false, Bool.false_eq_true, reduceIte, List.not_mem_nil, List.mem_cons, or_false, false_or, not_false_eq_true, not_true_eq_false, and_true, and_false, and_self, true_and, Nat.reduceLT, Nat.reduceAdd, Nat.zero_add, Nat.lt_add_one, Nat.reduceEqDiff, Nat.lt_add_left_iff_pos, Nat.zero_lt_succ, Nat.zero_lt_one, Nat.succ_ne_self, reduceCtorEq, Nat.zero_ne_one, Nat.one_ne_zero, decide_true, decide_false, beq_self_eq_true, Int.reduceBEq, Int.reduceLT, Int.reduceLE, Int.reduceAdd, Int.reduceSub, Int.reduceNeg, Ss.drop]
        try rfl
      · unfold b28
        simp only [evSs_cons, evSs_nil, evS, ev, evB, evF, evA, evP, evM, evI, evO, rb_ok, rb_ex, ro_ok, ro_ex, rn_ok, op_so, td_v, td_l, td_ex, ts_b, ts_l, ts_t, ts_i, Z.pk_nil, pk_v, pk_l, pk_i, ih_v, ih_l, ih_d, fz_v, fz_l, sq_nx, sq_rt, sq_ex, rs_rt, rs_nx, rs_ex, of_so, st_def, st_tup, st_lst, cb_ok, cb_ex, fin_ok, fin_ex, p_isi, p_lenT, p_lenL, p_int, p_intB, p_abs, p_add, p_sub, p_neg, p_lt, p_gt, p_le, p_ge, p_max, p_min, p_isN, p_notN, p_tupL, p_tupT, p_lstL, p_lstT, p_rev, ix0L, ix0T, ix1L, ix1T, ix2L, ix2T, pu0, pu1, pu2, ft0, ft1, ft2, ft3, ft4, fl0, fl1, fl2, fl3, fl4, fl5, fl6, fl7, fl8, fl9, fl10, fl11, ca_rt, ca_nx, io_i, ap_S, il_l, p_addS, p_addU, Nat.reduceLeDiff, sl_L, Int.natCast_zero, Int.natCast_one, Int.cast_ofNat_Int, sm0, sm1, sm2, p_eqI, p_neI, p_eqB, p_neB, p_eqS, p_neS, Option.map_some, Option.bind_some, slot, setS, setTs, isOw, Z.fill, unfill, owV, outs, outsA, List.getD_cons_zero, List.getD_cons_succ, List.set_cons_zero, List.set_cons_succ, List.length_cons, List.length_nil, List.any_cons, List.any_nil, List.append_nil, List.nil_append, List.cons_append, List.map_cons, List.map_nil, isTy, Bool.or_false, Bool.or_true, Bool.false_or, Bool.true_or, Bool.not_true, Bool.not_false, Bool.true_and, Bool.false_and, Bool.and_true, Bool.and_false, if_true, if_false, Bool.false_eq_true, reduceIte, List.not_mem_nil, List.mem_cons, or_false, false_or, not_false_eq_true, not_true_eq_false, and_true, and_false, and_self, true_and, Nat.reduceLT, Nat.reduceAdd, Nat.zero_add, Nat.lt_add_one, Nat.reduceEqDiff, Nat.lt_add_left_iff_pos, Nat.zero_lt_succ, Nat.zero_lt_one, Nat.succ_ne_self, reduceCtorEq, Nat.zero_ne_one, Nat.one_ne_zero, decide_true, decide_false, beq_self_eq_true, Int.reduceBEq, Int.reduceLT, Int.reduceLE, Int.reduceAdd, Int.reduceSub, Int.reduceNeg, Ss.nth, T.e, walkD, lcL, holes, backs, onlyV]
    | o x t =>
      have h1 := ih t hok.2 (by simp only [T.sz]; omega)
      rw [show b28 = b28.drop 0 from rfl, step_nx 0 (by decide) (Γ' := [.v (eNs N), .v (T.o x t).e, .lst [(t.f N).e], .hole, .hole, .hole])]
      · simp only [T.e]
        rw [step_nx 1 (by decide) (st28 rfl), sw_of (show look N x = _ from hok.1)]
        unfold b28
        simp only [evSs_cons, evSs_nil, evS, ev, evB, evF, evA, evP, evM, evI, evO, rb_ok, rb_ex, ro_ok, ro_ex, rn_ok, op_so, td_v, td_l, td_ex, ts_b, ts_l, ts_t, ts_i, Z.pk_nil, pk_v, pk_l, pk_i, ih_v, ih_l, ih_d, fz_v, fz_l, sq_nx, sq_rt, sq_ex, rs_rt, rs_nx, rs_ex, of_so, st_def, st_tup, st_lst, cb_ok, cb_ex, fin_ok, fin_ex, p_isi, p_lenT, p_lenL, p_int, p_intB, p_abs, p_add, p_sub, p_neg, p_lt, p_gt, p_le, p_ge, p_max, p_min, p_isN, p_notN, p_tupL, p_tupT, p_lstL, p_lstT, p_rev, ix0L, ix0T, ix1L, ix1T, ix2L, ix2T, pu0, pu1, pu2, ft0, ft1, ft2, ft3, ft4, fl0, fl1, fl2, fl3, fl4, fl5, fl6, fl7, fl8, fl9, fl10, fl11, ca_rt, ca_nx, io_i, ap_S, il_l, p_addS, p_addU, Nat.reduceLeDiff, sl_L, Int.natCast_zero, Int.natCast_one, Int.cast_ofNat_Int, sm0, sm1, sm2, p_eqI, p_neI, p_eqB, p_neB, p_eqS, p_neS, Option.map_some, Option.bind_some, slot, setS, setTs, isOw, Z.fill, unfill, owV, outs, outsA, List.getD_cons_zero, List.getD_cons_succ, List.set_cons_zero, List.set_cons_succ, List.length_cons, List.length_nil, List.any_cons, List.any_nil, List.append_nil, List.nil_append, List.cons_append, List.map_cons, List.map_nil, isTy, Bool.or_false, Bool.or_true, Bool.false_or, Bool.true_or, Bool.not_true, Bool.not_false, Bool.true_and, Bool.false_and, Bool.and_true, Bool.and_false, if_true, if_false, Bool.false_eq_true, reduceIte, List.not_mem_nil, List.mem_cons, or_false, false_or, not_false_eq_true, not_true_eq_false, and_true, and_false, and_self, true_and, Nat.reduceLT, Nat.reduceAdd, Nat.zero_add, Nat.lt_add_one, Nat.reduceEqDiff, Nat.lt_add_left_iff_pos, Nat.zero_lt_succ, Nat.zero_lt_one, Nat.succ_ne_self, reduceCtorEq, Nat.zero_ne_one, Nat.one_ne_zero, decide_true, decide_false, beq_self_eq_true, Int.reduceBEq, Int.reduceLT, Int.reduceLE, Int.reduceAdd, Int.reduceSub, Int.reduceNeg, Ss.drop]
        try rfl
      · unfold b28
        simp only [evSs_cons, evSs_nil, evS, ev, evB, evF, evA, evP, evM, evI, evO, rb_ok, rb_ex, ro_ok, ro_ex, rn_ok, op_so, td_v, td_l, td_ex, ts_b, ts_l, ts_t, ts_i, Z.pk_nil, pk_v, pk_l, pk_i, ih_v, ih_l, ih_d, fz_v, fz_l, sq_nx, sq_rt, sq_ex, rs_rt, rs_nx, rs_ex, of_so, st_def, st_tup, st_lst, cb_ok, cb_ex, fin_ok, fin_ex, p_isi, p_lenT, p_lenL, p_int, p_intB, p_abs, p_add, p_sub, p_neg, p_lt, p_gt, p_le, p_ge, p_max, p_min, p_isN, p_notN, p_tupL, p_tupT, p_lstL, p_lstT, p_rev, ix0L, ix0T, ix1L, ix1T, ix2L, ix2T, pu0, pu1, pu2, ft0, ft1, ft2, ft3, ft4, fl0, fl1, fl2, fl3, fl4, fl5, fl6, fl7, fl8, fl9, fl10, fl11, ca_rt, ca_nx, io_i, ap_S, il_l, p_addS, p_addU, Nat.reduceLeDiff, sl_L, Int.natCast_zero, Int.natCast_one, Int.cast_ofNat_Int, sm0, sm1, sm2, p_eqI, p_neI, p_eqB, p_neB, p_eqS, p_neS, Option.map_some, Option.bind_some, slot, setS, setTs, isOw, Z.fill, unfill, owV, outs, outsA, List.getD_cons_zero, List.getD_cons_succ, List.set_cons_zero, List.set_cons_succ, List.length_cons, List.length_nil, List.any_cons, List.any_nil, List.append_nil, List.nil_append, List.cons_append, List.map_cons, List.map_nil, isTy, Bool.or_false, Bool.or_true, Bool.false_or, Bool.true_or, Bool.not_true, Bool.not_false, Bool.true_and, Bool.false_and, Bool.and_true, Bool.and_false, if_true, if_false, Bool.false_eq_true, reduceIte, List.not_mem_nil, List.mem_cons, or_false, false_or, not_false_eq_true, not_true_eq_false, and_true, and_false, and_self, true_and, Nat.reduceLT, Nat.reduceAdd, Nat.zero_add, Nat.lt_add_one, Nat.reduceEqDiff, Nat.lt_add_left_iff_pos, Nat.zero_lt_succ, Nat.zero_lt_one, Nat.succ_ne_self, reduceCtorEq, Nat.zero_ne_one, Nat.one_ne_zero, decide_true, decide_false, beq_self_eq_true, Int.reduceBEq, Int.reduceLT, Int.reduceLE, Int.reduceAdd, Int.reduceSub, Int.reduceNeg, Ss.nth, T.e, walkD, lcL, holes, backs, onlyV, h1]
    | w x t u =>
      obtain ⟨s, e⟩ := hok.1
      have h1 := ih t hok.2.1 (by simp only [T.sz]; omega)
      have h2 := ih u hok.2.2 (by simp only [T.sz]; omega)
      have k1 := hk t (by simp only [T.sz]; omega)
      have k2 := hk u (by simp only [T.sz]; omega)
      have so : sortOk [(t.f N).k, (u.f N).k] = true := sortOk2 (by rw [f_sz]; simp only [T.sz] at h20; omega) (by rw [f_sz]; simp only [T.sz] at h20; omega)
      rw [show b28 = b28.drop 0 from rfl, step_nx 0 (by decide) (Γ' := [.v (eNs N), .v (T.w x t u).e, .lst [(t.f N).e, (u.f N).e], .hole, .hole, .hole])]
      · simp only [T.e]
        rw [step_nx 1 (by decide) (st28 rfl), sw_of e]
        unfold b28
        cases s with
        | false =>
          simp only [evSs_cons, evSs_nil, evS, ev, evB, evF, evA, evP, evM, evI, evO, rb_ok, rb_ex, ro_ok, ro_ex, rn_ok, op_so, td_v, td_l, td_ex, ts_b, ts_l, ts_t, ts_i, Z.pk_nil, pk_v, pk_l, pk_i, ih_v, ih_l, ih_d, fz_v, fz_l, sq_nx, sq_rt, sq_ex, rs_rt, rs_nx, rs_ex, of_so, st_def, st_tup, st_lst, cb_ok, cb_ex, fin_ok, fin_ex, p_isi, p_lenT, p_lenL, p_int, p_intB, p_abs, p_add, p_sub, p_neg, p_lt, p_gt, p_le, p_ge, p_max, p_min, p_isN, p_notN, p_tupL, p_tupT, p_lstL, p_lstT, p_rev, ix0L, ix0T, ix1L, ix1T, ix2L, ix2T, pu0, pu1, pu2, ft0, ft1, ft2, ft3, ft4, fl0, fl1, fl2, fl3, fl4, fl5, fl6, fl7, fl8, fl9, fl10, fl11, ca_rt, ca_nx, io_i, ap_S, il_l, p_addS, p_addU, Nat.reduceLeDiff, sl_L, Int.natCast_zero, Int.natCast_one, Int.cast_ofNat_Int, sm0, sm1, sm2, p_eqI, p_neI, p_eqB, p_neB, p_eqS, p_neS, Option.map_some, Option.bind_some, slot, setS, setTs, isOw, Z.fill, unfill, owV, outs, outsA, List.getD_cons_zero, List.getD_cons_succ, List.set_cons_zero, List.set_cons_succ, List.length_cons, List.length_nil, List.any_cons, List.any_nil, List.append_nil, List.nil_append, List.cons_append, List.map_cons, List.map_nil, isTy, Bool.or_false, Bool.or_true, Bool.false_or, Bool.true_or, Bool.not_true, Bool.not_false, Bool.true_and, Bool.false_and, Bool.and_true, Bool.and_false, if_true, if_false, Bool.false_eq_true, reduceIte, List.not_mem_nil, List.mem_cons, or_false, false_or, not_false_eq_true, not_true_eq_false, and_true, and_false, and_self, true_and, Nat.reduceLT, Nat.reduceAdd, Nat.zero_add, Nat.lt_add_one, Nat.reduceEqDiff, Nat.lt_add_left_iff_pos, Nat.zero_lt_succ, Nat.zero_lt_one, Nat.succ_ne_self, reduceCtorEq, Nat.zero_ne_one, Nat.one_ne_zero, decide_true, decide_false, beq_self_eq_true, Int.reduceBEq, Int.reduceLT, Int.reduceLE, Int.reduceAdd, Int.reduceSub, Int.reduceNeg, Ss.drop, tupf (N := N) (x := x) (t := t) (u := u) [(t.f N).e, (u.f N).e] (by rw [sw_of e]; rfl)]
        | true =>
          simp only [evSs_cons, evSs_nil, evS, ev, evB, evF, evA, evP, evM, evI, evO, rb_ok, rb_ex, ro_ok, ro_ex, rn_ok, op_so, td_v, td_l, td_ex, ts_b, ts_l, ts_t, ts_i, Z.pk_nil, pk_v, pk_l, pk_i, ih_v, ih_l, ih_d, fz_v, fz_l, sq_nx, sq_rt, sq_ex, rs_rt, rs_nx, rs_ex, of_so, st_def, st_tup, st_lst, cb_ok, cb_ex, fin_ok, fin_ex, p_isi, p_lenT, p_lenL, p_int, p_intB, p_abs, p_add, p_sub, p_neg, p_lt, p_gt, p_le, p_ge, p_max, p_min, p_isN, p_notN, p_tupL, p_tupT, p_lstL, p_lstT, p_rev, ix0L, ix0T, ix1L, ix1T, ix2L, ix2T, pu0, pu1, pu2, ft0, ft1, ft2, ft3, ft4, fl0, fl1, fl2, fl3, fl4, fl5, fl6, fl7, fl8, fl9, fl10, fl11, ca_rt, ca_nx, io_i, ap_S, il_l, p_addS, p_addU, Nat.reduceLeDiff, sl_L, Int.natCast_zero, Int.natCast_one, Int.cast_ofNat_Int, sm0, sm1, sm2, p_eqI, p_neI, p_eqB, p_neB, p_eqS, p_neS, Option.map_some, Option.bind_some, slot, setS, setTs, isOw, Z.fill, unfill, owV, outs, outsA, List.getD_cons_zero, List.getD_cons_succ, List.set_cons_zero, List.set_cons_succ, List.length_cons, List.length_nil, List.any_cons, List.any_nil, List.append_nil, List.nil_append, List.cons_append, List.map_cons, List.map_nil, isTy, Bool.or_false, Bool.or_true, Bool.false_or, Bool.true_or, Bool.not_true, Bool.not_false, Bool.true_and, Bool.false_and, Bool.and_true, Bool.and_false, if_true, if_false, Bool.false_eq_true, reduceIte, List.not_mem_nil, List.mem_cons, or_false, false_or, not_false_eq_true, not_true_eq_false, and_true, and_false, and_self, true_and, Nat.reduceLT, Nat.reduceAdd, Nat.zero_add, Nat.lt_add_one, Nat.reduceEqDiff, Nat.lt_add_left_iff_pos, Nat.zero_lt_succ, Nat.zero_lt_one, Nat.succ_ne_self, reduceCtorEq, Nat.zero_ne_one, Nat.one_ne_zero, decide_true, decide_false, beq_self_eq_true, Int.reduceBEq, Int.reduceLT, Int.reduceLE, Int.reduceAdd, Int.reduceSub, Int.reduceNeg, Ss.drop, k1, k2, lstO, keysOf, keyR, so, sort2]
          rw [tupf (N := N) _ (by rw [sw_of e]; cases le (t.f N) (u.f N) <;> rfl)]
      · unfold b28
        simp only [evSs_cons, evSs_nil, evS, ev, evB, evF, evA, evP, evM, evI, evO, rb_ok, rb_ex, ro_ok, ro_ex, rn_ok, op_so, td_v, td_l, td_ex, ts_b, ts_l, ts_t, ts_i, Z.pk_nil, pk_v, pk_l, pk_i, ih_v, ih_l, ih_d, fz_v, fz_l, sq_nx, sq_rt, sq_ex, rs_rt, rs_nx, rs_ex, of_so, st_def, st_tup, st_lst, cb_ok, cb_ex, fin_ok, fin_ex, p_isi, p_lenT, p_lenL, p_int, p_intB, p_abs, p_add, p_sub, p_neg, p_lt, p_gt, p_le, p_ge, p_max, p_min, p_isN, p_notN, p_tupL, p_tupT, p_lstL, p_lstT, p_rev, ix0L, ix0T, ix1L, ix1T, ix2L, ix2T, pu0, pu1, pu2, ft0, ft1, ft2, ft3, ft4, fl0, fl1, fl2, fl3, fl4, fl5, fl6, fl7, fl8, fl9, fl10, fl11, ca_rt, ca_nx, io_i, ap_S, il_l, p_addS, p_addU, Nat.reduceLeDiff, sl_L, Int.natCast_zero, Int.natCast_one, Int.cast_ofNat_Int, sm0, sm1, sm2, p_eqI, p_neI, p_eqB, p_neB, p_eqS, p_neS, Option.map_some, Option.bind_some, slot, setS, setTs, isOw, Z.fill, unfill, owV, outs, outsA, List.getD_cons_zero, List.getD_cons_succ, List.set_cons_zero, List.set_cons_succ, List.length_cons, List.length_nil, List.any_cons, List.any_nil, List.append_nil, List.nil_append, List.cons_append, List.map_cons, List.map_nil, isTy, Bool.or_false, Bool.or_true, Bool.false_or, Bool.true_or, Bool.not_true, Bool.not_false, Bool.true_and, Bool.false_and, Bool.and_true, Bool.and_false, if_true, if_false, Bool.false_eq_true, reduceIte, List.not_mem_nil, List.mem_cons, or_false, false_or, not_false_eq_true, not_true_eq_false, and_true, and_false, and_self, true_and, Nat.reduceLT, Nat.reduceAdd, Nat.zero_add, Nat.lt_add_one, Nat.reduceEqDiff, Nat.lt_add_left_iff_pos, Nat.zero_lt_succ, Nat.zero_lt_one, Nat.succ_ne_self, reduceCtorEq, Nat.zero_ne_one, Nat.one_ne_zero, decide_true, decide_false, beq_self_eq_true, Int.reduceBEq, Int.reduceLT, Int.reduceLE, Int.reduceAdd, Int.reduceSub, Int.reduceNeg, Ss.nth, T.e, walkD, lcL, holes, backs, onlyV, h1, h2]
end K03
end
section
set_option Elab.async false
set_option linter.all false
set_option maxRecDepth 100000
namespace K03
open Z PySem
/-! ### the names -/
def nA : Nm := ("a", 0, false)
def nB : Nm := ("b", 0, false)
def nC : Nm := ("c", 0, false)
def nF : Nm := ("f", 1, false)
def nP : Nm := ("p", 2, false)
def nS : Nm := ("s", 2, true)
def opN (b : Bool) (e : Nm) : List Nm := if b then [e] else []
def nm (c f p s : Bool) : List Nm := nA :: nB :: (opN c nC ++ opN f nF ++ opN p nP ++ opN s nS)
/-- the names that are drawn -/
def IsN (N : List Nm) : Prop := ∃ c f p s, N = nm c f p s
theorem all_nm {P : List Nm → Prop} (h : ∀ c f p s, P (nm c f p s)) {N : List Nm} (hN : IsN N) : P N := by
  obtain ⟨c, f, p, s, rfl⟩ := hN
  exact h c f p s
set_option maxHeartbeats 4000000 in
theorem c9_nm (n : Nat) : ∀ c f p s, callN pg (n + 1) 9 [.v (eNs (nm c f p s))] = .ok (.dic ((nm c f p s).map kv)) [.hole] := by
  intro c f p s
  cases c <;> cases f <;> cases p <;> cases s <;> kernel_rfl
theorem c9 {N : List Nm} (n : Nat) (hN : IsN N) : callN pg (n + 1) 9 [.v (eNs N)] = .ok (.dic (N.map kv)) [.hole] := all_nm (P := fun N => callN pg (n + 1) 9 [.v (eNs N)] = .ok (.dic (N.map kv)) [.hole]) (c9_nm n) hN
theorem c8 {N : List Nm} (n : Nat) (hN : IsN N) : callN pg (n + 5) 8 [.v (eNs N)] = .ok (.v (.bool true)) [.hole] := all_nm (P := fun N => callN pg (n + 5) 8 [.v (eNs N)] = .ok (.v (.bool true)) [.hole]) (by
  intro c f p s
  cases c <;> cases f <;> cases p <;> cases s <;> kernel_rfl) hN
/-- a term of few names -/
structure Gd (N : List Nm) (t : T) : Prop where
  ok : t.ok N
  sz : t.sz ≤ 8
theorem Gd.f {N : List Nm} {t : T} (h : Gd N t) : Gd N (t.f N) := ⟨f_ok N t h.ok, by rw [f_sz]; exact h.sz⟩
/-- d tells t -/
structure Tells (d : D) (t : T) : Prop where
  eq : tupD d = t.e
  dp : dp d ≤ 20
theorem Gd.self {N : List Nm} {t : T} (h : Gd N t) : Tells t.e t := ⟨tup_e t, by have := dp_e t; have := h.sz; omega⟩
theorem c14 {N : List Nm} (hN : IsN N) {t : T} (h : Gd N t) {d : D} (hd : Tells d t) : ∀ {n : Nat}, 24 ≤ n → callN pg n 14 [.v (eNs N), .v d] = .ok (.v (t.f N).e) [.hole, .hole]
  | 0, hn => by omega
  | 1, hn => by omega
  | n + 2, hn => by
    have h6 := c6 (n + 1) d (by have := hd.dp; omega)
    rw [hd.eq] at h6
    have h13 := c13 (N := N) (n + 1) t h.ok (by have := h.sz; omega) (by have := h.sz; omega)
    rw [callN_of [.v (eNs N), .v d] b14 [] 2 (d := f14) rfl]
    unfold b14
    simp only [evSs_cons, evSs_nil, evS, ev, evB, evF, evA, evP, evM, evI, evO, rb_ok, rb_ex, ro_ok, ro_ex, rn_ok, op_so, td_v, td_l, td_ex, ts_b, ts_l, ts_t, ts_i, Z.pk_nil, pk_v, pk_l, pk_i, ih_v, ih_l, ih_d, fz_v, fz_l, sq_nx, sq_rt, sq_ex, rs_rt, rs_nx, rs_ex, of_so, st_def, st_tup, st_lst, cb_ok, cb_ex, fin_ok, fin_ex, p_isi, p_lenT, p_lenL, p_int, p_intB, p_abs, p_add, p_sub, p_neg, p_lt, p_gt, p_le, p_ge, p_max, p_min, p_isN, p_notN, p_tupL, p_tupT, p_lstL, p_lstT, p_rev, ix0L, ix0T, ix1L, ix1T, ix2L, ix2T, pu0, pu1, pu2, ft0, ft1, ft2, ft3, ft4, fl0, fl1, fl2, fl3, fl4, fl5, fl6, fl7, fl8, fl9, fl10, fl11, ca_rt, ca_nx, io_i, ap_S, il_l, p_addS, p_addU, Nat.reduceLeDiff, sl_L, Int.natCast_zero, Int.natCast_one, Int.cast_ofNat_Int, sm0, sm1, sm2, p_eqI, p_neI, p_eqB, p_neB, p_eqS, p_neS, Option.map_some, Option.bind_some, slot, setS, setTs, isOw, Z.fill, unfill, owV, outs, outsA, List.getD_cons_zero, List.getD_cons_succ, List.set_cons_zero, List.set_cons_succ, List.length_cons, List.length_nil, List.any_cons, List.any_nil, List.append_nil, List.nil_append, List.cons_append, List.map_cons, List.map_nil, isTy, Bool.or_false, Bool.or_true, Bool.false_or, Bool.true_or, Bool.not_true, Bool.not_false, Bool.true_and, Bool.false_and, Bool.and_true, Bool.and_false, if_true, if_false, Bool.false_eq_true, reduceIte, List.not_mem_nil, List.mem_cons, or_false, false_or, not_false_eq_true, not_true_eq_false, and_true, and_false, and_self, true_and, Nat.reduceLT, Nat.reduceAdd, Nat.zero_add, Nat.lt_add_one, Nat.reduceEqDiff, Nat.lt_add_left_iff_pos, Nat.zero_lt_succ, Nat.zero_lt_one, Nat.succ_ne_self, reduceCtorEq, Nat.zero_ne_one, Nat.one_ne_zero, decide_true, decide_false, beq_self_eq_true, Int.reduceBEq, Int.reduceLT, Int.reduceLE, Int.reduceAdd, Int.reduceSub, Int.reduceNeg, h6, c9 n hN, h13]
theorem c15 {N : List Nm} (hN : IsN N) {t : T} (h : Gd N t) : ∀ {n : Nat}, 25 ≤ n → callN pg n 15 [.v (eNs N), .v t.e] = .ok (.v (.bool (decide (t.f N = t)))) [.hole, .hole]
  | 0, hn => by omega
  | n + 1, hn => by
    have h10 := c10 (N := N) n t h.ok (by have := h.sz; omega)
    have h14 := c14 hN h h.self (n := n) (by omega)
    rw [callN_of [.v (eNs N), .v t.e] b15 [] 2 (d := f15) rfl]
    unfold b15
    simp only [evSs_cons, evSs_nil, evS, ev, evB, evF, evA, evP, evM, evI, evO, rb_ok, rb_ex, ro_ok, ro_ex, rn_ok, op_so, td_v, td_l, td_ex, ts_b, ts_l, ts_t, ts_i, Z.pk_nil, pk_v, pk_l, pk_i, ih_v, ih_l, ih_d, fz_v, fz_l, sq_nx, sq_rt, sq_ex, rs_rt, rs_nx, rs_ex, of_so, st_def, st_tup, st_lst, cb_ok, cb_ex, fin_ok, fin_ex, p_isi, p_lenT, p_lenL, p_int, p_intB, p_abs, p_add, p_sub, p_neg, p_lt, p_gt, p_le, p_ge, p_max, p_min, p_isN, p_notN, p_tupL, p_tupT, p_lstL, p_lstT, p_rev, ix0L, ix0T, ix1L, ix1T, ix2L, ix2T, pu0, pu1, pu2, ft0, ft1, ft2, ft3, ft4, fl0, fl1, fl2, fl3, fl4, fl5, fl6, fl7, fl8, fl9, fl10, fl11, ca_rt, ca_nx, io_i, ap_S, il_l, p_addS, p_addU, Nat.reduceLeDiff, sl_L, Int.natCast_zero, Int.natCast_one, Int.cast_ofNat_Int, sm0, sm1, sm2, p_eqI, p_neI, p_eqB, p_neB, p_eqS, p_neS, Option.map_some, Option.bind_some, slot, setS, setTs, isOw, Z.fill, unfill, owV, outs, outsA, List.getD_cons_zero, List.getD_cons_succ, List.set_cons_zero, List.set_cons_succ, List.length_cons, List.length_nil, List.any_cons, List.any_nil, List.append_nil, List.nil_append, List.cons_append, List.map_cons, List.map_nil, isTy, Bool.or_false, Bool.or_true, Bool.false_or, Bool.true_or, Bool.not_true, Bool.not_false, Bool.true_and, Bool.false_and, Bool.and_true, Bool.and_false, if_true, if_false, Bool.false_eq_true, reduceIte, List.not_mem_nil, List.mem_cons, or_false, false_or, not_false_eq_true, not_true_eq_false, and_true, and_false, and_self, true_and, Nat.reduceLT, Nat.reduceAdd, Nat.zero_add, Nat.lt_add_one, Nat.reduceEqDiff, Nat.lt_add_left_iff_pos, Nat.zero_lt_succ, Nat.zero_lt_one, Nat.succ_ne_self, reduceCtorEq, Nat.zero_ne_one, Nat.one_ne_zero, decide_true, decide_false, beq_self_eq_true, Int.reduceBEq, Int.reduceLT, Int.reduceLE, Int.reduceAdd, Int.reduceSub, Int.reduceNeg, h10, h14, p_eqE (t := t.f N) (u := t) (by rw [f_sz]; have := h.sz; omega)]
/-- is_form of what is no term -/
theorem c15n {N : List Nm} {d : D} {n : Nat} (h : callN pg n 10 [.v (eNs N), .v d] = .ok (.v (.bool false)) [.hole, .hole]) : callN pg (n + 1) 15 [.v (eNs N), .v d] = .ok (.v (.bool false)) [.hole, .hole] := by
  rw [callN_of [.v (eNs N), .v d] b15 [] 2 (d := f15) rfl]
  unfold b15
  simp only [evSs_cons, evSs_nil, evS, ev, evB, evF, evA, evP, evM, evI, evO, rb_ok, rb_ex, ro_ok, ro_ex, rn_ok, op_so, td_v, td_l, td_ex, ts_b, ts_l, ts_t, ts_i, Z.pk_nil, pk_v, pk_l, pk_i, ih_v, ih_l, ih_d, fz_v, fz_l, sq_nx, sq_rt, sq_ex, rs_rt, rs_nx, rs_ex, of_so, st_def, st_tup, st_lst, cb_ok, cb_ex, fin_ok, fin_ex, p_isi, p_lenT, p_lenL, p_int, p_intB, p_abs, p_add, p_sub, p_neg, p_lt, p_gt, p_le, p_ge, p_max, p_min, p_isN, p_notN, p_tupL, p_tupT, p_lstL, p_lstT, p_rev, ix0L, ix0T, ix1L, ix1T, ix2L, ix2T, pu0, pu1, pu2, ft0, ft1, ft2, ft3, ft4, fl0, fl1, fl2, fl3, fl4, fl5, fl6, fl7, fl8, fl9, fl10, fl11, ca_rt, ca_nx, io_i, ap_S, il_l, p_addS, p_addU, Nat.reduceLeDiff, sl_L, Int.natCast_zero, Int.natCast_one, Int.cast_ofNat_Int, sm0, sm1, sm2, p_eqI, p_neI, p_eqB, p_neB, p_eqS, p_neS, Option.map_some, Option.bind_some, slot, setS, setTs, isOw, Z.fill, unfill, owV, outs, outsA, List.getD_cons_zero, List.getD_cons_succ, List.set_cons_zero, List.set_cons_succ, List.length_cons, List.length_nil, List.any_cons, List.any_nil, List.append_nil, List.nil_append, List.cons_append, List.map_cons, List.map_nil, isTy, Bool.or_false, Bool.or_true, Bool.false_or, Bool.true_or, Bool.not_true, Bool.not_false, Bool.true_and, Bool.false_and, Bool.and_true, Bool.and_false, if_true, if_false, Bool.false_eq_true, reduceIte, List.not_mem_nil, List.mem_cons, or_false, false_or, not_false_eq_true, not_true_eq_false, and_true, and_false, and_self, true_and, Nat.reduceLT, Nat.reduceAdd, Nat.zero_add, Nat.lt_add_one, Nat.reduceEqDiff, Nat.lt_add_left_iff_pos, Nat.zero_lt_succ, Nat.zero_lt_one, Nat.succ_ne_self, reduceCtorEq, Nat.zero_ne_one, Nat.one_ne_zero, decide_true, decide_false, beq_self_eq_true, Int.reduceBEq, Int.reduceLT, Int.reduceLE, Int.reduceAdd, Int.reduceSub, Int.reduceNeg, h]
theorem c1I (n : Nat) (i j : Int) : callN pg (n + 2) 1 [.v (.int i), .v (.int j)] = .ok (.v (.bool (decide (j ≤ i)))) [.hole, .hole] := by
  rw [callN_of [.v (.int i), .v (.int j)] b1 [] 2 (d := f1) rfl]
  unfold b1
  simp only [evSs_cons, evSs_nil, evS, ev, evB, evF, evA, evP, evM, evI, evO, rb_ok, rb_ex, ro_ok, ro_ex, rn_ok, op_so, td_v, td_l, td_ex, ts_b, ts_l, ts_t, ts_i, Z.pk_nil, pk_v, pk_l, pk_i, ih_v, ih_l, ih_d, fz_v, fz_l, sq_nx, sq_rt, sq_ex, rs_rt, rs_nx, rs_ex, of_so, st_def, st_tup, st_lst, cb_ok, cb_ex, fin_ok, fin_ex, p_isi, p_lenT, p_lenL, p_int, p_intB, p_abs, p_add, p_sub, p_neg, p_lt, p_gt, p_le, p_ge, p_max, p_min, p_isN, p_notN, p_tupL, p_tupT, p_lstL, p_lstT, p_rev, ix0L, ix0T, ix1L, ix1T, ix2L, ix2T, pu0, pu1, pu2, ft0, ft1, ft2, ft3, ft4, fl0, fl1, fl2, fl3, fl4, fl5, fl6, fl7, fl8, fl9, fl10, fl11, ca_rt, ca_nx, io_i, ap_S, il_l, p_addS, p_addU, Nat.reduceLeDiff, sl_L, Int.natCast_zero, Int.natCast_one, Int.cast_ofNat_Int, sm0, sm1, sm2, p_eqI, p_neI, p_eqB, p_neB, p_eqS, p_neS, Option.map_some, Option.bind_some, slot, setS, setTs, isOw, Z.fill, unfill, owV, outs, outsA, List.getD_cons_zero, List.getD_cons_succ, List.set_cons_zero, List.set_cons_succ, List.length_cons, List.length_nil, List.any_cons, List.any_nil, List.append_nil, List.nil_append, List.cons_append, List.map_cons, List.map_nil, isTy, Bool.or_false, Bool.or_true, Bool.false_or, Bool.true_or, Bool.not_true, Bool.not_false, Bool.true_and, Bool.false_and, Bool.and_true, Bool.and_false, if_true, if_false, Bool.false_eq_true, reduceIte, List.not_mem_nil, List.mem_cons, or_false, false_or, not_false_eq_true, not_true_eq_false, and_true, and_false, and_self, true_and, Nat.reduceLT, Nat.reduceAdd, Nat.zero_add, Nat.lt_add_one, Nat.reduceEqDiff, Nat.lt_add_left_iff_pos, Nat.zero_lt_succ, Nat.zero_lt_one, Nat.succ_ne_self, reduceCtorEq, Nat.zero_ne_one, Nat.one_ne_zero, decide_true, decide_false, beq_self_eq_true, Int.reduceBEq, Int.reduceLT, Int.reduceLE, Int.reduceAdd, Int.reduceSub, Int.reduceNeg, c0]
theorem c1B (n : Nat) (i : Bool) (j : Int) : callN pg (n + 2) 1 [.v (.bool i), .v (.int j)] = .ok (.v (.bool false)) [.hole, .hole] := by
  rw [callN_of [.v (.bool i), .v (.int j)] b1 [] 2 (d := f1) rfl]
  unfold b1
  simp only [evSs_cons, evSs_nil, evS, ev, evB, evF, evA, evP, evM, evI, evO, rb_ok, rb_ex, ro_ok, ro_ex, rn_ok, op_so, td_v, td_l, td_ex, ts_b, ts_l, ts_t, ts_i, Z.pk_nil, pk_v, pk_l, pk_i, ih_v, ih_l, ih_d, fz_v, fz_l, sq_nx, sq_rt, sq_ex, rs_rt, rs_nx, rs_ex, of_so, st_def, st_tup, st_lst, cb_ok, cb_ex, fin_ok, fin_ex, p_isi, p_lenT, p_lenL, p_int, p_intB, p_abs, p_add, p_sub, p_neg, p_lt, p_gt, p_le, p_ge, p_max, p_min, p_isN, p_notN, p_tupL, p_tupT, p_lstL, p_lstT, p_rev, ix0L, ix0T, ix1L, ix1T, ix2L, ix2T, pu0, pu1, pu2, ft0, ft1, ft2, ft3, ft4, fl0, fl1, fl2, fl3, fl4, fl5, fl6, fl7, fl8, fl9, fl10, fl11, ca_rt, ca_nx, io_i, ap_S, il_l, p_addS, p_addU, Nat.reduceLeDiff, sl_L, Int.natCast_zero, Int.natCast_one, Int.cast_ofNat_Int, sm0, sm1, sm2, p_eqI, p_neI, p_eqB, p_neB, p_eqS, p_neS, Option.map_some, Option.bind_some, slot, setS, setTs, isOw, Z.fill, unfill, owV, outs, outsA, List.getD_cons_zero, List.getD_cons_succ, List.set_cons_zero, List.set_cons_succ, List.length_cons, List.length_nil, List.any_cons, List.any_nil, List.append_nil, List.nil_append, List.cons_append, List.map_cons, List.map_nil, isTy, Bool.or_false, Bool.or_true, Bool.false_or, Bool.true_or, Bool.not_true, Bool.not_false, Bool.true_and, Bool.false_and, Bool.and_true, Bool.and_false, if_true, if_false, Bool.false_eq_true, reduceIte, List.not_mem_nil, List.mem_cons, or_false, false_or, not_false_eq_true, not_true_eq_false, and_true, and_false, and_self, true_and, Nat.reduceLT, Nat.reduceAdd, Nat.zero_add, Nat.lt_add_one, Nat.reduceEqDiff, Nat.lt_add_left_iff_pos, Nat.zero_lt_succ, Nat.zero_lt_one, Nat.succ_ne_self, reduceCtorEq, Nat.zero_ne_one, Nat.one_ne_zero, decide_true, decide_false, beq_self_eq_true, Int.reduceBEq, Int.reduceLT, Int.reduceLE, Int.reduceAdd, Int.reduceSub, Int.reduceNeg, c0]
theorem c16 {N : List Nm} (hN : IsN N) {t u : T} (h : Gd N t) (k : Gd N u) (i : Int) : ∀ {n : Nat}, 26 ≤ n → callN pg n 16 [.v (eNs N), .v (.tuple [t.e, u.e, .int i])] = .ok (.v (.bool (decide (0 ≤ i) && (decide (t.f N = t) && (decide (u.f N = u) && !decide (t = u)))))) [.hole, .hole]
  | 0, hn => by omega
  | 1, hn => by omega
  | 2, hn => by omega
  | n + 3, hn => by
    have h1 := c15 hN h (n := n + 2) (by omega)
    have h2 := c15 hN k (n := n + 2) (by omega)
    rw [callN_of [.v (eNs N), .v (.tuple [t.e, u.e, .int i])] b16 [] 2 (d := f16) rfl]
    unfold b16
    cases e : decide ((0 : Int) ≤ i) with
    | false => simp only [evSs_cons, evSs_nil, evS, ev, evB, evF, evA, evP, evM, evI, evO, rb_ok, rb_ex, ro_ok, ro_ex, rn_ok, op_so, td_v, td_l, td_ex, ts_b, ts_l, ts_t, ts_i, Z.pk_nil, pk_v, pk_l, pk_i, ih_v, ih_l, ih_d, fz_v, fz_l, sq_nx, sq_rt, sq_ex, rs_rt, rs_nx, rs_ex, of_so, st_def, st_tup, st_lst, cb_ok, cb_ex, fin_ok, fin_ex, p_isi, p_lenT, p_lenL, p_int, p_intB, p_abs, p_add, p_sub, p_neg, p_lt, p_gt, p_le, p_ge, p_max, p_min, p_isN, p_notN, p_tupL, p_tupT, p_lstL, p_lstT, p_rev, ix0L, ix0T, ix1L, ix1T, ix2L, ix2T, pu0, pu1, pu2, ft0, ft1, ft2, ft3, ft4, fl0, fl1, fl2, fl3, fl4, fl5, fl6, fl7, fl8, fl9, fl10, fl11, ca_rt, ca_nx, io_i, ap_S, il_l, p_addS, p_addU, Nat.reduceLeDiff, sl_L, Int.natCast_zero, Int.natCast_one, Int.cast_ofNat_Int, sm0, sm1, sm2, p_eqI, p_neI, p_eqB, p_neB, p_eqS, p_neS, Option.map_some, Option.bind_some, slot, setS, setTs, isOw, Z.fill, unfill, owV, outs, outsA, List.getD_cons_zero, List.getD_cons_succ, List.set_cons_zero, List.set_cons_succ, List.length_cons, List.length_nil, List.any_cons, List.any_nil, List.append_nil, List.nil_append, List.cons_append, List.map_cons, List.map_nil, isTy, Bool.or_false, Bool.or_true, Bool.false_or, Bool.true_or, Bool.not_true, Bool.not_false, Bool.true_and, Bool.false_and, Bool.and_true, Bool.and_false, if_true, if_false, Bool.false_eq_true, reduceIte, List.not_mem_nil, List.mem_cons, or_false, false_or, not_false_eq_true, not_true_eq_false, and_true, and_false, and_self, true_and, Nat.reduceLT, Nat.reduceAdd, Nat.zero_add, Nat.lt_add_one, Nat.reduceEqDiff, Nat.lt_add_left_iff_pos, Nat.zero_lt_succ, Nat.zero_lt_one, Nat.succ_ne_self, reduceCtorEq, Nat.zero_ne_one, Nat.one_ne_zero, decide_true, decide_false, beq_self_eq_true, Int.reduceBEq, Int.reduceLT, Int.reduceLE, Int.reduceAdd, Int.reduceSub, Int.reduceNeg, c3_3, g_triple, c1I, e]
    | true =>
      cases e1 : decide (t.f N = t) with
      | false => simp only [evSs_cons, evSs_nil, evS, ev, evB, evF, evA, evP, evM, evI, evO, rb_ok, rb_ex, ro_ok, ro_ex, rn_ok, op_so, td_v, td_l, td_ex, ts_b, ts_l, ts_t, ts_i, Z.pk_nil, pk_v, pk_l, pk_i, ih_v, ih_l, ih_d, fz_v, fz_l, sq_nx, sq_rt, sq_ex, rs_rt, rs_nx, rs_ex, of_so, st_def, st_tup, st_lst, cb_ok, cb_ex, fin_ok, fin_ex, p_isi, p_lenT, p_lenL, p_int, p_intB, p_abs, p_add, p_sub, p_neg, p_lt, p_gt, p_le, p_ge, p_max, p_min, p_isN, p_notN, p_tupL, p_tupT, p_lstL, p_lstT, p_rev, ix0L, ix0T, ix1L, ix1T, ix2L, ix2T, pu0, pu1, pu2, ft0, ft1, ft2, ft3, ft4, fl0, fl1, fl2, fl3, fl4, fl5, fl6, fl7, fl8, fl9, fl10, fl11, ca_rt, ca_nx, io_i, ap_S, il_l, p_addS, p_addU, Nat.reduceLeDiff, sl_L, Int.natCast_zero, Int.natCast_one, Int.cast_ofNat_Int, sm0, sm1, sm2, p_eqI, p_neI, p_eqB, p_neB, p_eqS, p_neS, Option.map_some, Option.bind_some, slot, setS, setTs, isOw, Z.fill, unfill, owV, outs, outsA, List.getD_cons_zero, List.getD_cons_succ, List.set_cons_zero, List.set_cons_succ, List.length_cons, List.length_nil, List.any_cons, List.any_nil, List.append_nil, List.nil_append, List.cons_append, List.map_cons, List.map_nil, isTy, Bool.or_false, Bool.or_true, Bool.false_or, Bool.true_or, Bool.not_true, Bool.not_false, Bool.true_and, Bool.false_and, Bool.and_true, Bool.and_false, if_true, if_false, Bool.false_eq_true, reduceIte, List.not_mem_nil, List.mem_cons, or_false, false_or, not_false_eq_true, not_true_eq_false, and_true, and_false, and_self, true_and, Nat.reduceLT, Nat.reduceAdd, Nat.zero_add, Nat.lt_add_one, Nat.reduceEqDiff, Nat.lt_add_left_iff_pos, Nat.zero_lt_succ, Nat.zero_lt_one, Nat.succ_ne_self, reduceCtorEq, Nat.zero_ne_one, Nat.one_ne_zero, decide_true, decide_false, beq_self_eq_true, Int.reduceBEq, Int.reduceLT, Int.reduceLE, Int.reduceAdd, Int.reduceSub, Int.reduceNeg, c3_3, g_triple, c1I, e, h1, e1]
      | true =>
        cases e2 : decide (u.f N = u) with
        | false => simp only [evSs_cons, evSs_nil, evS, ev, evB, evF, evA, evP, evM, evI, evO, rb_ok, rb_ex, ro_ok, ro_ex, rn_ok, op_so, td_v, td_l, td_ex, ts_b, ts_l, ts_t, ts_i, Z.pk_nil, pk_v, pk_l, pk_i, ih_v, ih_l, ih_d, fz_v, fz_l, sq_nx, sq_rt, sq_ex, rs_rt, rs_nx, rs_ex, of_so, st_def, st_tup, st_lst, cb_ok, cb_ex, fin_ok, fin_ex, p_isi, p_lenT, p_lenL, p_int, p_intB, p_abs, p_add, p_sub, p_neg, p_lt, p_gt, p_le, p_ge, p_max, p_min, p_isN, p_notN, p_tupL, p_tupT, p_lstL, p_lstT, p_rev, ix0L, ix0T, ix1L, ix1T, ix2L, ix2T, pu0, pu1, pu2, ft0, ft1, ft2, ft3, ft4, fl0, fl1, fl2, fl3, fl4, fl5, fl6, fl7, fl8, fl9, fl10, fl11, ca_rt, ca_nx, io_i, ap_S, il_l, p_addS, p_addU, Nat.reduceLeDiff, sl_L, Int.natCast_zero, Int.natCast_one, Int.cast_ofNat_Int, sm0, sm1, sm2, p_eqI, p_neI, p_eqB, p_neB, p_eqS, p_neS, Option.map_some, Option.bind_some, slot, setS, setTs, isOw, Z.fill, unfill, owV, outs, outsA, List.getD_cons_zero, List.getD_cons_succ, List.set_cons_zero, List.set_cons_succ, List.length_cons, List.length_nil, List.any_cons, List.any_nil, List.append_nil, List.nil_append, List.cons_append, List.map_cons, List.map_nil, isTy, Bool.or_false, Bool.or_true, Bool.false_or, Bool.true_or, Bool.not_true, Bool.not_false, Bool.true_and, Bool.false_and, Bool.and_true, Bool.and_false, if_true, if_false, Bool.false_eq_true, reduceIte, List.not_mem_nil, List.mem_cons, or_false, false_or, not_false_eq_true, not_true_eq_false, and_true, and_false, and_self, true_and, Nat.reduceLT, Nat.reduceAdd, Nat.zero_add, Nat.lt_add_one, Nat.reduceEqDiff, Nat.lt_add_left_iff_pos, Nat.zero_lt_succ, Nat.zero_lt_one, Nat.succ_ne_self, reduceCtorEq, Nat.zero_ne_one, Nat.one_ne_zero, decide_true, decide_false, beq_self_eq_true, Int.reduceBEq, Int.reduceLT, Int.reduceLE, Int.reduceAdd, Int.reduceSub, Int.reduceNeg, c3_3, g_triple, c1I, e, h1, e1, h2, e2]
        | true => simp only [evSs_cons, evSs_nil, evS, ev, evB, evF, evA, evP, evM, evI, evO, rb_ok, rb_ex, ro_ok, ro_ex, rn_ok, op_so, td_v, td_l, td_ex, ts_b, ts_l, ts_t, ts_i, Z.pk_nil, pk_v, pk_l, pk_i, ih_v, ih_l, ih_d, fz_v, fz_l, sq_nx, sq_rt, sq_ex, rs_rt, rs_nx, rs_ex, of_so, st_def, st_tup, st_lst, cb_ok, cb_ex, fin_ok, fin_ex, p_isi, p_lenT, p_lenL, p_int, p_intB, p_abs, p_add, p_sub, p_neg, p_lt, p_gt, p_le, p_ge, p_max, p_min, p_isN, p_notN, p_tupL, p_tupT, p_lstL, p_lstT, p_rev, ix0L, ix0T, ix1L, ix1T, ix2L, ix2T, pu0, pu1, pu2, ft0, ft1, ft2, ft3, ft4, fl0, fl1, fl2, fl3, fl4, fl5, fl6, fl7, fl8, fl9, fl10, fl11, ca_rt, ca_nx, io_i, ap_S, il_l, p_addS, p_addU, Nat.reduceLeDiff, sl_L, Int.natCast_zero, Int.natCast_one, Int.cast_ofNat_Int, sm0, sm1, sm2, p_eqI, p_neI, p_eqB, p_neB, p_eqS, p_neS, Option.map_some, Option.bind_some, slot, setS, setTs, isOw, Z.fill, unfill, owV, outs, outsA, List.getD_cons_zero, List.getD_cons_succ, List.set_cons_zero, List.set_cons_succ, List.length_cons, List.length_nil, List.any_cons, List.any_nil, List.append_nil, List.nil_append, List.cons_append, List.map_cons, List.map_nil, isTy, Bool.or_false, Bool.or_true, Bool.false_or, Bool.true_or, Bool.not_true, Bool.not_false, Bool.true_and, Bool.false_and, Bool.and_true, Bool.and_false, if_true, if_false, Bool.false_eq_true, reduceIte, List.not_mem_nil, List.mem_cons, or_false, false_or, not_false_eq_true, not_true_eq_false, and_true, and_false, and_self, true_and, Nat.reduceLT, Nat.reduceAdd, Nat.zero_add, Nat.lt_add_one, Nat.reduceEqDiff, Nat.lt_add_left_iff_pos, Nat.zero_lt_succ, Nat.zero_lt_one, Nat.succ_ne_self, reduceCtorEq, Nat.zero_ne_one, Nat.one_ne_zero, decide_true, decide_false, beq_self_eq_true, Int.reduceBEq, Int.reduceLT, Int.reduceLE, Int.reduceAdd, Int.reduceSub, Int.reduceNeg, c3_3, g_triple, c1I, e, h1, e1, h2, e2, p_neE (t := t) (u := u) (by have := h.sz; omega)]
theorem c16B {N : List Nm} {t u : T} (i : Bool) : ∀ {n : Nat}, 26 ≤ n → callN pg n 16 [.v (eNs N), .v (.tuple [t.e, u.e, .bool i])] = .ok (.v (.bool false)) [.hole, .hole]
  | 0, hn => by omega
  | 1, hn => by omega
  | 2, hn => by omega
  | n + 3, hn => by
    rw [callN_of [.v (eNs N), .v (.tuple [t.e, u.e, .bool i])] b16 [] 2 (d := f16) rfl]
    unfold b16
    simp only [evSs_cons, evSs_nil, evS, ev, evB, evF, evA, evP, evM, evI, evO, rb_ok, rb_ex, ro_ok, ro_ex, rn_ok, op_so, td_v, td_l, td_ex, ts_b, ts_l, ts_t, ts_i, Z.pk_nil, pk_v, pk_l, pk_i, ih_v, ih_l, ih_d, fz_v, fz_l, sq_nx, sq_rt, sq_ex, rs_rt, rs_nx, rs_ex, of_so, st_def, st_tup, st_lst, cb_ok, cb_ex, fin_ok, fin_ex, p_isi, p_lenT, p_lenL, p_int, p_intB, p_abs, p_add, p_sub, p_neg, p_lt, p_gt, p_le, p_ge, p_max, p_min, p_isN, p_notN, p_tupL, p_tupT, p_lstL, p_lstT, p_rev, ix0L, ix0T, ix1L, ix1T, ix2L, ix2T, pu0, pu1, pu2, ft0, ft1, ft2, ft3, ft4, fl0, fl1, fl2, fl3, fl4, fl5, fl6, fl7, fl8, fl9, fl10, fl11, ca_rt, ca_nx, io_i, ap_S, il_l, p_addS, p_addU, Nat.reduceLeDiff, sl_L, Int.natCast_zero, Int.natCast_one, Int.cast_ofNat_Int, sm0, sm1, sm2, p_eqI, p_neI, p_eqB, p_neB, p_eqS, p_neS, Option.map_some, Option.bind_some, slot, setS, setTs, isOw, Z.fill, unfill, owV, outs, outsA, List.getD_cons_zero, List.getD_cons_succ, List.set_cons_zero, List.set_cons_succ, List.length_cons, List.length_nil, List.any_cons, List.any_nil, List.append_nil, List.nil_append, List.cons_append, List.map_cons, List.map_nil, isTy, Bool.or_false, Bool.or_true, Bool.false_or, Bool.true_or, Bool.not_true, Bool.not_false, Bool.true_and, Bool.false_and, Bool.and_true, Bool.and_false, if_true, if_false, Bool.false_eq_true, reduceIte, List.not_mem_nil, List.mem_cons, or_false, false_or, not_false_eq_true, not_true_eq_false, and_true, and_false, and_self, true_and, Nat.reduceLT, Nat.reduceAdd, Nat.zero_add, Nat.lt_add_one, Nat.reduceEqDiff, Nat.lt_add_left_iff_pos, Nat.zero_lt_succ, Nat.zero_lt_one, Nat.succ_ne_self, reduceCtorEq, Nat.zero_ne_one, Nat.one_ne_zero, decide_true, decide_false, beq_self_eq_true, Int.reduceBEq, Int.reduceLT, Int.reduceLE, Int.reduceAdd, Int.reduceSub, Int.reduceNeg, c3_3, g_triple, c1B]
theorem c16L {N : List Nm} {xs : List D} : ∀ {n : Nat}, 26 ≤ n → callN pg n 16 [.v (eNs N), .v (.list xs)] = .ok (.v (.bool false)) [.hole, .hole]
  | 0, hn => by omega
  | 1, hn => by omega
  | n + 2, hn => by
    rw [callN_of [.v (eNs N), .v (.list xs)] b16 [] 2 (d := f16) rfl]
    unfold b16
    simp only [evSs_cons, evSs_nil, evS, ev, evB, evF, evA, evP, evM, evI, evO, rb_ok, rb_ex, ro_ok, ro_ex, rn_ok, op_so, td_v, td_l, td_ex, ts_b, ts_l, ts_t, ts_i, Z.pk_nil, pk_v, pk_l, pk_i, ih_v, ih_l, ih_d, fz_v, fz_l, sq_nx, sq_rt, sq_ex, rs_rt, rs_nx, rs_ex, of_so, st_def, st_tup, st_lst, cb_ok, cb_ex, fin_ok, fin_ex, p_isi, p_lenT, p_lenL, p_int, p_intB, p_abs, p_add, p_sub, p_neg, p_lt, p_gt, p_le, p_ge, p_max, p_min, p_isN, p_notN, p_tupL, p_tupT, p_lstL, p_lstT, p_rev, ix0L, ix0T, ix1L, ix1T, ix2L, ix2T, pu0, pu1, pu2, ft0, ft1, ft2, ft3, ft4, fl0, fl1, fl2, fl3, fl4, fl5, fl6, fl7, fl8, fl9, fl10, fl11, ca_rt, ca_nx, io_i, ap_S, il_l, p_addS, p_addU, Nat.reduceLeDiff, sl_L, Int.natCast_zero, Int.natCast_one, Int.cast_ofNat_Int, sm0, sm1, sm2, p_eqI, p_neI, p_eqB, p_neB, p_eqS, p_neS, Option.map_some, Option.bind_some, slot, setS, setTs, isOw, Z.fill, unfill, owV, outs, outsA, List.getD_cons_zero, List.getD_cons_succ, List.set_cons_zero, List.set_cons_succ, List.length_cons, List.length_nil, List.any_cons, List.any_nil, List.append_nil, List.nil_append, List.cons_append, List.map_cons, List.map_nil, isTy, Bool.or_false, Bool.or_true, Bool.false_or, Bool.true_or, Bool.not_true, Bool.not_false, Bool.true_and, Bool.false_and, Bool.and_true, Bool.and_false, if_true, if_false, Bool.false_eq_true, reduceIte, List.not_mem_nil, List.mem_cons, or_false, false_or, not_false_eq_true, not_true_eq_false, and_true, and_false, and_self, true_and, Nat.reduceLT, Nat.reduceAdd, Nat.zero_add, Nat.lt_add_one, Nat.reduceEqDiff, Nat.lt_add_left_iff_pos, Nat.zero_lt_succ, Nat.zero_lt_one, Nat.succ_ne_self, reduceCtorEq, Nat.zero_ne_one, Nat.one_ne_zero, decide_true, decide_false, beq_self_eq_true, Int.reduceBEq, Int.reduceLT, Int.reduceLE, Int.reduceAdd, Int.reduceSub, Int.reduceNeg, c3n (d := .list xs) (h := rfl), g_triple]
theorem c18 {N : List Nm} (hN : IsN N) {t u : T} (h : Gd N t) (k : Gd N u) {d d' : D} (hd : Tells d t) (kd : Tells d' u) (p : Int) : ∀ {n : Nat}, 26 ≤ n →
    callN pg n 18 [.v (eNs N), .v d, .v d', .v (.int p)] = if t.f N = u.f N then .ex "Unfit" [.hole, .hole, .hole, .hole] else .ok (.v (.tuple [(t.f N).e, (u.f N).e, .int p])) [.hole, .hole, .hole, .hole]
  | 0, hn => by omega
  | n + 1, hn => by
    have h1 := c14 hN h hd (n := n) (by omega)
    have h2 := c14 hN k kd (n := n) (by omega)
    rw [callN_of [.v (eNs N), .v d, .v d', .v (.int p), .hole, .hole] b18 [] 4 (d := f18) rfl]
    unfold b18
    by_cases e : t.f N = u.f N
    · rw [if_pos e]
      simp only [evSs_cons, evSs_nil, evS, ev, evB, evF, evA, evP, evM, evI, evO, rb_ok, rb_ex, ro_ok, ro_ex, rn_ok, op_so, td_v, td_l, td_ex, ts_b, ts_l, ts_t, ts_i, Z.pk_nil, pk_v, pk_l, pk_i, ih_v, ih_l, ih_d, fz_v, fz_l, sq_nx, sq_rt, sq_ex, rs_rt, rs_nx, rs_ex, of_so, st_def, st_tup, st_lst, cb_ok, cb_ex, fin_ok, fin_ex, p_isi, p_lenT, p_lenL, p_int, p_intB, p_abs, p_add, p_sub, p_neg, p_lt, p_gt, p_le, p_ge, p_max, p_min, p_isN, p_notN, p_tupL, p_tupT, p_lstL, p_lstT, p_rev, ix0L, ix0T, ix1L, ix1T, ix2L, ix2T, pu0, pu1, pu2, ft0, ft1, ft2, ft3, ft4, fl0, fl1, fl2, fl3, fl4, fl5, fl6, fl7, fl8, fl9, fl10, fl11, ca_rt, ca_nx, io_i, ap_S, il_l, p_addS, p_addU, Nat.reduceLeDiff, sl_L, Int.natCast_zero, Int.natCast_one, Int.cast_ofNat_Int, sm0, sm1, sm2, p_eqI, p_neI, p_eqB, p_neB, p_eqS, p_neS, Option.map_some, Option.bind_some, slot, setS, setTs, isOw, Z.fill, unfill, owV, outs, outsA, List.getD_cons_zero, List.getD_cons_succ, List.set_cons_zero, List.set_cons_succ, List.length_cons, List.length_nil, List.any_cons, List.any_nil, List.append_nil, List.nil_append, List.cons_append, List.map_cons, List.map_nil, isTy, Bool.or_false, Bool.or_true, Bool.false_or, Bool.true_or, Bool.not_true, Bool.not_false, Bool.true_and, Bool.false_and, Bool.and_true, Bool.and_false, if_true, if_false, Bool.false_eq_true, reduceIte, List.not_mem_nil, List.mem_cons, or_false, false_or, not_false_eq_true, not_true_eq_false, and_true, and_false, and_self, true_and, Nat.reduceLT, Nat.reduceAdd, Nat.zero_add, Nat.lt_add_one, Nat.reduceEqDiff, Nat.lt_add_left_iff_pos, Nat.zero_lt_succ, Nat.zero_lt_one, Nat.succ_ne_self, reduceCtorEq, Nat.zero_ne_one, Nat.one_ne_zero, decide_true, decide_false, beq_self_eq_true, Int.reduceBEq, Int.reduceLT, Int.reduceLE, Int.reduceAdd, Int.reduceSub, Int.reduceNeg, h1, h2, setAll, e, p_eqE (t := u.f N) (u := u.f N) (by rw [f_sz]; have := k.sz; omega)]
    · rw [if_neg e]
      simp only [evSs_cons, evSs_nil, evS, ev, evB, evF, evA, evP, evM, evI, evO, rb_ok, rb_ex, ro_ok, ro_ex, rn_ok, op_so, td_v, td_l, td_ex, ts_b, ts_l, ts_t, ts_i, Z.pk_nil, pk_v, pk_l, pk_i, ih_v, ih_l, ih_d, fz_v, fz_l, sq_nx, sq_rt, sq_ex, rs_rt, rs_nx, rs_ex, of_so, st_def, st_tup, st_lst, cb_ok, cb_ex, fin_ok, fin_ex, p_isi, p_lenT, p_lenL, p_int, p_intB, p_abs, p_add, p_sub, p_neg, p_lt, p_gt, p_le, p_ge, p_max, p_min, p_isN, p_notN, p_tupL, p_tupT, p_lstL, p_lstT, p_rev, ix0L, ix0T, ix1L, ix1T, ix2L, ix2T, pu0, pu1, pu2, ft0, ft1, ft2, ft3, ft4, fl0, fl1, fl2, fl3, fl4, fl5, fl6, fl7, fl8, fl9, fl10, fl11, ca_rt, ca_nx, io_i, ap_S, il_l, p_addS, p_addU, Nat.reduceLeDiff, sl_L, Int.natCast_zero, Int.natCast_one, Int.cast_ofNat_Int, sm0, sm1, sm2, p_eqI, p_neI, p_eqB, p_neB, p_eqS, p_neS, Option.map_some, Option.bind_some, slot, setS, setTs, isOw, Z.fill, unfill, owV, outs, outsA, List.getD_cons_zero, List.getD_cons_succ, List.set_cons_zero, List.set_cons_succ, List.length_cons, List.length_nil, List.any_cons, List.any_nil, List.append_nil, List.nil_append, List.cons_append, List.map_cons, List.map_nil, isTy, Bool.or_false, Bool.or_true, Bool.false_or, Bool.true_or, Bool.not_true, Bool.not_false, Bool.true_and, Bool.false_and, Bool.and_true, Bool.and_false, if_true, if_false, Bool.false_eq_true, reduceIte, List.not_mem_nil, List.mem_cons, or_false, false_or, not_false_eq_true, not_true_eq_false, and_true, and_false, and_self, true_and, Nat.reduceLT, Nat.reduceAdd, Nat.zero_add, Nat.lt_add_one, Nat.reduceEqDiff, Nat.lt_add_left_iff_pos, Nat.zero_lt_succ, Nat.zero_lt_one, Nat.succ_ne_self, reduceCtorEq, Nat.zero_ne_one, Nat.one_ne_zero, decide_true, decide_false, beq_self_eq_true, Int.reduceBEq, Int.reduceLT, Int.reduceLE, Int.reduceAdd, Int.reduceSub, Int.reduceNeg, h1, h2, setAll, p_eqE (t := t.f N) (u := u.f N) (by rw [f_sz]; have := h.sz; omega), e]
/-! ### books -/
structure Row where
  t : T
  u : T
  p : Int
structure GdR (N : List Nm) (r : Row) : Prop where
  t : Gd N r.t
  u : Gd N r.u
  p : 0 ≤ r.p
def Row.bad (N : List Nm) (r : Row) : Bool := decide (r.t.f N = r.u.f N)
/-- a row of the book -/
def Row.due (N : List Nm) (r : Row) : D := .tuple [(r.t.f N).e, (r.u.f N).e, .int r.p]
def Row.e (r : Row) : D := .tuple [r.t.e, r.u.e, .int r.p]
/-- d tells the row -/
def TellsR (d : D) (r : Row) : Prop := ∃ a b, (d = .tuple [a, b, .int r.p] ∨ d = .list [a, b, .int r.p]) ∧ Tells a r.t ∧ Tells b r.u
theorem c19 {N : List Nm} (hN : IsN N) {rs : List Row} (h : ∀ r ∈ rs, GdR N r) {enc : Row → D} (he : ∀ r ∈ rs, TellsR (enc r) r) {d : D} (hd : tupD d = eNs N) (hp : dp d ≤ 20) : ∀ {n : Nat}, 27 ≤ n →
    callN pg n 19 [.v d, .v (.list (rs.map enc))] = if rs.any (Row.bad N) then .ex "Unfit" [.hole, .hole] else .ok (.v (.tuple [eNs N, .tuple (rs.map (Row.due N))])) [.hole, .hole]
  | 0, hn => by omega
  | n + 1, hn => by
    have h6 := c6 n d (by omega)
    rw [hd] at h6
    rw [callN_of [.v d, .v (.list (rs.map enc)), .hole, .hole, .hole, .hole] b19 [] 2 (d := f19) rfl]
    unfold b19
    cases q : rs.any (Row.bad N) with
    | false =>
      rw [if_neg (by simp)]
      simp only [evSs_cons, evSs_nil, evS, ev, evB, evF, evA, evP, evM, evI, evO, rb_ok, rb_ex, ro_ok, ro_ex, rn_ok, op_so, td_v, td_l, td_ex, ts_b, ts_l, ts_t, ts_i, Z.pk_nil, pk_v, pk_l, pk_i, ih_v, ih_l, ih_d, fz_v, fz_l, sq_nx, sq_rt, sq_ex, rs_rt, rs_nx, rs_ex, of_so, st_def, st_tup, st_lst, cb_ok, cb_ex, fin_ok, fin_ex, p_isi, p_lenT, p_lenL, p_int, p_intB, p_abs, p_add, p_sub, p_neg, p_lt, p_gt, p_le, p_ge, p_max, p_min, p_isN, p_notN, p_tupL, p_tupT, p_lstL, p_lstT, p_rev, ix0L, ix0T, ix1L, ix1T, ix2L, ix2T, pu0, pu1, pu2, ft0, ft1, ft2, ft3, ft4, fl0, fl1, fl2, fl3, fl4, fl5, fl6, fl7, fl8, fl9, fl10, fl11, ca_rt, ca_nx, io_i, ap_S, il_l, p_addS, p_addU, Nat.reduceLeDiff, sl_L, Int.natCast_zero, Int.natCast_one, Int.cast_ofNat_Int, sm0, sm1, sm2, p_eqI, p_neI, p_eqB, p_neB, p_eqS, p_neS, Option.map_some, Option.bind_some, slot, setS, setTs, isOw, Z.fill, unfill, owV, outs, outsA, List.getD_cons_zero, List.getD_cons_succ, List.set_cons_zero, List.set_cons_succ, List.length_cons, List.length_nil, List.any_cons, List.any_nil, List.append_nil, List.nil_append, List.cons_append, List.map_cons, List.map_nil, isTy, Bool.or_false, Bool.or_true, Bool.false_or, Bool.true_or, Bool.not_true, Bool.not_false, Bool.true_and, Bool.false_and, Bool.and_true, Bool.and_false, if_true, if_false, Bool.false_eq_true, reduceIte, List.not_mem_nil, List.mem_cons, or_false, false_or, not_false_eq_true, not_true_eq_false, and_true, and_false, and_self, true_and, Nat.reduceLT, Nat.reduceAdd, Nat.zero_add, Nat.lt_add_one, Nat.reduceEqDiff, Nat.lt_add_left_iff_pos, Nat.zero_lt_succ, Nat.zero_lt_one, Nat.succ_ne_self, reduceCtorEq, Nat.zero_ne_one, Nat.one_ne_zero, decide_true, decide_false, beq_self_eq_true, Int.reduceBEq, Int.reduceLT, Int.reduceLE, Int.reduceAdd, Int.reduceSub, Int.reduceNeg, h6, walkD]
      rw [lc_rw (fun Γ => ∃ o o' o'', Γ = [.v d, .v (.list (rs.map enc)), .v (eNs N), o, o', o'']) (fun r => [Row.due N r]) [.v d, .v (.list (rs.map enc)), .v (eNs N), .hole, .hole, .hole] ?_ ⟨_, _, _, rfl⟩ (by rintro _ ⟨o, o', o'', rfl⟩; rfl)]
      · simp only [evSs_cons, evSs_nil, evS, ev, evB, evF, evA, evP, evM, evI, evO, rb_ok, rb_ex, ro_ok, ro_ex, rn_ok, op_so, td_v, td_l, td_ex, ts_b, ts_l, ts_t, ts_i, Z.pk_nil, pk_v, pk_l, pk_i, ih_v, ih_l, ih_d, fz_v, fz_l, sq_nx, sq_rt, sq_ex, rs_rt, rs_nx, rs_ex, of_so, st_def, st_tup, st_lst, cb_ok, cb_ex, fin_ok, fin_ex, p_isi, p_lenT, p_lenL, p_int, p_intB, p_abs, p_add, p_sub, p_neg, p_lt, p_gt, p_le, p_ge, p_max, p_min, p_isN, p_notN, p_tupL, p_tupT, p_lstL, p_lstT, p_rev, ix0L, ix0T, ix1L, ix1T, ix2L, ix2T, pu0, pu1, pu2, ft0, ft1, ft2, ft3, ft4, fl0, fl1, fl2, fl3, fl4, fl5, fl6, fl7, fl8, fl9, fl10, fl11, ca_rt, ca_nx, io_i, ap_S, il_l, p_addS, p_addU, Nat.reduceLeDiff, sl_L, Int.natCast_zero, Int.natCast_one, Int.cast_ofNat_Int, sm0, sm1, sm2, p_eqI, p_neI, p_eqB, p_neB, p_eqS, p_neS, Option.map_some, Option.bind_some, slot, setS, setTs, isOw, Z.fill, unfill, owV, outs, outsA, List.getD_cons_zero, List.getD_cons_succ, List.set_cons_zero, List.set_cons_succ, List.length_cons, List.length_nil, List.any_cons, List.any_nil, List.append_nil, List.nil_append, List.cons_append, List.map_cons, List.map_nil, isTy, Bool.or_false, Bool.or_true, Bool.false_or, Bool.true_or, Bool.not_true, Bool.not_false, Bool.true_and, Bool.false_and, Bool.and_true, Bool.and_false, if_true, if_false, Bool.false_eq_true, reduceIte, List.not_mem_nil, List.mem_cons, or_false, false_or, not_false_eq_true, not_true_eq_false, and_true, and_false, and_self, true_and, Nat.reduceLT, Nat.reduceAdd, Nat.zero_add, Nat.lt_add_one, Nat.reduceEqDiff, Nat.lt_add_left_iff_pos, Nat.zero_lt_succ, Nat.zero_lt_one, Nat.succ_ne_self, reduceCtorEq, Nat.zero_ne_one, Nat.one_ne_zero, decide_true, decide_false, beq_self_eq_true, Int.reduceBEq, Int.reduceLT, Int.reduceLE, Int.reduceAdd, Int.reduceSub, Int.reduceNeg, flat1]
      · rintro r hr _ ⟨o, o', o'', rfl⟩
        have hb : ¬ r.t.f N = r.u.f N := by
          intro e
          have : rs.any (Row.bad N) = true := List.any_eq_true.mpr ⟨r, hr, by unfold Row.bad; exact decide_eq_true e⟩
          rw [q] at this
          cases this
        obtain ⟨a, b, e, ha, hb'⟩ := he r hr
        have h18 := c18 hN (h r hr).t (h r hr).u ha hb' r.p (n := n) (by omega)
        rw [if_neg hb] at h18
        refine ⟨[.v d, .v (.list (rs.map enc)), .v (eNs N), .v a, .v b, .v (.int r.p)], ?_, _, _, _, rfl⟩
        rcases e with e | e <;> rw [e] <;> simp only [evSs_cons, evSs_nil, evS, ev, evB, evF, evA, evP, evM, evI, evO, rb_ok, rb_ex, ro_ok, ro_ex, rn_ok, op_so, td_v, td_l, td_ex, ts_b, ts_l, ts_t, ts_i, Z.pk_nil, pk_v, pk_l, pk_i, ih_v, ih_l, ih_d, fz_v, fz_l, sq_nx, sq_rt, sq_ex, rs_rt, rs_nx, rs_ex, of_so, st_def, st_tup, st_lst, cb_ok, cb_ex, fin_ok, fin_ex, p_isi, p_lenT, p_lenL, p_int, p_intB, p_abs, p_add, p_sub, p_neg, p_lt, p_gt, p_le, p_ge, p_max, p_min, p_isN, p_notN, p_tupL, p_tupT, p_lstL, p_lstT, p_rev, ix0L, ix0T, ix1L, ix1T, ix2L, ix2T, pu0, pu1, pu2, ft0, ft1, ft2, ft3, ft4, fl0, fl1, fl2, fl3, fl4, fl5, fl6, fl7, fl8, fl9, fl10, fl11, ca_rt, ca_nx, io_i, ap_S, il_l, p_addS, p_addU, Nat.reduceLeDiff, sl_L, Int.natCast_zero, Int.natCast_one, Int.cast_ofNat_Int, sm0, sm1, sm2, p_eqI, p_neI, p_eqB, p_neB, p_eqS, p_neS, Option.map_some, Option.bind_some, slot, setS, setTs, isOw, Z.fill, unfill, owV, outs, outsA, List.getD_cons_zero, List.getD_cons_succ, List.set_cons_zero, List.set_cons_succ, List.length_cons, List.length_nil, List.any_cons, List.any_nil, List.append_nil, List.nil_append, List.cons_append, List.map_cons, List.map_nil, isTy, Bool.or_false, Bool.or_true, Bool.false_or, Bool.true_or, Bool.not_true, Bool.not_false, Bool.true_and, Bool.false_and, Bool.and_true, Bool.and_false, if_true, if_false, Bool.false_eq_true, reduceIte, List.not_mem_nil, List.mem_cons, or_false, false_or, not_false_eq_true, not_true_eq_false, and_true, and_false, and_self, true_and, Nat.reduceLT, Nat.reduceAdd, Nat.zero_add, Nat.lt_add_one, Nat.reduceEqDiff, Nat.lt_add_left_iff_pos, Nat.zero_lt_succ, Nat.zero_lt_one, Nat.succ_ne_self, reduceCtorEq, Nat.zero_ne_one, Nat.one_ne_zero, decide_true, decide_false, beq_self_eq_true, Int.reduceBEq, Int.reduceLT, Int.reduceLE, Int.reduceAdd, Int.reduceSub, Int.reduceNeg, holes, h18] <;> rfl
    | true =>
      rw [if_pos rfl]
      simp only [evSs_cons, evSs_nil, evS, ev, evB, evF, evA, evP, evM, evI, evO, rb_ok, rb_ex, ro_ok, ro_ex, rn_ok, op_so, td_v, td_l, td_ex, ts_b, ts_l, ts_t, ts_i, Z.pk_nil, pk_v, pk_l, pk_i, ih_v, ih_l, ih_d, fz_v, fz_l, sq_nx, sq_rt, sq_ex, rs_rt, rs_nx, rs_ex, of_so, st_def, st_tup, st_lst, cb_ok, cb_ex, fin_ok, fin_ex, p_isi, p_lenT, p_lenL, p_int, p_intB, p_abs, p_add, p_sub, p_neg, p_lt, p_gt, p_le, p_ge, p_max, p_min, p_isN, p_notN, p_tupL, p_tupT, p_lstL, p_lstT, p_rev, ix0L, ix0T, ix1L, ix1T, ix2L, ix2T, pu0, pu1, pu2, ft0, ft1, ft2, ft3, ft4, fl0, fl1, fl2, fl3, fl4, fl5, fl6, fl7, fl8, fl9, fl10, fl11, ca_rt, ca_nx, io_i, ap_S, il_l, p_addS, p_addU, Nat.reduceLeDiff, sl_L, Int.natCast_zero, Int.natCast_one, Int.cast_ofNat_Int, sm0, sm1, sm2, p_eqI, p_neI, p_eqB, p_neB, p_eqS, p_neS, Option.map_some, Option.bind_some, slot, setS, setTs, isOw, Z.fill, unfill, owV, outs, outsA, List.getD_cons_zero, List.getD_cons_succ, List.set_cons_zero, List.set_cons_succ, List.length_cons, List.length_nil, List.any_cons, List.any_nil, List.append_nil, List.nil_append, List.cons_append, List.map_cons, List.map_nil, isTy, Bool.or_false, Bool.or_true, Bool.false_or, Bool.true_or, Bool.not_true, Bool.not_false, Bool.true_and, Bool.false_and, Bool.and_true, Bool.and_false, if_true, if_false, Bool.false_eq_true, reduceIte, List.not_mem_nil, List.mem_cons, or_false, false_or, not_false_eq_true, not_true_eq_false, and_true, and_false, and_self, true_and, Nat.reduceLT, Nat.reduceAdd, Nat.zero_add, Nat.lt_add_one, Nat.reduceEqDiff, Nat.lt_add_left_iff_pos, Nat.zero_lt_succ, Nat.zero_lt_one, Nat.succ_ne_self, reduceCtorEq, Nat.zero_ne_one, Nat.one_ne_zero, decide_true, decide_false, beq_self_eq_true, Int.reduceBEq, Int.reduceLT, Int.reduceLE, Int.reduceAdd, Int.reduceSub, Int.reduceNeg, h6, walkD]
      rw [lc_exw (fun Γ => ∃ o o' o'', Γ = [.v d, .v (.list (rs.map enc)), .v (eNs N), o, o', o'']) (fun r => [Row.due N r]) (Row.bad N) "Unfit" ?_ ⟨_, _, _, rfl⟩ q]
      · simp only [evSs_cons, evSs_nil, evS, ev, evB, evF, evA, evP, evM, evI, evO, rb_ok, rb_ex, ro_ok, ro_ex, rn_ok, op_so, td_v, td_l, td_ex, ts_b, ts_l, ts_t, ts_i, Z.pk_nil, pk_v, pk_l, pk_i, ih_v, ih_l, ih_d, fz_v, fz_l, sq_nx, sq_rt, sq_ex, rs_rt, rs_nx, rs_ex, of_so, st_def, st_tup, st_lst, cb_ok, cb_ex, fin_ok, fin_ex, p_isi, p_lenT, p_lenL, p_int, p_intB, p_abs, p_add, p_sub, p_neg, p_lt, p_gt, p_le, p_ge, p_max, p_min, p_isN, p_notN, p_tupL, p_tupT, p_lstL, p_lstT, p_rev, ix0L, ix0T, ix1L, ix1T, ix2L, ix2T, pu0, pu1, pu2, ft0, ft1, ft2, ft3, ft4, fl0, fl1, fl2, fl3, fl4, fl5, fl6, fl7, fl8, fl9, fl10, fl11, ca_rt, ca_nx, io_i, ap_S, il_l, p_addS, p_addU, Nat.reduceLeDiff, sl_L, Int.natCast_zero, Int.natCast_one, Int.cast_ofNat_Int, sm0, sm1, sm2, p_eqI, p_neI, p_eqB, p_neB, p_eqS, p_neS, Option.map_some, Option.bind_some, slot, setS, setTs, isOw, Z.fill, unfill, owV, outs, outsA, List.getD_cons_zero, List.getD_cons_succ, List.set_cons_zero, List.set_cons_succ, List.length_cons, List.length_nil, List.any_cons, List.any_nil, List.append_nil, List.nil_append, List.cons_append, List.map_cons, List.map_nil, isTy, Bool.or_false, Bool.or_true, Bool.false_or, Bool.true_or, Bool.not_true, Bool.not_false, Bool.true_and, Bool.false_and, Bool.and_true, Bool.and_false, if_true, if_false, Bool.false_eq_true, reduceIte, List.not_mem_nil, List.mem_cons, or_false, false_or, not_false_eq_true, not_true_eq_false, and_true, and_false, and_self, true_and, Nat.reduceLT, Nat.reduceAdd, Nat.zero_add, Nat.lt_add_one, Nat.reduceEqDiff, Nat.lt_add_left_iff_pos, Nat.zero_lt_succ, Nat.zero_lt_one, Nat.succ_ne_self, reduceCtorEq, Nat.zero_ne_one, Nat.one_ne_zero, decide_true, decide_false, beq_self_eq_true, Int.reduceBEq, Int.reduceLT, Int.reduceLE, Int.reduceAdd, Int.reduceSub, Int.reduceNeg, outsA_nil, List.replicate]
        try rfl
      · rintro r hr _ ⟨o, o', o'', rfl⟩
        obtain ⟨a, b, e, ha, hb'⟩ := he r hr
        have h18 := c18 hN (h r hr).t (h r hr).u ha hb' r.p (n := n) (by omega)
        refine ⟨fun hb => ?_, fun hb => ?_⟩
        · unfold Row.bad at hb
          rw [if_neg (of_decide_eq_false hb)] at h18
          refine ⟨[.v d, .v (.list (rs.map enc)), .v (eNs N), .v a, .v b, .v (.int r.p)], ?_, _, _, _, rfl⟩
          rcases e with e | e <;> rw [e] <;> simp only [evSs_cons, evSs_nil, evS, ev, evB, evF, evA, evP, evM, evI, evO, rb_ok, rb_ex, ro_ok, ro_ex, rn_ok, op_so, td_v, td_l, td_ex, ts_b, ts_l, ts_t, ts_i, Z.pk_nil, pk_v, pk_l, pk_i, ih_v, ih_l, ih_d, fz_v, fz_l, sq_nx, sq_rt, sq_ex, rs_rt, rs_nx, rs_ex, of_so, st_def, st_tup, st_lst, cb_ok, cb_ex, fin_ok, fin_ex, p_isi, p_lenT, p_lenL, p_int, p_intB, p_abs, p_add, p_sub, p_neg, p_lt, p_gt, p_le, p_ge, p_max, p_min, p_isN, p_notN, p_tupL, p_tupT, p_lstL, p_lstT, p_rev, ix0L, ix0T, ix1L, ix1T, ix2L, ix2T, pu0, pu1, pu2, ft0, ft1, ft2, ft3, ft4, fl0, fl1, fl2, fl3, fl4, fl5, fl6, fl7, fl8, fl9, fl10, fl11, ca_rt, ca_nx, io_i, ap_S, il_l, p_addS, p_addU, Nat.reduceLeDiff, sl_L, Int.natCast_zero, Int.natCast_one, Int.cast_ofNat_Int, sm0, sm1, sm2, p_eqI, p_neI, p_eqB, p_neB, p_eqS, p_neS, Option.map_some, Option.bind_some, slot, setS, setTs, isOw, Z.fill, unfill, owV, outs, outsA, List.getD_cons_zero, List.getD_cons_succ, List.set_cons_zero, List.set_cons_succ, List.length_cons, List.length_nil, List.any_cons, List.any_nil, List.append_nil, List.nil_append, List.cons_append, List.map_cons, List.map_nil, isTy, Bool.or_false, Bool.or_true, Bool.false_or, Bool.true_or, Bool.not_true, Bool.not_false, Bool.true_and, Bool.false_and, Bool.and_true, Bool.and_false, if_true, if_false, Bool.false_eq_true, reduceIte, List.not_mem_nil, List.mem_cons, or_false, false_or, not_false_eq_true, not_true_eq_false, and_true, and_false, and_self, true_and, Nat.reduceLT, Nat.reduceAdd, Nat.zero_add, Nat.lt_add_one, Nat.reduceEqDiff, Nat.lt_add_left_iff_pos, Nat.zero_lt_succ, Nat.zero_lt_one, Nat.succ_ne_self, reduceCtorEq, Nat.zero_ne_one, Nat.one_ne_zero, decide_true, decide_false, beq_self_eq_true, Int.reduceBEq, Int.reduceLT, Int.reduceLE, Int.reduceAdd, Int.reduceSub, Int.reduceNeg, holes, h18] <;> rfl
        · unfold Row.bad at hb
          rw [if_pos (of_decide_eq_true hb)] at h18
          refine ⟨[.v d, .v (.list (rs.map enc)), .v (eNs N), .v a, .v b, .v (.int r.p)], ?_⟩
          rcases e with e | e <;> rw [e] <;> simp only [evSs_cons, evSs_nil, evS, ev, evB, evF, evA, evP, evM, evI, evO, rb_ok, rb_ex, ro_ok, ro_ex, rn_ok, op_so, td_v, td_l, td_ex, ts_b, ts_l, ts_t, ts_i, Z.pk_nil, pk_v, pk_l, pk_i, ih_v, ih_l, ih_d, fz_v, fz_l, sq_nx, sq_rt, sq_ex, rs_rt, rs_nx, rs_ex, of_so, st_def, st_tup, st_lst, cb_ok, cb_ex, fin_ok, fin_ex, p_isi, p_lenT, p_lenL, p_int, p_intB, p_abs, p_add, p_sub, p_neg, p_lt, p_gt, p_le, p_ge, p_max, p_min, p_isN, p_notN, p_tupL, p_tupT, p_lstL, p_lstT, p_rev, ix0L, ix0T, ix1L, ix1T, ix2L, ix2T, pu0, pu1, pu2, ft0, ft1, ft2, ft3, ft4, fl0, fl1, fl2, fl3, fl4, fl5, fl6, fl7, fl8, fl9, fl10, fl11, ca_rt, ca_nx, io_i, ap_S, il_l, p_addS, p_addU, Nat.reduceLeDiff, sl_L, Int.natCast_zero, Int.natCast_one, Int.cast_ofNat_Int, sm0, sm1, sm2, p_eqI, p_neI, p_eqB, p_neB, p_eqS, p_neS, Option.map_some, Option.bind_some, slot, setS, setTs, isOw, Z.fill, unfill, owV, outs, outsA, List.getD_cons_zero, List.getD_cons_succ, List.set_cons_zero, List.set_cons_succ, List.length_cons, List.length_nil, List.any_cons, List.any_nil, List.append_nil, List.nil_append, List.cons_append, List.map_cons, List.map_nil, isTy, Bool.or_false, Bool.or_true, Bool.false_or, Bool.true_or, Bool.not_true, Bool.not_false, Bool.true_and, Bool.false_and, Bool.and_true, Bool.and_false, if_true, if_false, Bool.false_eq_true, reduceIte, List.not_mem_nil, List.mem_cons, or_false, false_or, not_false_eq_true, not_true_eq_false, and_true, and_false, and_self, true_and, Nat.reduceLT, Nat.reduceAdd, Nat.zero_add, Nat.lt_add_one, Nat.reduceEqDiff, Nat.lt_add_left_iff_pos, Nat.zero_lt_succ, Nat.zero_lt_one, Nat.succ_ne_self, reduceCtorEq, Nat.zero_ne_one, Nat.one_ne_zero, decide_true, decide_false, beq_self_eq_true, Int.reduceBEq, Int.reduceLT, Int.reduceLE, Int.reduceAdd, Int.reduceSub, Int.reduceNeg, holes, h18]
theorem exm_u : pg.exm "Unfit" "Unfit" = some true := by kernel_rfl
theorem c31r {N : List Nm} (hN : IsN N) {t u : T} (h : Gd N t) (k : Gd N u) {d d' : D} (hd : Tells d t) (kd : Tells d' u) (p : Int) : ∀ {n : Nat}, 27 ≤ n →
    callN pg n 31 [.v (.int 0), .v (eNs N), .v d, .v d', .v (.int p)] = .ok (.v (if t.f N = u.f N then .str "unfit" else .tuple [(t.f N).e, (u.f N).e, .int p])) [.hole, .hole, .hole, .hole, .hole]
  | 0, hn => by omega
  | n + 1, hn => by
    have h18 := c18 hN h k hd kd p (n := n) (by omega)
    rw [callN_of [.v (.int 0), .v (eNs N), .v d, .v d', .v (.int p)] b31 [] 5 (d := f31) rfl]
    unfold b31
    by_cases e : t.f N = u.f N
    · rw [if_pos e] at h18
      rw [if_pos e]
      simp only [evSs_cons, evSs_nil, evS, ev, evB, evF, evA, evP, evM, evI, evO, rb_ok, rb_ex, ro_ok, ro_ex, rn_ok, op_so, td_v, td_l, td_ex, ts_b, ts_l, ts_t, ts_i, Z.pk_nil, pk_v, pk_l, pk_i, ih_v, ih_l, ih_d, fz_v, fz_l, sq_nx, sq_rt, sq_ex, rs_rt, rs_nx, rs_ex, of_so, st_def, st_tup, st_lst, cb_ok, cb_ex, fin_ok, fin_ex, p_isi, p_lenT, p_lenL, p_int, p_intB, p_abs, p_add, p_sub, p_neg, p_lt, p_gt, p_le, p_ge, p_max, p_min, p_isN, p_notN, p_tupL, p_tupT, p_lstL, p_lstT, p_rev, ix0L, ix0T, ix1L, ix1T, ix2L, ix2T, pu0, pu1, pu2, ft0, ft1, ft2, ft3, ft4, fl0, fl1, fl2, fl3, fl4, fl5, fl6, fl7, fl8, fl9, fl10, fl11, ca_rt, ca_nx, io_i, ap_S, il_l, p_addS, p_addU, Nat.reduceLeDiff, sl_L, Int.natCast_zero, Int.natCast_one, Int.cast_ofNat_Int, sm0, sm1, sm2, p_eqI, p_neI, p_eqB, p_neB, p_eqS, p_neS, Option.map_some, Option.bind_some, slot, setS, setTs, isOw, Z.fill, unfill, owV, outs, outsA, List.getD_cons_zero, List.getD_cons_succ, List.set_cons_zero, List.set_cons_succ, List.length_cons, List.length_nil, List.any_cons, List.any_nil, List.append_nil, List.nil_append, List.cons_append, List.map_cons, List.map_nil, isTy, Bool.or_false, Bool.or_true, Bool.false_or, Bool.true_or, Bool.not_true, Bool.not_false, Bool.true_and, Bool.false_and, Bool.and_true, Bool.and_false, if_true, if_false, Bool.false_eq_true, reduceIte, List.not_mem_nil, List.mem_cons, or_false, false_or, not_false_eq_true, not_true_eq_false, and_true, and_false, and_self, true_and, Nat.reduceLT, Nat.reduceAdd, Nat.zero_add, Nat.lt_add_one, Nat.reduceEqDiff, Nat.lt_add_left_iff_pos, Nat.zero_lt_succ, Nat.zero_lt_one, Nat.succ_ne_self, reduceCtorEq, Nat.zero_ne_one, Nat.one_ne_zero, decide_true, decide_false, beq_self_eq_true, Int.reduceBEq, Int.reduceLT, Int.reduceLE, Int.reduceAdd, Int.reduceSub, Int.reduceNeg, h18, ca_ex exm_u, outsA_nil, List.replicate]
      try rfl
    · rw [if_neg e] at h18
      rw [if_neg e]
      simp only [evSs_cons, evSs_nil, evS, ev, evB, evF, evA, evP, evM, evI, evO, rb_ok, rb_ex, ro_ok, ro_ex, rn_ok, op_so, td_v, td_l, td_ex, ts_b, ts_l, ts_t, ts_i, Z.pk_nil, pk_v, pk_l, pk_i, ih_v, ih_l, ih_d, fz_v, fz_l, sq_nx, sq_rt, sq_ex, rs_rt, rs_nx, rs_ex, of_so, st_def, st_tup, st_lst, cb_ok, cb_ex, fin_ok, fin_ex, p_isi, p_lenT, p_lenL, p_int, p_intB, p_abs, p_add, p_sub, p_neg, p_lt, p_gt, p_le, p_ge, p_max, p_min, p_isN, p_notN, p_tupL, p_tupT, p_lstL, p_lstT, p_rev, ix0L, ix0T, ix1L, ix1T, ix2L, ix2T, pu0, pu1, pu2, ft0, ft1, ft2, ft3, ft4, fl0, fl1, fl2, fl3, fl4, fl5, fl6, fl7, fl8, fl9, fl10, fl11, ca_rt, ca_nx, io_i, ap_S, il_l, p_addS, p_addU, Nat.reduceLeDiff, sl_L, Int.natCast_zero, Int.natCast_one, Int.cast_ofNat_Int, sm0, sm1, sm2, p_eqI, p_neI, p_eqB, p_neB, p_eqS, p_neS, Option.map_some, Option.bind_some, slot, setS, setTs, isOw, Z.fill, unfill, owV, outs, outsA, List.getD_cons_zero, List.getD_cons_succ, List.set_cons_zero, List.set_cons_succ, List.length_cons, List.length_nil, List.any_cons, List.any_nil, List.append_nil, List.nil_append, List.cons_append, List.map_cons, List.map_nil, isTy, Bool.or_false, Bool.or_true, Bool.false_or, Bool.true_or, Bool.not_true, Bool.not_false, Bool.true_and, Bool.false_and, Bool.and_true, Bool.and_false, if_true, if_false, Bool.false_eq_true, reduceIte, List.not_mem_nil, List.mem_cons, or_false, false_or, not_false_eq_true, not_true_eq_false, and_true, and_false, and_self, true_and, Nat.reduceLT, Nat.reduceAdd, Nat.zero_add, Nat.lt_add_one, Nat.reduceEqDiff, Nat.lt_add_left_iff_pos, Nat.zero_lt_succ, Nat.zero_lt_one, Nat.succ_ne_self, reduceCtorEq, Nat.zero_ne_one, Nat.one_ne_zero, decide_true, decide_false, beq_self_eq_true, Int.reduceBEq, Int.reduceLT, Int.reduceLE, Int.reduceAdd, Int.reduceSub, Int.reduceNeg, h18]
theorem c31b {N : List Nm} (hN : IsN N) {rs : List Row} (h : ∀ r ∈ rs, GdR N r) {enc : Row → D} (he : ∀ r ∈ rs, TellsR (enc r) r) {d : D} (hd : tupD d = eNs N) (hp : dp d ≤ 20) : ∀ {n : Nat}, 28 ≤ n →
    callN pg n 31 [.v (.int 1), .v d, .v (.list (rs.map enc)), .v .none, .v .none] = .ok (.v (if rs.any (Row.bad N) then .str "unfit" else .tuple [eNs N, .tuple (rs.map (Row.due N))])) [.hole, .hole, .hole, .hole, .hole]
  | 0, hn => by omega
  | n + 1, hn => by
    have h19 := c19 hN h he hd hp (n := n) (by omega)
    rw [callN_of [.v (.int 1), .v d, .v (.list (rs.map enc)), .v .none, .v .none] b31 [] 5 (d := f31) rfl]
    unfold b31
    have q : ((1 : Int) == 0) = false := rfl
    cases e : rs.any (Row.bad N) with
    | true =>
      rw [e, if_pos rfl] at h19
      rw [if_pos rfl]
      simp only [evSs_cons, evSs_nil, evS, ev, evB, evF, evA, evP, evM, evI, evO, rb_ok, rb_ex, ro_ok, ro_ex, rn_ok, op_so, td_v, td_l, td_ex, ts_b, ts_l, ts_t, ts_i, Z.pk_nil, pk_v, pk_l, pk_i, ih_v, ih_l, ih_d, fz_v, fz_l, sq_nx, sq_rt, sq_ex, rs_rt, rs_nx, rs_ex, of_so, st_def, st_tup, st_lst, cb_ok, cb_ex, fin_ok, fin_ex, p_isi, p_lenT, p_lenL, p_int, p_intB, p_abs, p_add, p_sub, p_neg, p_lt, p_gt, p_le, p_ge, p_max, p_min, p_isN, p_notN, p_tupL, p_tupT, p_lstL, p_lstT, p_rev, ix0L, ix0T, ix1L, ix1T, ix2L, ix2T, pu0, pu1, pu2, ft0, ft1, ft2, ft3, ft4, fl0, fl1, fl2, fl3, fl4, fl5, fl6, fl7, fl8, fl9, fl10, fl11, ca_rt, ca_nx, io_i, ap_S, il_l, p_addS, p_addU, Nat.reduceLeDiff, sl_L, Int.natCast_zero, Int.natCast_one, Int.cast_ofNat_Int, sm0, sm1, sm2, p_eqI, p_neI, p_eqB, p_neB, p_eqS, p_neS, Option.map_some, Option.bind_some, slot, setS, setTs, isOw, Z.fill, unfill, owV, outs, outsA, List.getD_cons_zero, List.getD_cons_succ, List.set_cons_zero, List.set_cons_succ, List.length_cons, List.length_nil, List.any_cons, List.any_nil, List.append_nil, List.nil_append, List.cons_append, List.map_cons, List.map_nil, isTy, Bool.or_false, Bool.or_true, Bool.false_or, Bool.true_or, Bool.not_true, Bool.not_false, Bool.true_and, Bool.false_and, Bool.and_true, Bool.and_false, if_true, if_false, Bool.false_eq_true, reduceIte, List.not_mem_nil, List.mem_cons, or_false, false_or, not_false_eq_true, not_true_eq_false, and_true, and_false, and_self, true_and, Nat.reduceLT, Nat.reduceAdd, Nat.zero_add, Nat.lt_add_one, Nat.reduceEqDiff, Nat.lt_add_left_iff_pos, Nat.zero_lt_succ, Nat.zero_lt_one, Nat.succ_ne_self, reduceCtorEq, Nat.zero_ne_one, Nat.one_ne_zero, decide_true, decide_false, beq_self_eq_true, Int.reduceBEq, Int.reduceLT, Int.reduceLE, Int.reduceAdd, Int.reduceSub, Int.reduceNeg, q, h19, ca_ex exm_u, outsA_nil, List.replicate]
      try rfl
    | false =>
      rw [e, if_neg (by simp)] at h19
      rw [if_neg (by simp)]
      simp only [evSs_cons, evSs_nil, evS, ev, evB, evF, evA, evP, evM, evI, evO, rb_ok, rb_ex, ro_ok, ro_ex, rn_ok, op_so, td_v, td_l, td_ex, ts_b, ts_l, ts_t, ts_i, Z.pk_nil, pk_v, pk_l, pk_i, ih_v, ih_l, ih_d, fz_v, fz_l, sq_nx, sq_rt, sq_ex, rs_rt, rs_nx, rs_ex, of_so, st_def, st_tup, st_lst, cb_ok, cb_ex, fin_ok, fin_ex, p_isi, p_lenT, p_lenL, p_int, p_intB, p_abs, p_add, p_sub, p_neg, p_lt, p_gt, p_le, p_ge, p_max, p_min, p_isN, p_notN, p_tupL, p_tupT, p_lstL, p_lstT, p_rev, ix0L, ix0T, ix1L, ix1T, ix2L, ix2T, pu0, pu1, pu2, ft0, ft1, ft2, ft3, ft4, fl0, fl1, fl2, fl3, fl4, fl5, fl6, fl7, fl8, fl9, fl10, fl11, ca_rt, ca_nx, io_i, ap_S, il_l, p_addS, p_addU, Nat.reduceLeDiff, sl_L, Int.natCast_zero, Int.natCast_one, Int.cast_ofNat_Int, sm0, sm1, sm2, p_eqI, p_neI, p_eqB, p_neB, p_eqS, p_neS, Option.map_some, Option.bind_some, slot, setS, setTs, isOw, Z.fill, unfill, owV, outs, outsA, List.getD_cons_zero, List.getD_cons_succ, List.set_cons_zero, List.set_cons_succ, List.length_cons, List.length_nil, List.any_cons, List.any_nil, List.append_nil, List.nil_append, List.cons_append, List.map_cons, List.map_nil, isTy, Bool.or_false, Bool.or_true, Bool.false_or, Bool.true_or, Bool.not_true, Bool.not_false, Bool.true_and, Bool.false_and, Bool.and_true, Bool.and_false, if_true, if_false, Bool.false_eq_true, reduceIte, List.not_mem_nil, List.mem_cons, or_false, false_or, not_false_eq_true, not_true_eq_false, and_true, and_false, and_self, true_and, Nat.reduceLT, Nat.reduceAdd, Nat.zero_add, Nat.lt_add_one, Nat.reduceEqDiff, Nat.lt_add_left_iff_pos, Nat.zero_lt_succ, Nat.zero_lt_one, Nat.succ_ne_self, reduceCtorEq, Nat.zero_ne_one, Nat.one_ne_zero, decide_true, decide_false, beq_self_eq_true, Int.reduceBEq, Int.reduceLT, Int.reduceLE, Int.reduceAdd, Int.reduceSub, Int.reduceNeg, q, h19]
theorem c17 {N : List Nm} (hN : IsN N) {rs : List Row} (h : ∀ r ∈ rs, GdR N r) : ∀ {n : Nat}, 28 ≤ n →
    callN pg n 17 [.v (.tuple [eNs N, .tuple (rs.map (Row.due N))])] = .ok (.v (.bool (!rs.any (Row.bad N)))) [.hole]
  | 0, hn => by omega
  | 1, hn => by omega
  | 2, hn => by omega
  | 3, hn => by omega
  | 4, hn => by omega
  | 5, hn => by omega
  | n + 6, hn => by
    rw [callN_of [.v (.tuple [eNs N, .tuple (rs.map (Row.due N))]), .hole] b17 [] 1 (d := f17) rfl]
    unfold b17
    simp only [evSs_cons, evSs_nil, evS, ev, evB, evF, evA, evP, evM, evI, evO, rb_ok, rb_ex, ro_ok, ro_ex, rn_ok, op_so, td_v, td_l, td_ex, ts_b, ts_l, ts_t, ts_i, Z.pk_nil, pk_v, pk_l, pk_i, ih_v, ih_l, ih_d, fz_v, fz_l, sq_nx, sq_rt, sq_ex, rs_rt, rs_nx, rs_ex, of_so, st_def, st_tup, st_lst, cb_ok, cb_ex, fin_ok, fin_ex, p_isi, p_lenT, p_lenL, p_int, p_intB, p_abs, p_add, p_sub, p_neg, p_lt, p_gt, p_le, p_ge, p_max, p_min, p_isN, p_notN, p_tupL, p_tupT, p_lstL, p_lstT, p_rev, ix0L, ix0T, ix1L, ix1T, ix2L, ix2T, pu0, pu1, pu2, ft0, ft1, ft2, ft3, ft4, fl0, fl1, fl2, fl3, fl4, fl5, fl6, fl7, fl8, fl9, fl10, fl11, ca_rt, ca_nx, io_i, ap_S, il_l, p_addS, p_addU, Nat.reduceLeDiff, sl_L, Int.natCast_zero, Int.natCast_one, Int.cast_ofNat_Int, sm0, sm1, sm2, p_eqI, p_neI, p_eqB, p_neB, p_eqS, p_neS, Option.map_some, Option.bind_some, slot, setS, setTs, isOw, Z.fill, unfill, owV, outs, outsA, List.getD_cons_zero, List.getD_cons_succ, List.set_cons_zero, List.set_cons_succ, List.length_cons, List.length_nil, List.any_cons, List.any_nil, List.append_nil, List.nil_append, List.cons_append, List.map_cons, List.map_nil, isTy, Bool.or_false, Bool.or_true, Bool.false_or, Bool.true_or, Bool.not_true, Bool.not_false, Bool.true_and, Bool.false_and, Bool.and_true, Bool.and_false, if_true, if_false, Bool.false_eq_true, reduceIte, List.not_mem_nil, List.mem_cons, or_false, false_or, not_false_eq_true, not_true_eq_false, and_true, and_false, and_self, true_and, Nat.reduceLT, Nat.reduceAdd, Nat.zero_add, Nat.lt_add_one, Nat.reduceEqDiff, Nat.lt_add_left_iff_pos, Nat.zero_lt_succ, Nat.zero_lt_one, Nat.succ_ne_self, reduceCtorEq, Nat.zero_ne_one, Nat.one_ne_zero, decide_true, decide_false, beq_self_eq_true, Int.reduceBEq, Int.reduceLT, Int.reduceLE, Int.reduceAdd, Int.reduceSub, Int.reduceNeg, c3_2, c8 n hN, walkD]
    have h8 : callN pg (n + 5) 8 [.v (eNs N)] = .ok (.v (.bool true)) [.hole] := c8 n hN
    rw [lc_rw (fun Γ => ∃ o, Γ = [.v (.tuple [eNs N, .tuple (rs.map (Row.due N))]), o]) (fun r => [.bool (!r.bad N)]) [.v (.tuple [eNs N, .tuple (rs.map (Row.due N))]), .hole] ?_ ⟨_, rfl⟩ (by rintro _ ⟨o, rfl⟩; rfl)]
    · simp only [evSs_cons, evSs_nil, evS, ev, evB, evF, evA, evP, evM, evI, evO, rb_ok, rb_ex, ro_ok, ro_ex, rn_ok, op_so, td_v, td_l, td_ex, ts_b, ts_l, ts_t, ts_i, Z.pk_nil, pk_v, pk_l, pk_i, ih_v, ih_l, ih_d, fz_v, fz_l, sq_nx, sq_rt, sq_ex, rs_rt, rs_nx, rs_ex, of_so, st_def, st_tup, st_lst, cb_ok, cb_ex, fin_ok, fin_ex, p_isi, p_lenT, p_lenL, p_int, p_intB, p_abs, p_add, p_sub, p_neg, p_lt, p_gt, p_le, p_ge, p_max, p_min, p_isN, p_notN, p_tupL, p_tupT, p_lstL, p_lstT, p_rev, ix0L, ix0T, ix1L, ix1T, ix2L, ix2T, pu0, pu1, pu2, ft0, ft1, ft2, ft3, ft4, fl0, fl1, fl2, fl3, fl4, fl5, fl6, fl7, fl8, fl9, fl10, fl11, ca_rt, ca_nx, io_i, ap_S, il_l, p_addS, p_addU, Nat.reduceLeDiff, sl_L, Int.natCast_zero, Int.natCast_one, Int.cast_ofNat_Int, sm0, sm1, sm2, p_eqI, p_neI, p_eqB, p_neB, p_eqS, p_neS, Option.map_some, Option.bind_some, slot, setS, setTs, isOw, Z.fill, unfill, owV, outs, outsA, List.getD_cons_zero, List.getD_cons_succ, List.set_cons_zero, List.set_cons_succ, List.length_cons, List.length_nil, List.any_cons, List.any_nil, List.append_nil, List.nil_append, List.cons_append, List.map_cons, List.map_nil, isTy, Bool.or_false, Bool.or_true, Bool.false_or, Bool.true_or, Bool.not_true, Bool.not_false, Bool.true_and, Bool.false_and, Bool.and_true, Bool.and_false, if_true, if_false, Bool.false_eq_true, reduceIte, List.not_mem_nil, List.mem_cons, or_false, false_or, not_false_eq_true, not_true_eq_false, and_true, and_false, and_self, true_and, Nat.reduceLT, Nat.reduceAdd, Nat.zero_add, Nat.lt_add_one, Nat.reduceEqDiff, Nat.lt_add_left_iff_pos, Nat.zero_lt_succ, Nat.zero_lt_one, Nat.succ_ne_self, reduceCtorEq, Nat.zero_ne_one, Nat.one_ne_zero, decide_true, decide_false, beq_self_eq_true, Int.reduceBEq, Int.reduceLT, Int.reduceLE, Int.reduceAdd, Int.reduceSub, Int.reduceNeg, flat1, p_all (bools_map (fun r : Row => !r.bad N) rs)]
      have q : ((rs.map fun r => !r.bad N).all id) = !rs.any (Row.bad N) := by
        rw [List.all_map, List.not_any_eq_all_not]; rfl
      rw [q]
    · rintro r hr _ ⟨o, rfl⟩
      have g := h r hr
      have h16 := c16 hN g.t.f g.u.f r.p (n := n + 5) (by omega)
      rw [f_f, f_f, decide_eq_true g.p, decide_eq_true rfl, decide_eq_true rfl, Bool.true_and, Bool.true_and, Bool.true_and] at h16
      refine ⟨[.v (.tuple [eNs N, .tuple (rs.map (Row.due N))]), .v (r.due N)], ?_, _, rfl⟩
      unfold Row.due at *
      simp only [evSs_cons, evSs_nil, evS, ev, evB, evF, evA, evP, evM, evI, evO, rb_ok, rb_ex, ro_ok, ro_ex, rn_ok, op_so, td_v, td_l, td_ex, ts_b, ts_l, ts_t, ts_i, Z.pk_nil, pk_v, pk_l, pk_i, ih_v, ih_l, ih_d, fz_v, fz_l, sq_nx, sq_rt, sq_ex, rs_rt, rs_nx, rs_ex, of_so, st_def, st_tup, st_lst, cb_ok, cb_ex, fin_ok, fin_ex, p_isi, p_lenT, p_lenL, p_int, p_intB, p_abs, p_add, p_sub, p_neg, p_lt, p_gt, p_le, p_ge, p_max, p_min, p_isN, p_notN, p_tupL, p_tupT, p_lstL, p_lstT, p_rev, ix0L, ix0T, ix1L, ix1T, ix2L, ix2T, pu0, pu1, pu2, ft0, ft1, ft2, ft3, ft4, fl0, fl1, fl2, fl3, fl4, fl5, fl6, fl7, fl8, fl9, fl10, fl11, ca_rt, ca_nx, io_i, ap_S, il_l, p_addS, p_addU, Nat.reduceLeDiff, sl_L, Int.natCast_zero, Int.natCast_one, Int.cast_ofNat_Int, sm0, sm1, sm2, p_eqI, p_neI, p_eqB, p_neB, p_eqS, p_neS, Option.map_some, Option.bind_some, slot, setS, setTs, isOw, Z.fill, unfill, owV, outs, outsA, List.getD_cons_zero, List.getD_cons_succ, List.set_cons_zero, List.set_cons_succ, List.length_cons, List.length_nil, List.any_cons, List.any_nil, List.append_nil, List.nil_append, List.cons_append, List.map_cons, List.map_nil, isTy, Bool.or_false, Bool.or_true, Bool.false_or, Bool.true_or, Bool.not_true, Bool.not_false, Bool.true_and, Bool.false_and, Bool.and_true, Bool.and_false, if_true, if_false, Bool.false_eq_true, reduceIte, List.not_mem_nil, List.mem_cons, or_false, false_or, not_false_eq_true, not_true_eq_false, and_true, and_false, and_self, true_and, Nat.reduceLT, Nat.reduceAdd, Nat.zero_add, Nat.lt_add_one, Nat.reduceEqDiff, Nat.lt_add_left_iff_pos, Nat.zero_lt_succ, Nat.zero_lt_one, Nat.succ_ne_self, reduceCtorEq, Nat.zero_ne_one, Nat.one_ne_zero, decide_true, decide_false, beq_self_eq_true, Int.reduceBEq, Int.reduceLT, Int.reduceLE, Int.reduceAdd, Int.reduceSub, Int.reduceNeg, holes, h16]
      try rfl
end K03
end
section
set_option Elab.async false
set_option linter.all false
set_option maxRecDepth 100000
namespace K03
open Z PySem
/-! ### the same -/
mutual
def nd : D → Bool
  | .list xs | .tuple xs => nds xs
  | .dict _ => false
  | _ => true
def nds : List D → Bool
  | [] => true
  | d :: r => nd d && nds r
end
theorem nds_mem : ∀ {xs : List D}, nds xs = true → ∀ d ∈ xs, nd d = true
  | [], _, _, h => by cases h
  | x :: xs, h, d, hd => by
    rw [nds, Bool.and_eq_true] at h
    rcases List.mem_cons.mp hd with e | e
    · rw [e]; exact h.1
    · exact nds_mem h.2 d e
theorem zipD_self : ∀ xs : List D, zipD xs xs = xs.map fun d => .tuple [d, d]
  | [] => rfl
  | x :: xs => by simp only [zipD, List.map_cons, zipD_self xs]
theorem all_true {β : Type} (xs : List β) : prF .all [.list (xs.map fun _ => .bool true)] = some (.v (.bool true)) := by
  rw [p_all (bools_map (fun _ => true) xs)]
  simp
theorem c24 : ∀ (n : Nat) (d : D), nd d = true → dp d < n → callN pg n 24 [.v d, .v d] = .ok (.v (.bool true)) [.hole, .hole]
  | 0, _, _, h => absurd h (Nat.not_lt_zero _)
  | n + 1, d, hn, h => by
    rw [callN_of [.v d, .v d, .hole, .hole] b24 [] 2 (d := f24) rfl]
    unfold b24
    have ih : ∀ x, nd x = true → dp x < n → callN pg n 24 [.v x, .v x] = .ok (.v (.bool true)) [.hole, .hole] := c24 n
    cases d with
    | list xs =>
      have hx : ∀ x ∈ xs, dp x < n := fun x hx => by have := dp_le hx; unfold dp at h; omega
      unfold nd at hn
      simp only [evSs_cons, evSs_nil, evS, ev, evB, evF, evA, evP, evM, evI, evO, rb_ok, rb_ex, ro_ok, ro_ex, rn_ok, op_so, td_v, td_l, td_ex, ts_b, ts_l, ts_t, ts_i, Z.pk_nil, pk_v, pk_l, pk_i, ih_v, ih_l, ih_d, fz_v, fz_l, sq_nx, sq_rt, sq_ex, rs_rt, rs_nx, rs_ex, of_so, st_def, st_tup, st_lst, cb_ok, cb_ex, fin_ok, fin_ex, p_isi, p_lenT, p_lenL, p_int, p_intB, p_abs, p_add, p_sub, p_neg, p_lt, p_gt, p_le, p_ge, p_max, p_min, p_isN, p_notN, p_tupL, p_tupT, p_lstL, p_lstT, p_rev, ix0L, ix0T, ix1L, ix1T, ix2L, ix2T, pu0, pu1, pu2, ft0, ft1, ft2, ft3, ft4, fl0, fl1, fl2, fl3, fl4, fl5, fl6, fl7, fl8, fl9, fl10, fl11, ca_rt, ca_nx, io_i, ap_S, il_l, p_addS, p_addU, Nat.reduceLeDiff, sl_L, Int.natCast_zero, Int.natCast_one, Int.cast_ofNat_Int, sm0, sm1, sm2, p_eqI, p_neI, p_eqB, p_neB, p_eqS, p_neS, Option.map_some, Option.bind_some, slot, setS, setTs, isOw, Z.fill, unfill, owV, outs, outsA, List.getD_cons_zero, List.getD_cons_succ, List.set_cons_zero, List.set_cons_succ, List.length_cons, List.length_nil, List.any_cons, List.any_nil, List.append_nil, List.nil_append, List.cons_append, List.map_cons, List.map_nil, isTy, Bool.or_false, Bool.or_true, Bool.false_or, Bool.true_or, Bool.not_true, Bool.not_false, Bool.true_and, Bool.false_and, Bool.and_true, Bool.and_false, if_true, if_false, Bool.false_eq_true, reduceIte, List.not_mem_nil, List.mem_cons, or_false, false_or, not_false_eq_true, not_true_eq_false, and_true, and_false, and_self, true_and, Nat.reduceLT, Nat.reduceAdd, Nat.zero_add, Nat.lt_add_one, Nat.reduceEqDiff, Nat.lt_add_left_iff_pos, Nat.zero_lt_succ, Nat.zero_lt_one, Nat.succ_ne_self, reduceCtorEq, Nat.zero_ne_one, Nat.one_ne_zero, decide_true, decide_false, beq_self_eq_true, Int.reduceBEq, Int.reduceLT, Int.reduceLE, Int.reduceAdd, Int.reduceSub, Int.reduceNeg]
      rw [zipD_self, lc_rw (fun Γ => ∃ o o', Γ = [.v (.list xs), .v (.list xs), o, o']) (fun d => [.bool true]) [.v (.list xs), .v (.list xs), .hole, .hole] ?_ ⟨_, _, rfl⟩ (by rintro _ ⟨o, o', rfl⟩; rfl)]
      · simp only [evSs_cons, evSs_nil, evS, ev, evB, evF, evA, evP, evM, evI, evO, rb_ok, rb_ex, ro_ok, ro_ex, rn_ok, op_so, td_v, td_l, td_ex, ts_b, ts_l, ts_t, ts_i, Z.pk_nil, pk_v, pk_l, pk_i, ih_v, ih_l, ih_d, fz_v, fz_l, sq_nx, sq_rt, sq_ex, rs_rt, rs_nx, rs_ex, of_so, st_def, st_tup, st_lst, cb_ok, cb_ex, fin_ok, fin_ex, p_isi, p_lenT, p_lenL, p_int, p_intB, p_abs, p_add, p_sub, p_neg, p_lt, p_gt, p_le, p_ge, p_max, p_min, p_isN, p_notN, p_tupL, p_tupT, p_lstL, p_lstT, p_rev, ix0L, ix0T, ix1L, ix1T, ix2L, ix2T, pu0, pu1, pu2, ft0, ft1, ft2, ft3, ft4, fl0, fl1, fl2, fl3, fl4, fl5, fl6, fl7, fl8, fl9, fl10, fl11, ca_rt, ca_nx, io_i, ap_S, il_l, p_addS, p_addU, Nat.reduceLeDiff, sl_L, Int.natCast_zero, Int.natCast_one, Int.cast_ofNat_Int, sm0, sm1, sm2, p_eqI, p_neI, p_eqB, p_neB, p_eqS, p_neS, Option.map_some, Option.bind_some, slot, setS, setTs, isOw, Z.fill, unfill, owV, outs, outsA, List.getD_cons_zero, List.getD_cons_succ, List.set_cons_zero, List.set_cons_succ, List.length_cons, List.length_nil, List.any_cons, List.any_nil, List.append_nil, List.nil_append, List.cons_append, List.map_cons, List.map_nil, isTy, Bool.or_false, Bool.or_true, Bool.false_or, Bool.true_or, Bool.not_true, Bool.not_false, Bool.true_and, Bool.false_and, Bool.and_true, Bool.and_false, if_true, if_false, Bool.false_eq_true, reduceIte, List.not_mem_nil, List.mem_cons, or_false, false_or, not_false_eq_true, not_true_eq_false, and_true, and_false, and_self, true_and, Nat.reduceLT, Nat.reduceAdd, Nat.zero_add, Nat.lt_add_one, Nat.reduceEqDiff, Nat.lt_add_left_iff_pos, Nat.zero_lt_succ, Nat.zero_lt_one, Nat.succ_ne_self, reduceCtorEq, Nat.zero_ne_one, Nat.one_ne_zero, decide_true, decide_false, beq_self_eq_true, Int.reduceBEq, Int.reduceLT, Int.reduceLE, Int.reduceAdd, Int.reduceSub, Int.reduceNeg, flat1, all_true]
      · rintro x hm _ ⟨o, o', rfl⟩
        refine ⟨[.v (.list xs), .v (.list xs), .v x, .v x], ?_, _, _, rfl⟩
        simp only [evSs_cons, evSs_nil, evS, ev, evB, evF, evA, evP, evM, evI, evO, rb_ok, rb_ex, ro_ok, ro_ex, rn_ok, op_so, td_v, td_l, td_ex, ts_b, ts_l, ts_t, ts_i, Z.pk_nil, pk_v, pk_l, pk_i, ih_v, ih_l, ih_d, fz_v, fz_l, sq_nx, sq_rt, sq_ex, rs_rt, rs_nx, rs_ex, of_so, st_def, st_tup, st_lst, cb_ok, cb_ex, fin_ok, fin_ex, p_isi, p_lenT, p_lenL, p_int, p_intB, p_abs, p_add, p_sub, p_neg, p_lt, p_gt, p_le, p_ge, p_max, p_min, p_isN, p_notN, p_tupL, p_tupT, p_lstL, p_lstT, p_rev, ix0L, ix0T, ix1L, ix1T, ix2L, ix2T, pu0, pu1, pu2, ft0, ft1, ft2, ft3, ft4, fl0, fl1, fl2, fl3, fl4, fl5, fl6, fl7, fl8, fl9, fl10, fl11, ca_rt, ca_nx, io_i, ap_S, il_l, p_addS, p_addU, Nat.reduceLeDiff, sl_L, Int.natCast_zero, Int.natCast_one, Int.cast_ofNat_Int, sm0, sm1, sm2, p_eqI, p_neI, p_eqB, p_neB, p_eqS, p_neS, Option.map_some, Option.bind_some, slot, setS, setTs, isOw, Z.fill, unfill, owV, outs, outsA, List.getD_cons_zero, List.getD_cons_succ, List.set_cons_zero, List.set_cons_succ, List.length_cons, List.length_nil, List.any_cons, List.any_nil, List.append_nil, List.nil_append, List.cons_append, List.map_cons, List.map_nil, isTy, Bool.or_false, Bool.or_true, Bool.false_or, Bool.true_or, Bool.not_true, Bool.not_false, Bool.true_and, Bool.false_and, Bool.and_true, Bool.and_false, if_true, if_false, Bool.false_eq_true, reduceIte, List.not_mem_nil, List.mem_cons, or_false, false_or, not_false_eq_true, not_true_eq_false, and_true, and_false, and_self, true_and, Nat.reduceLT, Nat.reduceAdd, Nat.zero_add, Nat.lt_add_one, Nat.reduceEqDiff, Nat.lt_add_left_iff_pos, Nat.zero_lt_succ, Nat.zero_lt_one, Nat.succ_ne_self, reduceCtorEq, Nat.zero_ne_one, Nat.one_ne_zero, decide_true, decide_false, beq_self_eq_true, Int.reduceBEq, Int.reduceLT, Int.reduceLE, Int.reduceAdd, Int.reduceSub, Int.reduceNeg, holes, ih x (nds_mem hn x hm) (hx x hm)]
        try rfl
    | tuple xs =>
      have hx : ∀ x ∈ xs, dp x < n := fun x hx => by have := dp_le hx; unfold dp at h; omega
      unfold nd at hn
      simp only [evSs_cons, evSs_nil, evS, ev, evB, evF, evA, evP, evM, evI, evO, rb_ok, rb_ex, ro_ok, ro_ex, rn_ok, op_so, td_v, td_l, td_ex, ts_b, ts_l, ts_t, ts_i, Z.pk_nil, pk_v, pk_l, pk_i, ih_v, ih_l, ih_d, fz_v, fz_l, sq_nx, sq_rt, sq_ex, rs_rt, rs_nx, rs_ex, of_so, st_def, st_tup, st_lst, cb_ok, cb_ex, fin_ok, fin_ex, p_isi, p_lenT, p_lenL, p_int, p_intB, p_abs, p_add, p_sub, p_neg, p_lt, p_gt, p_le, p_ge, p_max, p_min, p_isN, p_notN, p_tupL, p_tupT, p_lstL, p_lstT, p_rev, ix0L, ix0T, ix1L, ix1T, ix2L, ix2T, pu0, pu1, pu2, ft0, ft1, ft2, ft3, ft4, fl0, fl1, fl2, fl3, fl4, fl5, fl6, fl7, fl8, fl9, fl10, fl11, ca_rt, ca_nx, io_i, ap_S, il_l, p_addS, p_addU, Nat.reduceLeDiff, sl_L, Int.natCast_zero, Int.natCast_one, Int.cast_ofNat_Int, sm0, sm1, sm2, p_eqI, p_neI, p_eqB, p_neB, p_eqS, p_neS, Option.map_some, Option.bind_some, slot, setS, setTs, isOw, Z.fill, unfill, owV, outs, outsA, List.getD_cons_zero, List.getD_cons_succ, List.set_cons_zero, List.set_cons_succ, List.length_cons, List.length_nil, List.any_cons, List.any_nil, List.append_nil, List.nil_append, List.cons_append, List.map_cons, List.map_nil, isTy, Bool.or_false, Bool.or_true, Bool.false_or, Bool.true_or, Bool.not_true, Bool.not_false, Bool.true_and, Bool.false_and, Bool.and_true, Bool.and_false, if_true, if_false, Bool.false_eq_true, reduceIte, List.not_mem_nil, List.mem_cons, or_false, false_or, not_false_eq_true, not_true_eq_false, and_true, and_false, and_self, true_and, Nat.reduceLT, Nat.reduceAdd, Nat.zero_add, Nat.lt_add_one, Nat.reduceEqDiff, Nat.lt_add_left_iff_pos, Nat.zero_lt_succ, Nat.zero_lt_one, Nat.succ_ne_self, reduceCtorEq, Nat.zero_ne_one, Nat.one_ne_zero, decide_true, decide_false, beq_self_eq_true, Int.reduceBEq, Int.reduceLT, Int.reduceLE, Int.reduceAdd, Int.reduceSub, Int.reduceNeg]
      rw [zipD_self, lc_rw (fun Γ => ∃ o o', Γ = [.v (.tuple xs), .v (.tuple xs), o, o']) (fun d => [.bool true]) [.v (.tuple xs), .v (.tuple xs), .hole, .hole] ?_ ⟨_, _, rfl⟩ (by rintro _ ⟨o, o', rfl⟩; rfl)]
      · simp only [evSs_cons, evSs_nil, evS, ev, evB, evF, evA, evP, evM, evI, evO, rb_ok, rb_ex, ro_ok, ro_ex, rn_ok, op_so, td_v, td_l, td_ex, ts_b, ts_l, ts_t, ts_i, Z.pk_nil, pk_v, pk_l, pk_i, ih_v, ih_l, ih_d, fz_v, fz_l, sq_nx, sq_rt, sq_ex, rs_rt, rs_nx, rs_ex, of_so, st_def, st_tup, st_lst, cb_ok, cb_ex, fin_ok, fin_ex, p_isi, p_lenT, p_lenL, p_int, p_intB, p_abs, p_add, p_sub, p_neg, p_lt, p_gt, p_le, p_ge, p_max, p_min, p_isN, p_notN, p_tupL, p_tupT, p_lstL, p_lstT, p_rev, ix0L, ix0T, ix1L, ix1T, ix2L, ix2T, pu0, pu1, pu2, ft0, ft1, ft2, ft3, ft4, fl0, fl1, fl2, fl3, fl4, fl5, fl6, fl7, fl8, fl9, fl10, fl11, ca_rt, ca_nx, io_i, ap_S, il_l, p_addS, p_addU, Nat.reduceLeDiff, sl_L, Int.natCast_zero, Int.natCast_one, Int.cast_ofNat_Int, sm0, sm1, sm2, p_eqI, p_neI, p_eqB, p_neB, p_eqS, p_neS, Option.map_some, Option.bind_some, slot, setS, setTs, isOw, Z.fill, unfill, owV, outs, outsA, List.getD_cons_zero, List.getD_cons_succ, List.set_cons_zero, List.set_cons_succ, List.length_cons, List.length_nil, List.any_cons, List.any_nil, List.append_nil, List.nil_append, List.cons_append, List.map_cons, List.map_nil, isTy, Bool.or_false, Bool.or_true, Bool.false_or, Bool.true_or, Bool.not_true, Bool.not_false, Bool.true_and, Bool.false_and, Bool.and_true, Bool.and_false, if_true, if_false, Bool.false_eq_true, reduceIte, List.not_mem_nil, List.mem_cons, or_false, false_or, not_false_eq_true, not_true_eq_false, and_true, and_false, and_self, true_and, Nat.reduceLT, Nat.reduceAdd, Nat.zero_add, Nat.lt_add_one, Nat.reduceEqDiff, Nat.lt_add_left_iff_pos, Nat.zero_lt_succ, Nat.zero_lt_one, Nat.succ_ne_self, reduceCtorEq, Nat.zero_ne_one, Nat.one_ne_zero, decide_true, decide_false, beq_self_eq_true, Int.reduceBEq, Int.reduceLT, Int.reduceLE, Int.reduceAdd, Int.reduceSub, Int.reduceNeg, flat1, all_true]
      · rintro x hm _ ⟨o, o', rfl⟩
        refine ⟨[.v (.tuple xs), .v (.tuple xs), .v x, .v x], ?_, _, _, rfl⟩
        simp only [evSs_cons, evSs_nil, evS, ev, evB, evF, evA, evP, evM, evI, evO, rb_ok, rb_ex, ro_ok, ro_ex, rn_ok, op_so, td_v, td_l, td_ex, ts_b, ts_l, ts_t, ts_i, Z.pk_nil, pk_v, pk_l, pk_i, ih_v, ih_l, ih_d, fz_v, fz_l, sq_nx, sq_rt, sq_ex, rs_rt, rs_nx, rs_ex, of_so, st_def, st_tup, st_lst, cb_ok, cb_ex, fin_ok, fin_ex, p_isi, p_lenT, p_lenL, p_int, p_intB, p_abs, p_add, p_sub, p_neg, p_lt, p_gt, p_le, p_ge, p_max, p_min, p_isN, p_notN, p_tupL, p_tupT, p_lstL, p_lstT, p_rev, ix0L, ix0T, ix1L, ix1T, ix2L, ix2T, pu0, pu1, pu2, ft0, ft1, ft2, ft3, ft4, fl0, fl1, fl2, fl3, fl4, fl5, fl6, fl7, fl8, fl9, fl10, fl11, ca_rt, ca_nx, io_i, ap_S, il_l, p_addS, p_addU, Nat.reduceLeDiff, sl_L, Int.natCast_zero, Int.natCast_one, Int.cast_ofNat_Int, sm0, sm1, sm2, p_eqI, p_neI, p_eqB, p_neB, p_eqS, p_neS, Option.map_some, Option.bind_some, slot, setS, setTs, isOw, Z.fill, unfill, owV, outs, outsA, List.getD_cons_zero, List.getD_cons_succ, List.set_cons_zero, List.set_cons_succ, List.length_cons, List.length_nil, List.any_cons, List.any_nil, List.append_nil, List.nil_append, List.cons_append, List.map_cons, List.map_nil, isTy, Bool.or_false, Bool.or_true, Bool.false_or, Bool.true_or, Bool.not_true, Bool.not_false, Bool.true_and, Bool.false_and, Bool.and_true, Bool.and_false, if_true, if_false, Bool.false_eq_true, reduceIte, List.not_mem_nil, List.mem_cons, or_false, false_or, not_false_eq_true, not_true_eq_false, and_true, and_false, and_self, true_and, Nat.reduceLT, Nat.reduceAdd, Nat.zero_add, Nat.lt_add_one, Nat.reduceEqDiff, Nat.lt_add_left_iff_pos, Nat.zero_lt_succ, Nat.zero_lt_one, Nat.succ_ne_self, reduceCtorEq, Nat.zero_ne_one, Nat.one_ne_zero, decide_true, decide_false, beq_self_eq_true, Int.reduceBEq, Int.reduceLT, Int.reduceLE, Int.reduceAdd, Int.reduceSub, Int.reduceNeg, holes, ih x (nds_mem hn x hm) (hx x hm)]
        try rfl
    | none => simp only [evSs_cons, evSs_nil, evS, ev, evB, evF, evA, evP, evM, evI, evO, rb_ok, rb_ex, ro_ok, ro_ex, rn_ok, op_so, td_v, td_l, td_ex, ts_b, ts_l, ts_t, ts_i, Z.pk_nil, pk_v, pk_l, pk_i, ih_v, ih_l, ih_d, fz_v, fz_l, sq_nx, sq_rt, sq_ex, rs_rt, rs_nx, rs_ex, of_so, st_def, st_tup, st_lst, cb_ok, cb_ex, fin_ok, fin_ex, p_isi, p_lenT, p_lenL, p_int, p_intB, p_abs, p_add, p_sub, p_neg, p_lt, p_gt, p_le, p_ge, p_max, p_min, p_isN, p_notN, p_tupL, p_tupT, p_lstL, p_lstT, p_rev, ix0L, ix0T, ix1L, ix1T, ix2L, ix2T, pu0, pu1, pu2, ft0, ft1, ft2, ft3, ft4, fl0, fl1, fl2, fl3, fl4, fl5, fl6, fl7, fl8, fl9, fl10, fl11, ca_rt, ca_nx, io_i, ap_S, il_l, p_addS, p_addU, Nat.reduceLeDiff, sl_L, Int.natCast_zero, Int.natCast_one, Int.cast_ofNat_Int, sm0, sm1, sm2, p_eqI, p_neI, p_eqB, p_neB, p_eqS, p_neS, Option.map_some, Option.bind_some, slot, setS, setTs, isOw, Z.fill, unfill, owV, outs, outsA, List.getD_cons_zero, List.getD_cons_succ, List.set_cons_zero, List.set_cons_succ, List.length_cons, List.length_nil, List.any_cons, List.any_nil, List.append_nil, List.nil_append, List.cons_append, List.map_cons, List.map_nil, isTy, Bool.or_false, Bool.or_true, Bool.false_or, Bool.true_or, Bool.not_true, Bool.not_false, Bool.true_and, Bool.false_and, Bool.and_true, Bool.and_false, if_true, if_false, Bool.false_eq_true, reduceIte, List.not_mem_nil, List.mem_cons, or_false, false_or, not_false_eq_true, not_true_eq_false, and_true, and_false, and_self, true_and, Nat.reduceLT, Nat.reduceAdd, Nat.zero_add, Nat.lt_add_one, Nat.reduceEqDiff, Nat.lt_add_left_iff_pos, Nat.zero_lt_succ, Nat.zero_lt_one, Nat.succ_ne_self, reduceCtorEq, Nat.zero_ne_one, Nat.one_ne_zero, decide_true, decide_false, beq_self_eq_true, Int.reduceBEq, Int.reduceLT, Int.reduceLE, Int.reduceAdd, Int.reduceSub, Int.reduceNeg, isNone, show prF .eq [PyData.none, PyData.none] = some (.v (.bool true)) from rfl]
    | bool b => simp only [evSs_cons, evSs_nil, evS, ev, evB, evF, evA, evP, evM, evI, evO, rb_ok, rb_ex, ro_ok, ro_ex, rn_ok, op_so, td_v, td_l, td_ex, ts_b, ts_l, ts_t, ts_i, Z.pk_nil, pk_v, pk_l, pk_i, ih_v, ih_l, ih_d, fz_v, fz_l, sq_nx, sq_rt, sq_ex, rs_rt, rs_nx, rs_ex, of_so, st_def, st_tup, st_lst, cb_ok, cb_ex, fin_ok, fin_ex, p_isi, p_lenT, p_lenL, p_int, p_intB, p_abs, p_add, p_sub, p_neg, p_lt, p_gt, p_le, p_ge, p_max, p_min, p_isN, p_notN, p_tupL, p_tupT, p_lstL, p_lstT, p_rev, ix0L, ix0T, ix1L, ix1T, ix2L, ix2T, pu0, pu1, pu2, ft0, ft1, ft2, ft3, ft4, fl0, fl1, fl2, fl3, fl4, fl5, fl6, fl7, fl8, fl9, fl10, fl11, ca_rt, ca_nx, io_i, ap_S, il_l, p_addS, p_addU, Nat.reduceLeDiff, sl_L, Int.natCast_zero, Int.natCast_one, Int.cast_ofNat_Int, sm0, sm1, sm2, p_eqI, p_neI, p_eqB, p_neB, p_eqS, p_neS, Option.map_some, Option.bind_some, slot, setS, setTs, isOw, Z.fill, unfill, owV, outs, outsA, List.getD_cons_zero, List.getD_cons_succ, List.set_cons_zero, List.set_cons_succ, List.length_cons, List.length_nil, List.any_cons, List.any_nil, List.append_nil, List.nil_append, List.cons_append, List.map_cons, List.map_nil, isTy, Bool.or_false, Bool.or_true, Bool.false_or, Bool.true_or, Bool.not_true, Bool.not_false, Bool.true_and, Bool.false_and, Bool.and_true, Bool.and_false, if_true, if_false, Bool.false_eq_true, reduceIte, List.not_mem_nil, List.mem_cons, or_false, false_or, not_false_eq_true, not_true_eq_false, and_true, and_false, and_self, true_and, Nat.reduceLT, Nat.reduceAdd, Nat.zero_add, Nat.lt_add_one, Nat.reduceEqDiff, Nat.lt_add_left_iff_pos, Nat.zero_lt_succ, Nat.zero_lt_one, Nat.succ_ne_self, reduceCtorEq, Nat.zero_ne_one, Nat.one_ne_zero, decide_true, decide_false, beq_self_eq_true, Int.reduceBEq, Int.reduceLT, Int.reduceLE, Int.reduceAdd, Int.reduceSub, Int.reduceNeg, isNone]
    | str x => simp only [evSs_cons, evSs_nil, evS, ev, evB, evF, evA, evP, evM, evI, evO, rb_ok, rb_ex, ro_ok, ro_ex, rn_ok, op_so, td_v, td_l, td_ex, ts_b, ts_l, ts_t, ts_i, Z.pk_nil, pk_v, pk_l, pk_i, ih_v, ih_l, ih_d, fz_v, fz_l, sq_nx, sq_rt, sq_ex, rs_rt, rs_nx, rs_ex, of_so, st_def, st_tup, st_lst, cb_ok, cb_ex, fin_ok, fin_ex, p_isi, p_lenT, p_lenL, p_int, p_intB, p_abs, p_add, p_sub, p_neg, p_lt, p_gt, p_le, p_ge, p_max, p_min, p_isN, p_notN, p_tupL, p_tupT, p_lstL, p_lstT, p_rev, ix0L, ix0T, ix1L, ix1T, ix2L, ix2T, pu0, pu1, pu2, ft0, ft1, ft2, ft3, ft4, fl0, fl1, fl2, fl3, fl4, fl5, fl6, fl7, fl8, fl9, fl10, fl11, ca_rt, ca_nx, io_i, ap_S, il_l, p_addS, p_addU, Nat.reduceLeDiff, sl_L, Int.natCast_zero, Int.natCast_one, Int.cast_ofNat_Int, sm0, sm1, sm2, p_eqI, p_neI, p_eqB, p_neB, p_eqS, p_neS, Option.map_some, Option.bind_some, slot, setS, setTs, isOw, Z.fill, unfill, owV, outs, outsA, List.getD_cons_zero, List.getD_cons_succ, List.set_cons_zero, List.set_cons_succ, List.length_cons, List.length_nil, List.any_cons, List.any_nil, List.append_nil, List.nil_append, List.cons_append, List.map_cons, List.map_nil, isTy, Bool.or_false, Bool.or_true, Bool.false_or, Bool.true_or, Bool.not_true, Bool.not_false, Bool.true_and, Bool.false_and, Bool.and_true, Bool.and_false, if_true, if_false, Bool.false_eq_true, reduceIte, List.not_mem_nil, List.mem_cons, or_false, false_or, not_false_eq_true, not_true_eq_false, and_true, and_false, and_self, true_and, Nat.reduceLT, Nat.reduceAdd, Nat.zero_add, Nat.lt_add_one, Nat.reduceEqDiff, Nat.lt_add_left_iff_pos, Nat.zero_lt_succ, Nat.zero_lt_one, Nat.succ_ne_self, reduceCtorEq, Nat.zero_ne_one, Nat.one_ne_zero, decide_true, decide_false, beq_self_eq_true, Int.reduceBEq, Int.reduceLT, Int.reduceLE, Int.reduceAdd, Int.reduceSub, Int.reduceNeg, isNone]
    | int i => simp only [evSs_cons, evSs_nil, evS, ev, evB, evF, evA, evP, evM, evI, evO, rb_ok, rb_ex, ro_ok, ro_ex, rn_ok, op_so, td_v, td_l, td_ex, ts_b, ts_l, ts_t, ts_i, Z.pk_nil, pk_v, pk_l, pk_i, ih_v, ih_l, ih_d, fz_v, fz_l, sq_nx, sq_rt, sq_ex, rs_rt, rs_nx, rs_ex, of_so, st_def, st_tup, st_lst, cb_ok, cb_ex, fin_ok, fin_ex, p_isi, p_lenT, p_lenL, p_int, p_intB, p_abs, p_add, p_sub, p_neg, p_lt, p_gt, p_le, p_ge, p_max, p_min, p_isN, p_notN, p_tupL, p_tupT, p_lstL, p_lstT, p_rev, ix0L, ix0T, ix1L, ix1T, ix2L, ix2T, pu0, pu1, pu2, ft0, ft1, ft2, ft3, ft4, fl0, fl1, fl2, fl3, fl4, fl5, fl6, fl7, fl8, fl9, fl10, fl11, ca_rt, ca_nx, io_i, ap_S, il_l, p_addS, p_addU, Nat.reduceLeDiff, sl_L, Int.natCast_zero, Int.natCast_one, Int.cast_ofNat_Int, sm0, sm1, sm2, p_eqI, p_neI, p_eqB, p_neB, p_eqS, p_neS, Option.map_some, Option.bind_some, slot, setS, setTs, isOw, Z.fill, unfill, owV, outs, outsA, List.getD_cons_zero, List.getD_cons_succ, List.set_cons_zero, List.set_cons_succ, List.length_cons, List.length_nil, List.any_cons, List.any_nil, List.append_nil, List.nil_append, List.cons_append, List.map_cons, List.map_nil, isTy, Bool.or_false, Bool.or_true, Bool.false_or, Bool.true_or, Bool.not_true, Bool.not_false, Bool.true_and, Bool.false_and, Bool.and_true, Bool.and_false, if_true, if_false, Bool.false_eq_true, reduceIte, List.not_mem_nil, List.mem_cons, or_false, false_or, not_false_eq_true, not_true_eq_false, and_true, and_false, and_self, true_and, Nat.reduceLT, Nat.reduceAdd, Nat.zero_add, Nat.lt_add_one, Nat.reduceEqDiff, Nat.lt_add_left_iff_pos, Nat.zero_lt_succ, Nat.zero_lt_one, Nat.succ_ne_self, reduceCtorEq, Nat.zero_ne_one, Nat.one_ne_zero, decide_true, decide_false, beq_self_eq_true, Int.reduceBEq, Int.reduceLT, Int.reduceLE, Int.reduceAdd, Int.reduceSub, Int.reduceNeg, isNone]
    | dict _ => cases hn
/-! ### the urn -/
theorem mul_r {i j : Int} (h1 : -(2 ^ 64) < j) (h2 : j < 2 ^ 64) : mulOk i j = true := decide_eq_true (.inr ⟨h1, h2⟩)
theorem mul_l {i j : Int} (h1 : -(2 ^ 64) < i) (h2 : i < 2 ^ 64) : mulOk i j = true := decide_eq_true (.inl ⟨h1, h2⟩)
/-- the urn: at most K deeds from its own source -/
def Ur (K : Nat) (o : O) : Prop := ∃ x y z : Int, o = .lst [.int x, .int y, .int z] ∧ 0 ≤ x ∧ 0 ≤ y ∧ y < 2 ^ 62 ∧ 0 ≤ z ∧ z ≤ K
theorem Ur.mono {K K' : Nat} {o : O} (h : Ur K o) (e : K ≤ K') : Ur K' o := by
  obtain ⟨x, y, z, a, b, c, d, e1, e2⟩ := h
  exact ⟨x, y, z, a, b, c, d, e1, by omega⟩
theorem Ur.nh {K : Nat} {o : O} (h : Ur K o) : isHole o = false := by
  obtain ⟨x, y, z, rfl, _⟩ := h
  rfl
theorem c21 {K : Nat} {o : O} (h : Ur K o) (hK : K < 1000000) {low : Int} (h0 : 0 < low) (h1 : low < 1073741824) : ∀ {n : Nat}, 1 ≤ n → ∃ r o', callN pg n 21 [o, .v (.int low)] = .ok (.v (.int r)) [o', .hole] ∧ 0 ≤ r ∧ r < low ∧ Ur (K + 1) o'
  | 0, hn => by omega
  | n + 1, _ => by
    obtain ⟨x, y, z, rfl, hx, hy, hy2, hz, hz2⟩ := h
    rw [callN_of [.lst [.int x, .int y, .int z], .v (.int low), .hole, .hole, .hole, .hole] b21 [0] 2 (d := f21) rfl]
    by_cases q : 0 < x
    · refine ⟨x % low, .lst [.int (x / low), .int y, .int z], ?_, Int.emod_nonneg _ (by omega), Int.emod_lt_of_pos _ h0, _, _, _, rfl, Int.ediv_nonneg hx (by omega), hy, hy2, hz, by omega⟩
      unfold b21
      simp only [evSs_cons, evSs_nil, evS, ev, evB, evF, evA, evP, evM, evI, evO, rb_ok, rb_ex, ro_ok, ro_ex, rn_ok, op_so, td_v, td_l, td_ex, ts_b, ts_l, ts_t, ts_i, Z.pk_nil, pk_v, pk_l, pk_i, ih_v, ih_l, ih_d, fz_v, fz_l, sq_nx, sq_rt, sq_ex, rs_rt, rs_nx, rs_ex, of_so, st_def, st_tup, st_lst, cb_ok, cb_ex, fin_ok, fin_ex, p_isi, p_lenT, p_lenL, p_int, p_intB, p_abs, p_add, p_sub, p_neg, p_lt, p_gt, p_le, p_ge, p_max, p_min, p_isN, p_notN, p_tupL, p_tupT, p_lstL, p_lstT, p_rev, ix0L, ix0T, ix1L, ix1T, ix2L, ix2T, pu0, pu1, pu2, ft0, ft1, ft2, ft3, ft4, fl0, fl1, fl2, fl3, fl4, fl5, fl6, fl7, fl8, fl9, fl10, fl11, ca_rt, ca_nx, io_i, ap_S, il_l, p_addS, p_addU, Nat.reduceLeDiff, sl_L, Int.natCast_zero, Int.natCast_one, Int.cast_ofNat_Int, sm0, sm1, sm2, p_eqI, p_neI, p_eqB, p_neB, p_eqS, p_neS, Option.map_some, Option.bind_some, slot, setS, setTs, isOw, Z.fill, unfill, owV, outs, outsA, List.getD_cons_zero, List.getD_cons_succ, List.set_cons_zero, List.set_cons_succ, List.length_cons, List.length_nil, List.any_cons, List.any_nil, List.append_nil, List.nil_append, List.cons_append, List.map_cons, List.map_nil, isTy, Bool.or_false, Bool.or_true, Bool.false_or, Bool.true_or, Bool.not_true, Bool.not_false, Bool.true_and, Bool.false_and, Bool.and_true, Bool.and_false, if_true, if_false, Bool.false_eq_true, reduceIte, List.not_mem_nil, List.mem_cons, or_false, false_or, not_false_eq_true, not_true_eq_false, and_true, and_false, and_self, true_and, Nat.reduceLT, Nat.reduceAdd, Nat.zero_add, Nat.lt_add_one, Nat.reduceEqDiff, Nat.lt_add_left_iff_pos, Nat.zero_lt_succ, Nat.zero_lt_one, Nat.succ_ne_self, reduceCtorEq, Nat.zero_ne_one, Nat.one_ne_zero, decide_true, decide_false, beq_self_eq_true, Int.reduceBEq, Int.reduceLT, Int.reduceLE, Int.reduceAdd, Int.reduceSub, Int.reduceNeg, q, p_mod, p_fdiv, h0, h1]
    · have m1 : mulOk 48271 (z + 1) = true := mul_l (by decide) (by decide)
      have m2 : mulOk (y + 48271 * (z + 1)) (39373 + (z + 1)) = true := mul_r (by omega) (by omega)
      have m3 : ∀ i j : Int, mulOk i (j % 40009 + 7) = true := fun i j => mul_r (by omega) (by omega)
      have m4 : ∀ i : Int, mulOk i 48271 = true := fun i => mul_r (by decide) (by decide)
      have e : ∃ r0 : Int, (evSs ⟨callN pg n, pg.glob, [0], pg.fuel, pg.exm⟩ b21 [.lst [.int x, .int y, .int z], .v (.int low), .hole, .hole, .hole, .hole]).res [0] 2 = .ok (.v (.int (r0 % low))) [.lst [.int x, .int y, .int (z + 1)], .hole] := by
        refine ⟨?r, ?g⟩
        case g =>
          unfold b21
          simp only [evSs_cons, evSs_nil, evS, ev, evB, evF, evA, evP, evM, evI, evO, rb_ok, rb_ex, ro_ok, ro_ex, rn_ok, op_so, td_v, td_l, td_ex, ts_b, ts_l, ts_t, ts_i, Z.pk_nil, pk_v, pk_l, pk_i, ih_v, ih_l, ih_d, fz_v, fz_l, sq_nx, sq_rt, sq_ex, rs_rt, rs_nx, rs_ex, of_so, st_def, st_tup, st_lst, cb_ok, cb_ex, fin_ok, fin_ex, p_isi, p_lenT, p_lenL, p_int, p_intB, p_abs, p_add, p_sub, p_neg, p_lt, p_gt, p_le, p_ge, p_max, p_min, p_isN, p_notN, p_tupL, p_tupT, p_lstL, p_lstT, p_rev, ix0L, ix0T, ix1L, ix1T, ix2L, ix2T, pu0, pu1, pu2, ft0, ft1, ft2, ft3, ft4, fl0, fl1, fl2, fl3, fl4, fl5, fl6, fl7, fl8, fl9, fl10, fl11, ca_rt, ca_nx, io_i, ap_S, il_l, p_addS, p_addU, Nat.reduceLeDiff, sl_L, Int.natCast_zero, Int.natCast_one, Int.cast_ofNat_Int, sm0, sm1, sm2, p_eqI, p_neI, p_eqB, p_neB, p_eqS, p_neS, Option.map_some, Option.bind_some, slot, setS, setTs, isOw, Z.fill, unfill, owV, outs, outsA, List.getD_cons_zero, List.getD_cons_succ, List.set_cons_zero, List.set_cons_succ, List.length_cons, List.length_nil, List.any_cons, List.any_nil, List.append_nil, List.nil_append, List.cons_append, List.map_cons, List.map_nil, isTy, Bool.or_false, Bool.or_true, Bool.false_or, Bool.true_or, Bool.not_true, Bool.not_false, Bool.true_and, Bool.false_and, Bool.and_true, Bool.and_false, if_true, if_false, Bool.false_eq_true, reduceIte, List.not_mem_nil, List.mem_cons, or_false, false_or, not_false_eq_true, not_true_eq_false, and_true, and_false, and_self, true_and, Nat.reduceLT, Nat.reduceAdd, Nat.zero_add, Nat.lt_add_one, Nat.reduceEqDiff, Nat.lt_add_left_iff_pos, Nat.zero_lt_succ, Nat.zero_lt_one, Nat.succ_ne_self, reduceCtorEq, Nat.zero_ne_one, Nat.one_ne_zero, decide_true, decide_false, beq_self_eq_true, Int.reduceBEq, Int.reduceLT, Int.reduceLE, Int.reduceAdd, Int.reduceSub, Int.reduceNeg, q, p_mod, p_fdiv, p_mul, h0, h1, m1, m2, m3, m4]
          rfl
      obtain ⟨r0, e⟩ := e
      exact ⟨r0 % low, .lst [.int x, .int y, .int (z + 1)], e, Int.emod_nonneg _ (by omega), Int.emod_lt_of_pos _ h0, _, _, _, rfl, hx, hy, hy2, by omega, by omega⟩
theorem c23 {K : Nat} {o : O} (h : Ur K o) (hK : K < 1000000) {β : Type} {enc : β → D} {xs : List β} (hx : xs ≠ []) (hl : xs.length < 1000) : ∀ {n : Nat}, 2 ≤ n → ∃ x ∈ xs, ∃ o', callN pg n 23 [o, .v (.list (xs.map enc))] = .ok (.v (enc x)) [o', .hole] ∧ Ur (K + 1) o'
  | 0, hn => by omega
  | n + 1, hn => by
    have hp : 0 < xs.length := List.length_pos_iff.mpr hx
    obtain ⟨r, o', e, r0, r1, u⟩ := c21 h hK (low := (xs.length : Int)) (by omega) (by omega) (n := n) (by omega)
    obtain ⟨k, rfl⟩ := Int.eq_ofNat_of_zero_le r0
    have hk : k < xs.length := by omega
    refine ⟨xs[k], List.getElem_mem hk, o', ?_, u⟩
    rw [callN_of [o, .v (.list (xs.map enc))] b23 [0] 2 (d := f23) rfl]
    unfold b23
    have g : prF .idx [.list (xs.map enc), .int (k : Int)] = some (.v (enc xs[k])) := p_idxL (atI_nat (by rw [List.getElem?_map, List.getElem?_eq_getElem hk]; rfl))
    simp only [evSs_cons, evSs_nil, evS, ev, evB, evF, evA, evP, evM, evI, evO, rb_ok, rb_ex, ro_ok, ro_ex, rn_ok, op_so, td_v, td_l, td_ex, ts_b, ts_l, ts_t, ts_i, Z.pk_nil, pk_v, pk_l, pk_i, ih_v, ih_l, ih_d, fz_v, fz_l, sq_nx, sq_rt, sq_ex, rs_rt, rs_nx, rs_ex, of_so, st_def, st_tup, st_lst, cb_ok, cb_ex, fin_ok, fin_ex, p_isi, p_lenT, p_lenL, p_int, p_intB, p_abs, p_add, p_sub, p_neg, p_lt, p_gt, p_le, p_ge, p_max, p_min, p_isN, p_notN, p_tupL, p_tupT, p_lstL, p_lstT, p_rev, ix0L, ix0T, ix1L, ix1T, ix2L, ix2T, pu0, pu1, pu2, ft0, ft1, ft2, ft3, ft4, fl0, fl1, fl2, fl3, fl4, fl5, fl6, fl7, fl8, fl9, fl10, fl11, ca_rt, ca_nx, io_i, ap_S, il_l, p_addS, p_addU, Nat.reduceLeDiff, sl_L, Int.natCast_zero, Int.natCast_one, Int.cast_ofNat_Int, sm0, sm1, sm2, p_eqI, p_neI, p_eqB, p_neB, p_eqS, p_neS, Option.map_some, Option.bind_some, slot, setS, setTs, isOw, Z.fill, unfill, owV, outs, outsA, List.getD_cons_zero, List.getD_cons_succ, List.set_cons_zero, List.set_cons_succ, List.length_cons, List.length_nil, List.any_cons, List.any_nil, List.append_nil, List.nil_append, List.cons_append, List.map_cons, List.map_nil, isTy, Bool.or_false, Bool.or_true, Bool.false_or, Bool.true_or, Bool.not_true, Bool.not_false, Bool.true_and, Bool.false_and, Bool.and_true, Bool.and_false, if_true, if_false, Bool.false_eq_true, reduceIte, List.not_mem_nil, List.mem_cons, or_false, false_or, not_false_eq_true, not_true_eq_false, and_true, and_false, and_self, true_and, Nat.reduceLT, Nat.reduceAdd, Nat.zero_add, Nat.lt_add_one, Nat.reduceEqDiff, Nat.lt_add_left_iff_pos, Nat.zero_lt_succ, Nat.zero_lt_one, Nat.succ_ne_self, reduceCtorEq, Nat.zero_ne_one, Nat.one_ne_zero, decide_true, decide_false, beq_self_eq_true, Int.reduceBEq, Int.reduceLT, Int.reduceLE, Int.reduceAdd, Int.reduceSub, Int.reduceNeg, h.nh, List.length_map, e, g]
theorem c26 {K : Nat} {o : O} (h : Ur K o) (hK : K < 1000000) {d : D} : ∀ {n : Nat}, dp d + 2 ≤ n → ∃ q o', callN pg n 26 [o, .v d] = .ok q [o', .hole] ∧ (q = ofD (lisD d) ∨ q = .v d) ∧ Ur (K + 1) o'
  | 0, hn => by omega
  | n + 1, hn => by
    obtain ⟨r, o', e, r0, r1, u⟩ := c21 h hK (low := 3) (by decide) (by decide) (n := n) (by omega)
    have h25 := c25 n d (by omega)
    cases q : (r == 0) with
    | true =>
      refine ⟨ofD (lisD d), o', ?_, .inl rfl, u⟩
      rw [callN_of [o, .v d] b26 [0] 2 (d := f26) rfl]
      unfold b26
      simp only [evSs_cons, evSs_nil, evS, ev, evB, evF, evA, evP, evM, evI, evO, rb_ok, rb_ex, ro_ok, ro_ex, rn_ok, op_so, td_v, td_l, td_ex, ts_b, ts_l, ts_t, ts_i, Z.pk_nil, pk_v, pk_l, pk_i, ih_v, ih_l, ih_d, fz_v, fz_l, sq_nx, sq_rt, sq_ex, rs_rt, rs_nx, rs_ex, of_so, st_def, st_tup, st_lst, cb_ok, cb_ex, fin_ok, fin_ex, p_isi, p_lenT, p_lenL, p_int, p_intB, p_abs, p_add, p_sub, p_neg, p_lt, p_gt, p_le, p_ge, p_max, p_min, p_isN, p_notN, p_tupL, p_tupT, p_lstL, p_lstT, p_rev, ix0L, ix0T, ix1L, ix1T, ix2L, ix2T, pu0, pu1, pu2, ft0, ft1, ft2, ft3, ft4, fl0, fl1, fl2, fl3, fl4, fl5, fl6, fl7, fl8, fl9, fl10, fl11, ca_rt, ca_nx, io_i, ap_S, il_l, p_addS, p_addU, Nat.reduceLeDiff, sl_L, Int.natCast_zero, Int.natCast_one, Int.cast_ofNat_Int, sm0, sm1, sm2, p_eqI, p_neI, p_eqB, p_neB, p_eqS, p_neS, Option.map_some, Option.bind_some, slot, setS, setTs, isOw, Z.fill, unfill, owV, outs, outsA, List.getD_cons_zero, List.getD_cons_succ, List.set_cons_zero, List.set_cons_succ, List.length_cons, List.length_nil, List.any_cons, List.any_nil, List.append_nil, List.nil_append, List.cons_append, List.map_cons, List.map_nil, isTy, Bool.or_false, Bool.or_true, Bool.false_or, Bool.true_or, Bool.not_true, Bool.not_false, Bool.true_and, Bool.false_and, Bool.and_true, Bool.and_false, if_true, if_false, Bool.false_eq_true, reduceIte, List.not_mem_nil, List.mem_cons, or_false, false_or, not_false_eq_true, not_true_eq_false, and_true, and_false, and_self, true_and, Nat.reduceLT, Nat.reduceAdd, Nat.zero_add, Nat.lt_add_one, Nat.reduceEqDiff, Nat.lt_add_left_iff_pos, Nat.zero_lt_succ, Nat.zero_lt_one, Nat.succ_ne_self, reduceCtorEq, Nat.zero_ne_one, Nat.one_ne_zero, decide_true, decide_false, beq_self_eq_true, Int.reduceBEq, Int.reduceLT, Int.reduceLE, Int.reduceAdd, Int.reduceSub, Int.reduceNeg, h.nh, e, q, h25]
    | false =>
      refine ⟨.v d, o', ?_, .inr rfl, u⟩
      rw [callN_of [o, .v d] b26 [0] 2 (d := f26) rfl]
      unfold b26
      simp only [evSs_cons, evSs_nil, evS, ev, evB, evF, evA, evP, evM, evI, evO, rb_ok, rb_ex, ro_ok, ro_ex, rn_ok, op_so, td_v, td_l, td_ex, ts_b, ts_l, ts_t, ts_i, Z.pk_nil, pk_v, pk_l, pk_i, ih_v, ih_l, ih_d, fz_v, fz_l, sq_nx, sq_rt, sq_ex, rs_rt, rs_nx, rs_ex, of_so, st_def, st_tup, st_lst, cb_ok, cb_ex, fin_ok, fin_ex, p_isi, p_lenT, p_lenL, p_int, p_intB, p_abs, p_add, p_sub, p_neg, p_lt, p_gt, p_le, p_ge, p_max, p_min, p_isN, p_notN, p_tupL, p_tupT, p_lstL, p_lstT, p_rev, ix0L, ix0T, ix1L, ix1T, ix2L, ix2T, pu0, pu1, pu2, ft0, ft1, ft2, ft3, ft4, fl0, fl1, fl2, fl3, fl4, fl5, fl6, fl7, fl8, fl9, fl10, fl11, ca_rt, ca_nx, io_i, ap_S, il_l, p_addS, p_addU, Nat.reduceLeDiff, sl_L, Int.natCast_zero, Int.natCast_one, Int.cast_ofNat_Int, sm0, sm1, sm2, p_eqI, p_neI, p_eqB, p_neB, p_eqS, p_neS, Option.map_some, Option.bind_some, slot, setS, setTs, isOw, Z.fill, unfill, owV, outs, outsA, List.getD_cons_zero, List.getD_cons_succ, List.set_cons_zero, List.set_cons_succ, List.length_cons, List.length_nil, List.any_cons, List.any_nil, List.append_nil, List.nil_append, List.cons_append, List.map_cons, List.map_nil, isTy, Bool.or_false, Bool.or_true, Bool.false_or, Bool.true_or, Bool.not_true, Bool.not_false, Bool.true_and, Bool.false_and, Bool.and_true, Bool.and_false, if_true, if_false, Bool.false_eq_true, reduceIte, List.not_mem_nil, List.mem_cons, or_false, false_or, not_false_eq_true, not_true_eq_false, and_true, and_false, and_self, true_and, Nat.reduceLT, Nat.reduceAdd, Nat.zero_add, Nat.lt_add_one, Nat.reduceEqDiff, Nat.lt_add_left_iff_pos, Nat.zero_lt_succ, Nat.zero_lt_one, Nat.succ_ne_self, reduceCtorEq, Nat.zero_ne_one, Nat.one_ne_zero, decide_true, decide_false, beq_self_eq_true, Int.reduceBEq, Int.reduceLT, Int.reduceLE, Int.reduceAdd, Int.reduceSub, Int.reduceNeg, h.nh, e, q]
/-- the first box -/
theorem p_pow18 : prF .pow [.int 10, .int 18] = some (.v (.int 1000000000000000000)) := by kernel_rfl
theorem c20 (n : Nat) (x : Int) : ∃ o, callN pg (n + 1) 20 [.v (.list [.int x]), .v (.int 0)] = .ok o [.hole, .hole] ∧ Ur 0 o := by
  have m1 : ∀ (i : Int) (b : Bool), mulOk i (bI b) = true := fun i b => mul_r (by cases b <;> decide) (by cases b <;> decide)
  have m2 : mulOk 39403 0 = true := by decide
  have e : ∃ y : Int, callN pg (n + 1) 20 [.v (.list [.int x]), .v (.int 0)] = .ok (.lst [.int ((if x < 0 then -x else x) * bI (decide (1000000000000000000 ≤ (if x < 0 then -x else x)))), .int y, .int 0]) [.hole, .hole] ∧ 0 ≤ y ∧ y < 2 ^ 62 := by
    refine ⟨x % 2305843009213693951 + 39403 * 0 + 232193, ?_, by omega, by omega⟩
    rw [callN_of [.v (.list [.int x]), .v (.int 0), .hole] b20 [] 2 (d := f20) rfl]
    unfold b20
    simp only [evSs_cons, evSs_nil, evS, ev, evB, evF, evA, evP, evM, evI, evO, rb_ok, rb_ex, ro_ok, ro_ex, rn_ok, op_so, td_v, td_l, td_ex, ts_b, ts_l, ts_t, ts_i, Z.pk_nil, pk_v, pk_l, pk_i, ih_v, ih_l, ih_d, fz_v, fz_l, sq_nx, sq_rt, sq_ex, rs_rt, rs_nx, rs_ex, of_so, st_def, st_tup, st_lst, cb_ok, cb_ex, fin_ok, fin_ex, p_isi, p_lenT, p_lenL, p_int, p_intB, p_abs, p_add, p_sub, p_neg, p_lt, p_gt, p_le, p_ge, p_max, p_min, p_isN, p_notN, p_tupL, p_tupT, p_lstL, p_lstT, p_rev, ix0L, ix0T, ix1L, ix1T, ix2L, ix2T, pu0, pu1, pu2, ft0, ft1, ft2, ft3, ft4, fl0, fl1, fl2, fl3, fl4, fl5, fl6, fl7, fl8, fl9, fl10, fl11, ca_rt, ca_nx, io_i, ap_S, il_l, p_addS, p_addU, Nat.reduceLeDiff, sl_L, Int.natCast_zero, Int.natCast_one, Int.cast_ofNat_Int, sm0, sm1, sm2, p_eqI, p_neI, p_eqB, p_neB, p_eqS, p_neS, Option.map_some, Option.bind_some, slot, setS, setTs, isOw, Z.fill, unfill, owV, outs, outsA, List.getD_cons_zero, List.getD_cons_succ, List.set_cons_zero, List.set_cons_succ, List.length_cons, List.length_nil, List.any_cons, List.any_nil, List.append_nil, List.nil_append, List.cons_append, List.map_cons, List.map_nil, isTy, Bool.or_false, Bool.or_true, Bool.false_or, Bool.true_or, Bool.not_true, Bool.not_false, Bool.true_and, Bool.false_and, Bool.and_true, Bool.and_false, if_true, if_false, Bool.false_eq_true, reduceIte, List.not_mem_nil, List.mem_cons, or_false, false_or, not_false_eq_true, not_true_eq_false, and_true, and_false, and_self, true_and, Nat.reduceLT, Nat.reduceAdd, Nat.zero_add, Nat.lt_add_one, Nat.reduceEqDiff, Nat.lt_add_left_iff_pos, Nat.zero_lt_succ, Nat.zero_lt_one, Nat.succ_ne_self, reduceCtorEq, Nat.zero_ne_one, Nat.one_ne_zero, decide_true, decide_false, beq_self_eq_true, Int.reduceBEq, Int.reduceLT, Int.reduceLE, Int.reduceAdd, Int.reduceSub, Int.reduceNeg, p_pow18, p_mul, m1, m2, p_mod, show decide ((0 : Int) < ((1 : Nat) : Int)) = true from rfl]
    try rfl
  obtain ⟨y, e, h0, h1⟩ := e
  refine ⟨_, e, _, _, _, rfl, ?_, h0, h1, by omega, by omega⟩
  exact Int.mul_nonneg (by split <;> omega) (by unfold bI; split <;> omega)
/-! ### the cells -/
theorem mem_enum : ∀ {xs : List D} {n : Nat} {d : D}, d ∈ enumD n xs → ∃ k y, d = .tuple [.int (k : Nat), y] ∧ k < n + xs.length ∧ y ∈ xs
  | [], _, _, h => by cases h
  | x :: xs, n, d, h => by
    unfold enumD at h
    rcases List.mem_cons.mp h with e | e
    · exact ⟨n, x, e, by simp, List.mem_cons_self⟩
    · obtain ⟨k, y, e1, e2, e3⟩ := mem_enum e
      exact ⟨k, y, e1, by simp only [List.length_cons]; omega, List.mem_cons_of_mem _ e3⟩
theorem cut_map (is : List Int) (lo hi : Option Int) : cutD (is.map .int) lo hi = (((is.drop (HT.sIx is.length 0 lo)).take (HT.sIx is.length is.length hi - HT.sIx is.length 0 lo))).map .int := by
  unfold cutD
  rw [List.length_map, ← List.map_drop, ← List.map_take]
theorem cut_len (is : List Int) (lo hi : Option Int) : (((is.drop (HT.sIx is.length 0 lo)).take (HT.sIx is.length is.length hi - HT.sIx is.length 0 lo))).length ≤ is.length := by
  rw [List.length_take, List.length_drop]
  omega
theorem cut1 (is : List Int) : cutD (is.map .int) none (some 1) = [] ∨ ∃ a, cutD (is.map .int) none (some 1) = [.int a] := by
  cases is with
  | nil => exact .inl rfl
  | cons a r => exact .inr ⟨a, by simp [cutD, HT.sIx]⟩
theorem c22 (is : List Int) (hl : is.length ≤ 63) (n : Nat) : ∃ X, callN pg (n + 1) 22 [.v (.list (is.map .int)), .v (.int 1)] = .ok (.v (.list [.int X])) [.hole, .hole] := by
  have h0 : ∃ a, evS ⟨callN pg n, pg.glob, [], pg.fuel, pg.exm⟩ (b22.nth 0) [.v (.list (is.map .int)), .v (.int 1), .hole, .hole, .hole, .hole] = .nx [.v (.list (is.map .int)), .v (.int 1), .lst [.int a], .hole, .hole, .hole] := by
    rcases cut1 is with e | ⟨a, e⟩
    · refine ⟨0, ?_⟩
      unfold b22
      simp only [evSs_cons, evSs_nil, evS, ev, evB, evF, evA, evP, evM, evI, evO, rb_ok, rb_ex, ro_ok, ro_ex, rn_ok, op_so, td_v, td_l, td_ex, ts_b, ts_l, ts_t, ts_i, Z.pk_nil, pk_v, pk_l, pk_i, ih_v, ih_l, ih_d, fz_v, fz_l, sq_nx, sq_rt, sq_ex, rs_rt, rs_nx, rs_ex, of_so, st_def, st_tup, st_lst, cb_ok, cb_ex, fin_ok, fin_ex, p_isi, p_lenT, p_lenL, p_int, p_intB, p_abs, p_add, p_sub, p_neg, p_lt, p_gt, p_le, p_ge, p_max, p_min, p_isN, p_notN, p_tupL, p_tupT, p_lstL, p_lstT, p_rev, ix0L, ix0T, ix1L, ix1T, ix2L, ix2T, pu0, pu1, pu2, ft0, ft1, ft2, ft3, ft4, fl0, fl1, fl2, fl3, fl4, fl5, fl6, fl7, fl8, fl9, fl10, fl11, ca_rt, ca_nx, io_i, ap_S, il_l, p_addS, p_addU, Nat.reduceLeDiff, sl_L, Int.natCast_zero, Int.natCast_one, Int.cast_ofNat_Int, sm0, sm1, sm2, p_eqI, p_neI, p_eqB, p_neB, p_eqS, p_neS, Option.map_some, Option.bind_some, slot, setS, setTs, isOw, Z.fill, unfill, owV, outs, outsA, List.getD_cons_zero, List.getD_cons_succ, List.set_cons_zero, List.set_cons_succ, List.length_cons, List.length_nil, List.any_cons, List.any_nil, List.append_nil, List.nil_append, List.cons_append, List.map_cons, List.map_nil, isTy, Bool.or_false, Bool.or_true, Bool.false_or, Bool.true_or, Bool.not_true, Bool.not_false, Bool.true_and, Bool.false_and, Bool.and_true, Bool.and_false, if_true, if_false, Bool.false_eq_true, reduceIte, List.not_mem_nil, List.mem_cons, or_false, false_or, not_false_eq_true, not_true_eq_false, and_true, and_false, and_self, true_and, Nat.reduceLT, Nat.reduceAdd, Nat.zero_add, Nat.lt_add_one, Nat.reduceEqDiff, Nat.lt_add_left_iff_pos, Nat.zero_lt_succ, Nat.zero_lt_one, Nat.succ_ne_self, reduceCtorEq, Nat.zero_ne_one, Nat.one_ne_zero, decide_true, decide_false, beq_self_eq_true, Int.reduceBEq, Int.reduceLT, Int.reduceLE, Int.reduceAdd, Int.reduceSub, Int.reduceNeg, Ss.nth, intO, e, List.isEmpty]
    · refine ⟨a, ?_⟩
      unfold b22
      simp only [evSs_cons, evSs_nil, evS, ev, evB, evF, evA, evP, evM, evI, evO, rb_ok, rb_ex, ro_ok, ro_ex, rn_ok, op_so, td_v, td_l, td_ex, ts_b, ts_l, ts_t, ts_i, Z.pk_nil, pk_v, pk_l, pk_i, ih_v, ih_l, ih_d, fz_v, fz_l, sq_nx, sq_rt, sq_ex, rs_rt, rs_nx, rs_ex, of_so, st_def, st_tup, st_lst, cb_ok, cb_ex, fin_ok, fin_ex, p_isi, p_lenT, p_lenL, p_int, p_intB, p_abs, p_add, p_sub, p_neg, p_lt, p_gt, p_le, p_ge, p_max, p_min, p_isN, p_notN, p_tupL, p_tupT, p_lstL, p_lstT, p_rev, ix0L, ix0T, ix1L, ix1T, ix2L, ix2T, pu0, pu1, pu2, ft0, ft1, ft2, ft3, ft4, fl0, fl1, fl2, fl3, fl4, fl5, fl6, fl7, fl8, fl9, fl10, fl11, ca_rt, ca_nx, io_i, ap_S, il_l, p_addS, p_addU, Nat.reduceLeDiff, sl_L, Int.natCast_zero, Int.natCast_one, Int.cast_ofNat_Int, sm0, sm1, sm2, p_eqI, p_neI, p_eqB, p_neB, p_eqS, p_neS, Option.map_some, Option.bind_some, slot, setS, setTs, isOw, Z.fill, unfill, owV, outs, outsA, List.getD_cons_zero, List.getD_cons_succ, List.set_cons_zero, List.set_cons_succ, List.length_cons, List.length_nil, List.any_cons, List.any_nil, List.append_nil, List.nil_append, List.cons_append, List.map_cons, List.map_nil, isTy, Bool.or_false, Bool.or_true, Bool.false_or, Bool.true_or, Bool.not_true, Bool.not_false, Bool.true_and, Bool.false_and, Bool.and_true, Bool.and_false, if_true, if_false, Bool.false_eq_true, reduceIte, List.not_mem_nil, List.mem_cons, or_false, false_or, not_false_eq_true, not_true_eq_false, and_true, and_false, and_self, true_and, Nat.reduceLT, Nat.reduceAdd, Nat.zero_add, Nat.lt_add_one, Nat.reduceEqDiff, Nat.lt_add_left_iff_pos, Nat.zero_lt_succ, Nat.zero_lt_one, Nat.succ_ne_self, reduceCtorEq, Nat.zero_ne_one, Nat.one_ne_zero, decide_true, decide_false, beq_self_eq_true, Int.reduceBEq, Int.reduceLT, Int.reduceLE, Int.reduceAdd, Int.reduceSub, Int.reduceNeg, Ss.nth, intO, e, List.isEmpty]
  obtain ⟨a, h0⟩ := h0
  have h1 : ∃ X o3 o4 o5, evS ⟨callN pg n, pg.glob, [], pg.fuel, pg.exm⟩ (b22.nth 1) [.v (.list (is.map .int)), .v (.int 1), .lst [.int a], .hole, .hole, .hole] = .nx [.v (.list (is.map .int)), .v (.int 1), .lst [.int X], o3, o4, o5] := by
    unfold b22
    simp only [evSs_cons, evSs_nil, evS, ev, evB, evF, evA, evP, evM, evI, evO, rb_ok, rb_ex, ro_ok, ro_ex, rn_ok, op_so, td_v, td_l, td_ex, ts_b, ts_l, ts_t, ts_i, Z.pk_nil, pk_v, pk_l, pk_i, ih_v, ih_l, ih_d, fz_v, fz_l, sq_nx, sq_rt, sq_ex, rs_rt, rs_nx, rs_ex, of_so, st_def, st_tup, st_lst, cb_ok, cb_ex, fin_ok, fin_ex, p_isi, p_lenT, p_lenL, p_int, p_intB, p_abs, p_add, p_sub, p_neg, p_lt, p_gt, p_le, p_ge, p_max, p_min, p_isN, p_notN, p_tupL, p_tupT, p_lstL, p_lstT, p_rev, ix0L, ix0T, ix1L, ix1T, ix2L, ix2T, pu0, pu1, pu2, ft0, ft1, ft2, ft3, ft4, fl0, fl1, fl2, fl3, fl4, fl5, fl6, fl7, fl8, fl9, fl10, fl11, ca_rt, ca_nx, io_i, ap_S, il_l, p_addS, p_addU, Nat.reduceLeDiff, sl_L, Int.natCast_zero, Int.natCast_one, Int.cast_ofNat_Int, sm0, sm1, sm2, p_eqI, p_neI, p_eqB, p_neB, p_eqS, p_neS, Option.map_some, Option.bind_some, slot, setS, setTs, isOw, Z.fill, unfill, owV, outs, outsA, List.getD_cons_zero, List.getD_cons_succ, List.set_cons_zero, List.set_cons_succ, List.length_cons, List.length_nil, List.any_cons, List.any_nil, List.append_nil, List.nil_append, List.cons_append, List.map_cons, List.map_nil, isTy, Bool.or_false, Bool.or_true, Bool.false_or, Bool.true_or, Bool.not_true, Bool.not_false, Bool.true_and, Bool.false_and, Bool.and_true, Bool.and_false, if_true, if_false, Bool.false_eq_true, reduceIte, List.not_mem_nil, List.mem_cons, or_false, false_or, not_false_eq_true, not_true_eq_false, and_true, and_false, and_self, true_and, Nat.reduceLT, Nat.reduceAdd, Nat.zero_add, Nat.lt_add_one, Nat.reduceEqDiff, Nat.lt_add_left_iff_pos, Nat.zero_lt_succ, Nat.zero_lt_one, Nat.succ_ne_self, reduceCtorEq, Nat.zero_ne_one, Nat.one_ne_zero, decide_true, decide_false, beq_self_eq_true, Int.reduceBEq, Int.reduceLT, Int.reduceLE, Int.reduceAdd, Int.reduceSub, Int.reduceNeg, Ss.nth, intO, cut_map]
    refine forL_to (Q := fun o => ∃ X o3 o4 o5, o = .nx [.v (.list (is.map .int)), .v (.int 1), .lst [.int X], o3, o4, o5]) (P := fun _ Γ => ∃ X o3 o4 o5, Γ = [.v (.list (is.map .int)), .v (.int 1), .lst [.int X], o3, o4, o5]) ?_ (k := 0) ⟨a, .hole, .hole, .hole, rfl⟩ fun Γ' ⟨X, o3, o4, o5, e2⟩ => ⟨X, o3, o4, o5, by rw [e2]⟩
    rintro d hd k _ ⟨X, o3, o4, o5, rfl⟩
    obtain ⟨k, y, rfl, hk, hy⟩ := mem_enum hd
    obtain ⟨i, _, rfl⟩ := List.mem_map.mp hy
    rw [List.length_map] at hk
    have hk2 := cut_len is (some 1) (some 63)
    refine ⟨[.v (.list (is.map .int)), .v (.int 1), .lst [.int (X + i * ((k : Int) + 2))], .v (.int k), .v (.int i), .v (.int 0)], ?_, _, _, _, _, rfl⟩
    have m : mulOk i ((k : Int) + 2) = true := mul_r (by omega) (by omega)
    simp only [evSs_cons, evSs_nil, evS, ev, evB, evF, evA, evP, evM, evI, evO, rb_ok, rb_ex, ro_ok, ro_ex, rn_ok, op_so, td_v, td_l, td_ex, ts_b, ts_l, ts_t, ts_i, Z.pk_nil, pk_v, pk_l, pk_i, ih_v, ih_l, ih_d, fz_v, fz_l, sq_nx, sq_rt, sq_ex, rs_rt, rs_nx, rs_ex, of_so, st_def, st_tup, st_lst, cb_ok, cb_ex, fin_ok, fin_ex, p_isi, p_lenT, p_lenL, p_int, p_intB, p_abs, p_add, p_sub, p_neg, p_lt, p_gt, p_le, p_ge, p_max, p_min, p_isN, p_notN, p_tupL, p_tupT, p_lstL, p_lstT, p_rev, ix0L, ix0T, ix1L, ix1T, ix2L, ix2T, pu0, pu1, pu2, ft0, ft1, ft2, ft3, ft4, fl0, fl1, fl2, fl3, fl4, fl5, fl6, fl7, fl8, fl9, fl10, fl11, ca_rt, ca_nx, io_i, ap_S, il_l, p_addS, p_addU, Nat.reduceLeDiff, sl_L, Int.natCast_zero, Int.natCast_one, Int.cast_ofNat_Int, sm0, sm1, sm2, p_eqI, p_neI, p_eqB, p_neB, p_eqS, p_neS, Option.map_some, Option.bind_some, slot, setS, setTs, isOw, Z.fill, unfill, owV, outs, outsA, List.getD_cons_zero, List.getD_cons_succ, List.set_cons_zero, List.set_cons_succ, List.length_cons, List.length_nil, List.any_cons, List.any_nil, List.append_nil, List.nil_append, List.cons_append, List.map_cons, List.map_nil, isTy, Bool.or_false, Bool.or_true, Bool.false_or, Bool.true_or, Bool.not_true, Bool.not_false, Bool.true_and, Bool.false_and, Bool.and_true, Bool.and_false, if_true, if_false, Bool.false_eq_true, reduceIte, List.not_mem_nil, List.mem_cons, or_false, false_or, not_false_eq_true, not_true_eq_false, and_true, and_false, and_self, true_and, Nat.reduceLT, Nat.reduceAdd, Nat.zero_add, Nat.lt_add_one, Nat.reduceEqDiff, Nat.lt_add_left_iff_pos, Nat.zero_lt_succ, Nat.zero_lt_one, Nat.succ_ne_self, reduceCtorEq, Nat.zero_ne_one, Nat.one_ne_zero, decide_true, decide_false, beq_self_eq_true, Int.reduceBEq, Int.reduceLT, Int.reduceLE, Int.reduceAdd, Int.reduceSub, Int.reduceNeg, p_mod, p_mul, m, Int.emod_one]
  obtain ⟨X, o3, o4, o5, h1⟩ := h1
  refine ⟨X, ?_⟩
  rw [callN_of [.v (.list (is.map .int)), .v (.int 1), .hole, .hole, .hole, .hole] b22 [] 2 (d := f22) rfl]
  rw [show b22 = b22.drop 0 from rfl, step_nx 0 (by decide) h0, step_nx 1 (by decide) h1]
  unfold b22
  simp only [evSs_cons, evSs_nil, evS, ev, evB, evF, evA, evP, evM, evI, evO, rb_ok, rb_ex, ro_ok, ro_ex, rn_ok, op_so, td_v, td_l, td_ex, ts_b, ts_l, ts_t, ts_i, Z.pk_nil, pk_v, pk_l, pk_i, ih_v, ih_l, ih_d, fz_v, fz_l, sq_nx, sq_rt, sq_ex, rs_rt, rs_nx, rs_ex, of_so, st_def, st_tup, st_lst, cb_ok, cb_ex, fin_ok, fin_ex, p_isi, p_lenT, p_lenL, p_int, p_intB, p_abs, p_add, p_sub, p_neg, p_lt, p_gt, p_le, p_ge, p_max, p_min, p_isN, p_notN, p_tupL, p_tupT, p_lstL, p_lstT, p_rev, ix0L, ix0T, ix1L, ix1T, ix2L, ix2T, pu0, pu1, pu2, ft0, ft1, ft2, ft3, ft4, fl0, fl1, fl2, fl3, fl4, fl5, fl6, fl7, fl8, fl9, fl10, fl11, ca_rt, ca_nx, io_i, ap_S, il_l, p_addS, p_addU, Nat.reduceLeDiff, sl_L, Int.natCast_zero, Int.natCast_one, Int.cast_ofNat_Int, sm0, sm1, sm2, p_eqI, p_neI, p_eqB, p_neB, p_eqS, p_neS, Option.map_some, Option.bind_some, slot, setS, setTs, isOw, Z.fill, unfill, owV, outs, outsA, List.getD_cons_zero, List.getD_cons_succ, List.set_cons_zero, List.set_cons_succ, List.length_cons, List.length_nil, List.any_cons, List.any_nil, List.append_nil, List.nil_append, List.cons_append, List.map_cons, List.map_nil, isTy, Bool.or_false, Bool.or_true, Bool.false_or, Bool.true_or, Bool.not_true, Bool.not_false, Bool.true_and, Bool.false_and, Bool.and_true, Bool.and_false, if_true, if_false, Bool.false_eq_true, reduceIte, List.not_mem_nil, List.mem_cons, or_false, false_or, not_false_eq_true, not_true_eq_false, and_true, and_false, and_self, true_and, Nat.reduceLT, Nat.reduceAdd, Nat.zero_add, Nat.lt_add_one, Nat.reduceEqDiff, Nat.lt_add_left_iff_pos, Nat.zero_lt_succ, Nat.zero_lt_one, Nat.succ_ne_self, reduceCtorEq, Nat.zero_ne_one, Nat.one_ne_zero, decide_true, decide_false, beq_self_eq_true, Int.reduceBEq, Int.reduceLT, Int.reduceLE, Int.reduceAdd, Int.reduceSub, Int.reduceNeg, Ss.drop]
end K03
end
section
set_option Elab.async false
set_option linter.all false
set_option maxRecDepth 100000
namespace K03
open Z PySem
/-! ### the names drawn -/
theorem srt (c f p s : Bool) : prF .sorted [.list ((nm c f p s).map eN)] = some (.lst ((nm c f p s).map eN)) := by
  have h1 : sortOk ((nm c f p s).map eN) = true := by cases c <;> cases f <;> cases p <;> cases s <;> decide +kernel
  have h2 : ((nm c f p s).map eN).Pairwise fun a b => PySem.W.dataLe false id a b = true := by cases c <;> cases f <;> cases p <;> cases s <;> decide +kernel
  show (if sortOk ((nm c f p s).map eN) then some (O.lst (sortD ((nm c f p s).map eN))) else none) = _
  rw [if_pos h1]
  unfold sortD
  rw [List.mergeSort_of_pairwise h2]
theorem two {r : Int} (h0 : 0 ≤ r) (h1 : r < 2) : ∃ b : Bool, r = if b then 1 else 0 := by
  rcases (show r = 0 ∨ r = 1 by omega) with e | e
  · exact ⟨false, e⟩
  · exact ⟨true, e⟩
set_option maxHeartbeats 4000000 in
theorem c29 {K : Nat} {o : O} (h : Ur K o) (hK : K + 4 < 1000000) (n : Nat) : ∃ N o', IsN N ∧ callN pg (n + 2) 29 [o] = .ok (.v (eNs N)) [o'] ∧ Ur (K + 4) o' := by
  obtain ⟨r1, o1, e1, a1, b1, u1⟩ := c21 h (by omega) (low := 2) (by decide) (by decide) (n := n + 1) (by omega)
  obtain ⟨r2, o2, e2, a2, b2, u2⟩ := c21 u1 (by omega) (low := 2) (by decide) (by decide) (n := n + 1) (by omega)
  obtain ⟨r3, o3, e3, a3, b3, u3⟩ := c21 u2 (by omega) (low := 2) (by decide) (by decide) (n := n + 1) (by omega)
  obtain ⟨r4, o4, e4, a4, b4, u4⟩ := c21 u3 (by omega) (low := 4) (by decide) (by decide) (n := n + 1) (by omega)
  obtain ⟨c, rfl⟩ := two a1 b1
  obtain ⟨f, rfl⟩ := two a2 b2
  obtain ⟨p, rfl⟩ := two a3 b3
  have hs := srt c f p (!(r4 == 0))
  refine ⟨nm c f p (!(r4 == 0)), o4, ⟨c, f, p, _, rfl⟩, ?_, u4⟩
  rw [callN_of [o, .hole] b29 [0] 1 (d := f29) rfl]
  unfold b29
  cases q : (r4 == 0) <;> rw [q] at hs <;> cases c <;> cases f <;> cases p <;> simp only [nm, opN, nA, nB, nC, nF, nP, nS, eN, List.map_cons, List.map_nil, if_true, if_false, Bool.false_eq_true, List.nil_append, List.cons_append, List.append_nil, List.singleton_append, Bool.not_true, Bool.not_false] at hs e1 e2 e3 <;>
    simp only [evSs_cons, evSs_nil, evS, ev, evB, evF, evA, evP, evM, evI, evO, rb_ok, rb_ex, ro_ok, ro_ex, rn_ok, op_so, td_v, td_l, td_ex, ts_b, ts_l, ts_t, ts_i, Z.pk_nil, pk_v, pk_l, pk_i, ih_v, ih_l, ih_d, fz_v, fz_l, sq_nx, sq_rt, sq_ex, rs_rt, rs_nx, rs_ex, of_so, st_def, st_tup, st_lst, cb_ok, cb_ex, fin_ok, fin_ex, p_isi, p_lenT, p_lenL, p_int, p_intB, p_abs, p_add, p_sub, p_neg, p_lt, p_gt, p_le, p_ge, p_max, p_min, p_isN, p_notN, p_tupL, p_tupT, p_lstL, p_lstT, p_rev, ix0L, ix0T, ix1L, ix1T, ix2L, ix2T, pu0, pu1, pu2, ft0, ft1, ft2, ft3, ft4, fl0, fl1, fl2, fl3, fl4, fl5, fl6, fl7, fl8, fl9, fl10, fl11, ca_rt, ca_nx, io_i, ap_S, il_l, p_addS, p_addU, Nat.reduceLeDiff, sl_L, Int.natCast_zero, Int.natCast_one, Int.cast_ofNat_Int, sm0, sm1, sm2, p_eqI, p_neI, p_eqB, p_neB, p_eqS, p_neS, Option.map_some, Option.bind_some, slot, setS, setTs, isOw, Z.fill, unfill, owV, outs, outsA, List.getD_cons_zero, List.getD_cons_succ, List.set_cons_zero, List.set_cons_succ, List.length_cons, List.length_nil, List.any_cons, List.any_nil, List.append_nil, List.nil_append, List.cons_append, List.map_cons, List.map_nil, isTy, Bool.or_false, Bool.or_true, Bool.false_or, Bool.true_or, Bool.not_true, Bool.not_false, Bool.true_and, Bool.false_and, Bool.and_true, Bool.and_false, if_true, if_false, Bool.false_eq_true, reduceIte, List.not_mem_nil, List.mem_cons, or_false, false_or, not_false_eq_true, not_true_eq_false, and_true, and_false, and_self, true_and, Nat.reduceLT, Nat.reduceAdd, Nat.zero_add, Nat.lt_add_one, Nat.reduceEqDiff, Nat.lt_add_left_iff_pos, Nat.zero_lt_succ, Nat.zero_lt_one, Nat.succ_ne_self, reduceCtorEq, Nat.zero_ne_one, Nat.one_ne_zero, decide_true, decide_false, beq_self_eq_true, Int.reduceBEq, Int.reduceLT, Int.reduceLE, Int.reduceAdd, Int.reduceSub, Int.reduceNeg, h.nh, u1.nh, u2.nh, u3.nh, e1, e2, e3, e4, q, bI, hs, eNs, nm, opN, nA, nB, nC, nF, nP, nS, eN, List.replicate, List.flatten_cons, List.flatten_nil, Int.toNat_zero, Int.toNat_one]
/-! ### a term drawn -/
theorem nm_facts {N : List Nm} (hN : IsN N) : ∀ e ∈ N, look N e.1 = [e] ∧ (e.2 = (0, false) ∨ e.2 = (1, false) ∨ e.2.1 = 2) := by
  refine all_nm (P := fun N => ∀ e ∈ N, look N e.1 = [e] ∧ (e.2 = (0, false) ∨ e.2 = (1, false) ∨ e.2.1 = 2)) ?_ hN
  intro c f p s
  cases c <;> cases f <;> cases p <;> cases s <;> decide +kernel
theorem nm_len {N : List Nm} (hN : IsN N) : N.length < 1000 := by
  refine all_nm (P := fun N => N.length < 1000) ?_ hN
  intro c f p s
  cases c <;> cases f <;> cases p <;> cases s <;> decide +kernel
theorem nm_A {N : List Nm} (hN : IsN N) : nA ∈ N := by
  obtain ⟨c, f, p, s, rfl⟩ := hN
  exact List.mem_cons_self
theorem lk3 (N : List Nm) : (N.map fun e => if (e.2.1 == 0) = true then [eN e] else []).flatten = (N.filter fun e => e.2.1 == 0).map eN := flat_if (fun e : Nm => e.2.1 == 0) eN N
theorem lk4 (N : List Nm) (m : Int) : (N.map fun e => if decide (e.2.1 < m) = true then [eN e] else []).flatten = (N.filter fun e => decide (e.2.1 < m)).map eN := flat_if (fun e : Nm => decide (e.2.1 < m)) eN N
section
variable {N : List Nm} {n : Nat}
theorem t30_0 {o : O} {m : Int} : evS ⟨callN pg n, pg.glob, [0], pg.fuel, pg.exm⟩ (b30.nth 0) [o, .v (eNs N), .v (.int m), .hole, .hole, .hole, .hole, .hole, .hole, .hole, .hole] =
    .nx [o, .v (eNs N), .v (.int m), .lst ((N.filter fun e => e.2.1 == 0).map eN), .hole, .hole, .hole, .hole, .hole, .hole, .hole] := by
  unfold b30
  simp only [Ss.nth]
  unfold eNs
  simp only [evSs_cons, evSs_nil, evS, ev, evB, evF, evA, evP, evM, evI, evO, rb_ok, rb_ex, ro_ok, ro_ex, rn_ok, op_so, td_v, td_l, td_ex, ts_b, ts_l, ts_t, ts_i, Z.pk_nil, pk_v, pk_l, pk_i, ih_v, ih_l, ih_d, fz_v, fz_l, sq_nx, sq_rt, sq_ex, rs_rt, rs_nx, rs_ex, of_so, st_def, st_tup, st_lst, cb_ok, cb_ex, fin_ok, fin_ex, p_isi, p_lenT, p_lenL, p_int, p_intB, p_abs, p_add, p_sub, p_neg, p_lt, p_gt, p_le, p_ge, p_max, p_min, p_isN, p_notN, p_tupL, p_tupT, p_lstL, p_lstT, p_rev, ix0L, ix0T, ix1L, ix1T, ix2L, ix2T, pu0, pu1, pu2, ft0, ft1, ft2, ft3, ft4, fl0, fl1, fl2, fl3, fl4, fl5, fl6, fl7, fl8, fl9, fl10, fl11, ca_rt, ca_nx, io_i, ap_S, il_l, p_addS, p_addU, Nat.reduceLeDiff, sl_L, Int.natCast_zero, Int.natCast_one, Int.cast_ofNat_Int, sm0, sm1, sm2, p_eqI, p_neI, p_eqB, p_neB, p_eqS, p_neS, Option.map_some, Option.bind_some, slot, setS, setTs, isOw, Z.fill, unfill, owV, outs, outsA, List.getD_cons_zero, List.getD_cons_succ, List.set_cons_zero, List.set_cons_succ, List.length_cons, List.length_nil, List.any_cons, List.any_nil, List.append_nil, List.nil_append, List.cons_append, List.map_cons, List.map_nil, isTy, Bool.or_false, Bool.or_true, Bool.false_or, Bool.true_or, Bool.not_true, Bool.not_false, Bool.true_and, Bool.false_and, Bool.and_true, Bool.and_false, if_true, if_false, Bool.false_eq_true, reduceIte, List.not_mem_nil, List.mem_cons, or_false, false_or, not_false_eq_true, not_true_eq_false, and_true, and_false, and_self, true_and, Nat.reduceLT, Nat.reduceAdd, Nat.zero_add, Nat.lt_add_one, Nat.reduceEqDiff, Nat.lt_add_left_iff_pos, Nat.zero_lt_succ, Nat.zero_lt_one, Nat.succ_ne_self, reduceCtorEq, Nat.zero_ne_one, Nat.one_ne_zero, decide_true, decide_false, beq_self_eq_true, Int.reduceBEq, Int.reduceLT, Int.reduceLE, Int.reduceAdd, Int.reduceSub, Int.reduceNeg, walkD]
  rw [lc_rw (fun Γ => ∃ q, Γ = [o, .v (.tuple (N.map eN)), .v (.int m), .hole, .hole, .hole, .hole, .hole, .hole, .hole, q]) (fun e => if (e.2.1 == 0) = true then [eN e] else []) [o, .v (.tuple (N.map eN)), .v (.int m), .hole, .hole, .hole, .hole, .hole, .hole, .hole, .hole] ?_ ⟨_, rfl⟩ (by rintro _ ⟨q, rfl⟩; rfl)]
  · simp only [evSs_cons, evSs_nil, evS, ev, evB, evF, evA, evP, evM, evI, evO, rb_ok, rb_ex, ro_ok, ro_ex, rn_ok, op_so, td_v, td_l, td_ex, ts_b, ts_l, ts_t, ts_i, Z.pk_nil, pk_v, pk_l, pk_i, ih_v, ih_l, ih_d, fz_v, fz_l, sq_nx, sq_rt, sq_ex, rs_rt, rs_nx, rs_ex, of_so, st_def, st_tup, st_lst, cb_ok, cb_ex, fin_ok, fin_ex, p_isi, p_lenT, p_lenL, p_int, p_intB, p_abs, p_add, p_sub, p_neg, p_lt, p_gt, p_le, p_ge, p_max, p_min, p_isN, p_notN, p_tupL, p_tupT, p_lstL, p_lstT, p_rev, ix0L, ix0T, ix1L, ix1T, ix2L, ix2T, pu0, pu1, pu2, ft0, ft1, ft2, ft3, ft4, fl0, fl1, fl2, fl3, fl4, fl5, fl6, fl7, fl8, fl9, fl10, fl11, ca_rt, ca_nx, io_i, ap_S, il_l, p_addS, p_addU, Nat.reduceLeDiff, sl_L, Int.natCast_zero, Int.natCast_one, Int.cast_ofNat_Int, sm0, sm1, sm2, p_eqI, p_neI, p_eqB, p_neB, p_eqS, p_neS, Option.map_some, Option.bind_some, slot, setS, setTs, isOw, Z.fill, unfill, owV, outs, outsA, List.getD_cons_zero, List.getD_cons_succ, List.set_cons_zero, List.set_cons_succ, List.length_cons, List.length_nil, List.any_cons, List.any_nil, List.append_nil, List.nil_append, List.cons_append, List.map_cons, List.map_nil, isTy, Bool.or_false, Bool.or_true, Bool.false_or, Bool.true_or, Bool.not_true, Bool.not_false, Bool.true_and, Bool.false_and, Bool.and_true, Bool.and_false, if_true, if_false, Bool.false_eq_true, reduceIte, List.not_mem_nil, List.mem_cons, or_false, false_or, not_false_eq_true, not_true_eq_false, and_true, and_false, and_self, true_and, Nat.reduceLT, Nat.reduceAdd, Nat.zero_add, Nat.lt_add_one, Nat.reduceEqDiff, Nat.lt_add_left_iff_pos, Nat.zero_lt_succ, Nat.zero_lt_one, Nat.succ_ne_self, reduceCtorEq, Nat.zero_ne_one, Nat.one_ne_zero, decide_true, decide_false, beq_self_eq_true, Int.reduceBEq, Int.reduceLT, Int.reduceLE, Int.reduceAdd, Int.reduceSub, Int.reduceNeg, lk3]
    try rfl
  · rintro e he _ ⟨q, rfl⟩
    refine ⟨[o, .v (.tuple (N.map eN)), .v (.int m), .hole, .hole, .hole, .hole, .hole, .hole, .hole, .v (eN e)], ?_, _, rfl⟩
    unfold eN
    simp only [evSs_cons, evSs_nil, evS, ev, evB, evF, evA, evP, evM, evI, evO, rb_ok, rb_ex, ro_ok, ro_ex, rn_ok, op_so, td_v, td_l, td_ex, ts_b, ts_l, ts_t, ts_i, Z.pk_nil, pk_v, pk_l, pk_i, ih_v, ih_l, ih_d, fz_v, fz_l, sq_nx, sq_rt, sq_ex, rs_rt, rs_nx, rs_ex, of_so, st_def, st_tup, st_lst, cb_ok, cb_ex, fin_ok, fin_ex, p_isi, p_lenT, p_lenL, p_int, p_intB, p_abs, p_add, p_sub, p_neg, p_lt, p_gt, p_le, p_ge, p_max, p_min, p_isN, p_notN, p_tupL, p_tupT, p_lstL, p_lstT, p_rev, ix0L, ix0T, ix1L, ix1T, ix2L, ix2T, pu0, pu1, pu2, ft0, ft1, ft2, ft3, ft4, fl0, fl1, fl2, fl3, fl4, fl5, fl6, fl7, fl8, fl9, fl10, fl11, ca_rt, ca_nx, io_i, ap_S, il_l, p_addS, p_addU, Nat.reduceLeDiff, sl_L, Int.natCast_zero, Int.natCast_one, Int.cast_ofNat_Int, sm0, sm1, sm2, p_eqI, p_neI, p_eqB, p_neB, p_eqS, p_neS, Option.map_some, Option.bind_some, slot, setS, setTs, isOw, Z.fill, unfill, owV, outs, outsA, List.getD_cons_zero, List.getD_cons_succ, List.set_cons_zero, List.set_cons_succ, List.length_cons, List.length_nil, List.any_cons, List.any_nil, List.append_nil, List.nil_append, List.cons_append, List.map_cons, List.map_nil, isTy, Bool.or_false, Bool.or_true, Bool.false_or, Bool.true_or, Bool.not_true, Bool.not_false, Bool.true_and, Bool.false_and, Bool.and_true, Bool.and_false, if_true, if_false, Bool.false_eq_true, reduceIte, List.not_mem_nil, List.mem_cons, or_false, false_or, not_false_eq_true, not_true_eq_false, and_true, and_false, and_self, true_and, Nat.reduceLT, Nat.reduceAdd, Nat.zero_add, Nat.lt_add_one, Nat.reduceEqDiff, Nat.lt_add_left_iff_pos, Nat.zero_lt_succ, Nat.zero_lt_one, Nat.succ_ne_self, reduceCtorEq, Nat.zero_ne_one, Nat.one_ne_zero, decide_true, decide_false, beq_self_eq_true, Int.reduceBEq, Int.reduceLT, Int.reduceLE, Int.reduceAdd, Int.reduceSub, Int.reduceNeg, holes]
    cases e.2.1 == 0 <;> rfl
theorem t30_1 (hN : IsN N) {K : Nat} {o : O} (h : Ur K o) (hK : K < 1000000) {m : Nat} (hm : 1 ≤ m) (hn : 2 ≤ n) : ∃ e ∈ N, (e.2.1 = 0 ∨ e.2.1 < m) ∧ ∃ o' o3,
    evS ⟨callN pg n, pg.glob, [0], pg.fuel, pg.exm⟩ (b30.nth 1) [o, .v (eNs N), .v (.int m), .lst ((N.filter fun e => e.2.1 == 0).map eN), .hole, .hole, .hole, .hole, .hole, .hole, .hole] =
    .nx [o', .v (eNs N), .v (.int m), o3, .v (.str e.1), .v (.int e.2.1), .v (.bool e.2.2), .hole, .hole, .hole, .hole] ∧ Ur (K + 1) o' := by
  by_cases q : (1 : Int) < m
  · obtain ⟨e, he, o', h23, u⟩ := c23 h hK (enc := eN) (xs := N.filter fun e => decide (e.2.1 < (m : Int))) (List.ne_nil_of_mem (List.mem_filter.mpr ⟨nm_A hN, decide_eq_true (show (0 : Int) < m by omega)⟩)) (Nat.lt_of_le_of_lt (List.length_filter_le ..) (nm_len hN)) hn
    obtain ⟨he, hq⟩ := List.mem_filter.mp he
    refine ⟨e, he, .inr (of_decide_eq_true hq), o', .lst ((N.filter fun e => e.2.1 == 0).map eN), ?_, u⟩
    unfold b30
    simp only [Ss.nth]
    unfold eNs
    simp only [evSs_cons, evSs_nil, evS, ev, evB, evF, evA, evP, evM, evI, evO, rb_ok, rb_ex, ro_ok, ro_ex, rn_ok, op_so, td_v, td_l, td_ex, ts_b, ts_l, ts_t, ts_i, Z.pk_nil, pk_v, pk_l, pk_i, ih_v, ih_l, ih_d, fz_v, fz_l, sq_nx, sq_rt, sq_ex, rs_rt, rs_nx, rs_ex, of_so, st_def, st_tup, st_lst, cb_ok, cb_ex, fin_ok, fin_ex, p_isi, p_lenT, p_lenL, p_int, p_intB, p_abs, p_add, p_sub, p_neg, p_lt, p_gt, p_le, p_ge, p_max, p_min, p_isN, p_notN, p_tupL, p_tupT, p_lstL, p_lstT, p_rev, ix0L, ix0T, ix1L, ix1T, ix2L, ix2T, pu0, pu1, pu2, ft0, ft1, ft2, ft3, ft4, fl0, fl1, fl2, fl3, fl4, fl5, fl6, fl7, fl8, fl9, fl10, fl11, ca_rt, ca_nx, io_i, ap_S, il_l, p_addS, p_addU, Nat.reduceLeDiff, sl_L, Int.natCast_zero, Int.natCast_one, Int.cast_ofNat_Int, sm0, sm1, sm2, p_eqI, p_neI, p_eqB, p_neB, p_eqS, p_neS, Option.map_some, Option.bind_some, slot, setS, setTs, isOw, Z.fill, unfill, owV, outs, outsA, List.getD_cons_zero, List.getD_cons_succ, List.set_cons_zero, List.set_cons_succ, List.length_cons, List.length_nil, List.any_cons, List.any_nil, List.append_nil, List.nil_append, List.cons_append, List.map_cons, List.map_nil, isTy, Bool.or_false, Bool.or_true, Bool.false_or, Bool.true_or, Bool.not_true, Bool.not_false, Bool.true_and, Bool.false_and, Bool.and_true, Bool.and_false, if_true, if_false, Bool.false_eq_true, reduceIte, List.not_mem_nil, List.mem_cons, or_false, false_or, not_false_eq_true, not_true_eq_false, and_true, and_false, and_self, true_and, Nat.reduceLT, Nat.reduceAdd, Nat.zero_add, Nat.lt_add_one, Nat.reduceEqDiff, Nat.lt_add_left_iff_pos, Nat.zero_lt_succ, Nat.zero_lt_one, Nat.succ_ne_self, reduceCtorEq, Nat.zero_ne_one, Nat.one_ne_zero, decide_true, decide_false, beq_self_eq_true, Int.reduceBEq, Int.reduceLT, Int.reduceLE, Int.reduceAdd, Int.reduceSub, Int.reduceNeg, walkD, q, h.nh]
    rw [lc_rw (fun Γ => ∃ q, Γ = [o, .v (.tuple (N.map eN)), .v (.int m), .lst ((N.filter fun e => e.2.1 == 0).map eN), .hole, .hole, .hole, .hole, .hole, .hole, q]) (fun e => if decide (e.2.1 < (m : Int)) = true then [eN e] else []) [o, .v (.tuple (N.map eN)), .v (.int m), .lst ((N.filter fun e => e.2.1 == 0).map eN), .hole, .hole, .hole, .hole, .hole, .hole, .hole] ?_ ⟨_, rfl⟩ (by rintro _ ⟨q, rfl⟩; rfl)]
    · rw [lk4]
      simp only [evSs_cons, evSs_nil, evS, ev, evB, evF, evA, evP, evM, evI, evO, rb_ok, rb_ex, ro_ok, ro_ex, rn_ok, op_so, td_v, td_l, td_ex, ts_b, ts_l, ts_t, ts_i, Z.pk_nil, pk_v, pk_l, pk_i, ih_v, ih_l, ih_d, fz_v, fz_l, sq_nx, sq_rt, sq_ex, rs_rt, rs_nx, rs_ex, of_so, st_def, st_tup, st_lst, cb_ok, cb_ex, fin_ok, fin_ex, p_isi, p_lenT, p_lenL, p_int, p_intB, p_abs, p_add, p_sub, p_neg, p_lt, p_gt, p_le, p_ge, p_max, p_min, p_isN, p_notN, p_tupL, p_tupT, p_lstL, p_lstT, p_rev, ix0L, ix0T, ix1L, ix1T, ix2L, ix2T, pu0, pu1, pu2, ft0, ft1, ft2, ft3, ft4, fl0, fl1, fl2, fl3, fl4, fl5, fl6, fl7, fl8, fl9, fl10, fl11, ca_rt, ca_nx, io_i, ap_S, il_l, p_addS, p_addU, Nat.reduceLeDiff, sl_L, Int.natCast_zero, Int.natCast_one, Int.cast_ofNat_Int, sm0, sm1, sm2, p_eqI, p_neI, p_eqB, p_neB, p_eqS, p_neS, Option.map_some, Option.bind_some, slot, setS, setTs, isOw, Z.fill, unfill, owV, outs, outsA, List.getD_cons_zero, List.getD_cons_succ, List.set_cons_zero, List.set_cons_succ, List.length_cons, List.length_nil, List.any_cons, List.any_nil, List.append_nil, List.nil_append, List.cons_append, List.map_cons, List.map_nil, isTy, Bool.or_false, Bool.or_true, Bool.false_or, Bool.true_or, Bool.not_true, Bool.not_false, Bool.true_and, Bool.false_and, Bool.and_true, Bool.and_false, if_true, if_false, Bool.false_eq_true, reduceIte, List.not_mem_nil, List.mem_cons, or_false, false_or, not_false_eq_true, not_true_eq_false, and_true, and_false, and_self, true_and, Nat.reduceLT, Nat.reduceAdd, Nat.zero_add, Nat.lt_add_one, Nat.reduceEqDiff, Nat.lt_add_left_iff_pos, Nat.zero_lt_succ, Nat.zero_lt_one, Nat.succ_ne_self, reduceCtorEq, Nat.zero_ne_one, Nat.one_ne_zero, decide_true, decide_false, beq_self_eq_true, Int.reduceBEq, Int.reduceLT, Int.reduceLE, Int.reduceAdd, Int.reduceSub, Int.reduceNeg, h23]
      rw [show eN e = .tuple [.str e.1, .int e.2.1, .bool e.2.2] from rfl]
      simp only [evSs_cons, evSs_nil, evS, ev, evB, evF, evA, evP, evM, evI, evO, rb_ok, rb_ex, ro_ok, ro_ex, rn_ok, op_so, td_v, td_l, td_ex, ts_b, ts_l, ts_t, ts_i, Z.pk_nil, pk_v, pk_l, pk_i, ih_v, ih_l, ih_d, fz_v, fz_l, sq_nx, sq_rt, sq_ex, rs_rt, rs_nx, rs_ex, of_so, st_def, st_tup, st_lst, cb_ok, cb_ex, fin_ok, fin_ex, p_isi, p_lenT, p_lenL, p_int, p_intB, p_abs, p_add, p_sub, p_neg, p_lt, p_gt, p_le, p_ge, p_max, p_min, p_isN, p_notN, p_tupL, p_tupT, p_lstL, p_lstT, p_rev, ix0L, ix0T, ix1L, ix1T, ix2L, ix2T, pu0, pu1, pu2, ft0, ft1, ft2, ft3, ft4, fl0, fl1, fl2, fl3, fl4, fl5, fl6, fl7, fl8, fl9, fl10, fl11, ca_rt, ca_nx, io_i, ap_S, il_l, p_addS, p_addU, Nat.reduceLeDiff, sl_L, Int.natCast_zero, Int.natCast_one, Int.cast_ofNat_Int, sm0, sm1, sm2, p_eqI, p_neI, p_eqB, p_neB, p_eqS, p_neS, Option.map_some, Option.bind_some, slot, setS, setTs, isOw, Z.fill, unfill, owV, outs, outsA, List.getD_cons_zero, List.getD_cons_succ, List.set_cons_zero, List.set_cons_succ, List.length_cons, List.length_nil, List.any_cons, List.any_nil, List.append_nil, List.nil_append, List.cons_append, List.map_cons, List.map_nil, isTy, Bool.or_false, Bool.or_true, Bool.false_or, Bool.true_or, Bool.not_true, Bool.not_false, Bool.true_and, Bool.false_and, Bool.and_true, Bool.and_false, if_true, if_false, Bool.false_eq_true, reduceIte, List.not_mem_nil, List.mem_cons, or_false, false_or, not_false_eq_true, not_true_eq_false, and_true, and_false, and_self, true_and, Nat.reduceLT, Nat.reduceAdd, Nat.zero_add, Nat.lt_add_one, Nat.reduceEqDiff, Nat.lt_add_left_iff_pos, Nat.zero_lt_succ, Nat.zero_lt_one, Nat.succ_ne_self, reduceCtorEq, Nat.zero_ne_one, Nat.one_ne_zero, decide_true, decide_false, beq_self_eq_true, Int.reduceBEq, Int.reduceLT, Int.reduceLE, Int.reduceAdd, Int.reduceSub, Int.reduceNeg]
    · rintro e he _ ⟨q, rfl⟩
      refine ⟨[o, .v (.tuple (N.map eN)), .v (.int m), .lst ((N.filter fun e => e.2.1 == 0).map eN), .hole, .hole, .hole, .hole, .hole, .hole, .v (eN e)], ?_, _, rfl⟩
      unfold eN
      simp only [evSs_cons, evSs_nil, evS, ev, evB, evF, evA, evP, evM, evI, evO, rb_ok, rb_ex, ro_ok, ro_ex, rn_ok, op_so, td_v, td_l, td_ex, ts_b, ts_l, ts_t, ts_i, Z.pk_nil, pk_v, pk_l, pk_i, ih_v, ih_l, ih_d, fz_v, fz_l, sq_nx, sq_rt, sq_ex, rs_rt, rs_nx, rs_ex, of_so, st_def, st_tup, st_lst, cb_ok, cb_ex, fin_ok, fin_ex, p_isi, p_lenT, p_lenL, p_int, p_intB, p_abs, p_add, p_sub, p_neg, p_lt, p_gt, p_le, p_ge, p_max, p_min, p_isN, p_notN, p_tupL, p_tupT, p_lstL, p_lstT, p_rev, ix0L, ix0T, ix1L, ix1T, ix2L, ix2T, pu0, pu1, pu2, ft0, ft1, ft2, ft3, ft4, fl0, fl1, fl2, fl3, fl4, fl5, fl6, fl7, fl8, fl9, fl10, fl11, ca_rt, ca_nx, io_i, ap_S, il_l, p_addS, p_addU, Nat.reduceLeDiff, sl_L, Int.natCast_zero, Int.natCast_one, Int.cast_ofNat_Int, sm0, sm1, sm2, p_eqI, p_neI, p_eqB, p_neB, p_eqS, p_neS, Option.map_some, Option.bind_some, slot, setS, setTs, isOw, Z.fill, unfill, owV, outs, outsA, List.getD_cons_zero, List.getD_cons_succ, List.set_cons_zero, List.set_cons_succ, List.length_cons, List.length_nil, List.any_cons, List.any_nil, List.append_nil, List.nil_append, List.cons_append, List.map_cons, List.map_nil, isTy, Bool.or_false, Bool.or_true, Bool.false_or, Bool.true_or, Bool.not_true, Bool.not_false, Bool.true_and, Bool.false_and, Bool.and_true, Bool.and_false, if_true, if_false, Bool.false_eq_true, reduceIte, List.not_mem_nil, List.mem_cons, or_false, false_or, not_false_eq_true, not_true_eq_false, and_true, and_false, and_self, true_and, Nat.reduceLT, Nat.reduceAdd, Nat.zero_add, Nat.lt_add_one, Nat.reduceEqDiff, Nat.lt_add_left_iff_pos, Nat.zero_lt_succ, Nat.zero_lt_one, Nat.succ_ne_self, reduceCtorEq, Nat.zero_ne_one, Nat.one_ne_zero, decide_true, decide_false, beq_self_eq_true, Int.reduceBEq, Int.reduceLT, Int.reduceLE, Int.reduceAdd, Int.reduceSub, Int.reduceNeg, holes]
      cases decide (e.2.1 < (m : Int)) <;> rfl
  · obtain ⟨e, he, o', h23, u⟩ := c23 h hK (enc := eN) (xs := N.filter fun e => e.2.1 == 0) (List.ne_nil_of_mem (List.mem_filter.mpr ⟨nm_A hN, rfl⟩)) (Nat.lt_of_le_of_lt (List.length_filter_le ..) (nm_len hN)) hn
    obtain ⟨he, hq⟩ := List.mem_filter.mp he
    refine ⟨e, he, .inl (by simpa using hq), o', .v (.list ((N.filter fun e => e.2.1 == 0).map eN)), ?_, u⟩
    unfold b30
    simp only [evSs_cons, evSs_nil, evS, ev, evB, evF, evA, evP, evM, evI, evO, rb_ok, rb_ex, ro_ok, ro_ex, rn_ok, op_so, td_v, td_l, td_ex, ts_b, ts_l, ts_t, ts_i, Z.pk_nil, pk_v, pk_l, pk_i, ih_v, ih_l, ih_d, fz_v, fz_l, sq_nx, sq_rt, sq_ex, rs_rt, rs_nx, rs_ex, of_so, st_def, st_tup, st_lst, cb_ok, cb_ex, fin_ok, fin_ex, p_isi, p_lenT, p_lenL, p_int, p_intB, p_abs, p_add, p_sub, p_neg, p_lt, p_gt, p_le, p_ge, p_max, p_min, p_isN, p_notN, p_tupL, p_tupT, p_lstL, p_lstT, p_rev, ix0L, ix0T, ix1L, ix1T, ix2L, ix2T, pu0, pu1, pu2, ft0, ft1, ft2, ft3, ft4, fl0, fl1, fl2, fl3, fl4, fl5, fl6, fl7, fl8, fl9, fl10, fl11, ca_rt, ca_nx, io_i, ap_S, il_l, p_addS, p_addU, Nat.reduceLeDiff, sl_L, Int.natCast_zero, Int.natCast_one, Int.cast_ofNat_Int, sm0, sm1, sm2, p_eqI, p_neI, p_eqB, p_neB, p_eqS, p_neS, Option.map_some, Option.bind_some, slot, setS, setTs, isOw, Z.fill, unfill, owV, outs, outsA, List.getD_cons_zero, List.getD_cons_succ, List.set_cons_zero, List.set_cons_succ, List.length_cons, List.length_nil, List.any_cons, List.any_nil, List.append_nil, List.nil_append, List.cons_append, List.map_cons, List.map_nil, isTy, Bool.or_false, Bool.or_true, Bool.false_or, Bool.true_or, Bool.not_true, Bool.not_false, Bool.true_and, Bool.false_and, Bool.and_true, Bool.and_false, if_true, if_false, Bool.false_eq_true, reduceIte, List.not_mem_nil, List.mem_cons, or_false, false_or, not_false_eq_true, not_true_eq_false, and_true, and_false, and_self, true_and, Nat.reduceLT, Nat.reduceAdd, Nat.zero_add, Nat.lt_add_one, Nat.reduceEqDiff, Nat.lt_add_left_iff_pos, Nat.zero_lt_succ, Nat.zero_lt_one, Nat.succ_ne_self, reduceCtorEq, Nat.zero_ne_one, Nat.one_ne_zero, decide_true, decide_false, beq_self_eq_true, Int.reduceBEq, Int.reduceLT, Int.reduceLE, Int.reduceAdd, Int.reduceSub, Int.reduceNeg, Ss.nth, q, h.nh, h23]
    rw [show eN e = .tuple [.str e.1, .int e.2.1, .bool e.2.2] from rfl]
    simp only [evSs_cons, evSs_nil, evS, ev, evB, evF, evA, evP, evM, evI, evO, rb_ok, rb_ex, ro_ok, ro_ex, rn_ok, op_so, td_v, td_l, td_ex, ts_b, ts_l, ts_t, ts_i, Z.pk_nil, pk_v, pk_l, pk_i, ih_v, ih_l, ih_d, fz_v, fz_l, sq_nx, sq_rt, sq_ex, rs_rt, rs_nx, rs_ex, of_so, st_def, st_tup, st_lst, cb_ok, cb_ex, fin_ok, fin_ex, p_isi, p_lenT, p_lenL, p_int, p_intB, p_abs, p_add, p_sub, p_neg, p_lt, p_gt, p_le, p_ge, p_max, p_min, p_isN, p_notN, p_tupL, p_tupT, p_lstL, p_lstT, p_rev, ix0L, ix0T, ix1L, ix1T, ix2L, ix2T, pu0, pu1, pu2, ft0, ft1, ft2, ft3, ft4, fl0, fl1, fl2, fl3, fl4, fl5, fl6, fl7, fl8, fl9, fl10, fl11, ca_rt, ca_nx, io_i, ap_S, il_l, p_addS, p_addU, Nat.reduceLeDiff, sl_L, Int.natCast_zero, Int.natCast_one, Int.cast_ofNat_Int, sm0, sm1, sm2, p_eqI, p_neI, p_eqB, p_neB, p_eqS, p_neS, Option.map_some, Option.bind_some, slot, setS, setTs, isOw, Z.fill, unfill, owV, outs, outsA, List.getD_cons_zero, List.getD_cons_succ, List.set_cons_zero, List.set_cons_succ, List.length_cons, List.length_nil, List.any_cons, List.any_nil, List.append_nil, List.nil_append, List.cons_append, List.map_cons, List.map_nil, isTy, Bool.or_false, Bool.or_true, Bool.false_or, Bool.true_or, Bool.not_true, Bool.not_false, Bool.true_and, Bool.false_and, Bool.and_true, Bool.and_false, if_true, if_false, Bool.false_eq_true, reduceIte, List.not_mem_nil, List.mem_cons, or_false, false_or, not_false_eq_true, not_true_eq_false, and_true, and_false, and_self, true_and, Nat.reduceLT, Nat.reduceAdd, Nat.zero_add, Nat.lt_add_one, Nat.reduceEqDiff, Nat.lt_add_left_iff_pos, Nat.zero_lt_succ, Nat.zero_lt_one, Nat.succ_ne_self, reduceCtorEq, Nat.zero_ne_one, Nat.one_ne_zero, decide_true, decide_false, beq_self_eq_true, Int.reduceBEq, Int.reduceLT, Int.reduceLE, Int.reduceAdd, Int.reduceSub, Int.reduceNeg]
theorem t30_2 {o o3 : O} {m : Int} {e : Nm} : evS ⟨callN pg n, pg.glob, [0], pg.fuel, pg.exm⟩ (b30.nth 2) [o, .v (eNs N), .v (.int m), o3, .v (.str e.1), .v (.int e.2.1), .v (.bool e.2.2), .hole, .hole, .hole, .hole] =
    .nx [o, .v (eNs N), .v (.int m), o3, .v (.str e.1), .v (.int e.2.1), .v (.bool e.2.2), .lst [], .v (.int (m - 1)), .hole, .hole] := by
  unfold b30
  simp only [evSs_cons, evSs_nil, evS, ev, evB, evF, evA, evP, evM, evI, evO, rb_ok, rb_ex, ro_ok, ro_ex, rn_ok, op_so, td_v, td_l, td_ex, ts_b, ts_l, ts_t, ts_i, Z.pk_nil, pk_v, pk_l, pk_i, ih_v, ih_l, ih_d, fz_v, fz_l, sq_nx, sq_rt, sq_ex, rs_rt, rs_nx, rs_ex, of_so, st_def, st_tup, st_lst, cb_ok, cb_ex, fin_ok, fin_ex, p_isi, p_lenT, p_lenL, p_int, p_intB, p_abs, p_add, p_sub, p_neg, p_lt, p_gt, p_le, p_ge, p_max, p_min, p_isN, p_notN, p_tupL, p_tupT, p_lstL, p_lstT, p_rev, ix0L, ix0T, ix1L, ix1T, ix2L, ix2T, pu0, pu1, pu2, ft0, ft1, ft2, ft3, ft4, fl0, fl1, fl2, fl3, fl4, fl5, fl6, fl7, fl8, fl9, fl10, fl11, ca_rt, ca_nx, io_i, ap_S, il_l, p_addS, p_addU, Nat.reduceLeDiff, sl_L, Int.natCast_zero, Int.natCast_one, Int.cast_ofNat_Int, sm0, sm1, sm2, p_eqI, p_neI, p_eqB, p_neB, p_eqS, p_neS, Option.map_some, Option.bind_some, slot, setS, setTs, isOw, Z.fill, unfill, owV, outs, outsA, List.getD_cons_zero, List.getD_cons_succ, List.set_cons_zero, List.set_cons_succ, List.length_cons, List.length_nil, List.any_cons, List.any_nil, List.append_nil, List.nil_append, List.cons_append, List.map_cons, List.map_nil, isTy, Bool.or_false, Bool.or_true, Bool.false_or, Bool.true_or, Bool.not_true, Bool.not_false, Bool.true_and, Bool.false_and, Bool.and_true, Bool.and_false, if_true, if_false, Bool.false_eq_true, reduceIte, List.not_mem_nil, List.mem_cons, or_false, false_or, not_false_eq_true, not_true_eq_false, and_true, and_false, and_self, true_and, Nat.reduceLT, Nat.reduceAdd, Nat.zero_add, Nat.lt_add_one, Nat.reduceEqDiff, Nat.lt_add_left_iff_pos, Nat.zero_lt_succ, Nat.zero_lt_one, Nat.succ_ne_self, reduceCtorEq, Nat.zero_ne_one, Nat.one_ne_zero, decide_true, decide_false, beq_self_eq_true, Int.reduceBEq, Int.reduceLT, Int.reduceLE, Int.reduceAdd, Int.reduceSub, Int.reduceNeg, Ss.nth, setAll]
end
theorem rng0 : rngD (Int.toNat 0) = [] := rfl
theorem rng1 : rngD (Int.toNat 1) = [.int 0] := rfl
theorem rng2 : rngD (Int.toNat 2) = [.int 0, .int 1] := rfl
theorem c30 {N : List Nm} (hN : IsN N) : ∀ (n : Nat) {m K : Nat} {o : O}, Ur K o → K + 2 * m < 1000000 → 1 ≤ m → m ≤ 8 → m + 12 ≤ n →
    ∃ (t : T) (o' : O), t.ok N ∧ t.sz ≤ m ∧ callN pg n 30 [o, .v (eNs N), .v (.int m)] = .ok (.v t.e) [o', .hole, .hole] ∧ Ur (K + t.sz) o'
  | 0, _, _, _, _, _, _, _, hn => by omega
  | n + 1, m, K, o, h, hK, hm, hm8, hn => by
    obtain ⟨e, he, hem, o1, o3, h1, u1⟩ := t30_1 hN (n := n) h (by omega) hm (by omega)
    obtain ⟨hl, hk⟩ := nm_facts hN e he
    have start : callN pg (n + 1) 30 [o, .v (eNs N), .v (.int m)] = (evSs ⟨callN pg n, pg.glob, [0], pg.fuel, pg.exm⟩ (b30.drop 3) [o1, .v (eNs N), .v (.int m), o3, .v (.str e.1), .v (.int e.2.1), .v (.bool e.2.2), .lst [], .v (.int ((m : Int) - 1)), .hole, .hole]).res [0] 3 := by
      rw [callN_of [o, .v (eNs N), .v (.int m), .hole, .hole, .hole, .hole, .hole, .hole, .hole, .hole] b30 [0] 3 (d := f30) rfl]
      rw [show b30 = b30.drop 0 from rfl, step_nx 0 (by decide) t30_0, step_nx 1 (by decide) h1, step_nx 2 (by decide) t30_2]
      rfl
    rw [start]
    obtain ⟨x, k, s⟩ := e
    rcases hk with hk | hk | hk
    · cases hk
      refine ⟨.z x, o1, hl, hm, ?_, u1⟩
      unfold b30
      simp only [evSs_cons, evSs_nil, evS, ev, evB, evF, evA, evP, evM, evI, evO, rb_ok, rb_ex, ro_ok, ro_ex, rn_ok, op_so, td_v, td_l, td_ex, ts_b, ts_l, ts_t, ts_i, Z.pk_nil, pk_v, pk_l, pk_i, ih_v, ih_l, ih_d, fz_v, fz_l, sq_nx, sq_rt, sq_ex, rs_rt, rs_nx, rs_ex, of_so, st_def, st_tup, st_lst, cb_ok, cb_ex, fin_ok, fin_ex, p_isi, p_lenT, p_lenL, p_int, p_intB, p_abs, p_add, p_sub, p_neg, p_lt, p_gt, p_le, p_ge, p_max, p_min, p_isN, p_notN, p_tupL, p_tupT, p_lstL, p_lstT, p_rev, ix0L, ix0T, ix1L, ix1T, ix2L, ix2T, pu0, pu1, pu2, ft0, ft1, ft2, ft3, ft4, fl0, fl1, fl2, fl3, fl4, fl5, fl6, fl7, fl8, fl9, fl10, fl11, ca_rt, ca_nx, io_i, ap_S, il_l, p_addS, p_addU, Nat.reduceLeDiff, sl_L, Int.natCast_zero, Int.natCast_one, Int.cast_ofNat_Int, sm0, sm1, sm2, p_eqI, p_neI, p_eqB, p_neB, p_eqS, p_neS, Option.map_some, Option.bind_some, slot, setS, setTs, isOw, Z.fill, unfill, owV, outs, outsA, List.getD_cons_zero, List.getD_cons_succ, List.set_cons_zero, List.set_cons_succ, List.length_cons, List.length_nil, List.any_cons, List.any_nil, List.append_nil, List.nil_append, List.cons_append, List.map_cons, List.map_nil, isTy, Bool.or_false, Bool.or_true, Bool.false_or, Bool.true_or, Bool.not_true, Bool.not_false, Bool.true_and, Bool.false_and, Bool.and_true, Bool.and_false, if_true, if_false, Bool.false_eq_true, reduceIte, List.not_mem_nil, List.mem_cons, or_false, false_or, not_false_eq_true, not_true_eq_false, and_true, and_false, and_self, true_and, Nat.reduceLT, Nat.reduceAdd, Nat.zero_add, Nat.lt_add_one, Nat.reduceEqDiff, Nat.lt_add_left_iff_pos, Nat.zero_lt_succ, Nat.zero_lt_one, Nat.succ_ne_self, reduceCtorEq, Nat.zero_ne_one, Nat.one_ne_zero, decide_true, decide_false, beq_self_eq_true, Int.reduceBEq, Int.reduceLT, Int.reduceLE, Int.reduceAdd, Int.reduceSub, Int.reduceNeg, Ss.drop, rng0, forL, T.e, show ((0 : Int) ≤ 16777216 ∧ -(2 : Int) ^ 62 ≤ 0) from ⟨by decide, by decide⟩]
    · cases hk
      have hm2 : 2 ≤ m := by
        rcases hem with q | q
        · cases q
        · have : (1 : Int) < m := q
          omega
      obtain ⟨t, o2, tok, tsz, ht, u2⟩ := c30 hN n (m := m - 1) u1 (by omega) (by omega) (by omega) (by omega)
      have mx : (if (m : Int) - 1 - 0 > 1 then (m : Int) - 1 - 0 else 1) = ((m - 1 : Nat) : Int) := by split <;> omega
      have h27 := c27 n t (by omega)
      obtain ⟨r, ek⟩ := k_cons t
      refine ⟨.o x t, o2, ⟨hl, tok⟩, by simp only [T.sz]; omega, ?_, by rw [show K + (T.o x t).sz = K + 1 + t.sz by simp only [T.sz]; omega]; exact u2⟩
      unfold b30
      simp only [evSs_cons, evSs_nil, evS, ev, evB, evF, evA, evP, evM, evI, evO, rb_ok, rb_ex, ro_ok, ro_ex, rn_ok, op_so, td_v, td_l, td_ex, ts_b, ts_l, ts_t, ts_i, Z.pk_nil, pk_v, pk_l, pk_i, ih_v, ih_l, ih_d, fz_v, fz_l, sq_nx, sq_rt, sq_ex, rs_rt, rs_nx, rs_ex, of_so, st_def, st_tup, st_lst, cb_ok, cb_ex, fin_ok, fin_ex, p_isi, p_lenT, p_lenL, p_int, p_intB, p_abs, p_add, p_sub, p_neg, p_lt, p_gt, p_le, p_ge, p_max, p_min, p_isN, p_notN, p_tupL, p_tupT, p_lstL, p_lstT, p_rev, ix0L, ix0T, ix1L, ix1T, ix2L, ix2T, pu0, pu1, pu2, ft0, ft1, ft2, ft3, ft4, fl0, fl1, fl2, fl3, fl4, fl5, fl6, fl7, fl8, fl9, fl10, fl11, ca_rt, ca_nx, io_i, ap_S, il_l, p_addS, p_addU, Nat.reduceLeDiff, sl_L, Int.natCast_zero, Int.natCast_one, Int.cast_ofNat_Int, sm0, sm1, sm2, p_eqI, p_neI, p_eqB, p_neB, p_eqS, p_neS, Option.map_some, Option.bind_some, slot, setS, setTs, isOw, Z.fill, unfill, owV, outs, outsA, List.getD_cons_zero, List.getD_cons_succ, List.set_cons_zero, List.set_cons_succ, List.length_cons, List.length_nil, List.any_cons, List.any_nil, List.append_nil, List.nil_append, List.cons_append, List.map_cons, List.map_nil, isTy, Bool.or_false, Bool.or_true, Bool.false_or, Bool.true_or, Bool.not_true, Bool.not_false, Bool.true_and, Bool.false_and, Bool.and_true, Bool.and_false, if_true, if_false, Bool.false_eq_true, reduceIte, List.not_mem_nil, List.mem_cons, or_false, false_or, not_false_eq_true, not_true_eq_false, and_true, and_false, and_self, true_and, Nat.reduceLT, Nat.reduceAdd, Nat.zero_add, Nat.lt_add_one, Nat.reduceEqDiff, Nat.lt_add_left_iff_pos, Nat.zero_lt_succ, Nat.zero_lt_one, Nat.succ_ne_self, reduceCtorEq, Nat.zero_ne_one, Nat.one_ne_zero, decide_true, decide_false, beq_self_eq_true, Int.reduceBEq, Int.reduceLT, Int.reduceLE, Int.reduceAdd, Int.reduceSub, Int.reduceNeg, Ss.drop, rng1, forL, T.e, mx, u1.nh, ht, h27, ek, show ((1 : Int) ≤ 16777216 ∧ -(2 : Int) ^ 62 ≤ 1) from ⟨by decide, by decide⟩]
    · have hk : k = 2 := hk
      subst hk
      have hm3 : 3 ≤ m := by
        rcases hem with q | q
        · cases q
        · have : (2 : Int) < m := q
          omega
      obtain ⟨t, o2, tok, tsz, ht, u2⟩ := c30 hN n (m := m - 2) u1 (by omega) (by omega) (by omega) (by omega)
      obtain ⟨u, o4, uok, usz, hu, u4⟩ := c30 hN n (m := m - 1 - t.sz) u2 (by omega) (by omega) (by omega) (by omega)
      have mx : (if (m : Int) - 1 - 1 > 1 then (m : Int) - 1 - 1 else 1) = ((m - 2 : Nat) : Int) := by split <;> omega
      have mx2 : (if (m : Int) - 1 - (t.sz : Int) - 0 > 1 then (m : Int) - 1 - (t.sz : Int) - 0 else 1) = ((m - 1 - t.sz : Nat) : Int) := by split <;> omega
      have h27 := c27 n t (by omega)
      have h27u := c27 n u (by omega)
      obtain ⟨r, ek⟩ := k_cons t
      obtain ⟨r', ek'⟩ := k_cons u
      refine ⟨.w x t u, o4, ⟨⟨s, hl⟩, tok, uok⟩, by simp only [T.sz]; omega, ?_, by rw [show K + (T.w x t u).sz = K + 1 + t.sz + u.sz by simp only [T.sz]; omega]; exact u4⟩
      unfold b30
      simp only [evSs_cons, evSs_nil, evS, ev, evB, evF, evA, evP, evM, evI, evO, rb_ok, rb_ex, ro_ok, ro_ex, rn_ok, op_so, td_v, td_l, td_ex, ts_b, ts_l, ts_t, ts_i, Z.pk_nil, pk_v, pk_l, pk_i, ih_v, ih_l, ih_d, fz_v, fz_l, sq_nx, sq_rt, sq_ex, rs_rt, rs_nx, rs_ex, of_so, st_def, st_tup, st_lst, cb_ok, cb_ex, fin_ok, fin_ex, p_isi, p_lenT, p_lenL, p_int, p_intB, p_abs, p_add, p_sub, p_neg, p_lt, p_gt, p_le, p_ge, p_max, p_min, p_isN, p_notN, p_tupL, p_tupT, p_lstL, p_lstT, p_rev, ix0L, ix0T, ix1L, ix1T, ix2L, ix2T, pu0, pu1, pu2, ft0, ft1, ft2, ft3, ft4, fl0, fl1, fl2, fl3, fl4, fl5, fl6, fl7, fl8, fl9, fl10, fl11, ca_rt, ca_nx, io_i, ap_S, il_l, p_addS, p_addU, Nat.reduceLeDiff, sl_L, Int.natCast_zero, Int.natCast_one, Int.cast_ofNat_Int, sm0, sm1, sm2, p_eqI, p_neI, p_eqB, p_neB, p_eqS, p_neS, Option.map_some, Option.bind_some, slot, setS, setTs, isOw, Z.fill, unfill, owV, outs, outsA, List.getD_cons_zero, List.getD_cons_succ, List.set_cons_zero, List.set_cons_succ, List.length_cons, List.length_nil, List.any_cons, List.any_nil, List.append_nil, List.nil_append, List.cons_append, List.map_cons, List.map_nil, isTy, Bool.or_false, Bool.or_true, Bool.false_or, Bool.true_or, Bool.not_true, Bool.not_false, Bool.true_and, Bool.false_and, Bool.and_true, Bool.and_false, if_true, if_false, Bool.false_eq_true, reduceIte, List.not_mem_nil, List.mem_cons, or_false, false_or, not_false_eq_true, not_true_eq_false, and_true, and_false, and_self, true_and, Nat.reduceLT, Nat.reduceAdd, Nat.zero_add, Nat.lt_add_one, Nat.reduceEqDiff, Nat.lt_add_left_iff_pos, Nat.zero_lt_succ, Nat.zero_lt_one, Nat.succ_ne_self, reduceCtorEq, Nat.zero_ne_one, Nat.one_ne_zero, decide_true, decide_false, beq_self_eq_true, Int.reduceBEq, Int.reduceLT, Int.reduceLE, Int.reduceAdd, Int.reduceSub, Int.reduceNeg, Ss.drop, rng2, forL, T.e, mx, mx2, u1.nh, u2.nh, ht, hu, h27, h27u, ek, ek', show ((2 : Int) ≤ 16777216 ∧ -(2 : Int) ^ 62 ≤ 2) from ⟨by decide, by decide⟩]
end K03
end
section
set_option Elab.async false
set_option linter.all false
set_option maxRecDepth 100000
namespace K03
open Z PySem
/-! ### the law's own walk -/
def G (a b c d e f g h i j k l m n p q r : O) : Z.Env := [a, b, c, d, e, f, g, h, i, j, k, l, m, n, p, q, r]
def CL (n : Nat) : Cfg := ⟨callN pg n, pg.glob, [], pg.fuel, pg.exm⟩
def bdy : Ss := match b32.nth 3 with
  | .for_ _ _ b => b
  | _ => .nil
section
variable {N : List Nm} {n : Nat} {K : Nat} {o : O} {sc rows due bad lap book got one things wrong other price near far own : O}
theorem L0 (hN : IsN N) (h : Ur K o) (hK : K + 100 < 1000000) (hn : 40 ≤ n) : ∃ t u p o', Gd N t ∧ Gd N u ∧ 0 ≤ p ∧ evS (CL n) (bdy.nth 0) (G sc o (.v (eNs N)) rows due bad lap book got one things wrong other price near far own) =
    .nx (G sc o' (.v (eNs N)) rows due bad lap book got (.v t.e) things wrong (.v u.e) (.v (.int p)) near far own) ∧ Ur (K + 20) o' := by
  obtain ⟨t, o1, tok, tsz, ht, u1⟩ := c30 hN n (m := 6) h (by omega) (by omega) (by omega) (by omega)
  obtain ⟨u, o2, uok, usz, hu, u2⟩ := c30 hN n (m := 4) u1 (by omega) (by omega) (by omega) (by omega)
  obtain ⟨p, o3, hp, p0, p1, u3⟩ := c21 u2 (by omega) (low := 9) (by decide) (by decide) (n := n) (by omega)
  rw [show ((6 : Nat) : Int) = 6 from rfl] at ht
  rw [show ((4 : Nat) : Int) = 4 from rfl] at hu
  refine ⟨t, u, p, o3, ⟨tok, by omega⟩, ⟨uok, by omega⟩, p0, ?_, u3.mono (by omega)⟩
  unfold bdy b32
  simp only [evSs_cons, evSs_nil, evS, ev, evB, evF, evA, evP, evM, evI, evO, rb_ok, rb_ex, ro_ok, ro_ex, rn_ok, op_so, td_v, td_l, td_ex, ts_b, ts_l, ts_t, ts_i, Z.pk_nil, pk_v, pk_l, pk_i, ih_v, ih_l, ih_d, fz_v, fz_l, sq_nx, sq_rt, sq_ex, rs_rt, rs_nx, rs_ex, of_so, st_def, st_tup, st_lst, cb_ok, cb_ex, fin_ok, fin_ex, p_isi, p_lenT, p_lenL, p_int, p_intB, p_abs, p_add, p_sub, p_neg, p_lt, p_gt, p_le, p_ge, p_max, p_min, p_isN, p_notN, p_tupL, p_tupT, p_lstL, p_lstT, p_rev, ix0L, ix0T, ix1L, ix1T, ix2L, ix2T, pu0, pu1, pu2, ft0, ft1, ft2, ft3, ft4, fl0, fl1, fl2, fl3, fl4, fl5, fl6, fl7, fl8, fl9, fl10, fl11, ca_rt, ca_nx, io_i, ap_S, il_l, p_addS, p_addU, Nat.reduceLeDiff, sl_L, Int.natCast_zero, Int.natCast_one, Int.cast_ofNat_Int, sm0, sm1, sm2, p_eqI, p_neI, p_eqB, p_neB, p_eqS, p_neS, Option.map_some, Option.bind_some, slot, setS, setTs, isOw, Z.fill, unfill, owV, outs, outsA, List.getD_cons_zero, List.getD_cons_succ, List.set_cons_zero, List.set_cons_succ, List.length_cons, List.length_nil, List.any_cons, List.any_nil, List.append_nil, List.nil_append, List.cons_append, List.map_cons, List.map_nil, isTy, Bool.or_false, Bool.or_true, Bool.false_or, Bool.true_or, Bool.not_true, Bool.not_false, Bool.true_and, Bool.false_and, Bool.and_true, Bool.and_false, if_true, if_false, Bool.false_eq_true, reduceIte, List.not_mem_nil, List.mem_cons, or_false, false_or, not_false_eq_true, not_true_eq_false, and_true, and_false, and_self, true_and, Nat.reduceLT, Nat.reduceAdd, Nat.zero_add, Nat.lt_add_one, Nat.reduceEqDiff, Nat.lt_add_left_iff_pos, Nat.zero_lt_succ, Nat.zero_lt_one, Nat.succ_ne_self, reduceCtorEq, Nat.zero_ne_one, Nat.one_ne_zero, decide_true, decide_false, beq_self_eq_true, Int.reduceBEq, Int.reduceLT, Int.reduceLE, Int.reduceAdd, Int.reduceSub, Int.reduceNeg, Ss.nth, G, CL, h.nh, u1.nh, u2.nh, ht, hu, hp, setAll]
theorem L1 (hN : IsN N) (h : Ur K o) (hK : K + 100 < 1000000) (hn : 40 ≤ n) {t u : T} (gt : Gd N t) (gu : Gd N u) : ∃ u' o', Gd N u' ∧ evS (CL n) (bdy.nth 1) (G sc o (.v (eNs N)) rows due bad lap book got (.v t.e) things wrong (.v u.e) price near far own) =
    .nx (G sc o' (.v (eNs N)) rows due bad lap book got (.v t.e) things wrong (.v u'.e) price near far own) ∧ Ur (K + 1) o' := by
  obtain ⟨p, o3, hp, p0, p1, u3⟩ := c21 h (by omega) (low := 9) (by decide) (by decide) (n := n) (by omega)
  have h28 := c28 (N := N) n t gt.ok (by have := gt.sz; omega) (by have := gt.sz; omega)
  cases q : (p == 0) with
  | true =>
    refine ⟨t.f N, o3, gt.f, ?_, u3⟩
    unfold bdy b32
    simp only [evSs_cons, evSs_nil, evS, ev, evB, evF, evA, evP, evM, evI, evO, rb_ok, rb_ex, ro_ok, ro_ex, rn_ok, op_so, td_v, td_l, td_ex, ts_b, ts_l, ts_t, ts_i, Z.pk_nil, pk_v, pk_l, pk_i, ih_v, ih_l, ih_d, fz_v, fz_l, sq_nx, sq_rt, sq_ex, rs_rt, rs_nx, rs_ex, of_so, st_def, st_tup, st_lst, cb_ok, cb_ex, fin_ok, fin_ex, p_isi, p_lenT, p_lenL, p_int, p_intB, p_abs, p_add, p_sub, p_neg, p_lt, p_gt, p_le, p_ge, p_max, p_min, p_isN, p_notN, p_tupL, p_tupT, p_lstL, p_lstT, p_rev, ix0L, ix0T, ix1L, ix1T, ix2L, ix2T, pu0, pu1, pu2, ft0, ft1, ft2, ft3, ft4, fl0, fl1, fl2, fl3, fl4, fl5, fl6, fl7, fl8, fl9, fl10, fl11, ca_rt, ca_nx, io_i, ap_S, il_l, p_addS, p_addU, Nat.reduceLeDiff, sl_L, Int.natCast_zero, Int.natCast_one, Int.cast_ofNat_Int, sm0, sm1, sm2, p_eqI, p_neI, p_eqB, p_neB, p_eqS, p_neS, Option.map_some, Option.bind_some, slot, setS, setTs, isOw, Z.fill, unfill, owV, outs, outsA, List.getD_cons_zero, List.getD_cons_succ, List.set_cons_zero, List.set_cons_succ, List.length_cons, List.length_nil, List.any_cons, List.any_nil, List.append_nil, List.nil_append, List.cons_append, List.map_cons, List.map_nil, isTy, Bool.or_false, Bool.or_true, Bool.false_or, Bool.true_or, Bool.not_true, Bool.not_false, Bool.true_and, Bool.false_and, Bool.and_true, Bool.and_false, if_true, if_false, Bool.false_eq_true, reduceIte, List.not_mem_nil, List.mem_cons, or_false, false_or, not_false_eq_true, not_true_eq_false, and_true, and_false, and_self, true_and, Nat.reduceLT, Nat.reduceAdd, Nat.zero_add, Nat.lt_add_one, Nat.reduceEqDiff, Nat.lt_add_left_iff_pos, Nat.zero_lt_succ, Nat.zero_lt_one, Nat.succ_ne_self, reduceCtorEq, Nat.zero_ne_one, Nat.one_ne_zero, decide_true, decide_false, beq_self_eq_true, Int.reduceBEq, Int.reduceLT, Int.reduceLE, Int.reduceAdd, Int.reduceSub, Int.reduceNeg, Ss.nth, G, CL, h.nh, hp, q, h28]
  | false =>
    refine ⟨u, o3, gu, ?_, u3⟩
    unfold bdy b32
    simp only [evSs_cons, evSs_nil, evS, ev, evB, evF, evA, evP, evM, evI, evO, rb_ok, rb_ex, ro_ok, ro_ex, rn_ok, op_so, td_v, td_l, td_ex, ts_b, ts_l, ts_t, ts_i, Z.pk_nil, pk_v, pk_l, pk_i, ih_v, ih_l, ih_d, fz_v, fz_l, sq_nx, sq_rt, sq_ex, rs_rt, rs_nx, rs_ex, of_so, st_def, st_tup, st_lst, cb_ok, cb_ex, fin_ok, fin_ex, p_isi, p_lenT, p_lenL, p_int, p_intB, p_abs, p_add, p_sub, p_neg, p_lt, p_gt, p_le, p_ge, p_max, p_min, p_isN, p_notN, p_tupL, p_tupT, p_lstL, p_lstT, p_rev, ix0L, ix0T, ix1L, ix1T, ix2L, ix2T, pu0, pu1, pu2, ft0, ft1, ft2, ft3, ft4, fl0, fl1, fl2, fl3, fl4, fl5, fl6, fl7, fl8, fl9, fl10, fl11, ca_rt, ca_nx, io_i, ap_S, il_l, p_addS, p_addU, Nat.reduceLeDiff, sl_L, Int.natCast_zero, Int.natCast_one, Int.cast_ofNat_Int, sm0, sm1, sm2, p_eqI, p_neI, p_eqB, p_neB, p_eqS, p_neS, Option.map_some, Option.bind_some, slot, setS, setTs, isOw, Z.fill, unfill, owV, outs, outsA, List.getD_cons_zero, List.getD_cons_succ, List.set_cons_zero, List.set_cons_succ, List.length_cons, List.length_nil, List.any_cons, List.any_nil, List.append_nil, List.nil_append, List.cons_append, List.map_cons, List.map_nil, isTy, Bool.or_false, Bool.or_true, Bool.false_or, Bool.true_or, Bool.not_true, Bool.not_false, Bool.true_and, Bool.false_and, Bool.and_true, Bool.and_false, if_true, if_false, Bool.false_eq_true, reduceIte, List.not_mem_nil, List.mem_cons, or_false, false_or, not_false_eq_true, not_true_eq_false, and_true, and_false, and_self, true_and, Nat.reduceLT, Nat.reduceAdd, Nat.zero_add, Nat.lt_add_one, Nat.reduceEqDiff, Nat.lt_add_left_iff_pos, Nat.zero_lt_succ, Nat.zero_lt_one, Nat.succ_ne_self, reduceCtorEq, Nat.zero_ne_one, Nat.one_ne_zero, decide_true, decide_false, beq_self_eq_true, Int.reduceBEq, Int.reduceLT, Int.reduceLE, Int.reduceAdd, Int.reduceSub, Int.reduceNeg, Ss.nth, G, CL, h.nh, hp, q, h28]
theorem L2_ (hn : 40 ≤ n) {t u : T} (gt : Gd N t) (gu : Gd N u) : evS (CL n) (bdy.nth 2) (G sc o (.v (eNs N)) rows due bad lap book got (.v t.e) things wrong (.v u.e) price near far own) =
    .nx (G sc o (.v (eNs N)) rows due bad lap book got (.v t.e) things wrong (.v u.e) price (.v (t.f N).e) (.v (u.f N).e) own) := by
  have h1 := c28 (N := N) n t gt.ok (by have := gt.sz; omega) (by have := gt.sz; omega)
  have h2 := c28 (N := N) n u gu.ok (by have := gu.sz; omega) (by have := gu.sz; omega)
  unfold bdy b32
  simp only [evSs_cons, evSs_nil, evS, ev, evB, evF, evA, evP, evM, evI, evO, rb_ok, rb_ex, ro_ok, ro_ex, rn_ok, op_so, td_v, td_l, td_ex, ts_b, ts_l, ts_t, ts_i, Z.pk_nil, pk_v, pk_l, pk_i, ih_v, ih_l, ih_d, fz_v, fz_l, sq_nx, sq_rt, sq_ex, rs_rt, rs_nx, rs_ex, of_so, st_def, st_tup, st_lst, cb_ok, cb_ex, fin_ok, fin_ex, p_isi, p_lenT, p_lenL, p_int, p_intB, p_abs, p_add, p_sub, p_neg, p_lt, p_gt, p_le, p_ge, p_max, p_min, p_isN, p_notN, p_tupL, p_tupT, p_lstL, p_lstT, p_rev, ix0L, ix0T, ix1L, ix1T, ix2L, ix2T, pu0, pu1, pu2, ft0, ft1, ft2, ft3, ft4, fl0, fl1, fl2, fl3, fl4, fl5, fl6, fl7, fl8, fl9, fl10, fl11, ca_rt, ca_nx, io_i, ap_S, il_l, p_addS, p_addU, Nat.reduceLeDiff, sl_L, Int.natCast_zero, Int.natCast_one, Int.cast_ofNat_Int, sm0, sm1, sm2, p_eqI, p_neI, p_eqB, p_neB, p_eqS, p_neS, Option.map_some, Option.bind_some, slot, setS, setTs, isOw, Z.fill, unfill, owV, outs, outsA, List.getD_cons_zero, List.getD_cons_succ, List.set_cons_zero, List.set_cons_succ, List.length_cons, List.length_nil, List.any_cons, List.any_nil, List.append_nil, List.nil_append, List.cons_append, List.map_cons, List.map_nil, isTy, Bool.or_false, Bool.or_true, Bool.false_or, Bool.true_or, Bool.not_true, Bool.not_false, Bool.true_and, Bool.false_and, Bool.and_true, Bool.and_false, if_true, if_false, Bool.false_eq_true, reduceIte, List.not_mem_nil, List.mem_cons, or_false, false_or, not_false_eq_true, not_true_eq_false, and_true, and_false, and_self, true_and, Nat.reduceLT, Nat.reduceAdd, Nat.zero_add, Nat.lt_add_one, Nat.reduceEqDiff, Nat.lt_add_left_iff_pos, Nat.zero_lt_succ, Nat.zero_lt_one, Nat.succ_ne_self, reduceCtorEq, Nat.zero_ne_one, Nat.one_ne_zero, decide_true, decide_false, beq_self_eq_true, Int.reduceBEq, Int.reduceLT, Int.reduceLE, Int.reduceAdd, Int.reduceSub, Int.reduceNeg, Ss.nth, G, CL, h1, h2, setAll]
theorem L3a {xs : List D} (hx : xs.length < 1000) {a b c : D} : evS (CL n) (bdy.nth 3) (G sc o rows (.lst xs) due bad lap book got (.v a) things wrong (.v b) (.v c) near far own) =
    .nx (G sc o rows (.lst (xs ++ [.tuple [a, b, c]])) due bad lap book got (.v a) things wrong (.v b) (.v c) near far own) := by
  unfold bdy b32
  simp only [evSs_cons, evSs_nil, evS, ev, evB, evF, evA, evP, evM, evI, evO, rb_ok, rb_ex, ro_ok, ro_ex, rn_ok, op_so, td_v, td_l, td_ex, ts_b, ts_l, ts_t, ts_i, Z.pk_nil, pk_v, pk_l, pk_i, ih_v, ih_l, ih_d, fz_v, fz_l, sq_nx, sq_rt, sq_ex, rs_rt, rs_nx, rs_ex, of_so, st_def, st_tup, st_lst, cb_ok, cb_ex, fin_ok, fin_ex, p_isi, p_lenT, p_lenL, p_int, p_intB, p_abs, p_add, p_sub, p_neg, p_lt, p_gt, p_le, p_ge, p_max, p_min, p_isN, p_notN, p_tupL, p_tupT, p_lstL, p_lstT, p_rev, ix0L, ix0T, ix1L, ix1T, ix2L, ix2T, pu0, pu1, pu2, ft0, ft1, ft2, ft3, ft4, fl0, fl1, fl2, fl3, fl4, fl5, fl6, fl7, fl8, fl9, fl10, fl11, ca_rt, ca_nx, io_i, ap_S, il_l, p_addS, p_addU, Nat.reduceLeDiff, sl_L, Int.natCast_zero, Int.natCast_one, Int.cast_ofNat_Int, sm0, sm1, sm2, p_eqI, p_neI, p_eqB, p_neB, p_eqS, p_neS, Option.map_some, Option.bind_some, slot, setS, setTs, isOw, Z.fill, unfill, owV, outs, outsA, List.getD_cons_zero, List.getD_cons_succ, List.set_cons_zero, List.set_cons_succ, List.length_cons, List.length_nil, List.any_cons, List.any_nil, List.append_nil, List.nil_append, List.cons_append, List.map_cons, List.map_nil, isTy, Bool.or_false, Bool.or_true, Bool.false_or, Bool.true_or, Bool.not_true, Bool.not_false, Bool.true_and, Bool.false_and, Bool.and_true, Bool.and_false, if_true, if_false, Bool.false_eq_true, reduceIte, List.not_mem_nil, List.mem_cons, or_false, false_or, not_false_eq_true, not_true_eq_false, and_true, and_false, and_self, true_and, Nat.reduceLT, Nat.reduceAdd, Nat.zero_add, Nat.lt_add_one, Nat.reduceEqDiff, Nat.lt_add_left_iff_pos, Nat.zero_lt_succ, Nat.zero_lt_one, Nat.succ_ne_self, reduceCtorEq, Nat.zero_ne_one, Nat.one_ne_zero, decide_true, decide_false, beq_self_eq_true, Int.reduceBEq, Int.reduceLT, Int.reduceLE, Int.reduceAdd, Int.reduceSub, Int.reduceNeg, Ss.nth, G, CL, hx]
theorem L4a {ys : List D} (hy : ys.length < 1000) {c d e : D} : evS (CL n) (bdy.nth 4) (G sc o rows due (.lst ys) bad lap book got one things wrong other (.v c) (.v d) (.v e) own) =
    .nx (G sc o rows due (.lst (ys ++ [.tuple [d, e, c]])) bad lap book got one things wrong other (.v c) (.v d) (.v e) own) := by
  unfold bdy b32
  simp only [evSs_cons, evSs_nil, evS, ev, evB, evF, evA, evP, evM, evI, evO, rb_ok, rb_ex, ro_ok, ro_ex, rn_ok, op_so, td_v, td_l, td_ex, ts_b, ts_l, ts_t, ts_i, Z.pk_nil, pk_v, pk_l, pk_i, ih_v, ih_l, ih_d, fz_v, fz_l, sq_nx, sq_rt, sq_ex, rs_rt, rs_nx, rs_ex, of_so, st_def, st_tup, st_lst, cb_ok, cb_ex, fin_ok, fin_ex, p_isi, p_lenT, p_lenL, p_int, p_intB, p_abs, p_add, p_sub, p_neg, p_lt, p_gt, p_le, p_ge, p_max, p_min, p_isN, p_notN, p_tupL, p_tupT, p_lstL, p_lstT, p_rev, ix0L, ix0T, ix1L, ix1T, ix2L, ix2T, pu0, pu1, pu2, ft0, ft1, ft2, ft3, ft4, fl0, fl1, fl2, fl3, fl4, fl5, fl6, fl7, fl8, fl9, fl10, fl11, ca_rt, ca_nx, io_i, ap_S, il_l, p_addS, p_addU, Nat.reduceLeDiff, sl_L, Int.natCast_zero, Int.natCast_one, Int.cast_ofNat_Int, sm0, sm1, sm2, p_eqI, p_neI, p_eqB, p_neB, p_eqS, p_neS, Option.map_some, Option.bind_some, slot, setS, setTs, isOw, Z.fill, unfill, owV, outs, outsA, List.getD_cons_zero, List.getD_cons_succ, List.set_cons_zero, List.set_cons_succ, List.length_cons, List.length_nil, List.any_cons, List.any_nil, List.append_nil, List.nil_append, List.cons_append, List.map_cons, List.map_nil, isTy, Bool.or_false, Bool.or_true, Bool.false_or, Bool.true_or, Bool.not_true, Bool.not_false, Bool.true_and, Bool.false_and, Bool.and_true, Bool.and_false, if_true, if_false, Bool.false_eq_true, reduceIte, List.not_mem_nil, List.mem_cons, or_false, false_or, not_false_eq_true, not_true_eq_false, and_true, and_false, and_self, true_and, Nat.reduceLT, Nat.reduceAdd, Nat.zero_add, Nat.lt_add_one, Nat.reduceEqDiff, Nat.lt_add_left_iff_pos, Nat.zero_lt_succ, Nat.zero_lt_one, Nat.succ_ne_self, reduceCtorEq, Nat.zero_ne_one, Nat.one_ne_zero, decide_true, decide_false, beq_self_eq_true, Int.reduceBEq, Int.reduceLT, Int.reduceLE, Int.reduceAdd, Int.reduceSub, Int.reduceNeg, Ss.nth, G, CL, hy]
theorem L5 {t u : T} (gt : Gd N t) {b : Bool} {x : O} : evS (CL n) (bdy.nth 5) (G sc o x rows due (.v (.bool b)) lap book got one things wrong other price (.v (t.f N).e) (.v (u.f N).e) own) =
    .nx (G sc o x rows due (.v (.bool (b || decide (t.f N = u.f N)))) lap book got one things wrong other price (.v (t.f N).e) (.v (u.f N).e) own) := by
  have e := p_eqE (t := t.f N) (u := u.f N) (by rw [f_sz]; have := gt.sz; omega)
  cases b <;> unfold bdy b32 <;> simp only [evSs_cons, evSs_nil, evS, ev, evB, evF, evA, evP, evM, evI, evO, rb_ok, rb_ex, ro_ok, ro_ex, rn_ok, op_so, td_v, td_l, td_ex, ts_b, ts_l, ts_t, ts_i, Z.pk_nil, pk_v, pk_l, pk_i, ih_v, ih_l, ih_d, fz_v, fz_l, sq_nx, sq_rt, sq_ex, rs_rt, rs_nx, rs_ex, of_so, st_def, st_tup, st_lst, cb_ok, cb_ex, fin_ok, fin_ex, p_isi, p_lenT, p_lenL, p_int, p_intB, p_abs, p_add, p_sub, p_neg, p_lt, p_gt, p_le, p_ge, p_max, p_min, p_isN, p_notN, p_tupL, p_tupT, p_lstL, p_lstT, p_rev, ix0L, ix0T, ix1L, ix1T, ix2L, ix2T, pu0, pu1, pu2, ft0, ft1, ft2, ft3, ft4, fl0, fl1, fl2, fl3, fl4, fl5, fl6, fl7, fl8, fl9, fl10, fl11, ca_rt, ca_nx, io_i, ap_S, il_l, p_addS, p_addU, Nat.reduceLeDiff, sl_L, Int.natCast_zero, Int.natCast_one, Int.cast_ofNat_Int, sm0, sm1, sm2, p_eqI, p_neI, p_eqB, p_neB, p_eqS, p_neS, Option.map_some, Option.bind_some, slot, setS, setTs, isOw, Z.fill, unfill, owV, outs, outsA, List.getD_cons_zero, List.getD_cons_succ, List.set_cons_zero, List.set_cons_succ, List.length_cons, List.length_nil, List.any_cons, List.any_nil, List.append_nil, List.nil_append, List.cons_append, List.map_cons, List.map_nil, isTy, Bool.or_false, Bool.or_true, Bool.false_or, Bool.true_or, Bool.not_true, Bool.not_false, Bool.true_and, Bool.false_and, Bool.and_true, Bool.and_false, if_true, if_false, Bool.false_eq_true, reduceIte, List.not_mem_nil, List.mem_cons, or_false, false_or, not_false_eq_true, not_true_eq_false, and_true, and_false, and_self, true_and, Nat.reduceLT, Nat.reduceAdd, Nat.zero_add, Nat.lt_add_one, Nat.reduceEqDiff, Nat.lt_add_left_iff_pos, Nat.zero_lt_succ, Nat.zero_lt_one, Nat.succ_ne_self, reduceCtorEq, Nat.zero_ne_one, Nat.one_ne_zero, decide_true, decide_false, beq_self_eq_true, Int.reduceBEq, Int.reduceLT, Int.reduceLE, Int.reduceAdd, Int.reduceSub, Int.reduceNeg, Ss.nth, G, CL, e]
/-- what is_rule and rule_of tell of a row -/
def tell (N : List Nm) (r : Row) : D := .list [if r.bad N then .str "unfit" else r.due N, .bool (!r.bad N), .bool (decide (r.t.f N = r.t) && !r.bad N), .bool false, .bool false, .bool false]
theorem tells_lis {t : T} (gt : Gd N t) : Tells (lisD t.e) t := ⟨by rw [tup_lis, tup_e], by rw [dp_lis]; exact gt.self.dp⟩
theorem L67 (hN : IsN N) (h : Ur K o) (hK : K + 100 < 1000000) (hn : 40 ≤ n) {r : Row} (g : GdR N r) : ∃ o', (∃ got', evS (CL n) (bdy.nth 6) (G sc o (.v (eNs N)) rows due bad lap book got (.v r.t.e) things wrong (.v r.u.e) (.v (.int r.p)) (.v (r.t.f N).e) (.v (r.u.f N).e) own) =
    .nx (G sc o' (.v (eNs N)) rows due bad lap book got' (.v r.t.e) things wrong (.v r.u.e) (.v (.int r.p)) (.v (r.t.f N).e) (.v (r.u.f N).e) own) ∧
    evS (CL n) (bdy.nth 7) (G sc o' (.v (eNs N)) rows due bad lap book got' (.v r.t.e) things wrong (.v r.u.e) (.v (.int r.p)) (.v (r.t.f N).e) (.v (r.u.f N).e) own) =
    .nx (G sc o' (.v (eNs N)) rows due bad lap book (.lst [if r.bad N then .str "unfit" else r.due N, .bool (!r.bad N), .bool (decide (r.t.f N = r.t) && !r.bad N), .bool false, .bool false, .bool false]) (.v r.t.e) things wrong (.v r.u.e) (.v (.int r.p)) (.v (r.t.f N).e) (.v (r.u.f N).e) own)) ∧ Ur (K + 1) o' := by
  obtain ⟨q, o1, h26, hq, u1⟩ := c26 h (by omega) (d := r.t.e) (n := n) (by have := g.t.self.dp; omega)
  have gf := g.t.f
  have guf := g.u.f
  have a1 := c16 hN g.t.f g.u.f r.p (n := n) (by omega)
  have a2 := c16 hN g.t g.u.f r.p (n := n) (by omega)
  have a3 := c16 hN g.t.f g.u.f (-1) (n := n) (by omega)
  have a4 := c16B (N := N) (t := r.t.f N) (u := r.u.f N) true (n := n) (by omega)
  have a5 := c16L (N := N) (xs := [(r.t.f N).e, (r.u.f N).e, .int r.p]) (n := n) (by omega)
  rw [f_f, f_f, decide_eq_true g.p, decide_eq_true rfl, decide_eq_true rfl, Bool.true_and, Bool.true_and, Bool.true_and, show decide (r.t.f N = r.u.f N) = r.bad N from rfl] at a1
  rw [f_f, decide_eq_true g.p, decide_eq_true rfl, Bool.true_and, Bool.true_and, show (decide (r.t.f N = r.t) && !decide (r.t = r.u.f N)) = (decide (r.t.f N = r.t) && !r.bad N) from by
    unfold Row.bad
    by_cases q : r.t.f N = r.t
    · rw [q]
    · simp [q]] at a2
  rw [show decide ((0 : Int) ≤ -1) = false from rfl, Bool.false_and] at a3
  have hu : (if r.t.f N = r.u.f N then PyData.str "unfit" else .tuple [(r.t.f N).e, (r.u.f N).e, .int r.p]) = if r.bad N then .str "unfit" else r.due N := by
    unfold Row.bad Row.due
    by_cases q : r.t.f N = r.u.f N <;> simp [q]
  have e1 : evS (CL n) (bdy.nth 6) (G sc o (.v (eNs N)) rows due bad lap book got (.v r.t.e) things wrong (.v r.u.e) (.v (.int r.p)) (.v (r.t.f N).e) (.v (r.u.f N).e) own) =
    .nx (G sc o1 (.v (eNs N)) rows due bad lap book (.lst [if r.bad N then .str "unfit" else r.due N, .bool (!r.bad N), .bool (decide (r.t.f N = r.t) && !r.bad N), .bool false]) (.v r.t.e) things wrong (.v r.u.e) (.v (.int r.p)) (.v (r.t.f N).e) (.v (r.u.f N).e) own) := by
    rcases hq with hq | hq
    · subst hq
      have h31 := c31r hN g.t g.u (tells_lis g.t) g.u.self r.p (n := n) (by omega)
      rw [hu] at h31
      unfold bdy b32
      simp only [evSs_cons, evSs_nil, evS, ev, evB, evF, evA, evP, evM, evI, evO, rb_ok, rb_ex, ro_ok, ro_ex, rn_ok, op_so, td_v, td_l, td_ex, ts_b, ts_l, ts_t, ts_i, Z.pk_nil, pk_v, pk_l, pk_i, ih_v, ih_l, ih_d, fz_v, fz_l, sq_nx, sq_rt, sq_ex, rs_rt, rs_nx, rs_ex, of_so, st_def, st_tup, st_lst, cb_ok, cb_ex, fin_ok, fin_ex, p_isi, p_lenT, p_lenL, p_int, p_intB, p_abs, p_add, p_sub, p_neg, p_lt, p_gt, p_le, p_ge, p_max, p_min, p_isN, p_notN, p_tupL, p_tupT, p_lstL, p_lstT, p_rev, ix0L, ix0T, ix1L, ix1T, ix2L, ix2T, pu0, pu1, pu2, ft0, ft1, ft2, ft3, ft4, fl0, fl1, fl2, fl3, fl4, fl5, fl6, fl7, fl8, fl9, fl10, fl11, ca_rt, ca_nx, io_i, ap_S, il_l, p_addS, p_addU, Nat.reduceLeDiff, sl_L, Int.natCast_zero, Int.natCast_one, Int.cast_ofNat_Int, sm0, sm1, sm2, p_eqI, p_neI, p_eqB, p_neB, p_eqS, p_neS, Option.map_some, Option.bind_some, slot, setS, setTs, isOw, Z.fill, unfill, owV, outs, outsA, List.getD_cons_zero, List.getD_cons_succ, List.set_cons_zero, List.set_cons_succ, List.length_cons, List.length_nil, List.any_cons, List.any_nil, List.append_nil, List.nil_append, List.cons_append, List.map_cons, List.map_nil, isTy, Bool.or_false, Bool.or_true, Bool.false_or, Bool.true_or, Bool.not_true, Bool.not_false, Bool.true_and, Bool.false_and, Bool.and_true, Bool.and_false, if_true, if_false, Bool.false_eq_true, reduceIte, List.not_mem_nil, List.mem_cons, or_false, false_or, not_false_eq_true, not_true_eq_false, and_true, and_false, and_self, true_and, Nat.reduceLT, Nat.reduceAdd, Nat.zero_add, Nat.lt_add_one, Nat.reduceEqDiff, Nat.lt_add_left_iff_pos, Nat.zero_lt_succ, Nat.zero_lt_one, Nat.succ_ne_self, reduceCtorEq, Nat.zero_ne_one, Nat.one_ne_zero, decide_true, decide_false, beq_self_eq_true, Int.reduceBEq, Int.reduceLT, Int.reduceLE, Int.reduceAdd, Int.reduceSub, Int.reduceNeg, Ss.nth, G, CL, h.nh, h26, td_of, h31, a1, a2, a3]
      try rfl
    · subst hq
      have h31 := c31r hN g.t g.u g.t.self g.u.self r.p (n := n) (by omega)
      rw [hu] at h31
      unfold bdy b32
      simp only [evSs_cons, evSs_nil, evS, ev, evB, evF, evA, evP, evM, evI, evO, rb_ok, rb_ex, ro_ok, ro_ex, rn_ok, op_so, td_v, td_l, td_ex, ts_b, ts_l, ts_t, ts_i, Z.pk_nil, pk_v, pk_l, pk_i, ih_v, ih_l, ih_d, fz_v, fz_l, sq_nx, sq_rt, sq_ex, rs_rt, rs_nx, rs_ex, of_so, st_def, st_tup, st_lst, cb_ok, cb_ex, fin_ok, fin_ex, p_isi, p_lenT, p_lenL, p_int, p_intB, p_abs, p_add, p_sub, p_neg, p_lt, p_gt, p_le, p_ge, p_max, p_min, p_isN, p_notN, p_tupL, p_tupT, p_lstL, p_lstT, p_rev, ix0L, ix0T, ix1L, ix1T, ix2L, ix2T, pu0, pu1, pu2, ft0, ft1, ft2, ft3, ft4, fl0, fl1, fl2, fl3, fl4, fl5, fl6, fl7, fl8, fl9, fl10, fl11, ca_rt, ca_nx, io_i, ap_S, il_l, p_addS, p_addU, Nat.reduceLeDiff, sl_L, Int.natCast_zero, Int.natCast_one, Int.cast_ofNat_Int, sm0, sm1, sm2, p_eqI, p_neI, p_eqB, p_neB, p_eqS, p_neS, Option.map_some, Option.bind_some, slot, setS, setTs, isOw, Z.fill, unfill, owV, outs, outsA, List.getD_cons_zero, List.getD_cons_succ, List.set_cons_zero, List.set_cons_succ, List.length_cons, List.length_nil, List.any_cons, List.any_nil, List.append_nil, List.nil_append, List.cons_append, List.map_cons, List.map_nil, isTy, Bool.or_false, Bool.or_true, Bool.false_or, Bool.true_or, Bool.not_true, Bool.not_false, Bool.true_and, Bool.false_and, Bool.and_true, Bool.and_false, if_true, if_false, Bool.false_eq_true, reduceIte, List.not_mem_nil, List.mem_cons, or_false, false_or, not_false_eq_true, not_true_eq_false, and_true, and_false, and_self, true_and, Nat.reduceLT, Nat.reduceAdd, Nat.zero_add, Nat.lt_add_one, Nat.reduceEqDiff, Nat.lt_add_left_iff_pos, Nat.zero_lt_succ, Nat.zero_lt_one, Nat.succ_ne_self, reduceCtorEq, Nat.zero_ne_one, Nat.one_ne_zero, decide_true, decide_false, beq_self_eq_true, Int.reduceBEq, Int.reduceLT, Int.reduceLE, Int.reduceAdd, Int.reduceSub, Int.reduceNeg, Ss.nth, G, CL, h.nh, h26, h31, a1, a2, a3]
      try rfl
  refine ⟨o1, ⟨_, e1, ?_⟩, u1⟩
  unfold bdy b32
  simp only [evSs_cons, evSs_nil, evS, ev, evB, evF, evA, evP, evM, evI, evO, rb_ok, rb_ex, ro_ok, ro_ex, rn_ok, op_so, td_v, td_l, td_ex, ts_b, ts_l, ts_t, ts_i, Z.pk_nil, pk_v, pk_l, pk_i, ih_v, ih_l, ih_d, fz_v, fz_l, sq_nx, sq_rt, sq_ex, rs_rt, rs_nx, rs_ex, of_so, st_def, st_tup, st_lst, cb_ok, cb_ex, fin_ok, fin_ex, p_isi, p_lenT, p_lenL, p_int, p_intB, p_abs, p_add, p_sub, p_neg, p_lt, p_gt, p_le, p_ge, p_max, p_min, p_isN, p_notN, p_tupL, p_tupT, p_lstL, p_lstT, p_rev, ix0L, ix0T, ix1L, ix1T, ix2L, ix2T, pu0, pu1, pu2, ft0, ft1, ft2, ft3, ft4, fl0, fl1, fl2, fl3, fl4, fl5, fl6, fl7, fl8, fl9, fl10, fl11, ca_rt, ca_nx, io_i, ap_S, il_l, p_addS, p_addU, Nat.reduceLeDiff, sl_L, Int.natCast_zero, Int.natCast_one, Int.cast_ofNat_Int, sm0, sm1, sm2, p_eqI, p_neI, p_eqB, p_neB, p_eqS, p_neS, Option.map_some, Option.bind_some, slot, setS, setTs, isOw, Z.fill, unfill, owV, outs, outsA, List.getD_cons_zero, List.getD_cons_succ, List.set_cons_zero, List.set_cons_succ, List.length_cons, List.length_nil, List.any_cons, List.any_nil, List.append_nil, List.nil_append, List.cons_append, List.map_cons, List.map_nil, isTy, Bool.or_false, Bool.or_true, Bool.false_or, Bool.true_or, Bool.not_true, Bool.not_false, Bool.true_and, Bool.false_and, Bool.and_true, Bool.and_false, if_true, if_false, Bool.false_eq_true, reduceIte, List.not_mem_nil, List.mem_cons, or_false, false_or, not_false_eq_true, not_true_eq_false, and_true, and_false, and_self, true_and, Nat.reduceLT, Nat.reduceAdd, Nat.zero_add, Nat.lt_add_one, Nat.reduceEqDiff, Nat.lt_add_left_iff_pos, Nat.zero_lt_succ, Nat.zero_lt_one, Nat.succ_ne_self, reduceCtorEq, Nat.zero_ne_one, Nat.one_ne_zero, decide_true, decide_false, beq_self_eq_true, Int.reduceBEq, Int.reduceLT, Int.reduceLE, Int.reduceAdd, Int.reduceSub, Int.reduceNeg, Ss.nth, G, CL, a4, a5]
theorem nd_e : ∀ t : T, nd t.e = true
  | .z _ => rfl
  | .o _ t => by simp only [T.e, nd, nds, nd_e t]; rfl
  | .w _ t u => by simp only [T.e, nd, nds, nd_e t, nd_e u]; rfl
theorem nd_due (r : Row) : nd (r.due N) = true := by simp only [Row.due, nd, nds, nd_e]; rfl
theorem dp_due {r : Row} (g : GdR N r) : dp (r.due N) ≤ 21 := by
  have h1 := dp_e (r.t.f N)
  have h2 := dp_e (r.u.f N)
  have := g.t.sz
  have := g.u.sz
  rw [f_sz] at h1 h2
  simp only [Row.due, dp, dpAll]
  omega
theorem same_tell (hn : 40 ≤ n) {r : Row} (g : GdR N r) : callN pg n 24 [.v (tell N r), .v (tell N r)] = .ok (.v (.bool true)) [.hole, .hole] := by
  refine c24 n _ ?_ ?_
  · unfold tell
    cases r.bad N <;> simp [nd, nds, nd_due]
  · unfold tell
    have := dp_due g
    cases r.bad N <;> simp [dp, dpAll] <;> omega
theorem L8 (hn : 40 ≤ n) {r : Row} (g : GdR N r) {x : O} : evS (CL n) (bdy.nth 8) (G sc o x rows due bad lap book (.lst [if r.bad N then .str "unfit" else r.due N, .bool (!r.bad N), .bool (decide (r.t.f N = r.t) && !r.bad N), .bool false, .bool false, .bool false]) (.v r.t.e) things wrong (.v r.u.e) (.v (.int r.p)) (.v (r.t.f N).e) (.v (r.u.f N).e) own) =
    .nx (G sc o x rows due bad lap book (.v (tell N r)) (.v r.t.e) things wrong (.v r.u.e) (.v (.int r.p)) (.v (r.t.f N).e) (.v (r.u.f N).e) own) := by
  have h := same_tell hn g
  have n1 : prF .ne [(r.t.f N).e, (r.u.f N).e] = some (.v (.bool (!r.bad N))) := p_neE (by rw [f_sz]; have := g.t.sz; omega)
  have n2 : prF .eq [r.t.e, (r.t.f N).e] = some (.v (.bool (decide (r.t.f N = r.t)))) := by
    rw [p_eqE (by have := g.t.sz; omega)]
    congr 3
    exact decide_eq_decide.mpr ⟨Eq.symm, Eq.symm⟩
  unfold tell Row.due at *
  cases q1 : r.bad N <;> cases q2 : decide (r.t.f N = r.t) <;> simp only [q1, q2, Bool.not_true, Bool.not_false, Bool.and_true, Bool.and_false, if_true, if_false, Bool.false_eq_true] at h n1 n2 ⊢ <;> unfold bdy b32 <;> simp only [evSs_cons, evSs_nil, evS, ev, evB, evF, evA, evP, evM, evI, evO, rb_ok, rb_ex, ro_ok, ro_ex, rn_ok, op_so, td_v, td_l, td_ex, ts_b, ts_l, ts_t, ts_i, Z.pk_nil, pk_v, pk_l, pk_i, ih_v, ih_l, ih_d, fz_v, fz_l, sq_nx, sq_rt, sq_ex, rs_rt, rs_nx, rs_ex, of_so, st_def, st_tup, st_lst, cb_ok, cb_ex, fin_ok, fin_ex, p_isi, p_lenT, p_lenL, p_int, p_intB, p_abs, p_add, p_sub, p_neg, p_lt, p_gt, p_le, p_ge, p_max, p_min, p_isN, p_notN, p_tupL, p_tupT, p_lstL, p_lstT, p_rev, ix0L, ix0T, ix1L, ix1T, ix2L, ix2T, pu0, pu1, pu2, ft0, ft1, ft2, ft3, ft4, fl0, fl1, fl2, fl3, fl4, fl5, fl6, fl7, fl8, fl9, fl10, fl11, ca_rt, ca_nx, io_i, ap_S, il_l, p_addS, p_addU, Nat.reduceLeDiff, sl_L, Int.natCast_zero, Int.natCast_one, Int.cast_ofNat_Int, sm0, sm1, sm2, p_eqI, p_neI, p_eqB, p_neB, p_eqS, p_neS, Option.map_some, Option.bind_some, slot, setS, setTs, isOw, Z.fill, unfill, owV, outs, outsA, List.getD_cons_zero, List.getD_cons_succ, List.set_cons_zero, List.set_cons_succ, List.length_cons, List.length_nil, List.any_cons, List.any_nil, List.append_nil, List.nil_append, List.cons_append, List.map_cons, List.map_nil, isTy, Bool.or_false, Bool.or_true, Bool.false_or, Bool.true_or, Bool.not_true, Bool.not_false, Bool.true_and, Bool.false_and, Bool.and_true, Bool.and_false, if_true, if_false, Bool.false_eq_true, reduceIte, List.not_mem_nil, List.mem_cons, or_false, false_or, not_false_eq_true, not_true_eq_false, and_true, and_false, and_self, true_and, Nat.reduceLT, Nat.reduceAdd, Nat.zero_add, Nat.lt_add_one, Nat.reduceEqDiff, Nat.lt_add_left_iff_pos, Nat.zero_lt_succ, Nat.zero_lt_one, Nat.succ_ne_self, reduceCtorEq, Nat.zero_ne_one, Nat.one_ne_zero, decide_true, decide_false, beq_self_eq_true, Int.reduceBEq, Int.reduceLT, Int.reduceLE, Int.reduceAdd, Int.reduceSub, Int.reduceNeg, Ss.nth, G, CL, n1, n2, h]
theorem hb3 : b32.nth 3 = .for_ (.v 6) (.rng (.call 21 (.cons (.ow (.var 1)) (.cons (.cst (.int 5)) .nil)) [])) bdy := rfl
/-- the rows drawn so far -/
def Inv (sc : O) (N : List Nm) (k : Nat) (Γ : Z.Env) : Prop := ∃ (o : O) (rs : List Row) (lap got one other price near far : O), Γ = G sc o (.v (eNs N)) (.lst (rs.map Row.e)) (.lst (rs.map (Row.due N))) (.v (.bool (rs.any (Row.bad N)))) lap .hole got one .hole .hole other price near far .hole ∧
  Ur (100 + 100 * k) o ∧ rs.length = k ∧ ∀ r ∈ rs, GdR N r
theorem row_any (rs : List Row) (r : Row) : (rs ++ [r]).any (Row.bad N) = (rs.any (Row.bad N) || r.bad N) := by
  rw [List.any_append, List.any_cons, List.any_nil, Bool.or_false]
theorem L3 (hN : IsN N) (hn : 40 ≤ n) (h : Ur 50 o) : ∃ k, k ≤ 5 ∧ ∃ Γ', evS (CL n) (b32.nth 3) (G sc o (.v (eNs N)) (.lst []) (.lst []) (.v (.bool false)) .hole .hole .hole .hole .hole .hole .hole .hole .hole .hole .hole) = .nx Γ' ∧ Inv sc N k Γ' := by
  obtain ⟨r, o1, hr, r0, r1, u1⟩ := c21 h (by omega) (low := 5) (by decide) (by decide) (n := n) (by omega)
  obtain ⟨k, rfl⟩ := Int.eq_ofNat_of_zero_le r0
  have hi : evI (CL n) (.rng (.call 21 (.cons (.ow (.var 1)) (.cons (.cst (.int 5)) .nil)) [])) (G sc o (.v (eNs N)) (.lst []) (.lst []) (.v (.bool false)) .hole .hole .hole .hole .hole .hole .hole .hole .hole .hole .hole) =
      .ok (rngD k, G sc o1 (.v (eNs N)) (.lst []) (.lst []) (.v (.bool false)) .hole .hole .hole .hole .hole .hole .hole .hole .hole .hole .hole) := by
    have q : ((k : Int) ≤ 16777216 ∧ -(2 : Int) ^ 62 ≤ (k : Int)) := ⟨by omega, by omega⟩
    simp only [evSs_cons, evSs_nil, evS, ev, evB, evF, evA, evP, evM, evI, evO, rb_ok, rb_ex, ro_ok, ro_ex, rn_ok, op_so, td_v, td_l, td_ex, ts_b, ts_l, ts_t, ts_i, Z.pk_nil, pk_v, pk_l, pk_i, ih_v, ih_l, ih_d, fz_v, fz_l, sq_nx, sq_rt, sq_ex, rs_rt, rs_nx, rs_ex, of_so, st_def, st_tup, st_lst, cb_ok, cb_ex, fin_ok, fin_ex, p_isi, p_lenT, p_lenL, p_int, p_intB, p_abs, p_add, p_sub, p_neg, p_lt, p_gt, p_le, p_ge, p_max, p_min, p_isN, p_notN, p_tupL, p_tupT, p_lstL, p_lstT, p_rev, ix0L, ix0T, ix1L, ix1T, ix2L, ix2T, pu0, pu1, pu2, ft0, ft1, ft2, ft3, ft4, fl0, fl1, fl2, fl3, fl4, fl5, fl6, fl7, fl8, fl9, fl10, fl11, ca_rt, ca_nx, io_i, ap_S, il_l, p_addS, p_addU, Nat.reduceLeDiff, sl_L, Int.natCast_zero, Int.natCast_one, Int.cast_ofNat_Int, sm0, sm1, sm2, p_eqI, p_neI, p_eqB, p_neB, p_eqS, p_neS, Option.map_some, Option.bind_some, slot, setS, setTs, isOw, Z.fill, unfill, owV, outs, outsA, List.getD_cons_zero, List.getD_cons_succ, List.set_cons_zero, List.set_cons_succ, List.length_cons, List.length_nil, List.any_cons, List.any_nil, List.append_nil, List.nil_append, List.cons_append, List.map_cons, List.map_nil, isTy, Bool.or_false, Bool.or_true, Bool.false_or, Bool.true_or, Bool.not_true, Bool.not_false, Bool.true_and, Bool.false_and, Bool.and_true, Bool.and_false, if_true, if_false, Bool.false_eq_true, reduceIte, List.not_mem_nil, List.mem_cons, or_false, false_or, not_false_eq_true, not_true_eq_false, and_true, and_false, and_self, true_and, Nat.reduceLT, Nat.reduceAdd, Nat.zero_add, Nat.lt_add_one, Nat.reduceEqDiff, Nat.lt_add_left_iff_pos, Nat.zero_lt_succ, Nat.zero_lt_one, Nat.succ_ne_self, reduceCtorEq, Nat.zero_ne_one, Nat.one_ne_zero, decide_true, decide_false, beq_self_eq_true, Int.reduceBEq, Int.reduceLT, Int.reduceLE, Int.reduceAdd, Int.reduceSub, Int.reduceNeg, G, CL, h.nh, hr, q, Int.toNat_natCast]
    try rw [if_pos q]
  refine ⟨k, by omega, ?_⟩
  rw [hb3, evS, hi, ro_ok]
  have hlen : (rngD k).length = k := by unfold rngD; rw [List.length_map, List.length_range]
  have := forL_okB (f := fun d Γ' => match setT (CL n).ro Γ' (.v 6) (.v d) with
      | some Γ2 => evSs (CL n) bdy Γ2
      | none => .bad) (P := Inv sc N) (B := 5) (xs := rngD k) (k := 0) (Γ := G sc o1 (.v (eNs N)) (.lst []) (.lst []) (.v (.bool false)) .hole .hole .hole .hole .hole .hole .hole .hole .hole .hole .hole) (by rw [hlen]; omega) ?_ ⟨o1, [], _, _, _, _, _, _, _, rfl, u1.mono (by omega), rfl, fun _ h => by cases h⟩
  · rw [hlen, Nat.zero_add] at this
    exact this
  · rintro d _ j _ hj ⟨o, rs, lap, got, one, other, price, near, far, rfl, u, hl, hrs⟩
    obtain ⟨t, v, p, o2, gt, gv, p0, e0, u2⟩ := L0 (sc := sc) (rows := .lst (rs.map Row.e)) (due := .lst (rs.map (Row.due N))) (bad := .v (.bool (rs.any (Row.bad N)))) (lap := .v d) (book := .hole) (got := got) (one := one) (things := .hole) (wrong := .hole) (other := other) (price := price) (near := near) (far := far) (own := .hole) hN u (by omega) hn
    obtain ⟨v', o3, gv', e1, u3⟩ := L1 (sc := sc) (rows := .lst (rs.map Row.e)) (due := .lst (rs.map (Row.due N))) (bad := .v (.bool (rs.any (Row.bad N)))) (lap := .v d) (book := .hole) (got := got) (things := .hole) (wrong := .hole) (price := .v (.int p)) (near := near) (far := far) (own := .hole) hN u2 (by omega) hn gt gv
    have g : GdR N ⟨t, v', p⟩ := ⟨gt, gv', p0⟩
    obtain ⟨o4, ⟨got', e6, e7⟩, u4⟩ := L67 (sc := sc) (rows := .lst (rs.map Row.e ++ [Row.e ⟨t, v', p⟩])) (due := .lst (rs.map (Row.due N) ++ [Row.due N ⟨t, v', p⟩])) (bad := .v (.bool (rs.any (Row.bad N) || Row.bad N ⟨t, v', p⟩))) (lap := .v d) (book := .hole) (got := got) (things := .hole) (wrong := .hole) (own := .hole) hN u3 (by omega) hn g
    refine ⟨_, ?_, o4, rs ++ [⟨t, v', p⟩], .v d, .v (tell N ⟨t, v', p⟩), .v t.e, .v v'.e, .v (.int p), .v (t.f N).e, .v (v'.f N).e, rfl, u4.mono (by omega), by rw [List.length_append, hl]; rfl, ?_⟩
    · rw [show setT (CL n).ro (G sc o (.v (eNs N)) (.lst (rs.map Row.e)) (.lst (rs.map (Row.due N))) (.v (.bool (rs.any (Row.bad N)))) lap .hole got one .hole .hole other price near far .hole) (.v 6) (.v d) = some (G sc o (.v (eNs N)) (.lst (rs.map Row.e)) (.lst (rs.map (Row.due N))) (.v (.bool (rs.any (Row.bad N)))) (.v d) .hole got one .hole .hole other price near far .hole) from by simp only [evSs_cons, evSs_nil, evS, ev, evB, evF, evA, evP, evM, evI, evO, rb_ok, rb_ex, ro_ok, ro_ex, rn_ok, op_so, td_v, td_l, td_ex, ts_b, ts_l, ts_t, ts_i, Z.pk_nil, pk_v, pk_l, pk_i, ih_v, ih_l, ih_d, fz_v, fz_l, sq_nx, sq_rt, sq_ex, rs_rt, rs_nx, rs_ex, of_so, st_def, st_tup, st_lst, cb_ok, cb_ex, fin_ok, fin_ex, p_isi, p_lenT, p_lenL, p_int, p_intB, p_abs, p_add, p_sub, p_neg, p_lt, p_gt, p_le, p_ge, p_max, p_min, p_isN, p_notN, p_tupL, p_tupT, p_lstL, p_lstT, p_rev, ix0L, ix0T, ix1L, ix1T, ix2L, ix2T, pu0, pu1, pu2, ft0, ft1, ft2, ft3, ft4, fl0, fl1, fl2, fl3, fl4, fl5, fl6, fl7, fl8, fl9, fl10, fl11, ca_rt, ca_nx, io_i, ap_S, il_l, p_addS, p_addU, Nat.reduceLeDiff, sl_L, Int.natCast_zero, Int.natCast_one, Int.cast_ofNat_Int, sm0, sm1, sm2, p_eqI, p_neI, p_eqB, p_neB, p_eqS, p_neS, Option.map_some, Option.bind_some, slot, setS, setTs, isOw, Z.fill, unfill, owV, outs, outsA, List.getD_cons_zero, List.getD_cons_succ, List.set_cons_zero, List.set_cons_succ, List.length_cons, List.length_nil, List.any_cons, List.any_nil, List.append_nil, List.nil_append, List.cons_append, List.map_cons, List.map_nil, isTy, Bool.or_false, Bool.or_true, Bool.false_or, Bool.true_or, Bool.not_true, Bool.not_false, Bool.true_and, Bool.false_and, Bool.and_true, Bool.and_false, if_true, if_false, Bool.false_eq_true, reduceIte, List.not_mem_nil, List.mem_cons, or_false, false_or, not_false_eq_true, not_true_eq_false, and_true, and_false, and_self, true_and, Nat.reduceLT, Nat.reduceAdd, Nat.zero_add, Nat.lt_add_one, Nat.reduceEqDiff, Nat.lt_add_left_iff_pos, Nat.zero_lt_succ, Nat.zero_lt_one, Nat.succ_ne_self, reduceCtorEq, Nat.zero_ne_one, Nat.one_ne_zero, decide_true, decide_false, beq_self_eq_true, Int.reduceBEq, Int.reduceLT, Int.reduceLE, Int.reduceAdd, Int.reduceSub, Int.reduceNeg, G, CL]]
      show evSs (CL n) (bdy.drop 0) _ = _
      rw [step_nx 0 (by decide) e0, step_nx 1 (by decide) e1, step_nx 2 (by decide) (L2_ hn gt gv'), step_nx 3 (by decide) (L3a (by rw [List.length_map]; omega)), step_nx 4 (by decide) (L4a (by rw [List.length_map]; omega)), step_nx 5 (by decide) (L5 gt)]
      refine (step_nx 6 (by decide) e6).trans ?_
      refine (step_nx 7 (by decide) e7).trans ?_
      refine (step_nx 8 (by decide) (L8 hn g)).trans ?_
      rw [List.map_append, List.map_append, row_any]
      unfold bdy b32
      simp only [evSs_cons, evSs_nil, evS, ev, evB, evF, evA, evP, evM, evI, evO, rb_ok, rb_ex, ro_ok, ro_ex, rn_ok, op_so, td_v, td_l, td_ex, ts_b, ts_l, ts_t, ts_i, Z.pk_nil, pk_v, pk_l, pk_i, ih_v, ih_l, ih_d, fz_v, fz_l, sq_nx, sq_rt, sq_ex, rs_rt, rs_nx, rs_ex, of_so, st_def, st_tup, st_lst, cb_ok, cb_ex, fin_ok, fin_ex, p_isi, p_lenT, p_lenL, p_int, p_intB, p_abs, p_add, p_sub, p_neg, p_lt, p_gt, p_le, p_ge, p_max, p_min, p_isN, p_notN, p_tupL, p_tupT, p_lstL, p_lstT, p_rev, ix0L, ix0T, ix1L, ix1T, ix2L, ix2T, pu0, pu1, pu2, ft0, ft1, ft2, ft3, ft4, fl0, fl1, fl2, fl3, fl4, fl5, fl6, fl7, fl8, fl9, fl10, fl11, ca_rt, ca_nx, io_i, ap_S, il_l, p_addS, p_addU, Nat.reduceLeDiff, sl_L, Int.natCast_zero, Int.natCast_one, Int.cast_ofNat_Int, sm0, sm1, sm2, p_eqI, p_neI, p_eqB, p_neB, p_eqS, p_neS, Option.map_some, Option.bind_some, slot, setS, setTs, isOw, Z.fill, unfill, owV, outs, outsA, List.getD_cons_zero, List.getD_cons_succ, List.set_cons_zero, List.set_cons_succ, List.length_cons, List.length_nil, List.any_cons, List.any_nil, List.append_nil, List.nil_append, List.cons_append, List.map_cons, List.map_nil, isTy, Bool.or_false, Bool.or_true, Bool.false_or, Bool.true_or, Bool.not_true, Bool.not_false, Bool.true_and, Bool.false_and, Bool.and_true, Bool.and_false, if_true, if_false, Bool.false_eq_true, reduceIte, List.not_mem_nil, List.mem_cons, or_false, false_or, not_false_eq_true, not_true_eq_false, and_true, and_false, and_self, true_and, Nat.reduceLT, Nat.reduceAdd, Nat.zero_add, Nat.lt_add_one, Nat.reduceEqDiff, Nat.lt_add_left_iff_pos, Nat.zero_lt_succ, Nat.zero_lt_one, Nat.succ_ne_self, reduceCtorEq, Nat.zero_ne_one, Nat.one_ne_zero, decide_true, decide_false, beq_self_eq_true, Int.reduceBEq, Int.reduceLT, Int.reduceLE, Int.reduceAdd, Int.reduceSub, Int.reduceNeg, Ss.nth, Ss.drop]
      try rfl
    · intro r hr
      rcases List.mem_append.mp hr with h | h
      · exact hrs r h
      · rw [List.mem_singleton.mp h]; exact g
end
end K03
end
section
set_option Elab.async false
set_option linter.all false
set_option maxRecDepth 100000
namespace K03
open Z PySem
theorem c8n {d : D} (n : Nat) : ∀ c f p s, callN pg (n + 5) 8 [.v (.tuple ((nm c f p s).map eN).reverse)] = .ok (.v (.bool false)) [.hole] := by
  intro c f p s
  cases c <;> cases f <;> cases p <;> cases s <;> kernel_rfl
theorem c17N (n : Nat) : ∀ c f p s, callN pg (n + 8) 17 [.v (eNs (nm c f p s))] = .ok (.v (.bool false)) [.hole] := by
  intro c f p s
  cases c <;> cases f <;> cases p <;> cases s <;> kernel_rfl
theorem c17E (n : Nat) : callN pg (n + 8) 17 [.v (.tuple [.tuple [], .tuple []])] = .ok (.v (.bool true)) [.hole] := by kernel_rfl
set_option maxHeartbeats 4000000 in
theorem L13 (n : Nat) {a b d e f' g h i j k l m' q r t u : O} : ∀ c f p s, (evSs (CL (n + 12)) (b32.drop 13) (G a b (.v (eNs (nm c f p s))) d e f' g h i j k l m' q r t u)).res [] 1 = .ok (.v (.bool true)) [.hole] := by
  intro c f p s
  cases c <;> cases f <;> cases p <;> cases s <;> kernel_rfl
end K03
end
section
set_option Elab.async false
set_option linter.all false
set_option maxRecDepth 100000
namespace K03
open Z PySem
theorem tup_eNs (N : List Nm) : tupD (eNs N) = eNs N := by
  unfold eNs
  rw [tupD, tupDs_map, List.map_map]
  rfl
theorem dp_eNs {N : List Nm} (hN : IsN N) : dp (eNs N) ≤ 20 := all_nm (P := fun N => dp (eNs N) ≤ 20) (by intro c f p s; cases c <;> cases f <;> cases p <;> cases s <;> decide +kernel) hN
theorem nd_eNs {N : List Nm} (hN : IsN N) : nd (eNs N) = true := all_nm (P := fun N => nd (eNs N) = true) (by intro c f p s; cases c <;> cases f <;> cases p <;> cases s <;> decide +kernel) hN
theorem dpAll_le {xs : List D} {k : Nat} (h : ∀ d ∈ xs, dp d ≤ k) : dpAll xs ≤ k := by
  induction xs with
  | nil => exact Nat.zero_le _
  | cons x xs ih =>
    unfold dpAll
    have h1 := h x List.mem_cons_self
    have h2 := ih fun d hd => h d (List.mem_cons_of_mem _ hd)
    omega
theorem nds_of {xs : List D} (h : ∀ d ∈ xs, nd d = true) : nds xs = true := by
  induction xs with
  | nil => rfl
  | cons x xs ih =>
    unfold nds
    rw [h x List.mem_cons_self, ih fun d hd => h d (List.mem_cons_of_mem _ hd)]
    rfl
theorem dp_rows {N : List Nm} {rs : List Row} (h : ∀ r ∈ rs, GdR N r) : dp (.list (rs.map Row.e)) ≤ 22 := by
  unfold dp
  have : dpAll (rs.map Row.e) ≤ 21 := dpAll_le fun d hd => by
    obtain ⟨r, hr, rfl⟩ := List.mem_map.mp hd
    have h1 := dp_e r.t
    have h2 := dp_e r.u
    have := (h r hr).t.sz
    have := (h r hr).u.sz
    simp only [Row.e, dp, dpAll]
    omega
  omega
theorem dp_dues {N : List Nm} {rs : List Row} (h : ∀ r ∈ rs, GdR N r) : dpAll (rs.map (Row.due N)) ≤ 21 := dpAll_le fun d hd => by
  obtain ⟨r, hr, rfl⟩ := List.mem_map.mp hd
  exact dp_due (h r hr)
theorem nd_dues {N : List Nm} (rs : List Row) : nds (rs.map (Row.due N)) = true := nds_of fun d hd => by
  obtain ⟨r, hr, rfl⟩ := List.mem_map.mp hd
  exact nd_due r
def book (N : List Nm) (rs : List Row) : D := .tuple [eNs N, .tuple (rs.map (Row.due N))]
/-- what is_book and book_of tell -/
def tellB (N : List Nm) (rs : List Row) : List D := [if rs.any (Row.bad N) then .str "unfit" else book N rs, .bool (!rs.any (Row.bad N)), .bool false, .bool false, .bool false, .bool false, .bool true]
theorem lis_rows (rs : List Row) : lisD (.list (rs.map Row.e)) = .list (rs.map fun r => lisD r.e) := by
  rw [lisD, lisDs_map, List.map_map]
  rfl
section
variable {N : List Nm} {n : Nat} {K : Nat} {o : O} {sc rows due bad lap got one things wrong other price near far own : O}
theorem c17L (n : Nat) (xs : List D) : callN pg (n + 2) 17 [.v (.list xs)] = .ok (.v (.bool false)) [.hole] := by
  rw [callN_of [.v (.list xs), .hole] b17 [] 1 (d := f17) rfl]
  unfold b17
  simp only [evSs_cons, evSs_nil, evS, ev, evB, evF, evA, evP, evM, evI, evO, rb_ok, rb_ex, ro_ok, ro_ex, rn_ok, op_so, td_v, td_l, td_ex, ts_b, ts_l, ts_t, ts_i, Z.pk_nil, pk_v, pk_l, pk_i, ih_v, ih_l, ih_d, fz_v, fz_l, sq_nx, sq_rt, sq_ex, rs_rt, rs_nx, rs_ex, of_so, st_def, st_tup, st_lst, cb_ok, cb_ex, fin_ok, fin_ex, p_isi, p_lenT, p_lenL, p_int, p_intB, p_abs, p_add, p_sub, p_neg, p_lt, p_gt, p_le, p_ge, p_max, p_min, p_isN, p_notN, p_tupL, p_tupT, p_lstL, p_lstT, p_rev, ix0L, ix0T, ix1L, ix1T, ix2L, ix2T, pu0, pu1, pu2, ft0, ft1, ft2, ft3, ft4, fl0, fl1, fl2, fl3, fl4, fl5, fl6, fl7, fl8, fl9, fl10, fl11, ca_rt, ca_nx, io_i, ap_S, il_l, p_addS, p_addU, Nat.reduceLeDiff, sl_L, Int.natCast_zero, Int.natCast_one, Int.cast_ofNat_Int, sm0, sm1, sm2, p_eqI, p_neI, p_eqB, p_neB, p_eqS, p_neS, Option.map_some, Option.bind_some, slot, setS, setTs, isOw, Z.fill, unfill, owV, outs, outsA, List.getD_cons_zero, List.getD_cons_succ, List.set_cons_zero, List.set_cons_succ, List.length_cons, List.length_nil, List.any_cons, List.any_nil, List.append_nil, List.nil_append, List.cons_append, List.map_cons, List.map_nil, isTy, Bool.or_false, Bool.or_true, Bool.false_or, Bool.true_or, Bool.not_true, Bool.not_false, Bool.true_and, Bool.false_and, Bool.and_true, Bool.and_false, if_true, if_false, Bool.false_eq_true, reduceIte, List.not_mem_nil, List.mem_cons, or_false, false_or, not_false_eq_true, not_true_eq_false, and_true, and_false, and_self, true_and, Nat.reduceLT, Nat.reduceAdd, Nat.zero_add, Nat.lt_add_one, Nat.reduceEqDiff, Nat.lt_add_left_iff_pos, Nat.zero_lt_succ, Nat.zero_lt_one, Nat.succ_ne_self, reduceCtorEq, Nat.zero_ne_one, Nat.one_ne_zero, decide_true, decide_false, beq_self_eq_true, Int.reduceBEq, Int.reduceLT, Int.reduceLE, Int.reduceAdd, Int.reduceSub, Int.reduceNeg, c3n (d := .list xs) (h := rfl)]
theorem c17TL (hN : IsN N) (n : Nat) (xs : List D) : callN pg (n + 6) 17 [.v (.tuple [eNs N, .list xs])] = .ok (.v (.bool false)) [.hole] := by
  have h8 : callN pg (n + 5) 8 [.v (eNs N)] = .ok (.v (.bool true)) [.hole] := c8 n hN
  rw [callN_of [.v (.tuple [eNs N, .list xs]), .hole] b17 [] 1 (d := f17) rfl]
  unfold b17
  simp only [evSs_cons, evSs_nil, evS, ev, evB, evF, evA, evP, evM, evI, evO, rb_ok, rb_ex, ro_ok, ro_ex, rn_ok, op_so, td_v, td_l, td_ex, ts_b, ts_l, ts_t, ts_i, Z.pk_nil, pk_v, pk_l, pk_i, ih_v, ih_l, ih_d, fz_v, fz_l, sq_nx, sq_rt, sq_ex, rs_rt, rs_nx, rs_ex, of_so, st_def, st_tup, st_lst, cb_ok, cb_ex, fin_ok, fin_ex, p_isi, p_lenT, p_lenL, p_int, p_intB, p_abs, p_add, p_sub, p_neg, p_lt, p_gt, p_le, p_ge, p_max, p_min, p_isN, p_notN, p_tupL, p_tupT, p_lstL, p_lstT, p_rev, ix0L, ix0T, ix1L, ix1T, ix2L, ix2T, pu0, pu1, pu2, ft0, ft1, ft2, ft3, ft4, fl0, fl1, fl2, fl3, fl4, fl5, fl6, fl7, fl8, fl9, fl10, fl11, ca_rt, ca_nx, io_i, ap_S, il_l, p_addS, p_addU, Nat.reduceLeDiff, sl_L, Int.natCast_zero, Int.natCast_one, Int.cast_ofNat_Int, sm0, sm1, sm2, p_eqI, p_neI, p_eqB, p_neB, p_eqS, p_neS, Option.map_some, Option.bind_some, slot, setS, setTs, isOw, Z.fill, unfill, owV, outs, outsA, List.getD_cons_zero, List.getD_cons_succ, List.set_cons_zero, List.set_cons_succ, List.length_cons, List.length_nil, List.any_cons, List.any_nil, List.append_nil, List.nil_append, List.cons_append, List.map_cons, List.map_nil, isTy, Bool.or_false, Bool.or_true, Bool.false_or, Bool.true_or, Bool.not_true, Bool.not_false, Bool.true_and, Bool.false_and, Bool.and_true, Bool.and_false, if_true, if_false, Bool.false_eq_true, reduceIte, List.not_mem_nil, List.mem_cons, or_false, false_or, not_false_eq_true, not_true_eq_false, and_true, and_false, and_self, true_and, Nat.reduceLT, Nat.reduceAdd, Nat.zero_add, Nat.lt_add_one, Nat.reduceEqDiff, Nat.lt_add_left_iff_pos, Nat.zero_lt_succ, Nat.zero_lt_one, Nat.succ_ne_self, reduceCtorEq, Nat.zero_ne_one, Nat.one_ne_zero, decide_true, decide_false, beq_self_eq_true, Int.reduceBEq, Int.reduceLT, Int.reduceLE, Int.reduceAdd, Int.reduceSub, Int.reduceNeg, c3_2, h8]
theorem c17R (hN : IsN N) (n : Nat) (xs : List D) : callN pg (n + 6) 17 [.v (.tuple [.tuple (N.map eN).reverse, .tuple xs])] = .ok (.v (.bool false)) [.hole] := by
  have h8 : callN pg (n + 5) 8 [.v (.tuple (N.map eN).reverse)] = .ok (.v (.bool false)) [.hole] := all_nm (P := fun N => callN pg (n + 5) 8 [.v (.tuple (N.map eN).reverse)] = .ok (.v (.bool false)) [.hole]) (c8n (d := .none) n) hN
  rw [callN_of [.v (.tuple [.tuple (N.map eN).reverse, .tuple xs]), .hole] b17 [] 1 (d := f17) rfl]
  unfold b17
  simp only [evSs_cons, evSs_nil, evS, ev, evB, evF, evA, evP, evM, evI, evO, rb_ok, rb_ex, ro_ok, ro_ex, rn_ok, op_so, td_v, td_l, td_ex, ts_b, ts_l, ts_t, ts_i, Z.pk_nil, pk_v, pk_l, pk_i, ih_v, ih_l, ih_d, fz_v, fz_l, sq_nx, sq_rt, sq_ex, rs_rt, rs_nx, rs_ex, of_so, st_def, st_tup, st_lst, cb_ok, cb_ex, fin_ok, fin_ex, p_isi, p_lenT, p_lenL, p_int, p_intB, p_abs, p_add, p_sub, p_neg, p_lt, p_gt, p_le, p_ge, p_max, p_min, p_isN, p_notN, p_tupL, p_tupT, p_lstL, p_lstT, p_rev, ix0L, ix0T, ix1L, ix1T, ix2L, ix2T, pu0, pu1, pu2, ft0, ft1, ft2, ft3, ft4, fl0, fl1, fl2, fl3, fl4, fl5, fl6, fl7, fl8, fl9, fl10, fl11, ca_rt, ca_nx, io_i, ap_S, il_l, p_addS, p_addU, Nat.reduceLeDiff, sl_L, Int.natCast_zero, Int.natCast_one, Int.cast_ofNat_Int, sm0, sm1, sm2, p_eqI, p_neI, p_eqB, p_neB, p_eqS, p_neS, Option.map_some, Option.bind_some, slot, setS, setTs, isOw, Z.fill, unfill, owV, outs, outsA, List.getD_cons_zero, List.getD_cons_succ, List.set_cons_zero, List.set_cons_succ, List.length_cons, List.length_nil, List.any_cons, List.any_nil, List.append_nil, List.nil_append, List.cons_append, List.map_cons, List.map_nil, isTy, Bool.or_false, Bool.or_true, Bool.false_or, Bool.true_or, Bool.not_true, Bool.not_false, Bool.true_and, Bool.false_and, Bool.and_true, Bool.and_false, if_true, if_false, Bool.false_eq_true, reduceIte, List.not_mem_nil, List.mem_cons, or_false, false_or, not_false_eq_true, not_true_eq_false, and_true, and_false, and_self, true_and, Nat.reduceLT, Nat.reduceAdd, Nat.zero_add, Nat.lt_add_one, Nat.reduceEqDiff, Nat.lt_add_left_iff_pos, Nat.zero_lt_succ, Nat.zero_lt_one, Nat.succ_ne_self, reduceCtorEq, Nat.zero_ne_one, Nat.one_ne_zero, decide_true, decide_false, beq_self_eq_true, Int.reduceBEq, Int.reduceLT, Int.reduceLE, Int.reduceAdd, Int.reduceSub, Int.reduceNeg, c3_2, h8]
theorem p_revN : prF .rev [eNs N] = some (.v (.tuple (N.map eN).reverse)) := rfl
theorem L4 {rs : List Row} {bk : O} : evS (CL n) (b32.nth 4) (G sc o (.v (eNs N)) rows (.lst (rs.map (Row.due N))) bad lap bk got one things wrong other price near far own) =
    .nx (G sc o (.v (eNs N)) rows (.lst (rs.map (Row.due N))) bad lap (.v (book N rs)) got one things wrong other price near far own) := by
  unfold b32
  simp only [evSs_cons, evSs_nil, evS, ev, evB, evF, evA, evP, evM, evI, evO, rb_ok, rb_ex, ro_ok, ro_ex, rn_ok, op_so, td_v, td_l, td_ex, ts_b, ts_l, ts_t, ts_i, Z.pk_nil, pk_v, pk_l, pk_i, ih_v, ih_l, ih_d, fz_v, fz_l, sq_nx, sq_rt, sq_ex, rs_rt, rs_nx, rs_ex, of_so, st_def, st_tup, st_lst, cb_ok, cb_ex, fin_ok, fin_ex, p_isi, p_lenT, p_lenL, p_int, p_intB, p_abs, p_add, p_sub, p_neg, p_lt, p_gt, p_le, p_ge, p_max, p_min, p_isN, p_notN, p_tupL, p_tupT, p_lstL, p_lstT, p_rev, ix0L, ix0T, ix1L, ix1T, ix2L, ix2T, pu0, pu1, pu2, ft0, ft1, ft2, ft3, ft4, fl0, fl1, fl2, fl3, fl4, fl5, fl6, fl7, fl8, fl9, fl10, fl11, ca_rt, ca_nx, io_i, ap_S, il_l, p_addS, p_addU, Nat.reduceLeDiff, sl_L, Int.natCast_zero, Int.natCast_one, Int.cast_ofNat_Int, sm0, sm1, sm2, p_eqI, p_neI, p_eqB, p_neB, p_eqS, p_neS, Option.map_some, Option.bind_some, slot, setS, setTs, isOw, Z.fill, unfill, owV, outs, outsA, List.getD_cons_zero, List.getD_cons_succ, List.set_cons_zero, List.set_cons_succ, List.length_cons, List.length_nil, List.any_cons, List.any_nil, List.append_nil, List.nil_append, List.cons_append, List.map_cons, List.map_nil, isTy, Bool.or_false, Bool.or_true, Bool.false_or, Bool.true_or, Bool.not_true, Bool.not_false, Bool.true_and, Bool.false_and, Bool.and_true, Bool.and_false, if_true, if_false, Bool.false_eq_true, reduceIte, List.not_mem_nil, List.mem_cons, or_false, false_or, not_false_eq_true, not_true_eq_false, and_true, and_false, and_self, true_and, Nat.reduceLT, Nat.reduceAdd, Nat.zero_add, Nat.lt_add_one, Nat.reduceEqDiff, Nat.lt_add_left_iff_pos, Nat.zero_lt_succ, Nat.zero_lt_one, Nat.succ_ne_self, reduceCtorEq, Nat.zero_ne_one, Nat.one_ne_zero, decide_true, decide_false, beq_self_eq_true, Int.reduceBEq, Int.reduceLT, Int.reduceLE, Int.reduceAdd, Int.reduceSub, Int.reduceNeg, Ss.nth, G, CL, book]
theorem L56 (hN : IsN N) (h : Ur K o) (hK : K + 100 < 1000000) (hn : 50 ≤ n) {rs : List Row} (g : ∀ r ∈ rs, GdR N r) : ∃ o', evSs (CL n) (b32.drop 5) (G sc o (.v (eNs N)) (.lst (rs.map Row.e)) (.lst (rs.map (Row.due N))) bad lap (.v (book N rs)) got one things wrong other price near far own) =
    evSs (CL n) (b32.drop 7) (G sc o' (.v (eNs N)) (.v (.list (rs.map Row.e))) (.lst (rs.map (Row.due N))) bad lap (.v (book N rs)) (.lst (tellB N rs)) one things wrong other price near far own) ∧ Ur (K + 2) o' := by
  obtain ⟨m, rfl⟩ : ∃ m, n = m + 8 := ⟨n - 8, by omega⟩
  obtain ⟨q, o1, h26, hq, u1⟩ := c26 h (by omega) (d := eNs N) (n := m + 8) (by have := dp_eNs hN; omega)
  obtain ⟨q', o2, h26', hq', u2⟩ := c26 u1 (by omega) (d := .list (rs.map Row.e)) (n := m + 8) (by have := dp_rows g; omega)
  refine ⟨o2, ?_, u2⟩
  have a1 := c17 hN g (n := m + 8) (by omega)
  have a2 : ∀ xs : List D, callN pg (m + 8) 17 [.v (.list xs)] = .ok (.v (.bool false)) [.hole] := fun xs => c17L (m + 6) xs
  have a3 : ∀ xs : List D, callN pg (m + 8) 17 [.v (.tuple [eNs N, .list xs])] = .ok (.v (.bool false)) [.hole] := fun xs => c17TL hN (m + 2) xs
  have a4 : ∀ xs : List D, callN pg (m + 8) 17 [.v (.tuple [.tuple (N.map eN).reverse, .tuple xs])] = .ok (.v (.bool false)) [.hole] := fun xs => c17R hN (m + 2) xs
  have a5 : callN pg (m + 8) 17 [.v (eNs N)] = .ok (.v (.bool false)) [.hole] := all_nm (P := fun N => callN pg (m + 8) 17 [.v (eNs N)] = .ok (.v (.bool false)) [.hole]) (c17N m) hN
  have a6 : callN pg (m + 8) 17 [.v (.tuple [.tuple [], .tuple []])] = .ok (.v (.bool true)) [.hole] := c17E m
  have e5 : evS (CL (m + 8)) (b32.nth 5) (G sc o (.v (eNs N)) (.lst (rs.map Row.e)) (.lst (rs.map (Row.due N))) bad lap (.v (book N rs)) got one things wrong other price near far own) =
    .nx (G sc o2 (.v (eNs N)) (.v (.list (rs.map Row.e))) (.lst (rs.map (Row.due N))) bad lap (.v (book N rs)) (.lst [if rs.any (Row.bad N) then .str "unfit" else book N rs, .bool (!rs.any (Row.bad N)), .bool false, .bool false]) one things wrong other price near far own) := by
    have t1 : ∀ r ∈ rs, TellsR (Row.e r) r := fun r hr => ⟨r.t.e, r.u.e, .inl rfl, (g r hr).t.self, (g r hr).u.self⟩
    have t2 : ∀ r ∈ rs, TellsR (lisD (Row.e r)) r := fun r hr => ⟨lisD r.t.e, lisD r.u.e, .inr rfl, tells_lis (g r hr).t, tells_lis (g r hr).u⟩
    have s1 := c31b hN g t1 (tup_eNs N) (dp_eNs hN) (n := m + 8) (by omega)
    have s2 := c31b hN g t2 (tup_eNs N) (dp_eNs hN) (n := m + 8) (by omega)
    have s3 := c31b hN g t1 (d := lisD (eNs N)) (by rw [tup_lis, tup_eNs]) (by rw [dp_lis]; exact dp_eNs hN) (n := m + 8) (by omega)
    have s4 := c31b hN g t2 (d := lisD (eNs N)) (by rw [tup_lis, tup_eNs]) (by rw [dp_lis]; exact dp_eNs hN) (n := m + 8) (by omega)
    rcases hq with hq | hq <;> rcases hq' with hq' | hq' <;> subst hq <;> subst hq' <;> (try rw [lis_rows] at h26') <;> unfold book <;> unfold b32 <;> simp only [evSs_cons, evSs_nil, evS, ev, evB, evF, evA, evP, evM, evI, evO, rb_ok, rb_ex, ro_ok, ro_ex, rn_ok, op_so, td_v, td_l, td_ex, ts_b, ts_l, ts_t, ts_i, Z.pk_nil, pk_v, pk_l, pk_i, ih_v, ih_l, ih_d, fz_v, fz_l, sq_nx, sq_rt, sq_ex, rs_rt, rs_nx, rs_ex, of_so, st_def, st_tup, st_lst, cb_ok, cb_ex, fin_ok, fin_ex, p_isi, p_lenT, p_lenL, p_int, p_intB, p_abs, p_add, p_sub, p_neg, p_lt, p_gt, p_le, p_ge, p_max, p_min, p_isN, p_notN, p_tupL, p_tupT, p_lstL, p_lstT, p_rev, ix0L, ix0T, ix1L, ix1T, ix2L, ix2T, pu0, pu1, pu2, ft0, ft1, ft2, ft3, ft4, fl0, fl1, fl2, fl3, fl4, fl5, fl6, fl7, fl8, fl9, fl10, fl11, ca_rt, ca_nx, io_i, ap_S, il_l, p_addS, p_addU, Nat.reduceLeDiff, sl_L, Int.natCast_zero, Int.natCast_one, Int.cast_ofNat_Int, sm0, sm1, sm2, p_eqI, p_neI, p_eqB, p_neB, p_eqS, p_neS, Option.map_some, Option.bind_some, slot, setS, setTs, isOw, Z.fill, unfill, owV, outs, outsA, List.getD_cons_zero, List.getD_cons_succ, List.set_cons_zero, List.set_cons_succ, List.length_cons, List.length_nil, List.any_cons, List.any_nil, List.append_nil, List.nil_append, List.cons_append, List.map_cons, List.map_nil, isTy, Bool.or_false, Bool.or_true, Bool.false_or, Bool.true_or, Bool.not_true, Bool.not_false, Bool.true_and, Bool.false_and, Bool.and_true, Bool.and_false, if_true, if_false, Bool.false_eq_true, reduceIte, List.not_mem_nil, List.mem_cons, or_false, false_or, not_false_eq_true, not_true_eq_false, and_true, and_false, and_self, true_and, Nat.reduceLT, Nat.reduceAdd, Nat.zero_add, Nat.lt_add_one, Nat.reduceEqDiff, Nat.lt_add_left_iff_pos, Nat.zero_lt_succ, Nat.zero_lt_one, Nat.succ_ne_self, reduceCtorEq, Nat.zero_ne_one, Nat.one_ne_zero, decide_true, decide_false, beq_self_eq_true, Int.reduceBEq, Int.reduceLT, Int.reduceLE, Int.reduceAdd, Int.reduceSub, Int.reduceNeg, Ss.nth, G, CL, h.nh, u1.nh, h26, h26', td_of, s1, s2, s3, s4, a1, a2, a3] <;> try rfl
  have e6 : evS (CL (m + 8)) (b32.nth 6) (G sc o2 (.v (eNs N)) (.v (.list (rs.map Row.e))) (.lst (rs.map (Row.due N))) bad lap (.v (book N rs)) (.lst [if rs.any (Row.bad N) then .str "unfit" else book N rs, .bool (!rs.any (Row.bad N)), .bool false, .bool false]) one things wrong other price near far own) =
    .nx (G sc o2 (.v (eNs N)) (.v (.list (rs.map Row.e))) (.lst (rs.map (Row.due N))) bad lap (.v (book N rs)) (.lst (tellB N rs)) one things wrong other price near far own) := by
    unfold b32 tellB
    simp only [evSs_cons, evSs_nil, evS, ev, evB, evF, evA, evP, evM, evI, evO, rb_ok, rb_ex, ro_ok, ro_ex, rn_ok, op_so, td_v, td_l, td_ex, ts_b, ts_l, ts_t, ts_i, Z.pk_nil, pk_v, pk_l, pk_i, ih_v, ih_l, ih_d, fz_v, fz_l, sq_nx, sq_rt, sq_ex, rs_rt, rs_nx, rs_ex, of_so, st_def, st_tup, st_lst, cb_ok, cb_ex, fin_ok, fin_ex, p_isi, p_lenT, p_lenL, p_int, p_intB, p_abs, p_add, p_sub, p_neg, p_lt, p_gt, p_le, p_ge, p_max, p_min, p_isN, p_notN, p_tupL, p_tupT, p_lstL, p_lstT, p_rev, ix0L, ix0T, ix1L, ix1T, ix2L, ix2T, pu0, pu1, pu2, ft0, ft1, ft2, ft3, ft4, fl0, fl1, fl2, fl3, fl4, fl5, fl6, fl7, fl8, fl9, fl10, fl11, ca_rt, ca_nx, io_i, ap_S, il_l, p_addS, p_addU, Nat.reduceLeDiff, sl_L, Int.natCast_zero, Int.natCast_one, Int.cast_ofNat_Int, sm0, sm1, sm2, p_eqI, p_neI, p_eqB, p_neB, p_eqS, p_neS, Option.map_some, Option.bind_some, slot, setS, setTs, isOw, Z.fill, unfill, owV, outs, outsA, List.getD_cons_zero, List.getD_cons_succ, List.set_cons_zero, List.set_cons_succ, List.length_cons, List.length_nil, List.any_cons, List.any_nil, List.append_nil, List.nil_append, List.cons_append, List.map_cons, List.map_nil, isTy, Bool.or_false, Bool.or_true, Bool.false_or, Bool.true_or, Bool.not_true, Bool.not_false, Bool.true_and, Bool.false_and, Bool.and_true, Bool.and_false, if_true, if_false, Bool.false_eq_true, reduceIte, List.not_mem_nil, List.mem_cons, or_false, false_or, not_false_eq_true, not_true_eq_false, and_true, and_false, and_self, true_and, Nat.reduceLT, Nat.reduceAdd, Nat.zero_add, Nat.lt_add_one, Nat.reduceEqDiff, Nat.lt_add_left_iff_pos, Nat.zero_lt_succ, Nat.zero_lt_one, Nat.succ_ne_self, reduceCtorEq, Nat.zero_ne_one, Nat.one_ne_zero, decide_true, decide_false, beq_self_eq_true, Int.reduceBEq, Int.reduceLT, Int.reduceLE, Int.reduceAdd, Int.reduceSub, Int.reduceNeg, Ss.nth, G, CL, p_revN, a4, a5, a6]
  rw [step_nx 5 (by decide) e5, step_nx 6 (by decide) e6]
end
end K03
end
section
set_option Elab.async false
set_option linter.all false
set_option maxRecDepth 100000
namespace K03
open Z PySem
section
variable {N : List Nm} {n : Nat} {K : Nat} {o : O} {sc rows due bad lap bk got one things wrong other price near far own : O}
theorem nd_book (hN : IsN N) (rs : List Row) : nd (book N rs) = true := by
  unfold book
  simp only [nd, nds, nd_eNs hN, nd_dues]
  rfl
theorem dp_book (hN : IsN N) {rs : List Row} (g : ∀ r ∈ rs, GdR N r) : dp (book N rs) ≤ 25 := by
  have h1 := dp_eNs hN
  have h2 := dp_dues g
  unfold book
  simp only [dp, dpAll] at *
  omega
theorem same_tellB (hN : IsN N) (hn : 50 ≤ n) {rs : List Row} (g : ∀ r ∈ rs, GdR N r) : callN pg n 24 [.v (.list (tellB N rs)), .v (.list (tellB N rs))] = .ok (.v (.bool true)) [.hole, .hole] := by
  refine c24 n _ ?_ ?_
  · unfold tellB
    cases rs.any (Row.bad N) <;> simp [nd, nds, nd_book hN]
  · unfold tellB
    have := dp_book hN g
    cases rs.any (Row.bad N) <;> simp [dp, dpAll] <;> omega
theorem L7 (hN : IsN N) (hn : 50 ≤ n) {rs : List Row} (g : ∀ r ∈ rs, GdR N r) {x : O} : ∃ got', evS (CL n) (b32.nth 7) (G sc o x rows due (.v (.bool (rs.any (Row.bad N)))) lap (.v (book N rs)) (.lst (tellB N rs)) one things wrong other price near far own) =
    .nx (G sc o x rows due (.v (.bool (rs.any (Row.bad N)))) lap (.v (book N rs)) got' one things wrong other price near far own) := by
  have h := same_tellB hN hn g
  refine ⟨.v (.list (tellB N rs)), ?_⟩
  unfold tellB at *
  cases q : rs.any (Row.bad N) <;> simp only [q, Bool.not_true, Bool.not_false, if_true, if_false, Bool.false_eq_true] at h ⊢ <;> unfold b32 <;> simp only [evSs_cons, evSs_nil, evS, ev, evB, evF, evA, evP, evM, evI, evO, rb_ok, rb_ex, ro_ok, ro_ex, rn_ok, op_so, td_v, td_l, td_ex, ts_b, ts_l, ts_t, ts_i, Z.pk_nil, pk_v, pk_l, pk_i, ih_v, ih_l, ih_d, fz_v, fz_l, sq_nx, sq_rt, sq_ex, rs_rt, rs_nx, rs_ex, of_so, st_def, st_tup, st_lst, cb_ok, cb_ex, fin_ok, fin_ex, p_isi, p_lenT, p_lenL, p_int, p_intB, p_abs, p_add, p_sub, p_neg, p_lt, p_gt, p_le, p_ge, p_max, p_min, p_isN, p_notN, p_tupL, p_tupT, p_lstL, p_lstT, p_rev, ix0L, ix0T, ix1L, ix1T, ix2L, ix2T, pu0, pu1, pu2, ft0, ft1, ft2, ft3, ft4, fl0, fl1, fl2, fl3, fl4, fl5, fl6, fl7, fl8, fl9, fl10, fl11, ca_rt, ca_nx, io_i, ap_S, il_l, p_addS, p_addU, Nat.reduceLeDiff, sl_L, Int.natCast_zero, Int.natCast_one, Int.cast_ofNat_Int, sm0, sm1, sm2, p_eqI, p_neI, p_eqB, p_neB, p_eqS, p_neS, Option.map_some, Option.bind_some, slot, setS, setTs, isOw, Z.fill, unfill, owV, outs, outsA, List.getD_cons_zero, List.getD_cons_succ, List.set_cons_zero, List.set_cons_succ, List.length_cons, List.length_nil, List.any_cons, List.any_nil, List.append_nil, List.nil_append, List.cons_append, List.map_cons, List.map_nil, isTy, Bool.or_false, Bool.or_true, Bool.false_or, Bool.true_or, Bool.not_true, Bool.not_false, Bool.true_and, Bool.false_and, Bool.and_true, Bool.and_false, if_true, if_false, Bool.false_eq_true, reduceIte, List.not_mem_nil, List.mem_cons, or_false, false_or, not_false_eq_true, not_true_eq_false, and_true, and_false, and_self, true_and, Nat.reduceLT, Nat.reduceAdd, Nat.zero_add, Nat.lt_add_one, Nat.reduceEqDiff, Nat.lt_add_left_iff_pos, Nat.zero_lt_succ, Nat.zero_lt_one, Nat.succ_ne_self, reduceCtorEq, Nat.zero_ne_one, Nat.one_ne_zero, decide_true, decide_false, beq_self_eq_true, Int.reduceBEq, Int.reduceLT, Int.reduceLE, Int.reduceAdd, Int.reduceSub, Int.reduceNeg, Ss.nth, G, CL, h]
theorem cut2 (a b c : D) : cutD [a, b, c] none (some 2) = [a, b] := rfl
theorem sl2 (a b c : D) : Z.f1 (fun d => fSlc d none (some 2)) [.tuple [a, b, c]] = some (.v (.tuple [a, b])) := sl_T (by intro h; exact absurd h.2 (by simp [HT.sIx]))
theorem L8b (hN : IsN N) (hn : 50 ≤ n) {rs : List Row} (g : ∀ r ∈ rs, GdR N r) : evS (CL n) (b32.nth 8) (G sc o (.v (eNs N)) (.v (.list (rs.map Row.e))) (.lst (rs.map (Row.due N))) (.v (.bool (rs.any (Row.bad N)))) lap bk got one things wrong other price near far own) =
    .nx (G sc o (.v (eNs N)) (.v (.list (rs.map Row.e))) (.lst (rs.map (Row.due N))) (.v (.bool (rs.any (Row.bad N)))) lap bk got one things wrong other price near far own) := by
  cases q : rs.any (Row.bad N) with
  | true =>
    unfold b32
    simp only [evSs_cons, evSs_nil, evS, ev, evB, evF, evA, evP, evM, evI, evO, rb_ok, rb_ex, ro_ok, ro_ex, rn_ok, op_so, td_v, td_l, td_ex, ts_b, ts_l, ts_t, ts_i, Z.pk_nil, pk_v, pk_l, pk_i, ih_v, ih_l, ih_d, fz_v, fz_l, sq_nx, sq_rt, sq_ex, rs_rt, rs_nx, rs_ex, of_so, st_def, st_tup, st_lst, cb_ok, cb_ex, fin_ok, fin_ex, p_isi, p_lenT, p_lenL, p_int, p_intB, p_abs, p_add, p_sub, p_neg, p_lt, p_gt, p_le, p_ge, p_max, p_min, p_isN, p_notN, p_tupL, p_tupT, p_lstL, p_lstT, p_rev, ix0L, ix0T, ix1L, ix1T, ix2L, ix2T, pu0, pu1, pu2, ft0, ft1, ft2, ft3, ft4, fl0, fl1, fl2, fl3, fl4, fl5, fl6, fl7, fl8, fl9, fl10, fl11, ca_rt, ca_nx, io_i, ap_S, il_l, p_addS, p_addU, Nat.reduceLeDiff, sl_L, Int.natCast_zero, Int.natCast_one, Int.cast_ofNat_Int, sm0, sm1, sm2, p_eqI, p_neI, p_eqB, p_neB, p_eqS, p_neS, Option.map_some, Option.bind_some, slot, setS, setTs, isOw, Z.fill, unfill, owV, outs, outsA, List.getD_cons_zero, List.getD_cons_succ, List.set_cons_zero, List.set_cons_succ, List.length_cons, List.length_nil, List.any_cons, List.any_nil, List.append_nil, List.nil_append, List.cons_append, List.map_cons, List.map_nil, isTy, Bool.or_false, Bool.or_true, Bool.false_or, Bool.true_or, Bool.not_true, Bool.not_false, Bool.true_and, Bool.false_and, Bool.and_true, Bool.and_false, if_true, if_false, Bool.false_eq_true, reduceIte, List.not_mem_nil, List.mem_cons, or_false, false_or, not_false_eq_true, not_true_eq_false, and_true, and_false, and_self, true_and, Nat.reduceLT, Nat.reduceAdd, Nat.zero_add, Nat.lt_add_one, Nat.reduceEqDiff, Nat.lt_add_left_iff_pos, Nat.zero_lt_succ, Nat.zero_lt_one, Nat.succ_ne_self, reduceCtorEq, Nat.zero_ne_one, Nat.one_ne_zero, decide_true, decide_false, beq_self_eq_true, Int.reduceBEq, Int.reduceLT, Int.reduceLE, Int.reduceAdd, Int.reduceSub, Int.reduceNeg, Ss.nth, G, CL]
  | false =>
    cases rs with
    | nil =>
      unfold b32
      simp only [evSs_cons, evSs_nil, evS, ev, evB, evF, evA, evP, evM, evI, evO, rb_ok, rb_ex, ro_ok, ro_ex, rn_ok, op_so, td_v, td_l, td_ex, ts_b, ts_l, ts_t, ts_i, Z.pk_nil, pk_v, pk_l, pk_i, ih_v, ih_l, ih_d, fz_v, fz_l, sq_nx, sq_rt, sq_ex, rs_rt, rs_nx, rs_ex, of_so, st_def, st_tup, st_lst, cb_ok, cb_ex, fin_ok, fin_ex, p_isi, p_lenT, p_lenL, p_int, p_intB, p_abs, p_add, p_sub, p_neg, p_lt, p_gt, p_le, p_ge, p_max, p_min, p_isN, p_notN, p_tupL, p_tupT, p_lstL, p_lstT, p_rev, ix0L, ix0T, ix1L, ix1T, ix2L, ix2T, pu0, pu1, pu2, ft0, ft1, ft2, ft3, ft4, fl0, fl1, fl2, fl3, fl4, fl5, fl6, fl7, fl8, fl9, fl10, fl11, ca_rt, ca_nx, io_i, ap_S, il_l, p_addS, p_addU, Nat.reduceLeDiff, sl_L, Int.natCast_zero, Int.natCast_one, Int.cast_ofNat_Int, sm0, sm1, sm2, p_eqI, p_neI, p_eqB, p_neB, p_eqS, p_neS, Option.map_some, Option.bind_some, slot, setS, setTs, isOw, Z.fill, unfill, owV, outs, outsA, List.getD_cons_zero, List.getD_cons_succ, List.set_cons_zero, List.set_cons_succ, List.length_cons, List.length_nil, List.any_cons, List.any_nil, List.append_nil, List.nil_append, List.cons_append, List.map_cons, List.map_nil, isTy, Bool.or_false, Bool.or_true, Bool.false_or, Bool.true_or, Bool.not_true, Bool.not_false, Bool.true_and, Bool.false_and, Bool.and_true, Bool.and_false, if_true, if_false, Bool.false_eq_true, reduceIte, List.not_mem_nil, List.mem_cons, or_false, false_or, not_false_eq_true, not_true_eq_false, and_true, and_false, and_self, true_and, Nat.reduceLT, Nat.reduceAdd, Nat.zero_add, Nat.lt_add_one, Nat.reduceEqDiff, Nat.lt_add_left_iff_pos, Nat.zero_lt_succ, Nat.zero_lt_one, Nat.succ_ne_self, reduceCtorEq, Nat.zero_ne_one, Nat.one_ne_zero, decide_true, decide_false, beq_self_eq_true, Int.reduceBEq, Int.reduceLT, Int.reduceLE, Int.reduceAdd, Int.reduceSub, Int.reduceNeg, Ss.nth, G, CL, show prF .ne [.list [], .list []] = some (.v (.bool false)) from by rw [p_ne (by rfl)]; rfl]
    | cons r rs =>
      have gr := g r List.mem_cons_self
      have hb : ¬ r.t.f N = r.u.f N := by
        intro e
        rw [List.any_cons, show r.bad N = true from decide_eq_true e] at q
        cases q
      have h18 := c18 hN gr.t gr.u gr.t.self gr.u.self 0 (n := n) (by omega)
      rw [if_neg hb] at h18
      have g0 : GdR N ⟨r.t, r.u, 0⟩ := ⟨gr.t, gr.u, Int.le_refl 0⟩
      have h24 := c24 n (Row.due N ⟨r.t, r.u, 0⟩) (nd_due _) (by have := dp_due g0; omega)
      have e1 : Row.e r = .tuple [r.t.e, r.u.e, .int r.p] := rfl
      have e2 : Row.due N r = .tuple [(r.t.f N).e, (r.u.f N).e, .int r.p] := rfl
      rw [show Row.due N ⟨r.t, r.u, 0⟩ = .tuple [(r.t.f N).e, (r.u.f N).e, .int 0] from rfl] at h24
      have n1 : prF .ne [.list (.tuple [r.t.e, r.u.e, .int r.p] :: rs.map Row.e), .list []] = some (.v (.bool true)) := by
        rw [p_ne (eqok_r (by decide))]
        simp [PyData.eqv, PyData.eqvAll]
      unfold b32
      simp only [evSs_cons, evSs_nil, evS, ev, evB, evF, evA, evP, evM, evI, evO, rb_ok, rb_ex, ro_ok, ro_ex, rn_ok, op_so, td_v, td_l, td_ex, ts_b, ts_l, ts_t, ts_i, Z.pk_nil, pk_v, pk_l, pk_i, ih_v, ih_l, ih_d, fz_v, fz_l, sq_nx, sq_rt, sq_ex, rs_rt, rs_nx, rs_ex, of_so, st_def, st_tup, st_lst, cb_ok, cb_ex, fin_ok, fin_ex, p_isi, p_lenT, p_lenL, p_int, p_intB, p_abs, p_add, p_sub, p_neg, p_lt, p_gt, p_le, p_ge, p_max, p_min, p_isN, p_notN, p_tupL, p_tupT, p_lstL, p_lstT, p_rev, ix0L, ix0T, ix1L, ix1T, ix2L, ix2T, pu0, pu1, pu2, ft0, ft1, ft2, ft3, ft4, fl0, fl1, fl2, fl3, fl4, fl5, fl6, fl7, fl8, fl9, fl10, fl11, ca_rt, ca_nx, io_i, ap_S, il_l, p_addS, p_addU, Nat.reduceLeDiff, sl_L, Int.natCast_zero, Int.natCast_one, Int.cast_ofNat_Int, sm0, sm1, sm2, p_eqI, p_neI, p_eqB, p_neB, p_eqS, p_neS, Option.map_some, Option.bind_some, slot, setS, setTs, isOw, Z.fill, unfill, owV, outs, outsA, List.getD_cons_zero, List.getD_cons_succ, List.set_cons_zero, List.set_cons_succ, List.length_cons, List.length_nil, List.any_cons, List.any_nil, List.append_nil, List.nil_append, List.cons_append, List.map_cons, List.map_nil, isTy, Bool.or_false, Bool.or_true, Bool.false_or, Bool.true_or, Bool.not_true, Bool.not_false, Bool.true_and, Bool.false_and, Bool.and_true, Bool.and_false, if_true, if_false, Bool.false_eq_true, reduceIte, List.not_mem_nil, List.mem_cons, or_false, false_or, not_false_eq_true, not_true_eq_false, and_true, and_false, and_self, true_and, Nat.reduceLT, Nat.reduceAdd, Nat.zero_add, Nat.lt_add_one, Nat.reduceEqDiff, Nat.lt_add_left_iff_pos, Nat.zero_lt_succ, Nat.zero_lt_one, Nat.succ_ne_self, reduceCtorEq, Nat.zero_ne_one, Nat.one_ne_zero, decide_true, decide_false, beq_self_eq_true, Int.reduceBEq, Int.reduceLT, Int.reduceLE, Int.reduceAdd, Int.reduceSub, Int.reduceNeg, Ss.nth, G, CL, e1, e2, n1, h18, sl2, h24]
theorem L9 (hN : IsN N) (h : Ur K o) (hK : K + 100 < 1000000) (hn : 40 ≤ n) : ∃ t o', Gd N t ∧ evS (CL n) (b32.nth 9) (G sc o (.v (eNs N)) rows due bad lap bk got one things wrong other price near far own) =
    .nx (G sc o' (.v (eNs N)) rows due bad lap bk got (.v t.e) things wrong other price near far own) := by
  obtain ⟨t, o1, tok, tsz, ht, u1⟩ := c30 hN n (m := 6) h (by omega) (by omega) (by omega) (by omega)
  rw [show ((6 : Nat) : Int) = 6 from rfl] at ht
  refine ⟨t, o1, ⟨tok, by omega⟩, ?_⟩
  unfold b32
  simp only [evSs_cons, evSs_nil, evS, ev, evB, evF, evA, evP, evM, evI, evO, rb_ok, rb_ex, ro_ok, ro_ex, rn_ok, op_so, td_v, td_l, td_ex, ts_b, ts_l, ts_t, ts_i, Z.pk_nil, pk_v, pk_l, pk_i, ih_v, ih_l, ih_d, fz_v, fz_l, sq_nx, sq_rt, sq_ex, rs_rt, rs_nx, rs_ex, of_so, st_def, st_tup, st_lst, cb_ok, cb_ex, fin_ok, fin_ex, p_isi, p_lenT, p_lenL, p_int, p_intB, p_abs, p_add, p_sub, p_neg, p_lt, p_gt, p_le, p_ge, p_max, p_min, p_isN, p_notN, p_tupL, p_tupT, p_lstL, p_lstT, p_rev, ix0L, ix0T, ix1L, ix1T, ix2L, ix2T, pu0, pu1, pu2, ft0, ft1, ft2, ft3, ft4, fl0, fl1, fl2, fl3, fl4, fl5, fl6, fl7, fl8, fl9, fl10, fl11, ca_rt, ca_nx, io_i, ap_S, il_l, p_addS, p_addU, Nat.reduceLeDiff, sl_L, Int.natCast_zero, Int.natCast_one, Int.cast_ofNat_Int, sm0, sm1, sm2, p_eqI, p_neI, p_eqB, p_neB, p_eqS, p_neS, Option.map_some, Option.bind_some, slot, setS, setTs, isOw, Z.fill, unfill, owV, outs, outsA, List.getD_cons_zero, List.getD_cons_succ, List.set_cons_zero, List.set_cons_succ, List.length_cons, List.length_nil, List.any_cons, List.any_nil, List.append_nil, List.nil_append, List.cons_append, List.map_cons, List.map_nil, isTy, Bool.or_false, Bool.or_true, Bool.false_or, Bool.true_or, Bool.not_true, Bool.not_false, Bool.true_and, Bool.false_and, Bool.and_true, Bool.and_false, if_true, if_false, Bool.false_eq_true, reduceIte, List.not_mem_nil, List.mem_cons, or_false, false_or, not_false_eq_true, not_true_eq_false, and_true, and_false, and_self, true_and, Nat.reduceLT, Nat.reduceAdd, Nat.zero_add, Nat.lt_add_one, Nat.reduceEqDiff, Nat.lt_add_left_iff_pos, Nat.zero_lt_succ, Nat.zero_lt_one, Nat.succ_ne_self, reduceCtorEq, Nat.zero_ne_one, Nat.one_ne_zero, decide_true, decide_false, beq_self_eq_true, Int.reduceBEq, Int.reduceLT, Int.reduceLE, Int.reduceAdd, Int.reduceSub, Int.reduceNeg, Ss.nth, G, CL, h.nh, ht]
/-! ### things that are none -/
def T.hd : T → Str
  | .z x | .o x _ | .w x _ _ => x
def T.ps : T → List D
  | .z _ => []
  | .o _ t => [t.e]
  | .w _ t u => [t.e, u.e]
theorem e_hp (t : T) : t.e = .tuple [.str t.hd, .tuple t.ps] := by cases t <;> rfl
theorem look_hd {t : T} (h : t.ok N) : ∃ b, look N t.hd = [(t.hd, ((t.ps.length : Nat) : Int), b)] := by
  cases t with
  | z x => exact ⟨false, h⟩
  | o x t => exact ⟨false, h.1⟩
  | w x t u => exact h.1
def things' (t : T) : List D := [.none, .tuple [], .str "a", .tuple [.str "a"], .tuple [.str "zz", .tuple []], .tuple [.str "a", .tuple [.tuple [.str "a", .tuple []]]], .tuple [.str t.hd, .list t.ps], .tuple [.str t.hd, .tuple (t.ps ++ [.tuple [.str t.hd, .tuple t.ps]])], .list [.str t.hd, .tuple t.ps], .tuple [.int 7, .tuple []], .tuple [.bool true, .tuple []]]
theorem ps_len (t : T) : t.ps.length ≤ 2 := by cases t <;> simp [T.ps]
theorem L10 {t : T} {x : O} : evS (CL n) (b32.nth 10) (G sc o x rows due bad lap bk got (.v t.e) things wrong other price near far own) =
    .nx (G sc o x rows due bad lap bk got (.v t.e) (.lst (things' t)) wrong other price near far own) := by
  have hl := ps_len t
  have ha : prF .add [.tuple t.ps, .tuple [.tuple [.str t.hd, .tuple t.ps]]] = some (.v (.tuple (t.ps ++ [.tuple [.str t.hd, .tuple t.ps]]))) := p_addU (by simp; omega)
  rw [e_hp]
  unfold b32 things'
  simp only [evSs_cons, evSs_nil, evS, ev, evB, evF, evA, evP, evM, evI, evO, rb_ok, rb_ex, ro_ok, ro_ex, rn_ok, op_so, td_v, td_l, td_ex, ts_b, ts_l, ts_t, ts_i, Z.pk_nil, pk_v, pk_l, pk_i, ih_v, ih_l, ih_d, fz_v, fz_l, sq_nx, sq_rt, sq_ex, rs_rt, rs_nx, rs_ex, of_so, st_def, st_tup, st_lst, cb_ok, cb_ex, fin_ok, fin_ex, p_isi, p_lenT, p_lenL, p_int, p_intB, p_abs, p_add, p_sub, p_neg, p_lt, p_gt, p_le, p_ge, p_max, p_min, p_isN, p_notN, p_tupL, p_tupT, p_lstL, p_lstT, p_rev, ix0L, ix0T, ix1L, ix1T, ix2L, ix2T, pu0, pu1, pu2, ft0, ft1, ft2, ft3, ft4, fl0, fl1, fl2, fl3, fl4, fl5, fl6, fl7, fl8, fl9, fl10, fl11, ca_rt, ca_nx, io_i, ap_S, il_l, p_addS, p_addU, Nat.reduceLeDiff, sl_L, Int.natCast_zero, Int.natCast_one, Int.cast_ofNat_Int, sm0, sm1, sm2, p_eqI, p_neI, p_eqB, p_neB, p_eqS, p_neS, Option.map_some, Option.bind_some, slot, setS, setTs, isOw, Z.fill, unfill, owV, outs, outsA, List.getD_cons_zero, List.getD_cons_succ, List.set_cons_zero, List.set_cons_succ, List.length_cons, List.length_nil, List.any_cons, List.any_nil, List.append_nil, List.nil_append, List.cons_append, List.map_cons, List.map_nil, isTy, Bool.or_false, Bool.or_true, Bool.false_or, Bool.true_or, Bool.not_true, Bool.not_false, Bool.true_and, Bool.false_and, Bool.and_true, Bool.and_false, if_true, if_false, Bool.false_eq_true, reduceIte, List.not_mem_nil, List.mem_cons, or_false, false_or, not_false_eq_true, not_true_eq_false, and_true, and_false, and_self, true_and, Nat.reduceLT, Nat.reduceAdd, Nat.zero_add, Nat.lt_add_one, Nat.reduceEqDiff, Nat.lt_add_left_iff_pos, Nat.zero_lt_succ, Nat.zero_lt_one, Nat.succ_ne_self, reduceCtorEq, Nat.zero_ne_one, Nat.one_ne_zero, decide_true, decide_false, beq_self_eq_true, Int.reduceBEq, Int.reduceLT, Int.reduceLE, Int.reduceAdd, Int.reduceSub, Int.reduceNeg, Ss.nth, G, CL, ha]
theorem c10_row0 {d : D} (h : callN pg (n + 1) 3 [.v d, .v (.int 2)] = .ok (.v (.bool false)) [.hole, .hole]) : callN pg (n + 2) 10 [.v (eNs N), .v d] = .ok (.v (.bool false)) [.hole, .hole] := by
  rw [callN_of [.v (eNs N), .v d, .hole, .hole, .hole] b10 [] 2 (d := f10) rfl]
  unfold b10
  simp only [evSs_cons, evSs_nil, evS, ev, evB, evF, evA, evP, evM, evI, evO, rb_ok, rb_ex, ro_ok, ro_ex, rn_ok, op_so, td_v, td_l, td_ex, ts_b, ts_l, ts_t, ts_i, Z.pk_nil, pk_v, pk_l, pk_i, ih_v, ih_l, ih_d, fz_v, fz_l, sq_nx, sq_rt, sq_ex, rs_rt, rs_nx, rs_ex, of_so, st_def, st_tup, st_lst, cb_ok, cb_ex, fin_ok, fin_ex, p_isi, p_lenT, p_lenL, p_int, p_intB, p_abs, p_add, p_sub, p_neg, p_lt, p_gt, p_le, p_ge, p_max, p_min, p_isN, p_notN, p_tupL, p_tupT, p_lstL, p_lstT, p_rev, ix0L, ix0T, ix1L, ix1T, ix2L, ix2T, pu0, pu1, pu2, ft0, ft1, ft2, ft3, ft4, fl0, fl1, fl2, fl3, fl4, fl5, fl6, fl7, fl8, fl9, fl10, fl11, ca_rt, ca_nx, io_i, ap_S, il_l, p_addS, p_addU, Nat.reduceLeDiff, sl_L, Int.natCast_zero, Int.natCast_one, Int.cast_ofNat_Int, sm0, sm1, sm2, p_eqI, p_neI, p_eqB, p_neB, p_eqS, p_neS, Option.map_some, Option.bind_some, slot, setS, setTs, isOw, Z.fill, unfill, owV, outs, outsA, List.getD_cons_zero, List.getD_cons_succ, List.set_cons_zero, List.set_cons_succ, List.length_cons, List.length_nil, List.any_cons, List.any_nil, List.append_nil, List.nil_append, List.cons_append, List.map_cons, List.map_nil, isTy, Bool.or_false, Bool.or_true, Bool.false_or, Bool.true_or, Bool.not_true, Bool.not_false, Bool.true_and, Bool.false_and, Bool.and_true, Bool.and_false, if_true, if_false, Bool.false_eq_true, reduceIte, List.not_mem_nil, List.mem_cons, or_false, false_or, not_false_eq_true, not_true_eq_false, and_true, and_false, and_self, true_and, Nat.reduceLT, Nat.reduceAdd, Nat.zero_add, Nat.lt_add_one, Nat.reduceEqDiff, Nat.lt_add_left_iff_pos, Nat.zero_lt_succ, Nat.zero_lt_one, Nat.succ_ne_self, reduceCtorEq, Nat.zero_ne_one, Nat.one_ne_zero, decide_true, decide_false, beq_self_eq_true, Int.reduceBEq, Int.reduceLT, Int.reduceLE, Int.reduceAdd, Int.reduceSub, Int.reduceNeg, h, g_pair]
theorem c10_rowL {x : Str} {xs : List D} : callN pg (n + 2) 10 [.v (eNs N), .v (.tuple [.str x, .list xs])] = .ok (.v (.bool false)) [.hole, .hole] := by
  rw [callN_of [.v (eNs N), .v (.tuple [.str x, .list xs]), .hole, .hole, .hole] b10 [] 2 (d := f10) rfl]
  unfold b10
  simp only [evSs_cons, evSs_nil, evS, ev, evB, evF, evA, evP, evM, evI, evO, rb_ok, rb_ex, ro_ok, ro_ex, rn_ok, op_so, td_v, td_l, td_ex, ts_b, ts_l, ts_t, ts_i, Z.pk_nil, pk_v, pk_l, pk_i, ih_v, ih_l, ih_d, fz_v, fz_l, sq_nx, sq_rt, sq_ex, rs_rt, rs_nx, rs_ex, of_so, st_def, st_tup, st_lst, cb_ok, cb_ex, fin_ok, fin_ex, p_isi, p_lenT, p_lenL, p_int, p_intB, p_abs, p_add, p_sub, p_neg, p_lt, p_gt, p_le, p_ge, p_max, p_min, p_isN, p_notN, p_tupL, p_tupT, p_lstL, p_lstT, p_rev, ix0L, ix0T, ix1L, ix1T, ix2L, ix2T, pu0, pu1, pu2, ft0, ft1, ft2, ft3, ft4, fl0, fl1, fl2, fl3, fl4, fl5, fl6, fl7, fl8, fl9, fl10, fl11, ca_rt, ca_nx, io_i, ap_S, il_l, p_addS, p_addU, Nat.reduceLeDiff, sl_L, Int.natCast_zero, Int.natCast_one, Int.cast_ofNat_Int, sm0, sm1, sm2, p_eqI, p_neI, p_eqB, p_neB, p_eqS, p_neS, Option.map_some, Option.bind_some, slot, setS, setTs, isOw, Z.fill, unfill, owV, outs, outsA, List.getD_cons_zero, List.getD_cons_succ, List.set_cons_zero, List.set_cons_succ, List.length_cons, List.length_nil, List.any_cons, List.any_nil, List.append_nil, List.nil_append, List.cons_append, List.map_cons, List.map_nil, isTy, Bool.or_false, Bool.or_true, Bool.false_or, Bool.true_or, Bool.not_true, Bool.not_false, Bool.true_and, Bool.false_and, Bool.and_true, Bool.and_false, if_true, if_false, Bool.false_eq_true, reduceIte, List.not_mem_nil, List.mem_cons, or_false, false_or, not_false_eq_true, not_true_eq_false, and_true, and_false, and_self, true_and, Nat.reduceLT, Nat.reduceAdd, Nat.zero_add, Nat.lt_add_one, Nat.reduceEqDiff, Nat.lt_add_left_iff_pos, Nat.zero_lt_succ, Nat.zero_lt_one, Nat.succ_ne_self, reduceCtorEq, Nat.zero_ne_one, Nat.one_ne_zero, decide_true, decide_false, beq_self_eq_true, Int.reduceBEq, Int.reduceLT, Int.reduceLE, Int.reduceAdd, Int.reduceSub, Int.reduceNeg, c3_2, g_pair]
theorem c10_rowN {d e : D} (hd : isTy d .str = false) : callN pg (n + 2) 10 [.v (eNs N), .v (.tuple [d, e])] = .ok (.v (.bool false)) [.hole, .hole] := by
  rw [callN_of [.v (eNs N), .v (.tuple [d, e]), .hole, .hole, .hole] b10 [] 2 (d := f10) rfl]
  unfold b10
  cases d <;> first | (cases hd; done) | simp only [evSs_cons, evSs_nil, evS, ev, evB, evF, evA, evP, evM, evI, evO, rb_ok, rb_ex, ro_ok, ro_ex, rn_ok, op_so, td_v, td_l, td_ex, ts_b, ts_l, ts_t, ts_i, Z.pk_nil, pk_v, pk_l, pk_i, ih_v, ih_l, ih_d, fz_v, fz_l, sq_nx, sq_rt, sq_ex, rs_rt, rs_nx, rs_ex, of_so, st_def, st_tup, st_lst, cb_ok, cb_ex, fin_ok, fin_ex, p_isi, p_lenT, p_lenL, p_int, p_intB, p_abs, p_add, p_sub, p_neg, p_lt, p_gt, p_le, p_ge, p_max, p_min, p_isN, p_notN, p_tupL, p_tupT, p_lstL, p_lstT, p_rev, ix0L, ix0T, ix1L, ix1T, ix2L, ix2T, pu0, pu1, pu2, ft0, ft1, ft2, ft3, ft4, fl0, fl1, fl2, fl3, fl4, fl5, fl6, fl7, fl8, fl9, fl10, fl11, ca_rt, ca_nx, io_i, ap_S, il_l, p_addS, p_addU, Nat.reduceLeDiff, sl_L, Int.natCast_zero, Int.natCast_one, Int.cast_ofNat_Int, sm0, sm1, sm2, p_eqI, p_neI, p_eqB, p_neB, p_eqS, p_neS, Option.map_some, Option.bind_some, slot, setS, setTs, isOw, Z.fill, unfill, owV, outs, outsA, List.getD_cons_zero, List.getD_cons_succ, List.set_cons_zero, List.set_cons_succ, List.length_cons, List.length_nil, List.any_cons, List.any_nil, List.append_nil, List.nil_append, List.cons_append, List.map_cons, List.map_nil, isTy, Bool.or_false, Bool.or_true, Bool.false_or, Bool.true_or, Bool.not_true, Bool.not_false, Bool.true_and, Bool.false_and, Bool.and_true, Bool.and_false, if_true, if_false, Bool.false_eq_true, reduceIte, List.not_mem_nil, List.mem_cons, or_false, false_or, not_false_eq_true, not_true_eq_false, and_true, and_false, and_self, true_and, Nat.reduceLT, Nat.reduceAdd, Nat.zero_add, Nat.lt_add_one, Nat.reduceEqDiff, Nat.lt_add_left_iff_pos, Nat.zero_lt_succ, Nat.zero_lt_one, Nat.succ_ne_self, reduceCtorEq, Nat.zero_ne_one, Nat.one_ne_zero, decide_true, decide_false, beq_self_eq_true, Int.reduceBEq, Int.reduceLT, Int.reduceLE, Int.reduceAdd, Int.reduceSub, Int.reduceNeg, c3_2, g_pair]
theorem c10_rowE {x : Str} {xs : List D} (h : look N x = []) : callN pg (n + 2) 10 [.v (eNs N), .v (.tuple [.str x, .tuple xs])] = .ok (.v (.bool false)) [.hole, .hole] := by
  rw [c10_row, h]
  simp only [evSs_cons, evSs_nil, evS, ev, evB, evF, evA, evP, evM, evI, evO, rb_ok, rb_ex, ro_ok, ro_ex, rn_ok, op_so, td_v, td_l, td_ex, ts_b, ts_l, ts_t, ts_i, Z.pk_nil, pk_v, pk_l, pk_i, ih_v, ih_l, ih_d, fz_v, fz_l, sq_nx, sq_rt, sq_ex, rs_rt, rs_nx, rs_ex, of_so, st_def, st_tup, st_lst, cb_ok, cb_ex, fin_ok, fin_ex, p_isi, p_lenT, p_lenL, p_int, p_intB, p_abs, p_add, p_sub, p_neg, p_lt, p_gt, p_le, p_ge, p_max, p_min, p_isN, p_notN, p_tupL, p_tupT, p_lstL, p_lstT, p_rev, ix0L, ix0T, ix1L, ix1T, ix2L, ix2T, pu0, pu1, pu2, ft0, ft1, ft2, ft3, ft4, fl0, fl1, fl2, fl3, fl4, fl5, fl6, fl7, fl8, fl9, fl10, fl11, ca_rt, ca_nx, io_i, ap_S, il_l, p_addS, p_addU, Nat.reduceLeDiff, sl_L, Int.natCast_zero, Int.natCast_one, Int.cast_ofNat_Int, sm0, sm1, sm2, p_eqI, p_neI, p_eqB, p_neB, p_eqS, p_neS, Option.map_some, Option.bind_some, slot, setS, setTs, isOw, Z.fill, unfill, owV, outs, outsA, List.getD_cons_zero, List.getD_cons_succ, List.set_cons_zero, List.set_cons_succ, List.length_cons, List.length_nil, List.any_cons, List.any_nil, List.append_nil, List.nil_append, List.cons_append, List.map_cons, List.map_nil, isTy, Bool.or_false, Bool.or_true, Bool.false_or, Bool.true_or, Bool.not_true, Bool.not_false, Bool.true_and, Bool.false_and, Bool.and_true, Bool.and_false, if_true, if_false, Bool.false_eq_true, reduceIte, List.not_mem_nil, List.mem_cons, or_false, false_or, not_false_eq_true, not_true_eq_false, and_true, and_false, and_self, true_and, Nat.reduceLT, Nat.reduceAdd, Nat.zero_add, Nat.lt_add_one, Nat.reduceEqDiff, Nat.lt_add_left_iff_pos, Nat.zero_lt_succ, Nat.zero_lt_one, Nat.succ_ne_self, reduceCtorEq, Nat.zero_ne_one, Nat.one_ne_zero, decide_true, decide_false, beq_self_eq_true, Int.reduceBEq, Int.reduceLT, Int.reduceLE, Int.reduceAdd, Int.reduceSub, Int.reduceNeg, eq_l0]
theorem c10_rowK {x : Str} {xs : List D} {k : Int} {b : Bool} (h : look N x = [(x, k, b)]) (hk : k ≠ xs.length) : callN pg (n + 2) 10 [.v (eNs N), .v (.tuple [.str x, .tuple xs])] = .ok (.v (.bool false)) [.hole, .hole] := by
  rw [c10_row, h]
  simp only [evSs_cons, evSs_nil, evS, ev, evB, evF, evA, evP, evM, evI, evO, rb_ok, rb_ex, ro_ok, ro_ex, rn_ok, op_so, td_v, td_l, td_ex, ts_b, ts_l, ts_t, ts_i, Z.pk_nil, pk_v, pk_l, pk_i, ih_v, ih_l, ih_d, fz_v, fz_l, sq_nx, sq_rt, sq_ex, rs_rt, rs_nx, rs_ex, of_so, st_def, st_tup, st_lst, cb_ok, cb_ex, fin_ok, fin_ex, p_isi, p_lenT, p_lenL, p_int, p_intB, p_abs, p_add, p_sub, p_neg, p_lt, p_gt, p_le, p_ge, p_max, p_min, p_isN, p_notN, p_tupL, p_tupT, p_lstL, p_lstT, p_rev, ix0L, ix0T, ix1L, ix1T, ix2L, ix2T, pu0, pu1, pu2, ft0, ft1, ft2, ft3, ft4, fl0, fl1, fl2, fl3, fl4, fl5, fl6, fl7, fl8, fl9, fl10, fl11, ca_rt, ca_nx, io_i, ap_S, il_l, p_addS, p_addU, Nat.reduceLeDiff, sl_L, Int.natCast_zero, Int.natCast_one, Int.cast_ofNat_Int, sm0, sm1, sm2, p_eqI, p_neI, p_eqB, p_neB, p_eqS, p_neS, Option.map_some, Option.bind_some, slot, setS, setTs, isOw, Z.fill, unfill, owV, outs, outsA, List.getD_cons_zero, List.getD_cons_succ, List.set_cons_zero, List.set_cons_succ, List.length_cons, List.length_nil, List.any_cons, List.any_nil, List.append_nil, List.nil_append, List.cons_append, List.map_cons, List.map_nil, isTy, Bool.or_false, Bool.or_true, Bool.false_or, Bool.true_or, Bool.not_true, Bool.not_false, Bool.true_and, Bool.false_and, Bool.and_true, Bool.and_false, if_true, if_false, Bool.false_eq_true, reduceIte, List.not_mem_nil, List.mem_cons, or_false, false_or, not_false_eq_true, not_true_eq_false, and_true, and_false, and_self, true_and, Nat.reduceLT, Nat.reduceAdd, Nat.zero_add, Nat.lt_add_one, Nat.reduceEqDiff, Nat.lt_add_left_iff_pos, Nat.zero_lt_succ, Nat.zero_lt_one, Nat.succ_ne_self, reduceCtorEq, Nat.zero_ne_one, Nat.one_ne_zero, decide_true, decide_false, beq_self_eq_true, Int.reduceBEq, Int.reduceLT, Int.reduceLE, Int.reduceAdd, Int.reduceSub, Int.reduceNeg, eq_l1, show (k == (xs.length : Int)) = false from by simpa using hk]
theorem look_zz (hN : IsN N) : look N "zz" = [] := all_nm (P := fun N => look N "zz" = []) (by intro c f p s; cases c <;> cases f <;> cases p <;> cases s <;> decide +kernel) hN
theorem look_a (hN : IsN N) : look N "a" = [nA] := all_nm (P := fun N => look N "a" = [nA]) (by intro c f p s; cases c <;> cases f <;> cases p <;> cases s <;> decide +kernel) hN
theorem none10 (hN : IsN N) {t : T} (h : t.ok N) : ∀ d ∈ things' t, callN pg (n + 2) 10 [.v (eNs N), .v d] = .ok (.v (.bool false)) [.hole, .hole] := by
  obtain ⟨b, hb⟩ := look_hd h
  unfold things'
  intro d hd
  simp only [List.mem_cons, List.not_mem_nil, or_false] at hd
  rcases hd with rfl | rfl | rfl | rfl | rfl | rfl | rfl | rfl | rfl | rfl | rfl
  · exact c10_row0 (c3n _ _ _ rfl)
  · exact c10_row0 (c3_2 _ _)
  · exact c10_row0 (c3n _ _ _ rfl)
  · exact c10_row0 (c3_2 _ _)
  · exact c10_rowE (look_zz hN)
  · exact c10_rowK (x := "a") (k := 0) (b := false) (look_a hN) (by decide)
  · exact c10_rowL
  · exact c10_rowK hb (by rw [List.length_append]; simp only [List.length_cons, List.length_nil]; omega)
  · exact c10_row0 (c3n _ _ _ rfl)
  · exact c10_rowN rfl
  · exact c10_rowN rfl
end
end K03
end
section
set_option Elab.async false
set_option linter.all false
set_option maxRecDepth 100000
namespace K03
open Z PySem
section
variable {N : List Nm} {n : Nat} {K : Nat} {o : O} {sc rows due bad lap bk got one things wrong other price near far own : O}
def FF : D := .list [.bool false, .bool false]
theorem none_map (t : T) : ((things' t).map fun _ => [FF]).flatten = [FF, FF, FF, FF, FF, FF, FF, FF, FF, FF, FF] := rfl
theorem L11 (hN : IsN N) (hn : 40 ≤ n) {t : T} (g : Gd N t) : evS (CL n) (b32.nth 11) (G sc o (.v (eNs N)) rows due bad lap bk got (.v t.e) (.lst (things' t)) wrong other price near far .hole) =
    .nx (G sc o (.v (eNs N)) rows due bad lap bk (.lst [FF, FF, FF, FF, FF, FF, FF, FF, FF, FF, FF, .bool true, .bool true]) (.v t.e) (.v (.list (things' t))) wrong other price near far .hole) := by
  obtain ⟨m, rfl⟩ : ∃ m, n = m + 3 := ⟨n - 3, by omega⟩
  have h10 : ∀ d ∈ things' t, callN pg (m + 3) 10 [.v (eNs N), .v d] = .ok (.v (.bool false)) [.hole, .hole] := none10 (n := m + 1) hN g.ok
  have h10' : ∀ d ∈ things' t, callN pg (m + 2) 10 [.v (eNs N), .v d] = .ok (.v (.bool false)) [.hole, .hole] := none10 (n := m) hN g.ok
  have h15 : ∀ d ∈ things' t, callN pg (m + 3) 15 [.v (eNs N), .v d] = .ok (.v (.bool false)) [.hole, .hole] := fun d hd => c15n (h10' d hd)
  have k10 := c10 (N := N) (m + 3) t g.ok (by have := g.sz; omega)
  have k15 := c15 hN g (n := m + 3) (by omega)
  have k14 := c14 hN g g.self (n := m + 3) (by omega)
  have ke : prF .eq [(t.f N).e, t.e] = some (.v (.bool (decide (t.f N = t)))) := p_eqE (by rw [f_sz]; have := g.sz; omega)
  unfold b32
  simp only [evSs_cons, evSs_nil, evS, ev, evB, evF, evA, evP, evM, evI, evO, rb_ok, rb_ex, ro_ok, ro_ex, rn_ok, op_so, td_v, td_l, td_ex, ts_b, ts_l, ts_t, ts_i, Z.pk_nil, pk_v, pk_l, pk_i, ih_v, ih_l, ih_d, fz_v, fz_l, sq_nx, sq_rt, sq_ex, rs_rt, rs_nx, rs_ex, of_so, st_def, st_tup, st_lst, cb_ok, cb_ex, fin_ok, fin_ex, p_isi, p_lenT, p_lenL, p_int, p_intB, p_abs, p_add, p_sub, p_neg, p_lt, p_gt, p_le, p_ge, p_max, p_min, p_isN, p_notN, p_tupL, p_tupT, p_lstL, p_lstT, p_rev, ix0L, ix0T, ix1L, ix1T, ix2L, ix2T, pu0, pu1, pu2, ft0, ft1, ft2, ft3, ft4, fl0, fl1, fl2, fl3, fl4, fl5, fl6, fl7, fl8, fl9, fl10, fl11, ca_rt, ca_nx, io_i, ap_S, il_l, p_addS, p_addU, Nat.reduceLeDiff, sl_L, Int.natCast_zero, Int.natCast_one, Int.cast_ofNat_Int, sm0, sm1, sm2, p_eqI, p_neI, p_eqB, p_neB, p_eqS, p_neS, Option.map_some, Option.bind_some, slot, setS, setTs, isOw, Z.fill, unfill, owV, outs, outsA, List.getD_cons_zero, List.getD_cons_succ, List.set_cons_zero, List.set_cons_succ, List.length_cons, List.length_nil, List.any_cons, List.any_nil, List.append_nil, List.nil_append, List.cons_append, List.map_cons, List.map_nil, isTy, Bool.or_false, Bool.or_true, Bool.false_or, Bool.true_or, Bool.not_true, Bool.not_false, Bool.true_and, Bool.false_and, Bool.and_true, Bool.and_false, if_true, if_false, Bool.false_eq_true, reduceIte, List.not_mem_nil, List.mem_cons, or_false, false_or, not_false_eq_true, not_true_eq_false, and_true, and_false, and_self, true_and, Nat.reduceLT, Nat.reduceAdd, Nat.zero_add, Nat.lt_add_one, Nat.reduceEqDiff, Nat.lt_add_left_iff_pos, Nat.zero_lt_succ, Nat.zero_lt_one, Nat.succ_ne_self, reduceCtorEq, Nat.zero_ne_one, Nat.one_ne_zero, decide_true, decide_false, beq_self_eq_true, Int.reduceBEq, Int.reduceLT, Int.reduceLE, Int.reduceAdd, Int.reduceSub, Int.reduceNeg, Ss.nth, G, CL, walkD]
  rw [lc_rwD (fun Γ => ∃ q, Γ = [sc, o, .v (eNs N), rows, due, bad, lap, bk, got, .v t.e, .v (.list (things' t)), wrong, other, price, near, far, q]) (fun _ => [FF]) [sc, o, .v (eNs N), rows, due, bad, lap, bk, got, .v t.e, .v (.list (things' t)), wrong, other, price, near, far, .hole] ?_ ⟨_, rfl⟩ (by rintro _ ⟨q, rfl⟩; rfl)]
  · rw [none_map]
    simp only [evSs_cons, evSs_nil, evS, ev, evB, evF, evA, evP, evM, evI, evO, rb_ok, rb_ex, ro_ok, ro_ex, rn_ok, op_so, td_v, td_l, td_ex, ts_b, ts_l, ts_t, ts_i, Z.pk_nil, pk_v, pk_l, pk_i, ih_v, ih_l, ih_d, fz_v, fz_l, sq_nx, sq_rt, sq_ex, rs_rt, rs_nx, rs_ex, of_so, st_def, st_tup, st_lst, cb_ok, cb_ex, fin_ok, fin_ex, p_isi, p_lenT, p_lenL, p_int, p_intB, p_abs, p_add, p_sub, p_neg, p_lt, p_gt, p_le, p_ge, p_max, p_min, p_isN, p_notN, p_tupL, p_tupT, p_lstL, p_lstT, p_rev, ix0L, ix0T, ix1L, ix1T, ix2L, ix2T, pu0, pu1, pu2, ft0, ft1, ft2, ft3, ft4, fl0, fl1, fl2, fl3, fl4, fl5, fl6, fl7, fl8, fl9, fl10, fl11, ca_rt, ca_nx, io_i, ap_S, il_l, p_addS, p_addU, Nat.reduceLeDiff, sl_L, Int.natCast_zero, Int.natCast_one, Int.cast_ofNat_Int, sm0, sm1, sm2, p_eqI, p_neI, p_eqB, p_neB, p_eqS, p_neS, Option.map_some, Option.bind_some, slot, setS, setTs, isOw, Z.fill, unfill, owV, outs, outsA, List.getD_cons_zero, List.getD_cons_succ, List.set_cons_zero, List.set_cons_succ, List.length_cons, List.length_nil, List.any_cons, List.any_nil, List.append_nil, List.nil_append, List.cons_append, List.map_cons, List.map_nil, isTy, Bool.or_false, Bool.or_true, Bool.false_or, Bool.true_or, Bool.not_true, Bool.not_false, Bool.true_and, Bool.false_and, Bool.and_true, Bool.and_false, if_true, if_false, Bool.false_eq_true, reduceIte, List.not_mem_nil, List.mem_cons, or_false, false_or, not_false_eq_true, not_true_eq_false, and_true, and_false, and_self, true_and, Nat.reduceLT, Nat.reduceAdd, Nat.zero_add, Nat.lt_add_one, Nat.reduceEqDiff, Nat.lt_add_left_iff_pos, Nat.zero_lt_succ, Nat.zero_lt_one, Nat.succ_ne_self, reduceCtorEq, Nat.zero_ne_one, Nat.one_ne_zero, decide_true, decide_false, beq_self_eq_true, Int.reduceBEq, Int.reduceLT, Int.reduceLE, Int.reduceAdd, Int.reduceSub, Int.reduceNeg, k10, k15, k14, ke]
    try rfl
  · rintro d hd _ ⟨q, rfl⟩
    refine ⟨[sc, o, .v (eNs N), rows, due, bad, lap, bk, got, .v t.e, .v (.list (things' t)), wrong, other, price, near, far, .v d], ?_, _, rfl⟩
    simp only [evSs_cons, evSs_nil, evS, ev, evB, evF, evA, evP, evM, evI, evO, rb_ok, rb_ex, ro_ok, ro_ex, rn_ok, op_so, td_v, td_l, td_ex, ts_b, ts_l, ts_t, ts_i, Z.pk_nil, pk_v, pk_l, pk_i, ih_v, ih_l, ih_d, fz_v, fz_l, sq_nx, sq_rt, sq_ex, rs_rt, rs_nx, rs_ex, of_so, st_def, st_tup, st_lst, cb_ok, cb_ex, fin_ok, fin_ex, p_isi, p_lenT, p_lenL, p_int, p_intB, p_abs, p_add, p_sub, p_neg, p_lt, p_gt, p_le, p_ge, p_max, p_min, p_isN, p_notN, p_tupL, p_tupT, p_lstL, p_lstT, p_rev, ix0L, ix0T, ix1L, ix1T, ix2L, ix2T, pu0, pu1, pu2, ft0, ft1, ft2, ft3, ft4, fl0, fl1, fl2, fl3, fl4, fl5, fl6, fl7, fl8, fl9, fl10, fl11, ca_rt, ca_nx, io_i, ap_S, il_l, p_addS, p_addU, Nat.reduceLeDiff, sl_L, Int.natCast_zero, Int.natCast_one, Int.cast_ofNat_Int, sm0, sm1, sm2, p_eqI, p_neI, p_eqB, p_neB, p_eqS, p_neS, Option.map_some, Option.bind_some, slot, setS, setTs, isOw, Z.fill, unfill, owV, outs, outsA, List.getD_cons_zero, List.getD_cons_succ, List.set_cons_zero, List.set_cons_succ, List.length_cons, List.length_nil, List.any_cons, List.any_nil, List.append_nil, List.nil_append, List.cons_append, List.map_cons, List.map_nil, isTy, Bool.or_false, Bool.or_true, Bool.false_or, Bool.true_or, Bool.not_true, Bool.not_false, Bool.true_and, Bool.false_and, Bool.and_true, Bool.and_false, if_true, if_false, Bool.false_eq_true, reduceIte, List.not_mem_nil, List.mem_cons, or_false, false_or, not_false_eq_true, not_true_eq_false, and_true, and_false, and_self, true_and, Nat.reduceLT, Nat.reduceAdd, Nat.zero_add, Nat.lt_add_one, Nat.reduceEqDiff, Nat.lt_add_left_iff_pos, Nat.zero_lt_succ, Nat.zero_lt_one, Nat.succ_ne_self, reduceCtorEq, Nat.zero_ne_one, Nat.one_ne_zero, decide_true, decide_false, beq_self_eq_true, Int.reduceBEq, Int.reduceLT, Int.reduceLE, Int.reduceAdd, Int.reduceSub, Int.reduceNeg, holes, h10 d hd, h15 d hd]
    try rfl
theorem rep11 : (List.replicate (Int.toNat 11) [FF]).flatten = [FF, FF, FF, FF, FF, FF, FF, FF, FF, FF, FF] := rfl
theorem same12 (n : Nat) : callN pg (n + 5) 24 [.v (.list [FF, FF, FF, FF, FF, FF, FF, FF, FF, FF, FF, .bool true, .bool true]), .v (.list [FF, FF, FF, FF, FF, FF, FF, FF, FF, FF, FF, .bool true, .bool true])] = .ok (.v (.bool true)) [.hole, .hole] :=
  c24 (n + 5) _ (by decide +kernel) (by have : dp (.list [FF, FF, FF, FF, FF, FF, FF, FF, FF, FF, FF, .bool true, .bool true]) ≤ 4 := by decide +kernel
                                        omega)
theorem things_len (t : T) : (things' t).length = 11 := rfl
theorem L12 (hn : 40 ≤ n) {t : T} {x : O} : ∃ got', evS (CL n) (b32.nth 12) (G sc o x rows due bad lap bk (.lst [FF, FF, FF, FF, FF, FF, FF, FF, FF, FF, FF, .bool true, .bool true]) one (.v (.list (things' t))) wrong other price near far own) =
    .nx (G sc o x rows due bad lap bk got' one (.v (.list (things' t))) wrong other price near far own) := by
  obtain ⟨m, rfl⟩ : ∃ m, n = m + 5 := ⟨n - 5, by omega⟩
  have h := same12 m
  refine ⟨.v (.list [FF, FF, FF, FF, FF, FF, FF, FF, FF, FF, FF, .bool true, .bool true]), ?_⟩
  unfold b32
  simp only [evSs_cons, evSs_nil, evS, ev, evB, evF, evA, evP, evM, evI, evO, rb_ok, rb_ex, ro_ok, ro_ex, rn_ok, op_so, td_v, td_l, td_ex, ts_b, ts_l, ts_t, ts_i, Z.pk_nil, pk_v, pk_l, pk_i, ih_v, ih_l, ih_d, fz_v, fz_l, sq_nx, sq_rt, sq_ex, rs_rt, rs_nx, rs_ex, of_so, st_def, st_tup, st_lst, cb_ok, cb_ex, fin_ok, fin_ex, p_isi, p_lenT, p_lenL, p_int, p_intB, p_abs, p_add, p_sub, p_neg, p_lt, p_gt, p_le, p_ge, p_max, p_min, p_isN, p_notN, p_tupL, p_tupT, p_lstL, p_lstT, p_rev, ix0L, ix0T, ix1L, ix1T, ix2L, ix2T, pu0, pu1, pu2, ft0, ft1, ft2, ft3, ft4, fl0, fl1, fl2, fl3, fl4, fl5, fl6, fl7, fl8, fl9, fl10, fl11, ca_rt, ca_nx, io_i, ap_S, il_l, p_addS, p_addU, Nat.reduceLeDiff, sl_L, Int.natCast_zero, Int.natCast_one, Int.cast_ofNat_Int, sm0, sm1, sm2, p_eqI, p_neI, p_eqB, p_neB, p_eqS, p_neS, Option.map_some, Option.bind_some, slot, setS, setTs, isOw, Z.fill, unfill, owV, outs, outsA, List.getD_cons_zero, List.getD_cons_succ, List.set_cons_zero, List.set_cons_succ, List.length_cons, List.length_nil, List.any_cons, List.any_nil, List.append_nil, List.nil_append, List.cons_append, List.map_cons, List.map_nil, isTy, Bool.or_false, Bool.or_true, Bool.false_or, Bool.true_or, Bool.not_true, Bool.not_false, Bool.true_and, Bool.false_and, Bool.and_true, Bool.and_false, if_true, if_false, Bool.false_eq_true, reduceIte, List.not_mem_nil, List.mem_cons, or_false, false_or, not_false_eq_true, not_true_eq_false, and_true, and_false, and_self, true_and, Nat.reduceLT, Nat.reduceAdd, Nat.zero_add, Nat.lt_add_one, Nat.reduceEqDiff, Nat.lt_add_left_iff_pos, Nat.zero_lt_succ, Nat.zero_lt_one, Nat.succ_ne_self, reduceCtorEq, Nat.zero_ne_one, Nat.one_ne_zero, decide_true, decide_false, beq_self_eq_true, Int.reduceBEq, Int.reduceLT, Int.reduceLE, Int.reduceAdd, Int.reduceSub, Int.reduceNeg, Ss.nth, G, CL, things_len, show (PyData.list [.bool false, .bool false]) = FF from rfl, rep11, h]
/-- the first statements -/
theorem L01 (is : List Int) (hl : is.length ≤ 63) (hn : 40 ≤ n) : ∃ N o', IsN N ∧ Ur 4 o' ∧ evSs (CL n) (b32.drop 0) (G (.v (.list (is.map .int))) .hole .hole .hole .hole .hole .hole .hole .hole .hole .hole .hole .hole .hole .hole .hole .hole) =
    evSs (CL n) (b32.drop 3) (G (.v (.list (is.map .int))) o' (.v (eNs N)) (.lst []) (.lst []) (.v (.bool false)) .hole .hole .hole .hole .hole .hole .hole .hole .hole .hole .hole) := by
  obtain ⟨m, rfl⟩ : ∃ m, n = m + 2 := ⟨n - 2, by omega⟩
  obtain ⟨X, h22⟩ := c22 is hl (m + 1)
  obtain ⟨o1, h20, u⟩ := c20 (m + 1) X
  obtain ⟨N, o2, hN, h29, u2⟩ := c29 u (by omega) m
  refine ⟨N, o2, hN, u2, ?_⟩
  have e0 : evS (CL (m + 2)) (b32.nth 0) (G (.v (.list (is.map .int))) .hole .hole .hole .hole .hole .hole .hole .hole .hole .hole .hole .hole .hole .hole .hole .hole) = .nx (G (.v (.list (is.map .int))) o1 .hole .hole .hole .hole .hole .hole .hole .hole .hole .hole .hole .hole .hole .hole .hole) := by
    unfold b32
    simp only [evSs_cons, evSs_nil, evS, ev, evB, evF, evA, evP, evM, evI, evO, rb_ok, rb_ex, ro_ok, ro_ex, rn_ok, op_so, td_v, td_l, td_ex, ts_b, ts_l, ts_t, ts_i, Z.pk_nil, pk_v, pk_l, pk_i, ih_v, ih_l, ih_d, fz_v, fz_l, sq_nx, sq_rt, sq_ex, rs_rt, rs_nx, rs_ex, of_so, st_def, st_tup, st_lst, cb_ok, cb_ex, fin_ok, fin_ex, p_isi, p_lenT, p_lenL, p_int, p_intB, p_abs, p_add, p_sub, p_neg, p_lt, p_gt, p_le, p_ge, p_max, p_min, p_isN, p_notN, p_tupL, p_tupT, p_lstL, p_lstT, p_rev, ix0L, ix0T, ix1L, ix1T, ix2L, ix2T, pu0, pu1, pu2, ft0, ft1, ft2, ft3, ft4, fl0, fl1, fl2, fl3, fl4, fl5, fl6, fl7, fl8, fl9, fl10, fl11, ca_rt, ca_nx, io_i, ap_S, il_l, p_addS, p_addU, Nat.reduceLeDiff, sl_L, Int.natCast_zero, Int.natCast_one, Int.cast_ofNat_Int, sm0, sm1, sm2, p_eqI, p_neI, p_eqB, p_neB, p_eqS, p_neS, Option.map_some, Option.bind_some, slot, setS, setTs, isOw, Z.fill, unfill, owV, outs, outsA, List.getD_cons_zero, List.getD_cons_succ, List.set_cons_zero, List.set_cons_succ, List.length_cons, List.length_nil, List.any_cons, List.any_nil, List.append_nil, List.nil_append, List.cons_append, List.map_cons, List.map_nil, isTy, Bool.or_false, Bool.or_true, Bool.false_or, Bool.true_or, Bool.not_true, Bool.not_false, Bool.true_and, Bool.false_and, Bool.and_true, Bool.and_false, if_true, if_false, Bool.false_eq_true, reduceIte, List.not_mem_nil, List.mem_cons, or_false, false_or, not_false_eq_true, not_true_eq_false, and_true, and_false, and_self, true_and, Nat.reduceLT, Nat.reduceAdd, Nat.zero_add, Nat.lt_add_one, Nat.reduceEqDiff, Nat.lt_add_left_iff_pos, Nat.zero_lt_succ, Nat.zero_lt_one, Nat.succ_ne_self, reduceCtorEq, Nat.zero_ne_one, Nat.one_ne_zero, decide_true, decide_false, beq_self_eq_true, Int.reduceBEq, Int.reduceLT, Int.reduceLE, Int.reduceAdd, Int.reduceSub, Int.reduceNeg, Ss.nth, G, CL, h22, h20]
  have e1 : evS (CL (m + 2)) (b32.nth 1) (G (.v (.list (is.map .int))) o1 .hole .hole .hole .hole .hole .hole .hole .hole .hole .hole .hole .hole .hole .hole .hole) = .nx (G (.v (.list (is.map .int))) o2 (.v (eNs N)) .hole .hole .hole .hole .hole .hole .hole .hole .hole .hole .hole .hole .hole .hole) := by
    unfold b32
    simp only [evSs_cons, evSs_nil, evS, ev, evB, evF, evA, evP, evM, evI, evO, rb_ok, rb_ex, ro_ok, ro_ex, rn_ok, op_so, td_v, td_l, td_ex, ts_b, ts_l, ts_t, ts_i, Z.pk_nil, pk_v, pk_l, pk_i, ih_v, ih_l, ih_d, fz_v, fz_l, sq_nx, sq_rt, sq_ex, rs_rt, rs_nx, rs_ex, of_so, st_def, st_tup, st_lst, cb_ok, cb_ex, fin_ok, fin_ex, p_isi, p_lenT, p_lenL, p_int, p_intB, p_abs, p_add, p_sub, p_neg, p_lt, p_gt, p_le, p_ge, p_max, p_min, p_isN, p_notN, p_tupL, p_tupT, p_lstL, p_lstT, p_rev, ix0L, ix0T, ix1L, ix1T, ix2L, ix2T, pu0, pu1, pu2, ft0, ft1, ft2, ft3, ft4, fl0, fl1, fl2, fl3, fl4, fl5, fl6, fl7, fl8, fl9, fl10, fl11, ca_rt, ca_nx, io_i, ap_S, il_l, p_addS, p_addU, Nat.reduceLeDiff, sl_L, Int.natCast_zero, Int.natCast_one, Int.cast_ofNat_Int, sm0, sm1, sm2, p_eqI, p_neI, p_eqB, p_neB, p_eqS, p_neS, Option.map_some, Option.bind_some, slot, setS, setTs, isOw, Z.fill, unfill, owV, outs, outsA, List.getD_cons_zero, List.getD_cons_succ, List.set_cons_zero, List.set_cons_succ, List.length_cons, List.length_nil, List.any_cons, List.any_nil, List.append_nil, List.nil_append, List.cons_append, List.map_cons, List.map_nil, isTy, Bool.or_false, Bool.or_true, Bool.false_or, Bool.true_or, Bool.not_true, Bool.not_false, Bool.true_and, Bool.false_and, Bool.and_true, Bool.and_false, if_true, if_false, Bool.false_eq_true, reduceIte, List.not_mem_nil, List.mem_cons, or_false, false_or, not_false_eq_true, not_true_eq_false, and_true, and_false, and_self, true_and, Nat.reduceLT, Nat.reduceAdd, Nat.zero_add, Nat.lt_add_one, Nat.reduceEqDiff, Nat.lt_add_left_iff_pos, Nat.zero_lt_succ, Nat.zero_lt_one, Nat.succ_ne_self, reduceCtorEq, Nat.zero_ne_one, Nat.one_ne_zero, decide_true, decide_false, beq_self_eq_true, Int.reduceBEq, Int.reduceLT, Int.reduceLE, Int.reduceAdd, Int.reduceSub, Int.reduceNeg, Ss.nth, G, CL, u.nh, h29]
  have e2 : evS (CL (m + 2)) (b32.nth 2) (G (.v (.list (is.map .int))) o2 (.v (eNs N)) .hole .hole .hole .hole .hole .hole .hole .hole .hole .hole .hole .hole .hole .hole) = .nx (G (.v (.list (is.map .int))) o2 (.v (eNs N)) (.lst []) (.lst []) (.v (.bool false)) .hole .hole .hole .hole .hole .hole .hole .hole .hole .hole .hole) := by
    unfold b32
    simp only [evSs_cons, evSs_nil, evS, ev, evB, evF, evA, evP, evM, evI, evO, rb_ok, rb_ex, ro_ok, ro_ex, rn_ok, op_so, td_v, td_l, td_ex, ts_b, ts_l, ts_t, ts_i, Z.pk_nil, pk_v, pk_l, pk_i, ih_v, ih_l, ih_d, fz_v, fz_l, sq_nx, sq_rt, sq_ex, rs_rt, rs_nx, rs_ex, of_so, st_def, st_tup, st_lst, cb_ok, cb_ex, fin_ok, fin_ex, p_isi, p_lenT, p_lenL, p_int, p_intB, p_abs, p_add, p_sub, p_neg, p_lt, p_gt, p_le, p_ge, p_max, p_min, p_isN, p_notN, p_tupL, p_tupT, p_lstL, p_lstT, p_rev, ix0L, ix0T, ix1L, ix1T, ix2L, ix2T, pu0, pu1, pu2, ft0, ft1, ft2, ft3, ft4, fl0, fl1, fl2, fl3, fl4, fl5, fl6, fl7, fl8, fl9, fl10, fl11, ca_rt, ca_nx, io_i, ap_S, il_l, p_addS, p_addU, Nat.reduceLeDiff, sl_L, Int.natCast_zero, Int.natCast_one, Int.cast_ofNat_Int, sm0, sm1, sm2, p_eqI, p_neI, p_eqB, p_neB, p_eqS, p_neS, Option.map_some, Option.bind_some, slot, setS, setTs, isOw, Z.fill, unfill, owV, outs, outsA, List.getD_cons_zero, List.getD_cons_succ, List.set_cons_zero, List.set_cons_succ, List.length_cons, List.length_nil, List.any_cons, List.any_nil, List.append_nil, List.nil_append, List.cons_append, List.map_cons, List.map_nil, isTy, Bool.or_false, Bool.or_true, Bool.false_or, Bool.true_or, Bool.not_true, Bool.not_false, Bool.true_and, Bool.false_and, Bool.and_true, Bool.and_false, if_true, if_false, Bool.false_eq_true, reduceIte, List.not_mem_nil, List.mem_cons, or_false, false_or, not_false_eq_true, not_true_eq_false, and_true, and_false, and_self, true_and, Nat.reduceLT, Nat.reduceAdd, Nat.zero_add, Nat.lt_add_one, Nat.reduceEqDiff, Nat.lt_add_left_iff_pos, Nat.zero_lt_succ, Nat.zero_lt_one, Nat.succ_ne_self, reduceCtorEq, Nat.zero_ne_one, Nat.one_ne_zero, decide_true, decide_false, beq_self_eq_true, Int.reduceBEq, Int.reduceLT, Int.reduceLE, Int.reduceAdd, Int.reduceSub, Int.reduceNeg, Ss.nth, G, CL, setAll]
  rw [step_nx 0 (by decide) e0, step_nx 1 (by decide) e1, step_nx 2 (by decide) e2]
end
theorem plain (n : Nat) (hn : 60 ≤ n) : Plain n := by
  intro is hl _
  obtain ⟨m, rfl⟩ : ∃ m, n = m + 13 := ⟨n - 13, by omega⟩
  refine ⟨[.hole], ?_⟩
  rw [callN_of (G (.v (.list (is.map .int))) .hole .hole .hole .hole .hole .hole .hole .hole .hole .hole .hole .hole .hole .hole .hole .hole) b32 [] 1 (d := f32) rfl]
  show (evSs (CL (m + 12)) (b32.drop 0) _).res [] 1 = _
  obtain ⟨N, o, hN, u, e⟩ := L01 is hl (n := m + 12) (by omega)
  rw [e]
  obtain ⟨k, hk, Γ', e3, o3, rs, lap, got, one, other, price, near, far, rfl, u3, hlen, g⟩ := L3 (sc := .v (.list (is.map .int))) hN (n := m + 12) (by omega) (u.mono (by omega))
  rw [step_nx 3 (by decide) e3, step_nx 4 (by decide) L4]
  obtain ⟨o5, e5, u5⟩ := L56 (sc := .v (.list (is.map .int))) (bad := .v (.bool (rs.any (Row.bad N)))) (lap := lap) (got := got) (one := one) (things := .hole) (wrong := .hole) (other := other) (price := price) (near := near) (far := far) (own := .hole) hN u3 (by omega) (n := m + 12) (by omega) g
  rw [e5]
  obtain ⟨got7, e7⟩ := L7 (sc := .v (.list (is.map .int))) (rows := .v (.list (rs.map Row.e))) (due := .lst (rs.map (Row.due N))) (o := o5) (lap := lap) (one := one) (things := .hole) (wrong := .hole) (other := other) (price := price) (near := near) (far := far) (own := .hole) (x := .v (eNs N)) hN (n := m + 12) (by omega) g
  rw [step_nx 7 (by decide) e7, step_nx 8 (by decide) (L8b hN (by omega) g)]
  obtain ⟨t, o9, gt, e9⟩ := L9 (sc := .v (.list (is.map .int))) (rows := .v (.list (rs.map Row.e))) (due := .lst (rs.map (Row.due N))) (bad := .v (.bool (rs.any (Row.bad N)))) (lap := lap) (bk := .v (book N rs)) (got := got7) (one := one) (things := .hole) (wrong := .hole) (other := other) (price := price) (near := near) (far := far) (own := .hole) hN u5 (by omega) (n := m + 12) (by omega)
  rw [step_nx 9 (by decide) e9, step_nx 10 (by decide) L10, step_nx 11 (by decide) (L11 hN (by omega) gt)]
  obtain ⟨got12, e12⟩ := L12 (sc := .v (.list (is.map .int))) (o := o9) (rows := .v (.list (rs.map Row.e))) (due := .lst (rs.map (Row.due N))) (bad := .v (.bool (rs.any (Row.bad N)))) (lap := lap) (bk := .v (book N rs)) (one := .v t.e) (wrong := .hole) (other := other) (price := price) (near := near) (far := far) (own := .hole) (x := .v (eNs N)) (t := t) (n := m + 12) (by omega)
  rw [step_nx 12 (by decide) e12]
  obtain ⟨c, f, p, s, rfl⟩ := hN
  exact L13 m c f p s
theorem law : PySem.Challenge.rw_canlead_k03_rules_and_books_told.Holds := K03.holds (plain 64 (by decide)) ⟨rfl, by decide, by decide⟩
end K03
end
section
theorem PySem.Challenge.cw_canlead_k03_rules_and_books_told_holds : PySem.Challenge.rw_canlead_k03_rules_and_books_told.Holds :=
  K03.law
end
