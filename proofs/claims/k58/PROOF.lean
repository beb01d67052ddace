import PyProof.Rows.All
import Wide.All
import OpenK.AllK
import Wide.FinOn
import HandS.ForMost
import HandS.ForExc
import HandS.TupAny
import HandS.DeepEq
import HandS.IsInst
import HandS.Walk
import KE.GoesEnum
import HandS.ExcIs
import HandS.ListItems
import HandS.Conv
import HandS.WordsDict
import HandS.ExcOwn
import HandS.More
import HandS.SetFor
import HandS.Deep
import HandS.Text
import HandS.RaiseMore
import HandS.Wide
import KE.IntTextLaws
import HandS.TupMul
import HandS.ExcInit
import HandS.ExcField
import KE.KSuper
import KE.KExcSuper
import KE.KExcLine
import HandS.Iter
import PySem.Challenge.RW_lendback_k58_memory_cells
set_option Elab.async false
set_option linter.all false
set_option maxRecDepth 100000
set_option maxHeartbeats 1000000
namespace DL
open PySem L2
/-- data: what a program's value is, whatever the addresses of its tuples -/
inductive D where
  | non | bl (b : Bool) | int (i : Int) | str (x : Str) | ref (a : Addr) | ty (n : String) | tup (l : List D) | rol (l : List D)
/-- objects that never change keep standing -/
def fixedO : HO → Prop
  | .tup _ => True
  | .frz _ _ => True
  | _ => False
def Imm (H H' : Hp) : Prop := ∀ a o, H a = some o → fixedO o → H' a = some o
theorem Imm.refl (H : Hp) : Imm H H := fun _ _ h _ => h
theorem Imm.trans {H H1 H2 : Hp} (a : Imm H H1) (b : Imm H1 H2) : Imm H H2 := fun x o h f => b x o (a x o h f) f
theorem Imm.new {H : Hp} {p : Addr} {o : HO} (h : H p = none) : Imm H (upd H p o) := fun a u e _ => by
  rw [upd_ne (ne_of_none e h)]
  exact e
theorem Imm.set {H : Hp} {p : Addr} {o u : HO} (h : H p = some u) (nf : ¬ fixedO u) : Imm H (upd H p o) := fun a w e f => by
  by_cases hap : a = p
  · subst hap
    rw [h] at e
    cases e
    exact absurd f nf
  · rw [upd_ne hap]
    exact e
theorem imm_rdT {H H' : Hp} {a : Addr} {xs : List V} (i : Imm H H') (h : Rd H a (.tup xs)) : Rd H' a (.tup xs) := by
  rcases h with h | ⟨o, h⟩
  · exact .inl (i a _ h trivial)
  · exact .inr ⟨o, i a _ h trivial⟩
theorem imm_sqT {K : PySem.W.Frag} {H H' : Hp} {a : Addr} {xs : List V} (i : Imm H H') (h : SqT K H a xs) : SqT K H' a xs := by
  rcases h with h | h
  · exact .inl (imm_rdT i h)
  · exact .inr h
/-- a list that never changes -/
def SqF (K : PySem.W.Frag) (H : Hp) (a : Addr) (xs : List V) : Prop :=
  (∃ o, H a = some (.frz o (.lst xs))) ∨
    ∃ (o : Obj) (its : Array Value) (n : Nat), K.lookup a = some o ∧ o.cls = .type "list" ∧ o.dict = none ∧ o.data = .seq its n ∧ its.size ≤ sizeLine ∧ Vals xs its.toList
theorem SqF.sq {K : PySem.W.Frag} {H : Hp} {a : Addr} {xs : List V} (h : SqF K H a xs) : SqL K H a xs := by
  rcases h with ⟨o, h⟩ | h
  · exact .inl (.inr ⟨o, h⟩)
  · exact .inr h
theorem imm_sqF {K : PySem.W.Frag} {H H' : Hp} {a : Addr} {xs : List V} (i : Imm H H') (h : SqF K H a xs) : SqF K H' a xs := by
  rcases h with ⟨o, h⟩ | h
  · exact .inl ⟨o, i a _ h trivial⟩
  · exact .inr h
mutual
inductive Tp (K : PySem.W.Frag) (H : Hp) : V → D → Prop
  | non : Tp K H .non .non
  | bl (b : Bool) : Tp K H (.bl b) (.bl b)
  | int (i : Int) : Tp K H (.int i) (.int i)
  | str (x : Str) : Tp K H (.str x) (.str x)
  | ref (a : Addr) : Tp K H (.ref a) (.ref a)
  | ty (n : String) : Tp K H (.ty n) (.ty n)
  | tup {a : Addr} {xs : List V} {ds : List D} : SqT K H a xs → Tps K H xs ds → Tp K H (.ref a) (.tup ds)
  | rol {a : Addr} {xs : List V} {ds : List D} : SqF K H a xs → Tps K H xs ds → Tp K H (.ref a) (.rol ds)
inductive Tps (K : PySem.W.Frag) (H : Hp) : List V → List D → Prop
  | nil : Tps K H [] []
  | cons {v : V} {vs : List V} {d : D} {ds : List D} : Tp K H v d → Tps K H vs ds → Tps K H (v :: vs) (d :: ds)
end
mutual
theorem Tp.mono {K : PySem.W.Frag} {H H' : Hp} (i : Imm H H') : ∀ (d : D) (v : V), Tp K H v d → Tp K H' v d
  | .non, _, h => by cases h; exact .non
  | .bl b, _, h => by cases h; exact .bl b
  | .int n, _, h => by cases h; exact .int n
  | .str x, _, h => by cases h; exact .str x
  | .ref a, _, h => by cases h; exact .ref a
  | .ty n, _, h => by cases h; exact .ty n
  | .tup ds, _, h => by
    cases h with
    | tup hs ha => exact .tup (imm_sqT i hs) (Tps.mono i ds _ ha)
  | .rol ds, _, h => by
    cases h with
    | rol hs ha => exact .rol (imm_sqF i hs) (Tps.mono i ds _ ha)
theorem Tps.mono {K : PySem.W.Frag} {H H' : Hp} (i : Imm H H') : ∀ (ds : List D) (vs : List V), Tps K H vs ds → Tps K H' vs ds
  | [], _, h => by cases h; exact .nil
  | d :: ds, _, h => by
    cases h with
    | cons h1 h2 => exact .cons (Tp.mono i d _ h1) (Tps.mono i ds _ h2)
end
section
variable {K : PySem.W.Frag} {H : Hp}
theorem Tps.length : ∀ {vs : List V} {ds : List D}, Tps K H vs ds → vs.length = ds.length
  | _, _, .nil => rfl
  | _, _, .cons _ t => by rw [List.length_cons, List.length_cons, Tps.length t]
theorem Tps.get : ∀ {vs : List V} {ds : List D} {i : Nat} {d : D}, Tps K H vs ds → ds[i]? = some d → ∃ v, vs[i]? = some v ∧ Tp K H v d
  | _, _, _, _, .nil, h => by simp at h
  | _, _, 0, _, .cons r _, h => by simp at h; subst h; exact ⟨_, rfl, r⟩
  | _, _, i + 1, _, .cons _ t, h => by
    obtain ⟨v, e, r⟩ := Tps.get (i := i) t (by simpa using h)
    exact ⟨v, by simpa using e, r⟩
theorem Tps.get' : ∀ {vs : List V} {ds : List D} {i : Nat} {v : V}, Tps K H vs ds → vs[i]? = some v → ∃ d, ds[i]? = some d ∧ Tp K H v d
  | _, _, _, _, .nil, h => by simp at h
  | _, _, 0, _, .cons r _, h => by simp at h; subst h; exact ⟨_, rfl, r⟩
  | _, _, i + 1, _, .cons _ t, h => by
    obtain ⟨v, e, r⟩ := Tps.get' (i := i) t (by simpa using h)
    exact ⟨v, by simpa using e, r⟩
theorem Tps.append : ∀ {vs us : List V} {ds es : List D}, Tps K H vs ds → Tps K H us es → Tps K H (vs ++ us) (ds ++ es)
  | _, _, _, _, .nil, s => s
  | _, _, _, _, .cons r t, s => .cons r (Tps.append t s)
theorem Tps.take : ∀ {vs : List V} {ds : List D} (n : Nat), Tps K H vs ds → Tps K H (vs.take n) (ds.take n)
  | _, _, 0, _ => .nil
  | _, _, _ + 1, .nil => .nil
  | _, _, n + 1, .cons r t => .cons r (Tps.take n t)
theorem Tps.drop : ∀ {vs : List V} {ds : List D} (n : Nat), Tps K H vs ds → Tps K H (vs.drop n) (ds.drop n)
  | _, _, 0, r => r
  | _, _, _ + 1, .nil => .nil
  | _, _, n + 1, .cons _ t => Tps.drop n t
theorem Tps.set {v : V} {d : D} (r : Tp K H v d) : ∀ {vs : List V} {ds : List D} (n : Nat), Tps K H vs ds → Tps K H (vs.set n v) (ds.set n d)
  | _, _, _, .nil => .nil
  | _, _, 0, .cons _ t => .cons r t
  | _, _, n + 1, .cons q t => .cons q (Tps.set r n t)
theorem Tps.dropLast : ∀ {vs : List V} {ds : List D}, Tps K H vs ds → Tps K H vs.dropLast ds.dropLast
  | _, _, .nil => .nil
  | _, _, .cons _ .nil => .nil
  | _, _, .cons r (.cons q t) => .cons r (Tps.dropLast (.cons q t))
theorem Tps.eraseIdx : ∀ {vs : List V} {ds : List D} (n : Nat), Tps K H vs ds → Tps K H (vs.eraseIdx n) (ds.eraseIdx n)
  | _, _, _, .nil => .nil
  | _, _, 0, .cons _ t => t
  | _, _, n + 1, .cons r t => .cons r (Tps.eraseIdx n t)
theorem Tps.cut {vs : List V} {ds : List D} (lo hi : Option Int) (r : Tps K H vs ds) : Tps K H (cutV vs lo hi) ((ds.drop (HT.sIx ds.length 0 lo)).take (HT.sIx ds.length ds.length hi - HT.sIx ds.length 0 lo)) := by
  unfold cutV
  rw [r.length]
  exact (r.drop _).take _
theorem Tps.reverse {vs : List V} {ds : List D} (r : Tps K H vs ds) : Tps K H vs.reverse ds.reverse := by
  induction r using Tps.rec (motive_1 := fun _ _ _ => True) with
  | nil => exact .nil
  | cons r _ _ ih => rw [List.reverse_cons, List.reverse_cons]; exact ih.append (.cons r .nil)
  | _ => trivial
theorem Tps.ints : ∀ (ns : List Int), Tps K H (ns.map V.int) (ns.map D.int)
  | [] => .nil
  | n :: r => .cons (.int n) (Tps.ints r)
theorem tps_ints : ∀ {vs : List V} {ns : List Int}, Tps K H vs (ns.map D.int) → vs = ns.map V.int
  | _, [], .nil => rfl
  | _, n :: r, .cons h t => by cases h; rw [tps_ints t]; rfl
theorem tps_strs : ∀ {vs : List V} {ns : List Str}, Tps K H vs (ns.map D.str) → vs = ns.map V.str
  | _, [], .nil => rfl
  | _, n :: r, .cons h t => by cases h; rw [tps_strs t]; rfl
theorem Tps.strs : ∀ (ns : List Str), Tps K H (ns.map V.str) (ns.map D.str)
  | [] => .nil
  | n :: r => .cons (.str n) (Tps.strs r)
end
/-! ### what stands at an address that may change -/
inductive MO where
  | lst (ds : List D)
  | dK (kvs : List (Key × D))
  | ins (C dx : Addr) (fs : List (Str × D))
  | own (x : Addr)
  | fix (o : HO)
  | xd (fs : List (Str × D))
abbrev Mp := Addr → Option MO
def updM (M : Mp) (a : Addr) (o : MO) : Mp := fun b => if b = a then some o else M b
theorem updM_same {M : Mp} {a : Addr} {o : MO} : updM M a o a = some o := by unfold updM; rw [if_pos rfl]
theorem updM_ne {M : Mp} {a b : Addr} {o : MO} (h : b ≠ a) : updM M a o b = M b := by unfold updM; rw [if_neg h]
theorem updM_updM {M : Mp} {a : Addr} {o u : MO} : updM (updM M a o) a u = updM M a u := by
  funext b; unfold updM; split <;> rfl
inductive KVs (K : PySem.W.Frag) (H : Hp) {κ : Type} : List (κ × V) → List (κ × D) → Prop
  | nil : KVs K H [] []
  | cons {k : κ} {v : V} {d : D} {vs : List (κ × V)} {ds : List (κ × D)} : Tp K H v d → KVs K H vs ds → KVs K H ((k, v) :: vs) ((k, d) :: ds)
theorem KVs.mono {K : PySem.W.Frag} {H H' : Hp} {κ : Type} (i : Imm H H') : ∀ {vs : List (κ × V)} {ds : List (κ × D)}, KVs K H vs ds → KVs K H' vs ds
  | _, _, .nil => .nil
  | _, _, .cons r t => .cons (Tp.mono i _ _ r) (KVs.mono i t)
theorem KVs.length {K : PySem.W.Frag} {H : Hp} {κ : Type} : ∀ {vs : List (κ × V)} {ds : List (κ × D)}, KVs K H vs ds → vs.length = ds.length
  | _, _, .nil => rfl
  | _, _, .cons _ t => by rw [List.length_cons, List.length_cons, KVs.length t]
def RelO (K : PySem.W.Frag) (H : Hp) : MO → HO → Prop
  | .lst ds, o => ∃ xs, o = .lst xs ∧ Tps K H xs ds
  | .dK kvs, o => ∃ xs, o = .dK xs ∧ KVs K H xs kvs
  | .ins C dx fs, o => ∃ gs, o = .ins C dx gs ∧ KVs K H gs fs
  | .own x, o => o = .own x
  | .fix u, o => o = u ∧ fixedO u
  | .xd fs, o => ∃ gs, o = .xd gs ∧ KVs K H gs fs
theorem RelO.mono {K : PySem.W.Frag} {H H' : Hp} (i : Imm H H') : ∀ {m : MO} {o : HO}, RelO K H m o → RelO K H' m o
  | .lst _, _, ⟨xs, e, h⟩ => ⟨xs, e, Tps.mono i _ _ h⟩
  | .dK _, _, ⟨xs, e, h⟩ => ⟨xs, e, KVs.mono i h⟩
  | .ins _ _ _, _, ⟨gs, e, h⟩ => ⟨gs, e, KVs.mono i h⟩
  | .own _, _, e => e
  | .fix _, _, e => e
  | .xd _, _, ⟨gs, e, h⟩ => ⟨gs, e, KVs.mono i h⟩
def RelM (K : PySem.W.Frag) (M : Mp) (H : Hp) : Prop := ∀ a m, M a = some m → ∃ o, H a = some o ∧ RelO K H m o
section
variable {K : PySem.W.Frag} {H H' : Hp} {M M' : Mp} {p : Addr} {m : MO} {o : HO}
theorem RelM.fresh (r : RelM K M H) (h : H p = none) : M p = none := by
  cases e : M p with
  | none => rfl
  | some m =>
    obtain ⟨o, q, _⟩ := r p m e
    rw [h] at q
    cases q
/-- a new object that M does not tell -/
theorem RelM.skip (r : RelM K M H) (h : H p = none) : RelM K M (upd H p o) := fun a m e => by
  obtain ⟨u, q, z⟩ := r a m e
  exact ⟨u, by rw [upd_ne (ne_of_none q h)]; exact q, z.mono (Imm.new h)⟩
theorem RelM.new (r : RelM K M H) (h : H p = none) (z : RelO K (upd H p o) m o) : RelM K (updM M p m) (upd H p o) := fun a n e => by
  by_cases hap : a = p
  · subst hap
    rw [updM_same] at e
    cases e
    exact ⟨o, upd_same, z⟩
  · rw [updM_ne hap] at e
    exact r.skip h a n e
theorem RelM.set (r : RelM K M H) {u : HO} (h : H p = some u) (nf : ¬ fixedO u) (z : RelO K (upd H p o) m o) : RelM K (updM M p m) (upd H p o) := fun a n e => by
  by_cases hap : a = p
  · subst hap
    rw [updM_same] at e
    cases e
    exact ⟨o, upd_same, z⟩
  · rw [updM_ne hap] at e
    obtain ⟨w, q, y⟩ := r a n e
    exact ⟨w, by rw [upd_ne hap]; exact q, y.mono (Imm.set h nf)⟩
/-- less is told -/
def Mle (M M' : Mp) : Prop := ∀ a m, M a = some m → M' a = some m
theorem Mle.refl (M : Mp) : Mle M M := fun _ _ h => h
theorem Mle.trans {M M1 M2 : Mp} (a : Mle M M1) (b : Mle M1 M2) : Mle M M2 := fun x o h => b x o (a x o h)
theorem Mle.new (h : M p = none) : Mle M (updM M p m) := fun a n e => by
  rw [updM_ne (by rintro rfl; rw [h] at e; cases e)]
  exact e
theorem Mle.new2 (l : Mle M M') (h : M p = none) : Mle M (updM M' p m) := fun a n e => by
  rw [updM_ne (by rintro rfl; rw [h] at e; cases e)]
  exact l a n e
theorem RelM.le (r : RelM K M' H) (l : Mle M M') : RelM K M H := fun a n e => r a n (l a n e)
theorem mne {a b : Addr} {m : MO} (h : M a = some m) (h' : M b = none) : a ≠ b := by
  rintro rfl
  rw [h] at h'
  cases h'
end
theorem Mle.fresh {M M' : Mp} {p : Addr} (l : Mle M M') (h : M' p = none) : M p = none := by
  cases e : M p with
  | none => rfl
  | some m =>
    have := l p m e
    rw [h] at this
    cases this
theorem Mle.newR {M M' : Mp} {p : Addr} {m : MO} (l : Mle M M') (h : M' p = none) : Mle M (updM M' p m) := l.new2 (l.fresh h)
/-- all but what stands at a is kept -/
def Keep (a : Addr) (M M' : Mp) : Prop := ∀ b m, b ≠ a → M b = some m → M' b = some m
theorem Keep.refl {a : Addr} {M : Mp} : Keep a M M := fun _ _ _ h => h
theorem Keep.trans {a : Addr} {M M1 M2 : Mp} (h : Keep a M M1) (k : Keep a M1 M2) : Keep a M M2 := fun b m hb e => k b m hb (h b m hb e)
theorem Keep.upd {a : Addr} {M : Mp} {m : MO} : Keep a M (updM M a m) := fun b n hb e => by rw [updM_ne hb]; exact e
theorem Keep.set {a : Addr} {M M' : Mp} {m : MO} (k : Keep a M M') : Keep a M (updM M' a m) := k.trans Keep.upd
theorem Keep.newR {a p : Addr} {M M' : Mp} {m : MO} (k : Keep a M M') (h : M' p = none) : Keep a M (updM M' p m) := fun b n hb e => by
  have e' := k b n hb e
  rw [updM_ne (by rintro rfl; rw [h] at e'; cases e')]
  exact e'
theorem Mle.keep {a : Addr} {M M' : Mp} (l : Mle M M') : Keep a M M' := fun b m _ e => l b m e
theorem Keep.to {a : Addr} {M M1 M2 : Mp} (h : Keep a M M1) (l : Mle M1 M2) : Keep a M M2 := h.trans l.keep
/-- a write to another place that M does not tell -/
theorem Keep.setN {a p : Addr} {M M' : Mp} {m : MO} (k : Keep a M M') (h : M p = none) : Keep a M (updM M' p m) := fun b n hb e => by
  rw [updM_ne (by rintro rfl; rw [h] at e; cases e)]
  exact k b n hb e
theorem Keep.fresh {a p : Addr} {M M' : Mp} (k : Keep a M M') (ha : ∃ m, M' a = some m) (h : M' p = none) : M p = none := by
  cases e : M p with
  | none => rfl
  | some m =>
    have hne : p ≠ a := by
      rintro rfl
      obtain ⟨m', q⟩ := ha
      rw [h] at q
      cases q
    have := k p m hne e
    rw [h] at this
    cases this
theorem Keep.other {a p : Addr} {M M1 M2 : Mp} (k : Keep a M M1) (k' : Keep p M1 M2) (h : M p = none) : Keep a M M2 := fun b m hb e => k' b m (by rintro rfl; rw [h] at e; cases e) (k b m hb e)
theorem Mle.other {p : Addr} {M M1 M2 : Mp} (k : Mle M M1) (k' : Keep p M1 M2) (h : M p = none) : Mle M M2 := fun b m e => k' b m (by rintro rfl; rw [h] at e; cases e) (k b m e)
/-- a new object; an object changed -/
def NewM (M : Mp) (o : MO) (Q : Addr → Mp → Prop) : Prop := ∀ p M', M p = none → M' p = some o → Mle M M' → Q p M'
def SetM (M : Mp) (a : Addr) (o : MO) (Q : Mp → Prop) : Prop := ∀ M', M' a = some o → Keep a M M' → Q M'
theorem NewM.at {M : Mp} {o : MO} {Q : Addr → Mp → Prop} (h : NewM M o Q) {p : Addr} (hp : M p = none) : Q p (updM M p o) := h p _ hp updM_same (Mle.new hp)
theorem SetM.at {M : Mp} {a : Addr} {o : MO} {Q : Mp → Prop} (h : SetM M a o Q) : Q (updM M a o) := h _ updM_same Keep.upd
theorem Keep.at {a p : Addr} {M M' : Mp} {m : MO} (k : Keep a M M') (h : p ≠ a) (e : M p = some m) : M' p = some m := k p m h e
theorem Mle.at {p : Addr} {M M' : Mp} {m : MO} (k : Mle M M') (e : M p = some m) : M' p = some m := k p m e
/-! ### slots -/
abbrev Sd := List (Option D)
structure Slots (K : PySem.W.Frag) (H : Hp) (σv : L2.St) (σ : Sd) : Prop where
  len : σv.length = σ.length
  at_ : ∀ (i : Nat) (d : D), σ[i]? = some (some d) → ∃ v, σv[i]? = some (some v) ∧ Tp K H v d
section
variable {K : PySem.W.Frag} {H H' : Hp} {σv : L2.St} {σ : Sd}
theorem Slots.mono (i : Imm H H') (s : Slots K H σv σ) : Slots K H' σv σ := ⟨s.len, fun j d h => let ⟨v, e, r⟩ := s.at_ j d h; ⟨v, e, Tp.mono i _ _ r⟩⟩
theorem Slots.set (s : Slots K H σv σ) {v : V} {d : D} (r : Tp K H v d) (i : Nat) : Slots K H (σv.set i (some v)) (σ.set i (some d)) := by
  refine ⟨by rw [List.length_set, List.length_set, s.len], fun j e h => ?_⟩
  by_cases hj : j = i
  · subst hj
    by_cases hl : j < σ.length
    · rw [List.getElem?_set_self hl] at h
      cases h
      exact ⟨v, by rw [List.getElem?_set_self (by rw [s.len]; exact hl)], r⟩
    · rw [List.getElem?_eq_none (by rw [List.length_set]; omega)] at h
      cases h
  · rw [List.getElem?_set_ne (Ne.symm hj)] at h
    obtain ⟨v', e', r'⟩ := s.at_ j e h
    exact ⟨v', by rw [List.getElem?_set_ne (Ne.symm hj)]; exact e', r'⟩
def startD (N : List Str) (ds : List D) : Sd := ds.map some ++ List.replicate (N.length - ds.length) none
theorem Slots.start {N : List Str} {vs : List V} {ds : List D} (r : Tps K H vs ds) : Slots K H (L2.start N vs) (startD N ds) := by
  refine ⟨by unfold L2.start startD; rw [List.length_append, List.length_append, List.length_map, List.length_map, List.length_replicate, List.length_replicate, r.length], fun i d h => ?_⟩
  unfold startD at h
  by_cases hi : i < ds.length
  · rw [List.getElem?_append_left (by rw [List.length_map]; exact hi), List.getElem?_map] at h
    cases e : ds[i]? with
    | none => rw [e] at h; cases h
    | some d' =>
      rw [e] at h
      cases h
      obtain ⟨v, q, z⟩ := r.get e
      refine ⟨v, ?_, z⟩
      unfold L2.start
      rw [List.getElem?_append_left (by rw [List.length_map, r.length]; exact hi), List.getElem?_map, q]
      rfl
  · rw [List.getElem?_append_right (by rw [List.length_map]; omega), List.getElem?_replicate] at h
    split at h <;> cases h
end
end DL
set_option maxHeartbeats 1000000
namespace DL
open PySem L2 PySem.Spec PyProof.Rows
/-! ### readings by meaning -/
def tE (X : Cx) (e : Expr) : TE := fun σ H Q => ∀ pins s, Inv X pins σ H s → wpAny (model X.prog X.w) X.A (eval e X.env) (EP X pins σ Q) X.xe s
def tT (X : Cx) (e : Expr) : TT := fun σ H Q => ∀ pins s, Inv X pins σ H s → wpAny (model X.prog X.w) X.A (isTrue e X.env (eval e X.env)) (TP X pins σ Q) X.xe s
def tW (X : Cx) (e : Expr) : TT := fun σ H Q => ∀ whole pins s, Inv X pins σ H s → wpAny (model X.prog X.w) X.A (isTrue e X.env whole) (TP X pins σ Q) X.xe s
def tA (X : Cx) (es : List Expr) : TA := fun σ H Q => ∀ pos pins s, Inv X pins σ H s → wpAny (model X.prog X.w) X.A (spliced (backTo pos (starEach es X.env))) (AP X pins σ Q) X.xe s
def tS (X : Cx) (st : Stmt) : TS := fun D σ H => ∀ pins s, Inv X pins σ H s → wpAny (model X.prog X.w) X.A (exec st X.env) (SP X pins D) X.xe s
def tSs (X : Cx) (st : List Stmt) : TS := fun D σ H => ∀ pins s, Inv X pins σ H s → wpAny (model X.prog X.w) X.A (execs st X.env) (SP X pins D) X.xe s
def tG (X : Cx) (tg : Expr) : TG := fun v σ H Q => ∀ pins s u, Inv X pins σ H s → RelV v u → wpAny (model X.prog X.w) X.A (assign tg X.env u) (fun _ s' => ∃ σ' H', Inv X pins σ' H' s' ∧ Q σ' H') X.xe s
def tGs (X : Cx) (ts : List Expr) : TGs := fun vs σ H Q => ∀ pins s us, Inv X pins σ H s → Vals vs us → wpAny (model X.prog X.w) X.A (assignInOrder ((assignEach ts X.env).map (·.2)) us) (fun _ s' => ∃ σ' H', Inv X pins σ' H' s' ∧ Q σ' H') X.xe s
def tI (X : Cx) (tg iter : Expr) : TI := fun σ H R => ∀ pins s, Inv X pins σ H s → wpAny (model X.prog X.w) X.A (eval iter X.env) (fun v s1 => wpAny (model X.prog X.w) X.A (pyIter v) (PIE X pins σ tg R) X.xe s1) X.xe s
def tO (X : Cx) (e : Option Expr) (t : TO) : Prop := PO X e t
section
variable {X : Cx} {e : Expr} {es : List Expr} {st : Stmt} {sts : List Stmt} {tg iter : Expr}
theorem pe_sem : PE X e (tE X e) := ⟨fun pins s σ H Q I h => h pins s I⟩
theorem pt_sem : PT X e (tT X e) := ⟨fun pins s σ H Q I h => h pins s I⟩
theorem pw_sem : PW X e (tW X e) := ⟨fun wh pins s σ H Q I h => h wh pins s I⟩
theorem pa_sem : PA X es (tA X es) := ⟨fun pos pins s σ H Q I h => h pos pins s I⟩
theorem ps_sem : PS X st (tS X st) := ⟨fun pins s σ H D I h => h pins s I⟩
theorem pss_sem : PSs X sts (tSs X sts) := ⟨fun pins s σ H D I h => h pins s I⟩
theorem pg_sem : PG X tg (tG X tg) := ⟨fun pins s σ H v u Q I r h => h pins s u I r⟩
theorem pgs_sem : PGs X es (tGs X es) := ⟨fun pins s σ H vs us Q I r h => h pins s us I r⟩
theorem pi_sem : PI X tg iter (tI X tg iter) := ⟨fun pins s σ H R I h => h pins s I⟩
variable {σ σ' : L2.St} {H H' : Hp}
theorem tE.mono {Q Q' : VK} (h : tE X e σ H Q) (k : ∀ v H', Q v H' → Q' v H') : tE X e σ H Q' := fun pins s I => thn (h pins s I) fun u s' ⟨v, H', I', r, q⟩ => ⟨v, H', I', r, k v H' q⟩
theorem tT.mono {Q Q' : Bool → Hp → Prop} (h : tT X e σ H Q) (k : ∀ v H', Q v H' → Q' v H') : tT X e σ H Q' := fun pins s I => thn (h pins s I) fun u s' ⟨H', I', q⟩ => ⟨H', I', k u H' q⟩
theorem tW.mono {Q Q' : Bool → Hp → Prop} (h : tW X e σ H Q) (k : ∀ v H', Q v H' → Q' v H') : tW X e σ H Q' := fun wh pins s I => thn (h wh pins s I) fun u s' ⟨H', I', q⟩ => ⟨H', I', k u H' q⟩
theorem tA.mono {Q Q' : List V → Hp → Prop} (h : tA X es σ H Q) (k : ∀ v H', Q v H' → Q' v H') : tA X es σ H Q' := fun pos pins s I => thn (h pos pins s I) fun u s' ⟨v, H', I', r, q⟩ => ⟨v, H', I', r, k v H' q⟩
theorem tG.mono {v : V} {Q Q' : L2.St → Hp → Prop} (h : tG X tg v σ H Q) (k : ∀ v H', Q v H' → Q' v H') : tG X tg v σ H Q' := fun pins s u I r => thn (h pins s u I r) fun _ s' ⟨σ', H', I', q⟩ => ⟨σ', H', I', k σ' H' q⟩
theorem tGs.mono {vs : List V} {Q Q' : L2.St → Hp → Prop} (h : tGs X es vs σ H Q) (k : ∀ v H', Q v H' → Q' v H') : tGs X es vs σ H Q' := fun pins s u I r => thn (h pins s u I r) fun _ s' ⟨σ', H', I', q⟩ => ⟨σ', H', I', k σ' H' q⟩
theorem tI.mono {R R' : It → Hp → Prop} (h : tI X tg iter σ H R) (k : ∀ v H', R v H' → R' v H') : tI X tg iter σ H R' := fun pins s I => thn (h pins s I) fun v s1 h1 => thn h1 fun itv s2 ⟨it, fp, tn, J, H2, e, I2, T, st, f, q⟩ => ⟨it, fp, tn, J, H2, e, I2, T, st, f, k J H2 q⟩
structure EndsLe (D D' : Ends) : Prop where
  nx : ∀ σ H, D.nx σ H → D'.nx σ H
  rt : ∀ v H, D.rt v H → D'.rt v H
  bk : ∀ σ H, D.bk σ H → D'.bk σ H
  ct : ∀ σ H, D.ct σ H → D'.ct σ H
theorem SP.le {D D' : Ends} {pins : List (Addr × Obj)} {f : Flow} {s' : Shared} (h : SP X pins D f s') (k : EndsLe D D') : SP X pins D' f s' := by
  cases f with
  | next => obtain ⟨σ', H', I, q⟩ := h; exact ⟨σ', H', I, k.nx _ _ q⟩
  | brk => obtain ⟨σ', H', I, q⟩ := h; exact ⟨σ', H', I, k.bk _ _ q⟩
  | cont => obtain ⟨σ', H', I, q⟩ := h; exact ⟨σ', H', I, k.ct _ _ q⟩
  | ret u => obtain ⟨v, σ', H', I, r, q⟩ := h; exact ⟨v, σ', H', I, r, k.rt _ _ q⟩
theorem tS.mono {D D' : Ends} (h : tS X st D σ H) (k : EndsLe D D') : tS X st D' σ H := fun pins s I => thn (h pins s I) fun f s' q => SP.le q k
theorem tSs.mono {D D' : Ends} (h : tSs X sts D σ H) (k : EndsLe D D') : tSs X sts D' σ H := fun pins s I => thn (h pins s I) fun f s' q => SP.le q k
end
/-! ### the judgements over data -/
abbrev QD := D → Mp → Prop
/-- what follows, from the heap H on -/
def DQ (K : PySem.W.Frag) (H : Hp) (Q : QD) : VK := fun v H' => Imm H H' ∧ ∃ d M, RelM K M H' ∧ Tp K H' v d ∧ Q d M
def DB (K : PySem.W.Frag) (H : Hp) (Q : Bool → Mp → Prop) : Bool → Hp → Prop := fun b H' => Imm H H' ∧ ∃ M, RelM K M H' ∧ Q b M
def DA (K : PySem.W.Frag) (H : Hp) (Q : List D → Mp → Prop) : List V → Hp → Prop := fun vs H' => Imm H H' ∧ ∃ ds M, RelM K M H' ∧ Tps K H' vs ds ∧ Q ds M
def DN (K : PySem.W.Frag) (H : Hp) (Q : Sd → Mp → Prop) : L2.St → Hp → Prop := fun σv H' => Imm H H' ∧ ∃ σ M, Slots K H' σv σ ∧ RelM K M H' ∧ Q σ M
structure DE where
  nx : Sd → Mp → Prop
  rt : QD
  bk : Sd → Mp → Prop := fun _ _ => False
  ct : Sd → Mp → Prop := fun _ _ => False
def DE.ends (K : PySem.W.Frag) (H : Hp) (E : DE) : Ends := { nx := DN K H E.nx, rt := DQ K H E.rt, bk := DN K H E.bk, ct := DN K H E.ct }
section
variable {K : PySem.W.Frag} {H H0 H1 : Hp}
theorem DQ.from {Q : QD} (i : Imm H0 H) {v : V} {H' : Hp} (h : DQ K H Q v H') : DQ K H0 Q v H' := ⟨i.trans h.1, h.2⟩
theorem DB.from {Q : Bool → Mp → Prop} (i : Imm H0 H) {v : Bool} {H' : Hp} (h : DB K H Q v H') : DB K H0 Q v H' := ⟨i.trans h.1, h.2⟩
theorem DA.from {Q : List D → Mp → Prop} (i : Imm H0 H) {v : List V} {H' : Hp} (h : DA K H Q v H') : DA K H0 Q v H' := ⟨i.trans h.1, h.2⟩
theorem DN.from {Q : Sd → Mp → Prop} (i : Imm H0 H) {v : L2.St} {H' : Hp} (h : DN K H Q v H') : DN K H0 Q v H' := ⟨i.trans h.1, h.2⟩
theorem DE.from {E : DE} (i : Imm H0 H) : EndsLe (E.ends K H) (E.ends K H0) := ⟨fun _ _ h => DN.from i h, fun _ _ h => DQ.from i h, fun _ _ h => DN.from i h, fun _ _ h => DN.from i h⟩
end
structure ES (X : Cx) (e : Expr) (σ : Sd) (M : Mp) (Q : QD) : Prop where
  run : ∀ σv H, Slots X.K H σv σ → RelM X.K M H → tE X e σv H (DQ X.K H Q)
structure TT3 (X : Cx) (e : Expr) (σ : Sd) (M : Mp) (Q : Bool → Mp → Prop) : Prop where
  run : ∀ σv H, Slots X.K H σv σ → RelM X.K M H → tT X e σv H (DB X.K H Q)
structure TW3 (X : Cx) (e : Expr) (σ : Sd) (M : Mp) (Q : Bool → Mp → Prop) : Prop where
  run : ∀ σv H, Slots X.K H σv σ → RelM X.K M H → tW X e σv H (DB X.K H Q)
structure AS (X : Cx) (es : List Expr) (σ : Sd) (M : Mp) (Q : List D → Mp → Prop) : Prop where
  run : ∀ σv H, Slots X.K H σv σ → RelM X.K M H → tA X es σv H (DA X.K H Q)
structure SS (X : Cx) (st : Stmt) (σ : Sd) (M : Mp) (E : DE) : Prop where
  run : ∀ σv H, Slots X.K H σv σ → RelM X.K M H → tS X st (E.ends X.K H) σv H
structure SSs (X : Cx) (sts : List Stmt) (σ : Sd) (M : Mp) (E : DE) : Prop where
  run : ∀ σv H, Slots X.K H σv σ → RelM X.K M H → tSs X sts (E.ends X.K H) σv H
structure GS (X : Cx) (tg : Expr) (d : D) (σ : Sd) (M : Mp) (Q : Sd → Mp → Prop) : Prop where
  run : ∀ σv H v, Slots X.K H σv σ → RelM X.K M H → Tp X.K H v d → tG X tg v σv H (DN X.K H Q)
structure GSs (X : Cx) (ts : List Expr) (ds : List D) (σ : Sd) (M : Mp) (Q : Sd → Mp → Prop) : Prop where
  run : ∀ σv H vs, Slots X.K H σv σ → RelM X.K M H → Tps X.K H vs ds → tGs X ts vs σv H (DN X.K H Q)
/-- what is walked: the items are known ahead; they stay while G holds of what may change -/
structure WalkD (K : PySem.W.Frag) (H0 : Hp) (J : It) (its : List D) (G : Mp → Prop) : Prop where
  goes : ∀ i H M, Imm H0 H → RelM K M H → G M → i < its.length → J.go i H
  stops : ∀ H M, Imm H0 H → RelM K M H → G M → J.stop its.length H
  yields : ∀ i H M x H' d, Imm H0 H → RelM K M H → G M → its[i]? = some d → J.yld i H x H' → Imm H H' ∧ RelM K M H' ∧ Tp K H' x d
structure IS (X : Cx) (tg iter : Expr) (σ : Sd) (M : Mp) (R : List D → (Mp → Prop) → Mp → Prop) : Prop where
  run : ∀ σv H, Slots X.K H σv σ → RelM X.K M H → tI X tg iter σv H fun J H1 => Imm H H1 ∧ ∃ its G M1, RelM X.K M1 H1 ∧ WalkD X.K H1 J its G ∧ R its G M1
section
variable {X : Cx} {e a b : Expr} {es : List Expr} {st : Stmt} {sts : List Stmt} {σ : Sd} {M : Mp} {Q : QD} {E : DE} {pos : Pos}
theorem ES.of {t : TE} (h : PE X e t) (q : ∀ σv H, Slots X.K H σv σ → RelM X.K M H → t σv H (DQ X.K H Q)) : ES X e σ M Q := ⟨fun σv H S R pins s I => h.run pins s σv H _ I (q σv H S R)⟩
theorem TT3.of {t : TT} {Q : Bool → Mp → Prop} (h : PT X e t) (q : ∀ σv H, Slots X.K H σv σ → RelM X.K M H → t σv H (DB X.K H Q)) : TT3 X e σ M Q := ⟨fun σv H S R pins s I => h.run pins s σv H _ I (q σv H S R)⟩
theorem TW3.of {t : TT} {Q : Bool → Mp → Prop} (h : PW X e t) (q : ∀ σv H, Slots X.K H σv σ → RelM X.K M H → t σv H (DB X.K H Q)) : TW3 X e σ M Q := ⟨fun σv H S R wh pins s I => h.run wh pins s σv H _ I (q σv H S R)⟩
theorem AS.of {t : TA} {Q : List D → Mp → Prop} (h : PA X es t) (q : ∀ σv H, Slots X.K H σv σ → RelM X.K M H → t σv H (DA X.K H Q)) : AS X es σ M Q := ⟨fun σv H S R pos pins s I => h.run pos pins s σv H _ I (q σv H S R)⟩
theorem SS.of {t : TS} (h : PS X st t) (q : ∀ σv H, Slots X.K H σv σ → RelM X.K M H → t (E.ends X.K H) σv H) : SS X st σ M E := ⟨fun σv H S R pins s I => h.run pins s σv H _ I (q σv H S R)⟩
theorem SSs.of {t : TS} (h : PSs X sts t) (q : ∀ σv H, Slots X.K H σv σ → RelM X.K M H → t (E.ends X.K H) σv H) : SSs X sts σ M E := ⟨fun σv H S R pins s I => h.run pins s σv H _ I (q σv H S R)⟩
/-- run an expression, from the heap H0 on -/
theorem ES.go {H0 H : Hp} {σv : L2.St} {Q' : VK} (h : ES X e σ M Q) (S : Slots X.K H σv σ) (R : RelM X.K M H)
    (k : ∀ v H1 d M1, Imm H H1 → RelM X.K M1 H1 → Tp X.K H1 v d → Q d M1 → Q' v H1) : tE X e σv H Q' :=
  (h.run σv H S R).mono fun v H1 ⟨i, d, M1, R1, t, q⟩ => k v H1 d M1 i R1 t q
theorem TT3.go {H : Hp} {σv : L2.St} {Q : Bool → Mp → Prop} {Q' : Bool → Hp → Prop} (h : TT3 X e σ M Q) (S : Slots X.K H σv σ) (R : RelM X.K M H)
    (k : ∀ v H1 M1, Imm H H1 → RelM X.K M1 H1 → Q v M1 → Q' v H1) : tT X e σv H Q' :=
  (h.run σv H S R).mono fun v H1 ⟨i, M1, R1, q⟩ => k v H1 M1 i R1 q
theorem TW3.go {H : Hp} {σv : L2.St} {Q : Bool → Mp → Prop} {Q' : Bool → Hp → Prop} (h : TW3 X e σ M Q) (S : Slots X.K H σv σ) (R : RelM X.K M H)
    (k : ∀ v H1 M1, Imm H H1 → RelM X.K M1 H1 → Q v M1 → Q' v H1) : tW X e σv H Q' :=
  (h.run σv H S R).mono fun v H1 ⟨i, M1, R1, q⟩ => k v H1 M1 i R1 q
theorem AS.go {H : Hp} {σv : L2.St} {Q : List D → Mp → Prop} {Q' : List V → Hp → Prop} (h : AS X es σ M Q) (S : Slots X.K H σv σ) (R : RelM X.K M H)
    (k : ∀ v H1 d M1, Imm H H1 → RelM X.K M1 H1 → Tps X.K H1 v d → Q d M1 → Q' v H1) : tA X es σv H Q' :=
  (h.run σv H S R).mono fun v H1 ⟨i, d, M1, R1, t, q⟩ => k v H1 d M1 i R1 t q
theorem ES.imp {Q' : QD} (h : ES X e σ M Q) (k : ∀ d M, Q d M → Q' d M) : ES X e σ M Q' := ⟨fun σv H S R => h.go (H0 := H) S R fun v H1 d M1 i R1 t q => ⟨i, d, M1, R1, t, k _ _ q⟩⟩
/-! ### names, constants -/
theorem e_var (i : Nat) {x : Str} {d : D} (h : σ[i]? = some (some d)) (q : Q d M) (hN : X.N[i]? = some x := by rfl) (hv : Vis X.env.scope x := by first | exact Or.inl rfl | exact Or.inr (Or.inl rfl) | exact Or.inr (Or.inr rfl))
    (hd : (x == ("__debug__" : Str)) = false := by decide) (hcd : (x == ("__classdict__" : Str)) = false := by decide) : ES X (.Name x pos) σ M Q :=
  ES.of (pe_var hN hv hd hcd) fun σv H S R => let ⟨v, e, r⟩ := S.at_ i d h; ⟨v, e, Imm.refl H, d, M, R, r, q⟩
theorem e_int {i j} (q : Q (.int i) M) : ES X (.Constant (.int i) j pos) σ M Q := ES.of pe_int fun σv H S R => ⟨Imm.refl H, _, M, R, .int i, q⟩
theorem e_bl {i j} (q : Q (.bl i) M) : ES X (.Constant (.bool i) j pos) σ M Q := ES.of pe_bl fun σv H S R => ⟨Imm.refl H, _, M, R, .bl i, q⟩
theorem e_non {j} (q : Q .non M) : ES X (.Constant .none j pos) σ M Q := ES.of pe_non fun σv H S R => ⟨Imm.refl H, _, M, R, .non, q⟩
theorem e_str {i j} (q : Q (.str i) M) : ES X (.Constant (.str i) j pos) σ M Q := ES.of pe_str fun σv H S R => ⟨Imm.refl H, _, M, R, .str i, q⟩
/-- a module's constant; a built-in's name -/
theorem e_glob {x : Str} {v : V} {u : Value} {d : D} (hm : X.mg x = some u) (r : RelV v u) (hd : ∀ H, Tp X.K H v d) (q : Q d M) (hg : Gl X x := by rfl) (hdb : (x == ("__debug__" : Str)) = false := by decide) : ES X (.Name x pos) σ M Q :=
  ES.of (pe_glob hg hm r hdb) fun σv H S R => ⟨Imm.refl H, d, M, R, hd H, q⟩
theorem e_bltn {x : Str} {v : V} {u : Value} {d : D} (hm : X.mg x = none) (hv : bootBuiltins x = some u) (r : RelV v u) (hd : ∀ H, Tp X.K H v d) (q : Q d M) (hg : Gl X x := by rfl) (hn : x ≠ "__name__" := by decide) (hdb : (x == ("__debug__" : Str)) = false := by decide) : ES X (.Name x pos) σ M Q :=
  ES.of (pe_bltn hg hm hv r hn hdb) fun σv H S R => ⟨Imm.refl H, d, M, R, hd H, q⟩
/-! ### operators -/
abbrev R3 := D → D → Mp → QD → Prop
def To (K : PySem.W.Frag) (H0 : Hp) (Q : QD) (Q' : VK) : Prop := ∀ v H' d M', Imm H0 H' → RelM K M' H' → Tp K H' v d → Q d M' → Q' v H'
theorem To.dq {K : PySem.W.Frag} {H0 : Hp} {Q : QD} : To K H0 Q (DQ K H0 Q) := fun _ _ d M' i R t q => ⟨i, d, M', R, t, q⟩
def RD (K : PySem.W.Frag) (r : R2) (R : R3) : Prop := ∀ H0 H M vx vy x y Q Q', Imm H0 H → RelM K M H → Tp K H vx x → Tp K H vy y → To K H0 Q Q' → R x y M Q → r vx vy H Q'
theorem op_goT {r : R2} {R : R3} (hR : RD X.K r R) (h : ES X a σ M fun x M1 => ES X b σ M1 fun y M2 => R x y M2 Q) :
    ∀ σv H, Slots X.K H σv σ → RelM X.K M H → ∀ Q', To X.K H Q Q' → tOp r (tE X a) (tE X b) σv H Q' := fun σv H S RM Q' to =>
  h.go (H0 := H) S RM fun v H1 x M1 i1 R1 t1 q1 => q1.go (H0 := H) (S.mono i1) R1 fun u H2 y M2 i2 R2 t2 q2 => hR H H2 M2 v u x y Q Q' (i1.trans i2) R2 (Tp.mono i2 _ _ t1) t2 to q2
theorem op_go {r : R2} {R : R3} (hR : RD X.K r R) (h : ES X a σ M fun x M1 => ES X b σ M1 fun y M2 => R x y M2 Q) :
    ∀ σv H, Slots X.K H σv σ → RelM X.K M H → tOp r (tE X a) (tE X b) σv H (DQ X.K H Q) := fun σv H S RM => op_goT hR h σv H S RM _ To.dq
theorem e_op {op : Operator} {r : R2} {R : R3} (ho : OpR X (binaryOp op) r) (hR : RD X.K r R) (h : ES X a σ M fun x M1 => ES X b σ M1 fun y M2 => R x y M2 Q) : ES X (.BinOp a op b pos) σ M Q :=
  ES.of (pe_op ho pe_sem pe_sem) (op_go hR h)
theorem e_cmp {op : CmpOp} {r : R2} {R : R3} (ho : OpR X (compareOp op) r) (hR : RD X.K r R) (hm : behindInMarks op b = false) (h : ES X a σ M fun x M1 => ES X b σ M1 fun y M2 => R x y M2 Q) : ES X (.Compare a [op] [b] pos) σ M Q :=
  ES.of (pe_cmpR ho pe_sem pe_sem hm) (op_go hR h)
theorem OpR.or {f : Value → Value → Sem Value} {r r' : R2} (h : OpR X f r) (h' : OpR X f r') : OpR X f (fun x y H Q => r x y H Q ∨ r' x y H Q) := fun pins s σ H x y v u Q I rx ry q => by
  rcases q with q | q
  · exact h pins s σ H x y v u Q I rx ry q
  · exact h' pins s σ H x y v u Q I rx ry q
end
section
variable {K : PySem.W.Frag}
def RInt (C : Int → Int → Prop) (g : Int → Int → D) : R3 := fun x y M Q => match x, y with
  | .int i, .int j => C i j ∧ Q (g i j) M
  | _, _ => False
def RInt0 (g : Int → Int → D) : R3 := fun x y M Q => match x, y with
  | .int i, .int j => Q (g i j) M
  | _, _ => False
theorem rd_int {C : Int → Int → Prop} {g : Int → Int → Int} : RD K (rI C fun i j => .int (g i j)) (RInt C fun i j => .int (g i j)) := by
  intro H0 H M vx vy x y Q Q' i R tx ty k q
  cases tx <;> cases ty <;> first | exact False.elim q | exact ⟨_, _, rfl, rfl, q.1, k _ _ _ _ i R (.int _) q.2⟩
theorem rd_int0 {g : Int → Int → Int} : RD K (rI0 fun i j => .int (g i j)) (RInt0 fun i j => .int (g i j)) := by
  intro H0 H M vx vy x y Q Q' i R tx ty k q
  cases tx <;> cases ty <;> first | exact False.elim q | exact ⟨_, _, rfl, rfl, k _ _ _ _ i R (.int _) q⟩
theorem rd_cmp0 {g : Int → Int → Bool} : RD K (rI0 fun i j => .bl (g i j)) (RInt0 fun i j => .bl (g i j)) := by
  intro H0 H M vx vy x y Q Q' i R tx ty k q
  cases tx <;> cases ty <;> first | exact False.elim q | exact ⟨_, _, rfl, rfl, k _ _ _ _ i R (.bl _) q⟩
def rAddStr : R2 := fun x y H Q => ∃ i j, x = .str i ∧ y = .str j ∧ i.length + j.length ≤ sizeLine ∧ Q (.str (i ++ j)) H
/-- +: ints, texts, tuples, lists -/
def rAdd (K : PySem.W.Frag) : R2 := fun x y H Q => rI0 (fun i j => .int (i + j)) x y H Q ∨ rAddStr x y H Q ∨ rCatA K x y H Q ∨ rCat x y H Q
def RAdd : R3 := fun x y M Q => match x, y with
  | .int i, .int j => Q (.int (i + j)) M
  | .str i, .str j => i.length + j.length ≤ sizeLine ∧ Q (.str (i ++ j)) M
  | .tup xs, .tup ys => xs.length + ys.length ≤ sizeLine ∧ Q (.tup (xs ++ ys)) M
  | .ref a, .ref b => ∃ xs ys, M a = some (.lst xs) ∧ M b = some (.lst ys) ∧ xs.length + ys.length ≤ sizeLine ∧ NewM M (.lst (xs ++ ys)) fun p M' => Q (.ref p) M'
  | _, _ => False
theorem op_addA {X : Cx} : OpR X (binaryOp .Add) (rAdd X.K) := OpR.or op_add (OpR.or op_add_str (OpR.or op_catA op_cat))
theorem rd_add : RD K (rAdd K) RAdd := by
  intro H0 H M vx vy x y Q Q' i R tx ty k q
  cases tx with
  | int n =>
    cases ty with
    | int m => exact .inl ⟨_, _, rfl, rfl, k _ _ _ _ i R (.int _) q⟩
    | _ => exact False.elim q
  | str n =>
    cases ty with
    | str m => exact .inr (.inl ⟨_, _, rfl, rfl, q.1, k _ _ _ _ i R (.str _) q.2⟩)
    | _ => exact False.elim q
  | @tup a xs ds hs ha =>
    cases ty with
    | @tup b ys es ht hb =>
      refine .inr (.inr (.inl ⟨a, b, xs, ys, rfl, rfl, hs, ht, by rw [ha.length, hb.length]; exact q.1, fun e => ?_, fun e1 e2 => ?_, fun _ _ p hp => ?_⟩))
      · subst e
        cases ha
        exact k _ _ _ _ i R (.tup ht hb) q.2
      · subst e2
        cases hb
        refine k _ _ _ _ i R (.tup hs ha) ?_
        have := q.2
        rwa [List.append_nil] at this
      · have im := Imm.new (o := .tup (xs ++ ys)) hp
        exact k _ _ _ _ (i.trans im) (R.skip hp) (.tup (SqT.of upd_same) ((Tps.mono im _ _ ha).append (Tps.mono im _ _ hb))) q.2
    | _ => exact False.elim q
  | ref a =>
    cases ty with
    | ref b =>
      obtain ⟨xs, ys, ha, hb, hz, kp⟩ := q
      obtain ⟨_, ea, us, rfl, ra⟩ := R a _ ha
      obtain ⟨_, eb, ws, rfl, rb⟩ := R b _ hb
      refine .inr (.inr (.inr ⟨a, b, us, ws, rfl, rfl, ea, eb, by rw [ra.length, rb.length]; exact hz, fun p hp => ?_⟩))
      have im := Imm.new (o := .lst (us ++ ws)) hp
      exact k _ _ _ _ (i.trans im) (R.new (m := .lst (xs ++ ys)) hp ⟨_, rfl, (Tps.mono im _ _ ra).append (Tps.mono im _ _ rb)⟩) (.ref p) (NewM.at kp (R.fresh hp))
    | _ => exact False.elim q
  | _ => exact False.elim q
end
section
variable {X : Cx} {a b : Expr} {σ : Sd} {M : Mp} {Q : QD} {pos : Pos}
theorem e_add (h : ES X a σ M fun x M1 => ES X b σ M1 fun y M2 => RAdd x y M2 Q) : ES X (.BinOp a .Add b pos) σ M Q := e_op op_addA rd_add h
theorem e_sub (h : ES X a σ M fun x M1 => ES X b σ M1 fun y M2 => RInt0 (fun i j => .int (i - j)) x y M2 Q) : ES X (.BinOp a .Sub b pos) σ M Q := e_op op_sub rd_int0 h
theorem e_mul (h : ES X a σ M fun x M1 => ES X b σ M1 fun y M2 => RInt CMul (fun i j => .int (i * j)) x y M2 Q) : ES X (.BinOp a .Mult b pos) σ M Q := e_op op_mul rd_int h
theorem e_mod (h : ES X a σ M fun x M1 => ES X b σ M1 fun y M2 => RInt (fun _ j => 0 < j) (fun i j => .int (i % j)) x y M2 Q) : ES X (.BinOp a .Mod b pos) σ M Q := e_op op_mod rd_int h
theorem e_fdiv (h : ES X a σ M fun x M1 => ES X b σ M1 fun y M2 => RInt CDiv (fun i j => .int (i / j)) x y M2 Q) : ES X (.BinOp a .FloorDiv b pos) σ M Q := e_op op_fdiv rd_int h
theorem e_pow (h : ES X a σ M fun x M1 => ES X b σ M1 fun y M2 => RInt CPow (fun i j => .int (i ^ j.toNat)) x y M2 Q) : ES X (.BinOp a .Pow b pos) σ M Q := e_op op_pow rd_int h
theorem e_lt (h : ES X a σ M fun x M1 => ES X b σ M1 fun y M2 => RInt0 (fun i j => .bl (decide (i < j))) x y M2 Q) : ES X (.Compare a [.Lt] [b] pos) σ M Q := e_cmp op_lt rd_cmp0 (nomark _) h
theorem e_le (h : ES X a σ M fun x M1 => ES X b σ M1 fun y M2 => RInt0 (fun i j => .bl (decide (i ≤ j))) x y M2 Q) : ES X (.Compare a [.LtE] [b] pos) σ M Q := e_cmp op_le rd_cmp0 (nomark _) h
theorem e_gt (h : ES X a σ M fun x M1 => ES X b σ M1 fun y M2 => RInt0 (fun i j => .bl (decide (j < i))) x y M2 Q) : ES X (.Compare a [.Gt] [b] pos) σ M Q := e_cmp op_gt rd_cmp0 (nomark _) h
theorem e_ge (h : ES X a σ M fun x M1 => ES X b σ M1 fun y M2 => RInt0 (fun i j => .bl (decide (j ≤ i))) x y M2 Q) : ES X (.Compare a [.GtE] [b] pos) σ M Q := e_cmp op_ge rd_cmp0 (nomark _) h
end
end DL
set_option maxHeartbeats 1000000
namespace DL
open PySem L2 PySem.Spec PyProof.Rows
/-! ### equality of data -/
mutual
def D.py : D → PyData
  | .non => .none
  | .bl b => .bool b
  | .int i => .int i
  | .str x => .str x
  | .ref _ => .none
  | .ty _ => .none
  | .tup l => .tuple (D.pys l)
  | .rol l => .list (D.pys l)
def D.pys : List D → List PyData
  | [] => []
  | d :: r => d.py :: D.pys r
end
mutual
/-- no address inside -/
def D.pure : D → Bool
  | .ref _ => false
  | .ty _ => false
  | .tup l => D.pures l
  | .rol l => D.pures l
  | _ => true
def D.pures : List D → Bool
  | [] => true
  | d :: r => d.pure && D.pures r
end
mutual
theorem Tp.dp {K : PySem.W.Frag} {H : Hp} : ∀ (d : D) (v : V), d.pure = true → Tp K H v d → Dp K H v d.py
  | .non, _, _, h => by cases h; exact .non
  | .bl b, _, _, h => by cases h; exact .bl b
  | .int i, _, _, h => by cases h; exact .int i
  | .str x, _, _, h => by cases h; exact .str x
  | .tup l, _, p, h => by
    cases h with
    | tup hs ha => exact .tup hs (Tps.dp l _ (by simpa [D.pure] using p) ha)
  | .rol l, _, p, h => by
    cases h with
    | rol hs ha => exact .lst hs.sq (Tps.dp l _ (by simpa [D.pure] using p) ha)
theorem Tps.dp {K : PySem.W.Frag} {H : Hp} : ∀ (ds : List D) (vs : List V), D.pures ds = true → Tps K H vs ds → DpAll K H vs (D.pys ds)
  | [], _, _, h => by cases h; exact .nil
  | d :: r, _, p, h => by
    have p' : d.pure = true ∧ D.pures r = true := by simpa [D.pures] using p
    cases h with
    | cons h1 h2 => exact .cons (Tp.dp d _ p'.1 h1) (Tps.dp r _ p'.2 h2)
end
/-- comparable by content -/
def D.shp (d : D) : Bool := d.pure && SeqAt.shaped d.py
def D.eqv (d e : D) : Bool := PyData.eqv d.py e.py
def EqOk : D → D → Prop
  | .tup a, e => (D.tup a).shp = true ∧ e.shp = true
  | d, .tup b => d.shp = true ∧ (D.tup b).shp = true
  | .int _, .int _ => True
  | .str _, .str _ => True
  | .bl _, .bl _ => True
  | .non, .non => True
  | .non, .int _ => True
  | .int _, .non => True
  | .non, .str _ => True
  | .str _, .non => True
  | .non, .bl _ => True
  | .bl _, .non => True
  | .int _, .str _ => True
  | .str _, .int _ => True
  | .bl _, .str _ => True
  | .str _, .bl _ => True
  | _, _ => False
def REq : R3 := fun x y M Q => EqOk x y ∧ Q (.bl (D.eqv x y)) M
def RNe : R3 := fun x y M Q => EqOk x y ∧ Q (.bl (!D.eqv x y)) M
def rEqA (K : PySem.W.Frag) : R2 := fun x y H Q => rEq x y H Q ∨ rEqD K x y H Q
def rNeA (K : PySem.W.Frag) : R2 := fun x y H Q => rNe x y H Q ∨ rNeD K x y H Q
theorem eqok_cases {K : PySem.W.Frag} {H : Hp} {vx vy : V} {x y : D} (tx : Tp K H vx x) (ty : Tp K H vy y) (ok : EqOk x y) :
    (scal vx vy = true ∧ decide (vx = vy) = D.eqv x y) ∨ ((x.pure = true ∧ SeqAt.shaped x.py = true) ∧ (y.pure = true ∧ SeqAt.shaped y.py = true)) := by
  have two : x.shp = true ∧ y.shp = true → (x.pure = true ∧ SeqAt.shaped x.py = true) ∧ (y.pure = true ∧ SeqAt.shaped y.py = true) := fun h => by
    unfold D.shp at h
    simpa only [Bool.and_eq_true] using h
  cases tx with
  | tup _ _ => exact .inr (two (by simpa only [EqOk] using ok))
  | rol _ _ => cases ty <;> first | (refine .inr (two ?_); simpa only [EqOk] using ok) | (exact (show False from ok).elim)
  | ref _ => cases ty <;> first | (refine .inr (two ?_); simpa only [EqOk] using ok) | (exact (show False from ok).elim)
  | ty _ => cases ty <;> first | (refine .inr (two ?_); simpa only [EqOk] using ok) | (exact (show False from ok).elim)
  | non => cases ty <;> first | (exact (show False from ok).elim) | (refine .inl ⟨rfl, ?_⟩; simp [D.eqv, D.py, PyData.eqv]; done) | (refine .inr (two ?_); simpa only [EqOk] using ok)
  | bl _ => cases ty <;> first | (exact (show False from ok).elim) | (refine .inl ⟨rfl, ?_⟩; simp [D.eqv, D.py, PyData.eqv, Bool.beq_eq_decide_eq]; done) | (refine .inr (two ?_); simpa only [EqOk] using ok)
  | int _ => cases ty <;> first | (exact (show False from ok).elim) | (refine .inl ⟨rfl, ?_⟩; simp [D.eqv, D.py, PyData.eqv, Bool.beq_eq_decide_eq]; done) | (refine .inr (two ?_); simpa only [EqOk] using ok)
  | str _ => cases ty <;> first | (exact (show False from ok).elim) | (refine .inl ⟨rfl, ?_⟩; simp [D.eqv, D.py, PyData.eqv, Bool.beq_eq_decide_eq]; done) | (refine .inr (two ?_); simpa only [EqOk] using ok)
section
variable {K : PySem.W.Frag}
theorem rd_eq : RD K (rEqA K) REq := by
  intro H0 H M vx vy x y Q Q' i R tx ty k ⟨ok, q⟩
  rcases eqok_cases tx ty ok with ⟨h1, h2⟩ | ⟨h1, h2⟩
  · exact .inl ⟨h1, k _ _ _ _ i R (.bl _) (by rw [h2]; exact q)⟩
  · exact .inr ⟨_, _, Tp.dp _ _ h1.1 tx, Tp.dp _ _ h2.1 ty, h1.2, h2.2, k _ _ _ _ i R (.bl _) q⟩
theorem rd_ne : RD K (rNeA K) RNe := by
  intro H0 H M vx vy x y Q Q' i R tx ty k ⟨ok, q⟩
  rcases eqok_cases tx ty ok with ⟨h1, h2⟩ | ⟨h1, h2⟩
  · exact .inl ⟨h1, k _ _ _ _ i R (.bl _) (by rw [h2]; exact q)⟩
  · exact .inr ⟨_, _, Tp.dp _ _ h1.1 tx, Tp.dp _ _ h2.1 ty, h1.2, h2.2, k _ _ _ _ i R (.bl _) q⟩
def rIsN' : R2 := fun x y H Q => y = .non ∧ Q (.bl (decide (x = .non))) H
def rNotN' : R2 := fun x y H Q => y = .non ∧ Q (.bl (!decide (x = .non))) H
def D.isNon : D → Bool
  | .non => true
  | _ => false
def RIsN : R3 := fun x y M Q => match y with
  | .non => Q (.bl x.isNon) M
  | _ => False
def RNotN : R3 := fun x y M Q => match y with
  | .non => Q (.bl (!x.isNon)) M
  | _ => False
theorem isNon_of {H : Hp} {v : V} {d : D} (t : Tp K H v d) : decide (v = .non) = d.isNon := by cases t <;> simp [D.isNon]
theorem rd_isN : RD K rIsN' RIsN := by
  intro H0 H M vx vy x y Q Q' i R tx ty k q
  cases ty <;> first | exact False.elim q | exact ⟨rfl, k _ _ _ _ i R (.bl _) (by rw [isNon_of tx]; exact q)⟩
theorem rd_notN : RD K rNotN' RNotN := by
  intro H0 H M vx vy x y Q Q' i R tx ty k q
  cases ty <;> first | exact False.elim q | exact ⟨rfl, k _ _ _ _ i R (.bl _) (by rw [isNon_of tx]; exact q)⟩
/-! x in xs, flat things -/
def D.flat : D → Bool
  | .non | .bl _ | .int _ | .str _ => true
  | _ => false
def D.eqF : D → D → Bool
  | .int i, .int j => i == j
  | .str x, .str y => x == y
  | .bl a, .bl b => a == b
  | .non, .non => true
  | .bl a, .int j => (if a then 1 else 0) == j
  | .int i, .bl b => i == (if b then 1 else 0)
  | _, _ => false
def inD (x : D) (xs : List D) : Bool := xs.any fun y => D.eqv y x
end
end DL
set_option maxHeartbeats 1000000
namespace DL
open PySem L2 PySem.Spec PyProof.Rows
section
variable {X : Cx} {e a b : Expr} {es : List Expr} {σ : Sd} {M : Mp} {Q : QD} {pos : Pos}
theorem e_eq (hr : ∃ k, Room k X.A) (h : ES X a σ M fun x M1 => ES X b σ M1 fun y M2 => REq x y M2 Q) : ES X (.Compare a [.Eq] [b] pos) σ M Q := e_cmp (OpR.or op_eq (op_eqD hr.choose_spec.units)) rd_eq (nomark _) h
theorem e_ne (hr : ∃ k, Room k X.A) (h : ES X a σ M fun x M1 => ES X b σ M1 fun y M2 => RNe x y M2 Q) : ES X (.Compare a [.NotEq] [b] pos) σ M Q := e_cmp (OpR.or op_ne (op_neD hr.choose_spec.units)) rd_ne (nomark _) h
theorem e_isN (h : ES X a σ M fun x M1 => ES X b σ M1 fun y M2 => RIsN x y M2 Q) : ES X (.Compare a [.Is] [b] pos) σ M Q := e_cmp op_isN rd_isN (nomark _) h
theorem e_notN (h : ES X a σ M fun x M1 => ES X b σ M1 fun y M2 => RNotN x y M2 Q) : ES X (.Compare a [.IsNot] [b] pos) σ M Q := e_cmp op_notN rd_notN (nomark _) h
end
/-! ### in -/
section
variable {K : PySem.W.Frag}
theorem tp_flat {H : Hp} {v : V} {d : D} (t : Tp K H v d) (f : d.flat = true) : flatV v = true := by cases t <;> first | rfl | (cases f; done)
theorem tps_flat {H : Hp} : ∀ {vs : List V} {ds : List D}, Tps K H vs ds → ds.all D.flat = true → vs.all flatV = true
  | _, _, .nil, _ => rfl
  | _, _, .cons r t, f => by
    rw [List.all_cons, Bool.and_eq_true] at f
    rw [List.all_cons, tp_flat r f.1, tps_flat t f.2]
    rfl
theorem eqV_of {H : Hp} {vx vy : V} {x y : D} (tx : Tp K H vx x) (ty : Tp K H vy y) (fx : x.flat = true) (fy : y.flat = true) : eqV vx vy = D.eqv x y := by
  cases tx <;> first | (cases fx; done) | skip
  all_goals (cases ty <;> first | (cases fy; done) | skip)
  all_goals first | rfl | (simp [eqV, D.eqv, D.py, PyData.eqv]; done)
theorem inV_of {H : Hp} {vx : V} {x : D} (tx : Tp K H vx x) (fx : x.flat = true) : ∀ {vs : List V} {ds : List D}, Tps K H vs ds → ds.all D.flat = true → inV vx vs = inD x ds
  | _, _, .nil, _ => rfl
  | _, _, .cons r t, f => by
    rw [List.all_cons, Bool.and_eq_true] at f
    have ih := inV_of tx fx t f.2
    unfold inV inD at ih ⊢
    rw [List.any_cons, List.any_cons, ih, eqV_of r tx f.1 fx]
def RIn (neg : Bool) : R3 := fun x y M Q => match y with
  | .tup ds => x.flat = true ∧ ds.all D.flat = true ∧ Q (.bl (if neg then !inD x ds else inD x ds)) M
  | .rol ds => x.flat = true ∧ ds.all D.flat = true ∧ Q (.bl (if neg then !inD x ds else inD x ds)) M
  | .ref a => ∃ ds, M a = some (.lst ds) ∧ x.flat = true ∧ ds.all D.flat = true ∧ Q (.bl (if neg then !inD x ds else inD x ds)) M
  | _ => False
theorem rd_in {neg : Bool} : RD K (rIn K neg) (RIn neg) := by
  intro H0 H M vx vy x y Q Q' i R tx ty k q
  cases ty with
  | tup hs ha => exact ⟨_, _, rfl, .inr hs, tp_flat tx q.1, tps_flat ha q.2.1, k _ _ _ _ i R (.bl _) (by rw [inV_of tx q.1 ha q.2.1]; exact q.2.2)⟩
  | rol hs ha => exact ⟨_, _, rfl, .inl hs.sq, tp_flat tx q.1, tps_flat ha q.2.1, k _ _ _ _ i R (.bl _) (by rw [inV_of tx q.1 ha q.2.1]; exact q.2.2)⟩
  | ref a =>
    obtain ⟨ds, e, q⟩ := q
    obtain ⟨_, ea, us, rfl, ha⟩ := R a _ e
    exact ⟨_, _, rfl, .inl (SqL.of ea), tp_flat tx q.1, tps_flat ha q.2.1, k _ _ _ _ i R (.bl _) (by rw [inV_of tx q.1 ha q.2.1]; exact q.2.2)⟩
  | _ => exact False.elim q
end
section
variable {X : Cx} {e a b : Expr} {es : List Expr} {σ : Sd} {M : Mp} {Q : QD} {pos : Pos}
theorem e_in (h : ES X a σ M fun x M1 => ES X b σ M1 fun y M2 => RIn false x y M2 Q) (hm : behindInMarks .In b = false := by rfl) : ES X (.Compare a [.In] [b] pos) σ M Q := e_cmp op_in_seq rd_in hm h
theorem e_notIn (h : ES X a σ M fun x M1 => ES X b σ M1 fun y M2 => RIn true x y M2 Q) (hm : behindInMarks .NotIn b = false := by rfl) : ES X (.Compare a [.NotIn] [b] pos) σ M Q := e_cmp op_notIn_seq rd_in hm h
end
/-! ### x[i], x[lo:hi] -/
section
variable {K : PySem.W.Frag}
theorem tps_atI {H : Hp} {vs : List V} {ds : List D} {i : Int} {d : D} (t : Tps K H vs ds) (h : atI ds i = some d) : ∃ v, atI vs i = some v ∧ Tp K H v d := by
  unfold atI at h ⊢
  rw [t.length]
  cases e : ixN ds.length i with
  | none => rw [e] at h; cases h
  | some j =>
    rw [e] at h
    exact t.get h
def RIx : R3 := fun x y M Q => match x, y with
  | .tup ds, .int i => ∃ d, atI ds i = some d ∧ Q d M
  | .rol ds, .int i => ∃ d, atI ds i = some d ∧ Q d M
  | .ref a, .int i => ∃ ds d, M a = some (.lst ds) ∧ atI ds i = some d ∧ Q d M
  | .str z, .int i => z.length ≤ sizeLine ∧ ∃ c, atI z.cps.toList i = some c ∧ Q (.str ⟨#[c]⟩) M
  | _, _ => False
theorem rd_ix : RD K (rIx K) RIx := by
  intro H0 H M vx vy x y Q Q' i R tx ty k q
  cases ty with
  | int n =>
    cases tx with
    | tup hs ha =>
      obtain ⟨d, hd, q⟩ := q
      obtain ⟨v, hv, r⟩ := tps_atI ha hd
      exact .inr (.inl ⟨_, _, _, _, rfl, rfl, hs, hv, k _ _ _ _ i R r q⟩)
    | rol hs ha =>
      obtain ⟨d, hd, q⟩ := q
      obtain ⟨v, hv, r⟩ := tps_atI ha hd
      exact .inl ⟨_, _, _, _, rfl, rfl, hs.sq, hv, k _ _ _ _ i R r q⟩
    | ref a =>
      obtain ⟨ds, d, e, hd, q⟩ := q
      obtain ⟨_, ea, us, rfl, ha⟩ := R a _ e
      obtain ⟨v, hv, r⟩ := tps_atI ha hd
      exact .inl ⟨_, _, _, _, rfl, rfl, SqL.of ea, hv, k _ _ _ _ i R r q⟩
    | str z =>
      obtain ⟨hz, c, hc, q⟩ := q
      exact .inr (.inr ⟨_, _, _, rfl, rfl, hz, hc, k _ _ _ _ i R (.str _) q⟩)
    | _ => exact False.elim q
  | _ => cases tx <;> exact False.elim q
def cutD (ds : List D) (lo hi : Option Int) : List D := (ds.drop (HT.sIx ds.length 0 lo)).take (HT.sIx ds.length ds.length hi - HT.sIx ds.length 0 lo)
theorem cutD_length (ds : List D) (lo hi : Option Int) : (cutD ds lo hi).length ≤ ds.length := by
  unfold cutD
  rw [List.length_take, List.length_drop]
  omega
theorem cutD_whole {ds : List D} {lo hi : Option Int} (h : HT.sIx ds.length 0 lo = 0 ∧ HT.sIx ds.length ds.length hi = ds.length) : cutD ds lo hi = ds := by
  unfold cutD
  rw [h.1, h.2, List.drop_zero, Nat.sub_zero, List.take_length]
def rSl (K : PySem.W.Frag) : V → Option Int → Option Int → Hp → VK → Prop := fun x lo hi H Q => rSlA K x lo hi H Q ∨ rSlL K x lo hi H Q ∨ rSlS x lo hi H Q
theorem sl_any {X : Cx} : SlR X (rSl X.K) := SlR.or sl_tupA (SlR.or sl_list sl_str)
def RSl : D → Option Int → Option Int → Mp → QD → Prop := fun x lo hi M Q => match x with
  | .tup ds => Q (.tup (cutD ds lo hi)) M
  | .rol ds => NewM M (.lst (cutD ds lo hi)) fun p M' => Q (.ref p) M'
  | .ref a => ∃ ds, M a = some (.lst ds) ∧ NewM M (.lst (cutD ds lo hi)) fun p M' => Q (.ref p) M'
  | .str z => z.length ≤ sizeLine ∧ Q (.str (cutS z lo hi)) M
  | _ => False
theorem rd_sl {H0 H : Hp} {M : Mp} {v : V} {x : D} {lo hi : Option Int} {Q : QD} (i : Imm H0 H) (R : RelM K M H) (tx : Tp K H v x) (q : RSl x lo hi M Q) : rSl K v lo hi H (DQ K H0 Q) := by
  cases tx with
  | @tup a xs ds hs ha =>
    have el := ha.length
    refine .inl ⟨a, xs, rfl, hs, fun hw => ?_, fun hw p hp => ?_⟩
    · refine ⟨i, _, M, R, .tup hs ha, ?_⟩
      rw [el] at hw
      have q' : Q (.tup (cutD ds lo hi)) M := q
      rw [cutD_whole hw] at q'
      exact q'
    · have im := Imm.new (o := .tup (cutV xs lo hi)) hp
      exact ⟨i.trans im, _, M, R.skip hp, .tup (SqT.of upd_same) (Tps.mono im _ _ (ha.cut lo hi)), q⟩
  | @rol a xs ds hs ha =>
    refine .inr (.inl ⟨a, xs, rfl, hs.sq, fun p hp => ?_⟩)
    have im := Imm.new (o := .lst (cutV xs lo hi)) hp
    exact ⟨i.trans im, _, _, R.new (m := .lst (cutD ds lo hi)) hp ⟨_, rfl, Tps.mono im _ _ (ha.cut lo hi)⟩, .ref p, NewM.at q (R.fresh hp)⟩
  | ref a =>
    obtain ⟨ds, e, q⟩ := q
    obtain ⟨_, ea, us, rfl, ha⟩ := R a _ e
    refine .inr (.inl ⟨a, us, rfl, SqL.of ea, fun p hp => ?_⟩)
    have im := Imm.new (o := .lst (cutV us lo hi)) hp
    exact ⟨i.trans im, _, _, R.new (m := .lst (cutD ds lo hi)) hp ⟨_, rfl, Tps.mono im _ _ (ha.cut lo hi)⟩, .ref p, NewM.at q (R.fresh hp)⟩
  | str z => exact .inr (.inr ⟨z, rfl, q.1, i, _, M, R, .str _, q.2⟩)
  | _ => exact False.elim q
end
section
variable {X : Cx} {e a b : Expr} {es : List Expr} {σ : Sd} {M : Mp} {Q : QD} {pos p2 : Pos} {lo hi : Option Expr}
theorem e_ix (h : ES X a σ M fun x M1 => ES X b σ M1 fun y M2 => RIx x y M2 Q) (hs : PlainIx b := by exact fun _ _ => rfl) : ES X (.Subscript a b pos) σ M Q :=
  ES.of (pe_ix ix_seq pe_sem pe_sem hs) (op_go rd_ix h)
structure OS (X : Cx) (e : Option Expr) (σ : Sd) (M : Mp) (Q : Option Int → Mp → Prop) : Prop where
  run : ∃ t, PO X e t ∧ ∀ σv H, Slots X.K H σv σ → RelM X.K M H → t σv H fun o H' => Imm H H' ∧ ∃ M', RelM X.K M' H' ∧ Q o M'
theorem o_none {Q : Option Int → Mp → Prop} (q : Q none M) : OS X none σ M Q := ⟨_, po_none, fun σv H S R => ⟨Imm.refl H, M, R, q⟩⟩
def OInt (Q : Option Int → Mp → Prop) : QD := fun d M => match d with
  | .int i => Q (some i) M
  | _ => False
theorem o_some {Q : Option Int → Mp → Prop} (h : ES X e σ M (OInt Q)) : OS X (some e) σ M Q := ⟨_, po_some pe_sem, fun σv H S R => h.go (H0 := H) S R fun v H1 d M1 i1 R1 t1 q1 => by
  cases t1 <;> first | exact False.elim q1 | exact ⟨_, rfl, i1, M1, R1, q1⟩⟩
/-- x[lo:hi]: x first, then lo, hi (plain expressions that change nothing) -/
theorem e_sl {x : D} {l u : Option Int} {M1 : Mp} (h : ES X e σ M fun d M' => d = x ∧ M' = M1) (hl : OS X lo σ M1 fun o M' => o = l ∧ M' = M1) (hh : OS X hi σ M1 fun o M' => o = u ∧ M' = M1) (q : RSl x l u M1 Q) :
    ES X (.Subscript e (.Slice lo hi none p2) pos) σ M Q := by
  obtain ⟨tl, pl, kl⟩ := hl.run
  obtain ⟨th, ph, kh⟩ := hh.run
  have tlm : ∀ σv H, Slots X.K H σv σ → RelM X.K M1 H → tl σv H fun o H' => Imm H H' ∧ ∃ M', RelM X.K M' H' ∧ (o = l ∧ M' = M1) := kl
  refine ⟨fun σv H S R pins s I => ?_⟩
  have sem : PO X lo (fun σ H Q => ∀ pins s, Inv X pins σ H s → _) := ⟨fun pins s σ H Q I h => h pins s I⟩
  have semh : PO X hi (fun σ H Q => ∀ pins s, Inv X pins σ H s → _) := ⟨fun pins s σ H Q I h => h pins s I⟩
  refine (pe_slice sl_any pe_sem sem semh).run pins s σv H _ I ?_
  refine h.go (H0 := H) S R fun v H1 d M' i1 R1 t1 ⟨e1, e2⟩ => ?_
  subst e1; subst e2
  intro pins1 s1 I1
  refine wpAny_mono (pl.run pins1 s1 σv H1 _ I1 (kl σv H1 (S.mono i1) R1)) (fun vo s2 q2 => ?_) (fun _ _ z => z)
  obtain ⟨o, H2, I2, p2', i2, M2, R2, e3, e4⟩ := q2
  subst e3; subst e4
  refine ⟨o, H2, I2, p2', ?_⟩
  intro pins2 s3 I3
  refine wpAny_mono (ph.run pins2 s3 σv H2 _ I3 (kh σv H2 ((S.mono i1).mono i2) R2)) (fun vo s4 q4 => ?_) (fun _ _ z => z)
  obtain ⟨o', H3, I4, p4', i3, M3, R3', e5, e6⟩ := q4
  subst e5; subst e6
  refine ⟨o', H3, I4, p4', ?_⟩
  exact rd_sl ((i1.trans i2).trans i3) R3' (Tp.mono (i2.trans i3) _ _ t1) q
end
end DL
set_option maxHeartbeats 1000000
namespace DL
open PySem L2 PySem.Spec PyProof.Rows
/-! ### tests -/
def BQ (c : Bool) (A B : Prop) : Prop := (c = true → A) ∧ (c = false → B)
theorem BQ.t {A B : Prop} (h : A) : BQ true A B := ⟨fun _ => h, fun e => Bool.noConfusion e⟩
theorem BQ.f {A B : Prop} (h : B) : BQ false A B := ⟨fun e => Bool.noConfusion e, fun _ => h⟩
/-- the truth of a value -/
def RTru (d : D) (M : Mp) (Q : Bool → Mp → Prop) : Prop := match d with
  | .non => Q false M
  | .bl b => Q b M
  | .int i => Q (i != 0) M
  | .str y => y.length ≤ sizeLine ∧ Q ((y.length : Int) != 0) M
  | .tup ds => Q (!ds.isEmpty) M
  | .rol ds => Q (!ds.isEmpty) M
  | .ref a => (∃ ds, M a = some (.lst ds) ∧ Q (!ds.isEmpty) M) ∨ (∃ kvs, M a = some (.dK kvs) ∧ Q (!kvs.isEmpty) M)
  | _ => False
theorem tps_empty {K : PySem.W.Frag} {H : Hp} {vs : List V} {ds : List D} (t : Tps K H vs ds) : vs.isEmpty = ds.isEmpty := by cases t <;> rfl
theorem kvs_empty {K : PySem.W.Frag} {H : Hp} {κ : Type} {vs : List (κ × V)} {ds : List (κ × D)} (t : KVs K H vs ds) : vs.isEmpty = ds.isEmpty := by cases t <;> rfl
theorem rd_tru {K : PySem.W.Frag} {H0 H : Hp} {M : Mp} {v : V} {d : D} {Q : Bool → Mp → Prop} (i : Imm H0 H) (R : RelM K M H) (t : Tp K H v d) (q : RTru d M Q) : ∃ k, TruV K v H k ∧ DB K H0 Q k H := by
  cases t with
  | non => exact ⟨_, rfl, i, M, R, q⟩
  | bl b => exact ⟨_, rfl, i, M, R, q⟩
  | int n => exact ⟨_, rfl, i, M, R, q⟩
  | str y => exact ⟨_, ⟨q.1, rfl⟩, i, M, R, q.2⟩
  | tup hs ha => exact ⟨_, .inr (.inl ⟨_, hs, rfl⟩), i, M, R, by rw [tps_empty ha]; exact q⟩
  | rol hs ha => exact ⟨_, .inl ⟨_, hs.sq, rfl⟩, i, M, R, by rw [tps_empty ha]; exact q⟩
  | ref a =>
    rcases q with ⟨ds, e, q⟩ | ⟨kvs, e, q⟩
    · obtain ⟨_, ea, us, rfl, ha⟩ := R a _ e
      exact ⟨_, .inl ⟨_, SqL.of ea, rfl⟩, i, M, R, by rw [tps_empty ha]; exact q⟩
    · obtain ⟨_, ea, us, rfl, ha⟩ := R a _ e
      exact ⟨_, .inr (.inr ⟨_, ea, rfl⟩), i, M, R, by rw [kvs_empty ha]; exact q⟩
  | ty _ => exact False.elim q
def QBl (Q : Bool → Mp → Prop) : QD := fun d M => match d with
  | .bl b => Q b M
  | _ => False
section
variable {X : Cx} {e a b c : Expr} {es rest : List Expr} {σ : Sd} {M : Mp} {Q : QD} {QB : Bool → Mp → Prop} {pos : Pos}
theorem t_truth (h : ES X e σ M fun d M1 => RTru d M1 QB) (he : ∀ whole, isTrue e X.env whole = (do let v ← whole; standAt e.pos; holding [v] (truthy v)) := by intro _; rfl) : TT3 X e σ M QB :=
  TT3.of (pt_truth pe_sem he) fun σv H S R => h.go (H0 := H) S R fun v H1 d M1 i1 R1 t1 q1 => rd_tru i1 R1 t1 q1
theorem t_cmp {op : CmpOp} {r : R2} {R : R3} (ho : OpR X (compareOp op) r) (hR : RD X.K r R) (hm : behindInMarks op b = false) (h : ES X a σ M fun x M1 => ES X b σ M1 fun y M2 => R x y M2 (QBl QB)) : TT3 X (.Compare a [op] [b] pos) σ M QB :=
  TT3.of (pt_cmpR ho pe_sem pe_sem hm) fun σv H S RM => op_goT hR h σv H S RM _ fun v H' d M' i' R' t' q' => by
    cases t' <;> first | exact False.elim q' | exact ⟨_, rfl, i', M', R', q'⟩
theorem t_eq (hr : ∃ k, Room k X.A) (h : ES X a σ M fun x M1 => ES X b σ M1 fun y M2 => REq x y M2 (QBl QB)) : TT3 X (.Compare a [.Eq] [b] pos) σ M QB := t_cmp (OpR.or op_eq (op_eqD hr.choose_spec.units)) rd_eq (nomark _) h
theorem t_ne (hr : ∃ k, Room k X.A) (h : ES X a σ M fun x M1 => ES X b σ M1 fun y M2 => RNe x y M2 (QBl QB)) : TT3 X (.Compare a [.NotEq] [b] pos) σ M QB := t_cmp (OpR.or op_ne (op_neD hr.choose_spec.units)) rd_ne (nomark _) h
theorem t_isN (h : ES X a σ M fun x M1 => ES X b σ M1 fun y M2 => RIsN x y M2 (QBl QB)) : TT3 X (.Compare a [.Is] [b] pos) σ M QB := t_cmp op_isN rd_isN (nomark _) h
theorem t_notN (h : ES X a σ M fun x M1 => ES X b σ M1 fun y M2 => RNotN x y M2 (QBl QB)) : TT3 X (.Compare a [.IsNot] [b] pos) σ M QB := t_cmp op_notN rd_notN (nomark _) h
theorem t_in (h : ES X a σ M fun x M1 => ES X b σ M1 fun y M2 => RIn false x y M2 (QBl QB)) (hm : behindInMarks .In b = false := by rfl) : TT3 X (.Compare a [.In] [b] pos) σ M QB := t_cmp op_in_seq rd_in hm h
theorem t_notIn (h : ES X a σ M fun x M1 => ES X b σ M1 fun y M2 => RIn true x y M2 (QBl QB)) (hm : behindInMarks .NotIn b = false := by rfl) : TT3 X (.Compare a [.NotIn] [b] pos) σ M QB := t_cmp op_notIn_seq rd_in hm h
theorem t_lt (h : ES X a σ M fun x M1 => ES X b σ M1 fun y M2 => RInt0 (fun i j => .bl (decide (i < j))) x y M2 (QBl QB)) : TT3 X (.Compare a [.Lt] [b] pos) σ M QB := t_cmp op_lt rd_cmp0 (nomark _) h
theorem t_le (h : ES X a σ M fun x M1 => ES X b σ M1 fun y M2 => RInt0 (fun i j => .bl (decide (i ≤ j))) x y M2 (QBl QB)) : TT3 X (.Compare a [.LtE] [b] pos) σ M QB := t_cmp op_le rd_cmp0 (nomark _) h
theorem t_gt (h : ES X a σ M fun x M1 => ES X b σ M1 fun y M2 => RInt0 (fun i j => .bl (decide (j < i))) x y M2 (QBl QB)) : TT3 X (.Compare a [.Gt] [b] pos) σ M QB := t_cmp op_gt rd_cmp0 (nomark _) h
theorem t_ge (h : ES X a σ M fun x M1 => ES X b σ M1 fun y M2 => RInt0 (fun i j => .bl (decide (j ≤ i))) x y M2 (QBl QB)) : TT3 X (.Compare a [.GtE] [b] pos) σ M QB := t_cmp op_ge rd_cmp0 (nomark _) h
theorem t_not (h : TT3 X a σ M fun c M1 => QB (!c) M1) : TT3 X (.UnaryOp .Not a pos) σ M QB :=
  TT3.of (pt_not pt_sem) fun σv H S R => h.go S R fun v H1 M1 i1 R1 q1 => ⟨i1, M1, R1, q1⟩
theorem t_w (h : TW3 X e σ M QB) : TT3 X e σ M QB := ⟨fun σv H S R pins s I => h.run σv H S R _ pins s I⟩
theorem w_and1 (h : TT3 X a σ M QB) : TW3 X (.BoolOp .And [a] pos) σ M QB := TW3.of (pw_and1 pt_sem) fun σv H S R => h.run σv H S R
theorem w_or1 (h : TT3 X a σ M QB) : TW3 X (.BoolOp .Or [a] pos) σ M QB := TW3.of (pw_or1 pt_sem) fun σv H S R => h.run σv H S R
theorem w_and (h : TT3 X a σ M fun c M1 => BQ c (TW3 X (.BoolOp .And (b :: rest) pos) σ M1 QB) (QB false M1)) : TW3 X (.BoolOp .And (a :: b :: rest) pos) σ M QB :=
  TW3.of (pw_and pt_sem pw_sem) fun σv H S R => h.go S R fun v H1 M1 i1 R1 q1 => by
    cases v with
    | true =>
      rw [if_pos rfl]
      exact (q1.1 rfl).go (S.mono i1) R1 fun v2 H2 M2 i2 R2 q2 => ⟨i1.trans i2, M2, R2, q2⟩
    | false =>
      rw [if_neg Bool.false_ne_true]
      exact ⟨i1, M1, R1, q1.2 rfl⟩
theorem w_or (h : TT3 X a σ M fun c M1 => BQ c (QB true M1) (TW3 X (.BoolOp .Or (b :: rest) pos) σ M1 QB)) : TW3 X (.BoolOp .Or (a :: b :: rest) pos) σ M QB :=
  TW3.of (pw_or pt_sem pw_sem) fun σv H S R => h.go S R fun v H1 M1 i1 R1 q1 => by
    cases v with
    | true =>
      rw [if_pos rfl]
      exact ⟨i1, M1, R1, q1.1 rfl⟩
    | false =>
      rw [if_neg Bool.false_ne_true]
      exact (q1.2 rfl).go (S.mono i1) R1 fun v2 H2 M2 i2 R2 q2 => ⟨i1.trans i2, M2, R2, q2⟩
/-! as values: bools -/
theorem v_one {op} (h : ES X a σ M Q) : ES X (.BoolOp op [a] pos) σ M Q := ES.of (pe_one pe_sem) fun σv H S R => h.run σv H S R
theorem v_and (h : ES X a σ M fun d M1 => QBl (fun c M1 => BQ c (ES X (.BoolOp .And (b :: rest) pos) σ M1 Q) (Q (.bl false) M1)) d M1) : ES X (.BoolOp .And (a :: b :: rest) pos) σ M Q :=
  ES.of (pe_and pe_sem pe_sem) fun σv H S R => h.go (H0 := H) S R fun v H1 d M1 i1 R1 t1 q1 => by
    cases t1 <;> first | exact False.elim q1 | skip
    case bl c =>
      refine ⟨c, rfl, ?_⟩
      cases c with
      | true =>
        rw [if_pos rfl]
        exact (q1.1 rfl).go (H0 := H) (S.mono i1) R1 fun v2 H2 d2 M2 i2 R2 t2 q2 => ⟨i1.trans i2, d2, M2, R2, t2, q2⟩
      | false =>
        rw [if_neg Bool.false_ne_true]
        exact ⟨i1, _, M1, R1, .bl _, q1.2 rfl⟩
theorem v_or (h : ES X a σ M fun d M1 => QBl (fun c M1 => BQ c (Q (.bl true) M1) (ES X (.BoolOp .Or (b :: rest) pos) σ M1 Q)) d M1) : ES X (.BoolOp .Or (a :: b :: rest) pos) σ M Q :=
  ES.of (pe_or pe_sem pe_sem) fun σv H S R => h.go (H0 := H) S R fun v H1 d M1 i1 R1 t1 q1 => by
    cases t1 <;> first | exact False.elim q1 | skip
    case bl c =>
      refine ⟨c, rfl, ?_⟩
      cases c with
      | true =>
        rw [if_pos rfl]
        exact ⟨i1, _, M1, R1, .bl _, q1.1 rfl⟩
      | false =>
        rw [if_neg Bool.false_ne_true]
        exact (q1.2 rfl).go (H0 := H) (S.mono i1) R1 fun v2 H2 d2 M2 i2 R2 t2 q2 => ⟨i1.trans i2, d2, M2, R2, t2, q2⟩
theorem v_not (h : ES X a σ M fun d M1 => QBl (fun c M1 => Q (.bl (!c)) M1) d M1) : ES X (.UnaryOp .Not a pos) σ M Q :=
  ES.of (pe_not pe_sem) fun σv H S R => h.go (H0 := H) S R fun v H1 d M1 i1 R1 t1 q1 => by
    cases t1 <;> first | exact False.elim q1 | exact ⟨_, rfl, i1, _, M1, R1, .bl _, q1⟩
theorem v_neg (h : ES X a σ M fun d M1 => match d with | .int i => Q (.int (-i)) M1 | _ => False) : ES X (.UnaryOp .USub a pos) σ M Q :=
  ES.of (pe_un un_neg pe_sem) fun σv H S R => h.go (H0 := H) S R fun v H1 d M1 i1 R1 t1 q1 => by
    cases t1 <;> first | exact False.elim q1 | exact ⟨_, rfl, i1, _, M1, R1, .int _, q1⟩
theorem v_if (h : TT3 X c σ M fun k M1 => BQ k (ES X a σ M1 Q) (ES X b σ M1 Q)) : ES X (.IfExp c a b pos) σ M Q :=
  ES.of (pe_ifExp pt_sem pe_sem pe_sem) fun σv H S R => h.go S R fun v H1 M1 i1 R1 q1 => by
    cases v with
    | true =>
      rw [if_pos rfl]
      exact (q1.1 rfl).go (H0 := H) (S.mono i1) R1 fun v2 H2 d2 M2 i2 R2 t2 q2 => ⟨i1.trans i2, d2, M2, R2, t2, q2⟩
    | false =>
      rw [if_neg Bool.false_ne_true]
      exact (q1.2 rfl).go (H0 := H) (S.mono i1) R1 fun v2 H2 d2 M2 i2 R2 t2 q2 => ⟨i1.trans i2, d2, M2, R2, t2, q2⟩
/-! ### arguments, displays -/
variable {QA : List D → Mp → Prop}
theorem a_nil (q : QA [] M) : AS X [] σ M QA := AS.of pa_nil fun σv H S R => ⟨Imm.refl H, [], M, R, .nil, q⟩
theorem a_cons (h : ES X e σ M fun d M1 => AS X es σ M1 fun ds M2 => QA (d :: ds) M2) (hs : starEach (e :: es) X.env = (false, eval e X.env) :: starEach es X.env := by rfl) : AS X (e :: es) σ M QA :=
  AS.of (pa_cons pe_sem pa_sem hs) fun σv H S R => h.go (H0 := H) S R fun v H1 d M1 i1 R1 t1 q1 => q1.go (S.mono i1) R1 fun vs H2 ds M2 i2 R2 t2 q2 => ⟨i1.trans i2, d :: ds, M2, R2, .cons (Tp.mono i2 _ _ t1) t2, q2⟩
theorem e_tup {x1} (h : AS X es σ M fun ds M1 => ds.length ≤ sizeLine ∧ Q (.tup ds) M1) : ES X (.Tuple es x1 pos) σ M Q :=
  ES.of (pe_tup pa_sem) fun σv H S R => h.go S R fun vs H1 ds M1 i1 R1 t1 q1 => ⟨by rw [t1.length]; exact q1.1, fun p hp => by
    have im := Imm.new (o := .tup vs) hp
    exact ⟨i1.trans im, _, M1, R1.skip hp, .tup (SqT.of upd_same) (Tps.mono im _ _ t1), q1.2⟩⟩
theorem e_lst (h : AS X es σ M fun ds M1 => ds.length ≤ sizeLine ∧ NewM M1 (.lst ds) fun p M' => Q (.ref p) M') : ES X (.List es pos) σ M Q :=
  ES.of (pe_lst pa_sem) fun σv H S R => h.go S R fun vs H1 ds M1 i1 R1 t1 q1 => ⟨by rw [t1.length]; exact q1.1, fun p hp => by
    have im := Imm.new (o := .lst vs) hp
    exact ⟨i1.trans im, _, _, R1.new (m := .lst ds) hp ⟨_, rfl, Tps.mono im _ _ t1⟩, .ref p, NewM.at q1.2 (R1.fresh hp)⟩⟩
theorem e_dict0 (h : NewM M (.dK []) fun p M' => Q (.ref p) M') : ES X (.Dict [] [] pos) σ M Q :=
  ES.of pe_dnewK fun σv H S R p hp => ⟨Imm.new hp, _, _, R.new (m := .dK []) hp ⟨_, rfl, .nil⟩, .ref p, NewM.at h (R.fresh hp)⟩
end
/-! ### calls -/
abbrev Sp3 := List D → Mp → QD → Prop
def spD (K : PySem.W.Frag) (sp3 : Sp3) : Sp := fun vs H Q _ => ∃ (ds : List D) (M : Mp) (Q3 : QD), Tps K H vs ds ∧ RelM K M H ∧ sp3 ds M Q3 ∧ To K H Q3 Q
/-- a def of the module and what it promises -/
def Callee (P : Program) (w : World) (K : PySem.W.Frag) (mg : Str → Option Value) (base : Heap) (x : Str) (k : Nat) (ps : List Str) (sp3 : Sp3) : Prop :=
  ∃ f fd, FnOk P w K mg base CX0 k f fd ps (spD K sp3) ∧ mg x = some (.ref f) ∧ PySem.W.keepIn K (.ref f) = true ∧ Binds K fd ps []
theorem Callee.imp {P : Program} {w : World} {K : PySem.W.Frag} {mg : Str → Option Value} {base : Heap} {x : Str} {k : Nat} {ps : List Str} {sp3 sp3' : Sp3} (C : Callee P w K mg base x k ps sp3)
    (h : ∀ ds M Q, sp3' ds M Q → sp3 ds M Q) : Callee P w K mg base x k ps sp3' := by
  obtain ⟨f, fd, F, a, b, c⟩ := C
  exact ⟨f, fd, F.imp fun vs H Q E ⟨ds, M, Q3, t, r, q, to⟩ => ⟨ds, M, Q3, t, r, h _ _ _ q, to⟩, a, b, c⟩
theorem Callee.mono {P : Program} {w : World} {K : PySem.W.Frag} {mg : Str → Option Value} {base : Heap} {x : Str} {j k : Nat} {ps : List Str} {sp3 : Sp3} (C : Callee P w K mg base x j ps sp3) (h : j ≤ k) : Callee P w K mg base x k ps sp3 := by
  obtain ⟨f, fd, F, a, b, c⟩ := C
  exact ⟨f, fd, F.mono h, a, b, c⟩
section
variable {X : Cx} {e a b c : Expr} {es rest : List Expr} {σ : Sd} {M : Mp} {Q : QD} {pos p : Pos} {x : Str} {k : Nat} {ps : List Str} {sp3 : Sp3}
theorem e_call (C : Callee X.prog X.w X.K X.mg X.base x k ps sp3) (hr : Room k X.A) (h : AS X (e :: es) σ M fun ds M1 => sp3 ds M1 Q) (hg : Gl X x := by rfl) (hdb : (x == ("__debug__" : Str)) = false := by decide)
    (he : starEach (e :: es) X.env = (false, eval e X.env) :: starEach es X.env := by rfl) (hpl : (backTo pos (starEach es X.env)).any (·.1) = false := by rfl) : ES X (.Call (.Name x p) (e :: es) [] pos) σ M Q := by
  obtain ⟨f, fd, F, hm, hk, hb⟩ := C
  refine ES.of (pe_call F hr hg hm hk hb .nil pass0 pa_sem hdb he hpl) fun σv H S R => h.go S R fun vs H1 ds M1 i1 R1 t1 q1 => ?_
  rw [List.append_nil]
  exact ⟨ds, M1, Q, t1, R1, q1, fun v H2 d M2 i2 R2 t2 q2 => ⟨i1.trans i2, d, M2, R2, t2, q2⟩⟩
theorem e_call0 (C : Callee X.prog X.w X.K X.mg X.base x k ps sp3) (hr : Room k X.A) (h : sp3 [] M Q) (hg : Gl X x := by rfl) (hdb : (x == ("__debug__" : Str)) = false := by decide) : ES X (.Call (.Name x p) [] [] pos) σ M Q := by
  obtain ⟨f, fd, F, hm, hk, hb⟩ := C
  refine ES.of (pe_call0 F hr hg hm hk hb .nil pass0 hdb) fun σv H S R => ?_
  exact ⟨[], M, Q, .nil, R, h, fun v H2 d M2 i2 R2 t2 q2 => ⟨i2, d, M2, R2, t2, q2⟩⟩
/-! built-ins by name -/
abbrev RA3 := List D → Mp → QD → Prop
def RDA (K : PySem.W.Frag) (r : List V → Hp → VK → Prop) (R : RA3) : Prop := ∀ H0 H M vs ds Q Q', Imm H0 H → RelM K M H → Tps K H vs ds → To K H0 Q Q' → R ds M Q → r vs H Q'
theorem e_cb {id : String} {r : List V → Hp → VK → Prop} {R : RA3} (hc : CallR X (.builtin id) r) (hR : RDA X.K r R) (hm : X.mg x = none) (hv : bootBuiltins x = some (.builtin id)) (h : AS X (e :: es) σ M fun ds M1 => R ds M1 Q) (hg : Gl X x := by rfl) (hn : x ≠ "__name__" := by decide) (hdb : (x == ("__debug__" : Str)) = false := by decide)
    (he : starEach (e :: es) X.env = (false, eval e X.env) :: starEach es X.env := by rfl) (hpl : (backTo pos (starEach es X.env)).any (·.1) = false := by rfl) : ES X (.Call (.Name x p) (e :: es) [] pos) σ M Q :=
  ES.of (pe_callB hc hg hm hv pa_sem hn hdb he hpl) fun σv H S R => h.go S R fun vs H1 ds M1 i1 R1 t1 q1 => hR H H1 M1 vs ds Q _ i1 R1 t1 To.dq q1
theorem e_ct {T : String} {r : List V → Hp → VK → Prop} {R : RA3} (hc : CallR X (.type T) r) (hR : RDA X.K r R) (hm : X.mg x = none) (hv : bootBuiltins x = some (.type T)) (h : AS X (e :: es) σ M fun ds M1 => R ds M1 Q) (hg : Gl X x := by rfl) (hn : x ≠ "__name__" := by decide) (hdb : (x == ("__debug__" : Str)) = false := by decide)
    (he : starEach (e :: es) X.env = (false, eval e X.env) :: starEach es X.env := by rfl) (hpl : (backTo pos (starEach es X.env)).any (·.1) = false := by rfl) : ES X (.Call (.Name x p) (e :: es) [] pos) σ M Q :=
  ES.of (pe_callTy hc hg hm hv pa_sem hn hdb he hpl) fun σv H S R => h.go S R fun vs H1 ds M1 i1 R1 t1 q1 => hR H H1 M1 vs ds Q _ i1 R1 t1 To.dq q1
end
section
variable {K : PySem.W.Frag}
theorem Tps.one {H : Hp} {vs : List V} {d : D} (h : Tps K H vs [d]) : ∃ v, vs = [v] ∧ Tp K H v d := by
  cases h with
  | cons r t => cases t; exact ⟨_, rfl, r⟩
theorem Tps.two {H : Hp} {vs : List V} {d e : D} (h : Tps K H vs [d, e]) : ∃ v u, vs = [v, u] ∧ Tp K H v d ∧ Tp K H u e := by
  cases h with
  | cons r t =>
    obtain ⟨u, rfl, q⟩ := t.one
    exact ⟨_, u, rfl, r, q⟩
def RLen : RA3 := fun ds M Q => match ds with
  | [.str z] => z.length ≤ sizeLine ∧ Q (.int z.length) M
  | [.tup l] => Q (.int l.length) M
  | [.rol l] => Q (.int l.length) M
  | [.ref a] => ∃ l, M a = some (.lst l) ∧ Q (.int l.length) M
  | _ => False
def rLen (K : PySem.W.Frag) : List V → Hp → VK → Prop := fun xs H Q => ∃ x n, xs = [x] ∧ LenV K x H n ∧ Q (.int n) H
theorem rd_len : RDA K (rLen K) RLen := by
  intro H0 H M vs ds Q Q' i R t k q
  match ds, t, q with
  | [.str z], t, q =>
    obtain ⟨v, rfl, r⟩ := t.one
    cases r
    exact ⟨_, _, rfl, ⟨q.1, rfl⟩, k _ _ _ _ i R (.int _) q.2⟩
  | [.tup l], t, q =>
    obtain ⟨v, rfl, r⟩ := t.one
    cases r with
    | tup hs ha => exact ⟨_, _, rfl, .inr ⟨_, hs, rfl⟩, k _ _ _ _ i R (.int _) (by rw [ha.length]; exact q)⟩
  | [.rol l], t, q =>
    obtain ⟨v, rfl, r⟩ := t.one
    cases r with
    | rol hs ha => exact ⟨_, _, rfl, .inl ⟨_, hs.sq, rfl⟩, k _ _ _ _ i R (.int _) (by rw [ha.length]; exact q)⟩
  | [.ref a], t, q =>
    obtain ⟨v, rfl, r⟩ := t.one
    obtain ⟨l, e, q⟩ := q
    obtain ⟨_, ea, us, rfl, ha⟩ := R a _ e
    cases r
    exact ⟨_, _, rfl, .inl ⟨_, SqL.of ea, rfl⟩, k _ _ _ _ i R (.int _) (by rw [ha.length]; exact q)⟩
def RAbs : RA3 := fun ds M Q => match ds with
  | [.int i] => Q (.int (if i < 0 then -i else i)) M
  | _ => False
theorem rd_abs : RDA K (fun xs H Q => ∃ i, xs = [.int i] ∧ Q (.int (if i < 0 then -i else i)) H) RAbs := by
  intro H0 H M vs ds Q Q' i R t k q
  match ds, t, q with
  | [.int n], t, q =>
    obtain ⟨v, rfl, r⟩ := t.one
    cases r
    exact ⟨_, rfl, k _ _ _ _ i R (.int _) q⟩
def RIntC : RA3 := fun ds M Q => match ds with
  | [.int i] => Q (.int i) M
  | [.bl b] => Q (.int (if b then 1 else 0)) M
  | _ => False
theorem rd_intc : RDA K (fun xs H Q => (∃ i, xs = [.int i] ∧ Q (.int i) H) ∨ ∃ k, xs = [.bl k] ∧ Q (.int (if k then 1 else 0)) H) RIntC := by
  intro H0 H M vs ds Q Q' i R t k q
  match ds, t, q with
  | [.int n], t, q =>
    obtain ⟨v, rfl, r⟩ := t.one
    cases r
    exact .inl ⟨_, rfl, k _ _ _ _ i R (.int _) q⟩
  | [.bl n], t, q =>
    obtain ⟨v, rfl, r⟩ := t.one
    cases r
    exact .inr ⟨_, rfl, k _ _ _ _ i R (.int _) q⟩
def RList : RA3 := fun ds M Q => match ds with
  | [.tup l] => NewM M (.lst l) fun p M' => Q (.ref p) M'
  | [.rol l] => NewM M (.lst l) fun p M' => Q (.ref p) M'
  | [.ref a] => ∃ l, M a = some (.lst l) ∧ NewM M (.lst l) fun p M' => Q (.ref p) M'
  | _ => False
theorem new_lst {H0 H : Hp} {M : Mp} {xs : List V} {l : List D} {Q : QD} {Q' : VK} (i : Imm H0 H) (R : RelM K M H) (ha : Tps K H xs l) (k : To K H0 Q Q') (q : NewM M (.lst l) fun p M' => Q (.ref p) M') (p : Addr) (hp : H p = none) : Q' (.ref p) (upd H p (.lst xs)) := by
  have im := Imm.new (o := .lst xs) hp
  exact k _ _ _ _ (i.trans im) (R.new (m := .lst l) hp ⟨_, rfl, Tps.mono im _ _ ha⟩) (.ref p) (NewM.at q (R.fresh hp))
theorem rd_list : RDA K (fun xs H Q => ∃ p ys, xs = [.ref p] ∧ (SqL K H p ys ∨ SqT K H p ys) ∧ ∀ l, H l = none → Q (.ref l) (upd H l (.lst ys))) RList := by
  intro H0 H M vs ds Q Q' i R t k q
  match ds, t, q with
  | [.tup l], t, q =>
    obtain ⟨v, rfl, r⟩ := t.one
    cases r with
    | tup hs ha => exact ⟨_, _, rfl, .inr hs, fun p hp => new_lst i R ha k q p hp⟩
  | [.rol l], t, q =>
    obtain ⟨v, rfl, r⟩ := t.one
    cases r with
    | rol hs ha => exact ⟨_, _, rfl, .inl hs.sq, fun p hp => new_lst i R ha k q p hp⟩
  | [.ref a], t, q =>
    obtain ⟨v, rfl, r⟩ := t.one
    obtain ⟨l, e, q⟩ := q
    obtain ⟨_, ea, us, rfl, ha⟩ := R a _ e
    cases r
    exact ⟨_, _, rfl, .inl (SqL.of ea), fun p hp => new_lst i R ha k q p hp⟩
def RTuple : RA3 := fun ds M Q => match ds with
  | [.tup l] => Q (.tup l) M
  | [.rol l] => Q (.tup l) M
  | [.ref a] => ∃ l, M a = some (.lst l) ∧ Q (.tup l) M
  | _ => False
theorem new_tup {H0 H : Hp} {M : Mp} {xs : List V} {l : List D} {Q : QD} {Q' : VK} (i : Imm H0 H) (R : RelM K M H) (ha : Tps K H xs l) (k : To K H0 Q Q') (q : Q (.tup l) M) (p : Addr) (hp : H p = none) : Q' (.ref p) (upd H p (.tup xs)) := by
  have im := Imm.new (o := .tup xs) hp
  exact k _ _ _ _ (i.trans im) (R.skip hp) (.tup (SqT.of upd_same) (Tps.mono im _ _ ha)) q
theorem rd_tuple : RDA K (fun xs H Q => ∃ p ys, xs = [.ref p] ∧ ((SqL K H p ys ∧ ∀ l, H l = none → Q (.ref l) (upd H l (.tup ys))) ∨ (SqT K H p ys ∧ Q (.ref p) H))) RTuple := by
  intro H0 H M vs ds Q Q' i R t k q
  match ds, t, q with
  | [.tup l], t, q =>
    obtain ⟨v, rfl, r⟩ := t.one
    cases r with
    | tup hs ha => exact ⟨_, _, rfl, .inr ⟨hs, k _ _ _ _ i R (.tup hs ha) q⟩⟩
  | [.rol l], t, q =>
    obtain ⟨v, rfl, r⟩ := t.one
    cases r with
    | rol hs ha => exact ⟨_, _, rfl, .inl ⟨hs.sq, fun p hp => new_tup i R ha k q p hp⟩⟩
  | [.ref a], t, q =>
    obtain ⟨v, rfl, r⟩ := t.one
    obtain ⟨l, e, q⟩ := q
    obtain ⟨_, ea, us, rfl, ha⟩ := R a _ e
    cases r
    exact ⟨_, _, rfl, .inl ⟨SqL.of ea, fun p hp => new_tup i R ha k q p hp⟩⟩
/-- a value's type, by name -/
def tyD (M : Mp) : D → Option String
  | .non => some "NoneType"
  | .bl _ => some "bool"
  | .int _ => some "int"
  | .str _ => some "str"
  | .tup _ => some "tuple"
  | .rol _ => some "list"
  | .ref a => match M a with
    | some (.lst _) => some "list"
    | some (.dK _) => some "dict"
    | _ => none
  | .ty _ => none
theorem tyD_ok {H : Hp} {M : Mp} {v : V} {d : D} {n : String} (R : RelM K M H) (t : Tp K H v d) (h : tyD M d = some n) : TyX K H v (.type n) := by
  cases t with
  | non => cases h; exact .base .non
  | bl b => cases h; exact .base (.bl b)
  | int b => cases h; exact .base (.int b)
  | str b => cases h; exact .base (.str b)
  | ty b => cases h
  | tup hs ha =>
    cases h
    rcases hs with (hs | ⟨o, hs⟩) | ⟨o, its, m, hk, hc, _⟩
    · exact .base (.tup hs)
    · exact .fTuple hs
    · exact .kTuple hk hc
  | rol hs ha =>
    cases h
    rcases hs with ⟨o, hs⟩ | ⟨o, its, m, hk, hc, _⟩
    · exact .base (.frz hs)
    · exact .kList hk hc
  | ref a =>
    unfold tyD at h
    cases e : M a with
    | none => simp [e] at h
    | some m =>
      obtain ⟨o, ea, ro⟩ := R a _ e
      cases m with
      | lst l =>
        simp [e] at h
        subst h
        obtain ⟨_, rfl, _⟩ := ro
        exact .base (.lst ea)
      | dK l =>
        simp [e] at h
        subst h
        obtain ⟨_, rfl, _⟩ := ro
        exact .base (.dK ea)
      | _ => simp [e] at h
def RIsi : RA3 := fun ds M Q => match ds with
  | [d, .ty c] => ∃ n b, tyD M d = some n ∧ kitB n c = some b ∧ Q (.bl b) M
  | _ => False
theorem rd_isi : RDA K (rIsi K) RIsi := by
  intro H0 H M vs ds Q Q' i R t k q
  match ds, t, q with
  | [d, .ty c], t, ⟨n, b, hn, hb, q⟩ =>
    obtain ⟨v, u, rfl, r, r2⟩ := t.two
    cases r2
    exact ⟨v, .ty c, _, _, b, rfl, .ty c, tyD_ok R r hn, kit_ty hb, k _ _ _ _ i R (.bl _) q⟩
end
section
variable {X : Cx} {e a b c : Expr} {es rest : List Expr} {σ : Sd} {M : Mp} {Q : QD} {pos p p2 : Pos}
theorem e_len (hm : X.mg "len" = none) (h : AS X [e] σ M fun ds M1 => RLen ds M1 Q) (hg : Gl X "len" := by rfl) (he : starEach [e] X.env = (false, eval e X.env) :: starEach [] X.env := by rfl) : ES X (.Call (.Name "len" p) [e] [] pos) σ M Q := e_cb call_len rd_len hm PySem.boot_len h hg (by decide) (by decide) he rfl
theorem e_abs (hm : X.mg "abs" = none) (h : AS X [e] σ M fun ds M1 => RAbs ds M1 Q) (hg : Gl X "abs" := by rfl) (he : starEach [e] X.env = (false, eval e X.env) :: starEach [] X.env := by rfl) : ES X (.Call (.Name "abs" p) [e] [] pos) σ M Q := e_cb call_abs rd_abs hm (by decide +kernel) h hg (by decide) (by decide) he rfl
theorem e_intc (hm : X.mg "int" = none) (h : AS X [e] σ M fun ds M1 => RIntC ds M1 Q) (hg : Gl X "int" := by rfl) (he : starEach [e] X.env = (false, eval e X.env) :: starEach [] X.env := by rfl) : ES X (.Call (.Name "int" p) [e] [] pos) σ M Q := e_ct call_int1 rd_intc hm (by decide +kernel) h hg (by decide) (by decide) he rfl
theorem e_listc (hm : X.mg "list" = none) (h : AS X [e] σ M fun ds M1 => RList ds M1 Q) (hg : Gl X "list" := by rfl) (he : starEach [e] X.env = (false, eval e X.env) :: starEach [] X.env := by rfl) : ES X (.Call (.Name "list" p) [e] [] pos) σ M Q := e_ct call_list_of rd_list hm (by decide +kernel) h hg (by decide) (by decide) he rfl
theorem e_tuplec (hm : X.mg "tuple" = none) (h : AS X [e] σ M fun ds M1 => RTuple ds M1 Q) (hg : Gl X "tuple" := by rfl) (he : starEach [e] X.env = (false, eval e X.env) :: starEach [] X.env := by rfl) : ES X (.Call (.Name "tuple" p) [e] [] pos) σ M Q := e_ct call_tuple_of rd_tuple hm (by decide +kernel) h hg (by decide) (by decide) he rfl
theorem e_isi (hm : X.mg "isinstance" = none) (h : AS X [a, b] σ M fun ds M1 => RIsi ds M1 Q) (hg : Gl X "isinstance" := by rfl) (he : starEach [a, b] X.env = (false, eval a X.env) :: starEach [b] X.env := by rfl) (he2 : (backTo pos (starEach [b] X.env)).any (·.1) = false := by rfl) : ES X (.Call (.Name "isinstance" p) [a, b] [] pos) σ M Q := e_cb call_isi rd_isi hm (by decide +kernel) h hg (by decide) (by decide) he he2
theorem e_tyname {x : Str} {n : String} (hm : X.mg x = none) (hv : bootBuiltins x = some (.type n)) (q : Q (.ty n) M) (hg : Gl X x := by rfl) (hn : x ≠ "__name__" := by decide) (hdb : (x == ("__debug__" : Str)) = false := by decide) : ES X (.Name x pos) σ M Q := e_bltn (v := .ty n) hm hv rfl (fun _ => .ty n) q hg hn hdb
end
end DL
set_option maxHeartbeats 1000000
namespace DL
open PySem L2 PySem.Spec PyProof.Rows
/-! ### statements -/
section
variable {X : Cx} {e a b c tg iter : Expr} {es rest : List Expr} {st : Stmt} {sts body els : List Stmt} {σ : Sd} {M : Mp} {Q : QD} {E : DE} {pos p p2 : Pos}
theorem ss_nil (q : E.nx σ M) : SSs X [] σ M E := SSs.of pss_nil fun σv H S R => ⟨Imm.refl H, σ, M, S, R, q⟩
theorem ss_cons (h : SS X st σ M { E with nx := fun σ1 M1 => SSs X sts σ1 M1 E }) : SSs X (st :: sts) σ M E :=
  SSs.of (pss_cons ps_sem pss_sem) fun σv H S R => (h.run σv H S R).mono
    ⟨fun σ1 H1 ⟨i1, σ', M1, S1, R1, q1⟩ => (q1.run σ1 H1 S1 R1).mono (DE.from i1), fun _ _ q => q, fun _ _ q => q, fun _ _ q => q⟩
theorem ss_one (h : SS X st σ M E) : SSs X [st] σ M E := SSs.of (pss_one ps_sem) fun σv H S R => h.run σv H S R
theorem s_asg (i : Nat) {x : Str} {pos' : Pos} (hN : X.N.Nodup) (h : ES X e σ M fun d M1 => E.nx (σ.set i (some d)) M1) (hi : X.N[i]? = some x := by rfl) (hx : Loc X.env.scope x := by first | exact Or.inl rfl | exact Or.inr rfl)
    (hs : swapsWith e (some (.Name x pos')) pos.line X.env = pure false := by rfl) (hf : X.fn x = true ∨ X.env.scope.names.lookup x = some .local := by first | exact .inl rfl | exact .inr rfl | assumption) : SS X (.Assign [.Name x pos'] e pos) σ M E :=
  SS.of (ps_set hN hi hx pe_sem hs hf) fun σv H S R => h.go (H0 := H) S R fun v H1 d M1 i1 R1 t1 q1 => ⟨i1, _, M1, (S.mono i1).set t1 i, R1, q1⟩
theorem s_asgG (h : ES X e σ M fun d M1 => GS X tg d σ M1 E.nx) (hs : swapsWithSole [tg] e pos.line X.env = pure false := by rfl) (hw : swappedStores [tg] e X.env = pure none := by rfl)
    (h1 : (assignEach [tg] X.env).map (·.2) = [assign tg X.env] := by rfl) : SS X (.Assign [tg] e pos) σ M E :=
  SS.of (ps_asg pe_sem pg_sem hs hw h1) fun σv H S R => h.go (H0 := H) S R fun v H1 d M1 i1 R1 t1 q1 => (q1.run σv H1 v (S.mono i1) R1 t1).mono fun σ2 H2 q => DN.from i1 q
theorem s_expr (h : ES X e σ M fun _ M1 => E.nx σ M1) (hs : swapsWith e none pos.line X.env = pure false := by rfl) : SS X (.Expr e pos) σ M E :=
  SS.of (ps_expr pe_sem hs) fun σv H S R => h.go (H0 := H) S R fun v H1 d M1 i1 R1 t1 q1 => ⟨i1, σ, M1, S.mono i1, R1, q1⟩
theorem s_doc {x j pos'} (q : E.nx σ M) : SS X (.Expr (.Constant (.str x) j pos) pos') σ M E := SS.of ps_doc fun σv H S R => ⟨Imm.refl H, σ, M, S, R, q⟩
theorem s_ret (h : ES X e σ M E.rt) : SS X (.Return (some e) pos) σ M E := SS.of (ps_ret pe_sem) fun σv H S R => h.run σv H S R
theorem s_retN (q : E.rt .non M) : SS X (.Return none pos) σ M E := SS.of ps_retN fun σv H S R => ⟨Imm.refl H, _, M, R, .non, q⟩
theorem s_pass (q : E.nx σ M) : SS X (.Pass pos) σ M E := SS.of ps_pass fun σv H S R => ⟨Imm.refl H, σ, M, S, R, q⟩
theorem s_break (q : E.bk σ M) : SS X (.Break pos) σ M E := SS.of ps_break fun σv H S R => ⟨Imm.refl H, σ, M, S, R, q⟩
theorem s_cont (q : E.ct σ M) : SS X (.Continue pos) σ M E := SS.of ps_continue fun σv H S R => ⟨Imm.refl H, σ, M, S, R, q⟩
theorem s_if (h : TT3 X c σ M fun k M1 => BQ k (SSs X sts σ M1 E) (SSs X els σ M1 E)) : SS X (.If c sts els pos) σ M E :=
  SS.of (ps_if pt_sem pss_sem pss_sem) fun σv H S R => h.go S R fun v H1 M1 i1 R1 q1 => by
    cases v with
    | true =>
      rw [if_pos rfl]
      exact ((q1.1 rfl).run σv H1 (S.mono i1) R1).mono (DE.from i1)
    | false =>
      rw [if_neg Bool.false_ne_true]
      exact ((q1.2 rfl).run σv H1 (S.mono i1) R1).mono (DE.from i1)
/-- name op= e, ints -/
theorem s_augI (i : Nat) {x : Str} {pos' : Pos} {d : D} (hN : X.N.Nodup) (hd : σ[i]? = some (some d)) (h : ES X e σ M fun y M1 => RInt0 (fun i j => .int (i + j)) d y M1 fun z M2 => E.nx (σ.set i (some z)) M2) (hi : X.N[i]? = some x := by rfl) (hx : Loc X.env.scope x := by first | exact Or.inl rfl | exact Or.inr rfl)
    (hf : X.fn x = true ∨ X.env.scope.names.lookup x = some .local := by first | exact .inl rfl | exact .inr rfl | assumption) : SS X (.AugAssign (.Name x pos') .Add e pos) σ M E :=
  SS.of (ps_aug hN hi hx pe_sem ip_add hf) fun σv H S R => by
    obtain ⟨v, ev, tv⟩ := S.at_ i d hd
    refine ⟨v, ev, h.go (H0 := H) S R fun u H1 y M1 i1 R1 t1 q1 => ?_⟩
    cases tv <;> first | exact False.elim q1 | skip
    case int n =>
      cases t1 <;> first | exact False.elim q1 | skip
      case int m => exact ⟨n, m, rfl, rfl, i1, _, M1, (S.mono i1).set (.int _) i, R1, q1⟩
theorem s_augS (i : Nat) {x : Str} {pos' : Pos} {d : D} (hN : X.N.Nodup) (hd : σ[i]? = some (some d)) (h : ES X e σ M fun y M1 => RInt0 (fun i j => .int (i - j)) d y M1 fun z M2 => E.nx (σ.set i (some z)) M2) (hi : X.N[i]? = some x := by rfl) (hx : Loc X.env.scope x := by first | exact Or.inl rfl | exact Or.inr rfl)
    (hf : X.fn x = true ∨ X.env.scope.names.lookup x = some .local := by first | exact .inl rfl | exact .inr rfl | assumption) : SS X (.AugAssign (.Name x pos') .Sub e pos) σ M E :=
  SS.of (ps_aug hN hi hx pe_sem ip_sub hf) fun σv H S R => by
    obtain ⟨v, ev, tv⟩ := S.at_ i d hd
    refine ⟨v, ev, h.go (H0 := H) S R fun u H1 y M1 i1 R1 t1 q1 => ?_⟩
    cases tv <;> first | exact False.elim q1 | skip
    case int n =>
      cases t1 <;> first | exact False.elim q1 | skip
      case int m => exact ⟨n, m, rfl, rfl, i1, _, M1, (S.mono i1).set (.int _) i, R1, q1⟩
/-! ### targets -/
theorem g_name (i : Nat) {x : Str} {d : D} {Q : Sd → Mp → Prop} (hN : X.N.Nodup) (q : Q (σ.set i (some d)) M) (hi : X.N[i]? = some x := by rfl) (hx : Loc X.env.scope x := by first | exact Or.inl rfl | exact Or.inr rfl)
    (hf : X.fn x = true ∨ X.env.scope.names.lookup x = some .local := by first | exact .inl rfl | exact .inr rfl | assumption) : GS X (.Name x pos) d σ M Q :=
  ⟨fun σv H v S R t pins s u I r => (pg_name hN hi hx hf).run pins s σv H v u _ I r ⟨Imm.refl H, _, M, S.set t i, R, q⟩⟩
theorem gs_nil {Q : Sd → Mp → Prop} (q : Q σ M) : GSs X [] [] σ M Q := ⟨fun σv H vs S R t pins s us I r => by
  cases t
  exact pgs_nil.run pins s σv H [] us _ I r ⟨rfl, Imm.refl H, σ, M, S, R, q⟩⟩
theorem gs_cons {d : D} {ds : List D} {Q : Sd → Mp → Prop} (h : GS X e d σ M fun σ1 M1 => GSs X es ds σ1 M1 Q)
    (hs : (assignEach (e :: es) X.env).map (·.2) = assign e X.env :: (assignEach es X.env).map (·.2) := by rfl) : GSs X (e :: es) (d :: ds) σ M Q := ⟨fun σv H vs S R t pins s us I r => by
  cases t with
  | cons t1 t2 =>
    refine (pgs_cons pg_sem pgs_sem hs).run pins s σv H _ us _ I r ⟨_, _, rfl, (h.run σv H _ S R t1).mono fun σ2 H2 ⟨i2, σ', M2, S2, R2, q2⟩ => ?_⟩
    exact (q2.run σ2 H2 _ S2 R2 (Tps.mono i2 _ _ t2)).mono fun _ _ q => DN.from i2 q⟩
/-- a, b = a tuple -/
theorem g_tup {k : Nat} {d : D} {ds : List D} {Q : Sd → Mp → Prop} (hd : d = .tup ds) (h : GSs X es ds σ M Q) (hc : X.calm = true := by rfl) (hn : (assignEach es X.env).length = ds.length := by rfl) (hst : (assignEach es X.env).findIdx? (·.1) = none := by rfl) : GS X (.Tuple es k pos) d σ M Q := ⟨fun σv H v S R t pins s u I r => by
  subst hd
  cases t with
  | @tup a xs _ hs ha => exact (pg_tup (n := ds.length) hc pgs_sem hn hst).run pins s σv H _ u _ I r ⟨a, xs, rfl, hs, ha.length, h.run σv H xs S R ha⟩⟩
/-- xs[i] = e -/
def RSet (o i d : D) (M : Mp) (Q : Mp → Prop) : Prop := match o, i with
  | .ref a, .int k => ∃ ds j, M a = some (.lst ds) ∧ ixN ds.length k = some j ∧ SetM M a (.lst (ds.set j d)) Q
  | _, _ => False
theorem g_sub {d : D} {Q : Sd → Mp → Prop} (h : ES X a σ M fun o M1 => ES X b σ M1 fun i M2 => RSet o i d M2 (Q σ)) (ha : ∀ v, assign (.Subscript a b pos) X.env v = (do
      let ov ← holding [v] (eval a X.env)
      let iv ← holding [v, ov] (eval b X.env)
      standAt pos
      holding [v, ov, iv] (setItem ov iv v)
      release [v, ov, iv] []) := by intro _; rfl) : GS X (.Subscript a b pos) d σ M Q := ⟨fun σv H v S R t pins s u I r => by
  refine (pg_sub pe_sem pe_sem set_list ha).run pins s σv H v u _ I r ?_
  refine h.go (H0 := H) S R fun ov H1 o M1 i1 R1 t1 q1 => q1.go (H0 := H) (S.mono i1) R1 fun iv H2 i M2 i2 R2 t2 q2 => ?_
  cases t1 <;> first | exact False.elim q2 | skip
  case ref p =>
    cases t2 <;> first | exact False.elim q2 | skip
    case int k =>
      obtain ⟨ds, j, e, hj, q⟩ := q2
      obtain ⟨_, ea, us, rfl, ha'⟩ := R2 p _ e
      have im : Imm H2 (upd H2 p (.lst (us.set j v))) := Imm.set ea (fun z => z)
      have ii := i1.trans i2
      refine ⟨p, us, k, j, rfl, rfl, ea, by rw [ha'.length]; exact hj, ii.trans im, σ, _, S.mono (ii.trans im), R2.set (m := .lst (ds.set j d)) ea (fun z => z) ⟨_, rfl, ?_⟩, SetM.at q⟩
      exact Tps.set (Tp.mono (ii.trans im) _ _ t) j (Tps.mono im _ _ ha')⟩
/-! ### while, for -/
theorem s_while (W : Nat → Sd → Mp → Prop) (m : Nat) (w0 : W m σ M) (hp : PassesOwn (model X.prog X.w) X.A X.env X.xe)
    (hs : ∀ m σ M, W m σ M → TT3 X c σ M fun k M1 => BQ k (SSs X body σ M1 { nx := fun σ' M' => ∃ m', m' < m ∧ W m' σ' M', ct := fun σ' M' => ∃ m', m' < m ∧ W m' σ' M', bk := E.nx, rt := E.rt }) (E.nx σ M1)) :
    SS X (.While c body [] pos) σ M E :=
  SS.of (ps_while hp pt_sem pss_sem) fun σv H S R => by
    refine ⟨fun m σv' H' => Imm H H' ∧ ∃ σ' M', Slots X.K H' σv' σ' ∧ RelM X.K M' H' ∧ W m σ' M', ⟨m, Imm.refl H, σ, M, S, R, w0⟩, ?_⟩
    rintro m1 σv1 H1 ⟨i1, σ1, M1, S1, R1, w1⟩
    refine (hs m1 σ1 M1 w1).go S1 R1 fun k H2 M2 i2 R2 q2 => ?_
    cases k with
    | true =>
      rw [if_pos rfl]
      refine ⟨fun σv' H' => Imm H H' ∧ ∃ m', m' < m1 ∧ ∃ σ' M', Slots X.K H' σv' σ' ∧ RelM X.K M' H' ∧ W m' σ' M', fun σv' H' ⟨i, m', hm, r⟩ => ⟨m', hm, i, r⟩, ?_⟩
      refine ((q2.1 rfl).run σv1 H2 (S1.mono i2) R2).mono ⟨fun σv3 H3 ⟨i3, σ3, M3, S3, R3, m', hm, w3⟩ => ⟨(i1.trans i2).trans i3, m', hm, σ3, M3, S3, R3, w3⟩, fun _ _ q => DQ.from (i1.trans i2) q, fun _ _ q => DN.from (i1.trans i2) q, fun σv3 H3 ⟨i3, σ3, M3, S3, R3, m', hm, w3⟩ => ⟨(i1.trans i2).trans i3, m', hm, σ3, M3, S3, R3, w3⟩⟩
    | false =>
      rw [if_neg Bool.false_ne_true]
      exact ⟨i1.trans i2, σ1, M2, S1.mono i2, R2, q2.2 rfl⟩
theorem s_for (hp : PassesOwn (model X.prog X.w) X.A X.env X.xe) (h : IS X tg iter σ M fun its G M1 => ∃ Pv : Nat → Sd → Mp → Prop, Pv 0 σ M1 ∧ (∀ i σ' M', i ≤ its.length → Pv i σ' M' → G M') ∧
      (∀ i d σ' M', its[i]? = some d → Pv i σ' M' → GS X tg d σ' M' fun σ2 M2 => SSs X body σ2 M2 { nx := Pv (i + 1), ct := Pv (i + 1), bk := E.nx, rt := E.rt }) ∧ ∀ σ' M', Pv its.length σ' M' → E.nx σ' M') (hc : X.calm = true := by rfl)
    (hs : ∀ x, foldedSetIterable iter X.env x = pure x := by intro _; rfl) : SS X (.For tg iter body [] pos) σ M E :=
  SS.of (ps_for hp hc pi_sem pg_sem pss_sem hs) fun σv H S R => (h.run σv H S R).mono fun J H1 ⟨i1, its, G, M1, R1, wk, Pv, p0, pG, ps, pe⟩ => by
    refine ⟨fun i m σv' H' => m = its.length - i ∧ i ≤ its.length ∧ Imm H1 H' ∧ ∃ σ' M', Slots X.K H' σv' σ' ∧ RelM X.K M' H' ∧ Pv i σ' M', ⟨its.length, by simp, Nat.zero_le _, Imm.refl H1, σ, M1, S.mono i1, R1, p0⟩, ?_⟩
    rintro i m σv2 H2 ⟨rfl, hi, i2, σ2, M2, S2, R2, p2⟩
    by_cases hlt : i < its.length
    · refine .inr ⟨wk.goes i H2 M2 i2 R2 (pG i σ2 M2 hi p2) hlt, fun σv' H' => Imm H1 H' ∧ ∃ σ' M', Slots X.K H' σv' σ' ∧ RelM X.K M' H' ∧ Pv (i + 1) σ' M', fun σv' H' ⟨a, b⟩ => ⟨its.length - (i + 1), by omega, rfl, hlt, a, b⟩, fun x H3 y => ?_⟩
      have hd : its[i]? = some its[i] := List.getElem?_eq_getElem hlt
      obtain ⟨i3, R3, t3⟩ := wk.yields i H2 M2 x H3 _ i2 R2 (pG i σ2 M2 hi p2) hd y
      refine ((ps i _ σ2 M2 hd p2).run σv2 H3 x (S2.mono i3) R3 t3).mono fun σv4 H4 ⟨i4, σ4, M4, S4, R4, q4⟩ => ?_
      have i14 := (i2.trans i3).trans i4
      refine (q4.run σv4 H4 S4 R4).mono ⟨fun _ H5 ⟨i5, r⟩ => ⟨i14.trans i5, r⟩, fun _ _ q => DQ.from (i1.trans i14) q, fun _ _ q => DN.from (i1.trans i14) q, fun _ H5 ⟨i5, r⟩ => ⟨i14.trans i5, r⟩⟩
    · have e : i = its.length := by omega
      subst e
      exact .inl ⟨wk.stops H2 M2 i2 R2 (pG _ σ2 M2 hi p2), i1.trans i2, σ2, M2, S2, R2, pe σ2 M2 p2⟩
/-! ### what is walked -/
variable {R : List D → (Mp → Prop) → Mp → Prop}
theorem IS.of {t : TI} (h : PI X tg iter t) (q : ∀ σv H, Slots X.K H σv σ → RelM X.K M H → t σv H fun J H1 => Imm H H1 ∧ ∃ its G M1, RelM X.K M1 H1 ∧ WalkD X.K H1 J its G ∧ R its G M1) : IS X tg iter σ M R :=
  ⟨fun σv H S RM pins s I => h.run pins s σv H _ I (q σv H S RM)⟩
theorem wk_T {K : PySem.W.Frag} {H1 : Hp} {p : Addr} {xs : List V} {ds : List D} (hs : SqT K H1 p xs) (ha : Tps K H1 xs ds) : WalkD K H1 (Itt K p) ds (fun _ => True) where
  goes := fun i H M im R _ hi => by
    obtain ⟨v, ev, _⟩ := ha.get (List.getElem?_eq_getElem hi)
    exact ⟨xs, v, imm_sqT im hs, ev⟩
  stops := fun H M im R _ => ⟨xs, imm_sqT im hs, by rw [ha.length]; exact Nat.le_refl _⟩
  yields := fun i H M x H' d im R _ hd y => by
    obtain ⟨e, y⟩ := y
    subst e
    obtain ⟨v, ev, tv⟩ := ha.get hd
    have := y xs (imm_sqT im hs)
    rw [ev] at this
    cases this
    exact ⟨Imm.refl _, R, Tp.mono im _ _ tv⟩
theorem wk_R {K : PySem.W.Frag} {H1 : Hp} {p : Addr} {xs : List V} {ds : List D} (hs : SqF K H1 p xs) (ha : Tps K H1 xs ds) : WalkD K H1 (Itl K p) ds (fun _ => True) where
  goes := fun i H M im R _ hi => by
    obtain ⟨v, ev, _⟩ := ha.get (List.getElem?_eq_getElem hi)
    exact ⟨xs, v, (imm_sqF im hs).sq, ev⟩
  stops := fun H M im R _ => ⟨xs, (imm_sqF im hs).sq, by rw [ha.length]; exact Nat.le_refl _⟩
  yields := fun i H M x H' d im R _ hd y => by
    obtain ⟨e, y⟩ := y
    subst e
    obtain ⟨v, ev, tv⟩ := ha.get hd
    have := y xs (imm_sqF im hs).sq
    rw [ev] at this
    cases this
    exact ⟨Imm.refl _, R, Tp.mono im _ _ tv⟩
theorem wk_L {K : PySem.W.Frag} {H1 : Hp} {p : Addr} {ds : List D} : WalkD K H1 (Itl K p) ds (fun M => M p = some (.lst ds)) where
  goes := fun i H M im R g hi => by
    obtain ⟨_, ea, us, rfl, ha⟩ := R p _ g
    obtain ⟨v, ev, _⟩ := ha.get (List.getElem?_eq_getElem hi)
    exact ⟨us, v, SqL.of ea, ev⟩
  stops := fun H M im R g => by
    obtain ⟨_, ea, us, rfl, ha⟩ := R p _ g
    exact ⟨us, SqL.of ea, by rw [ha.length]; exact Nat.le_refl _⟩
  yields := fun i H M x H' d im R g hd y => by
    obtain ⟨e, y⟩ := y
    subst e
    obtain ⟨_, ea, us, rfl, ha⟩ := R p _ g
    obtain ⟨v, ev, tv⟩ := ha.get hd
    have := y us (SqL.of ea)
    rw [ev] at this
    cases this
    exact ⟨Imm.refl _, R, tv⟩
theorem wk_N {K : PySem.W.Frag} {H1 : Hp} {lo : Int} {n : Nat} : WalkD K H1 (Itr lo n) ((List.range n).map fun i => D.int (lo + (i : Nat))) (fun _ => True) where
  goes := fun i H M im R _ hi => by
    rw [List.length_map, List.length_range] at hi
    exact hi
  stops := fun H M im R _ => by
    rw [List.length_map, List.length_range]
    exact Nat.le_refl _
  yields := fun i H M x H' d im R _ hd y => by
    obtain ⟨e, y⟩ := y
    subst e y
    rw [List.getElem?_map] at hd
    by_cases hi : i < n
    · rw [List.getElem?_range hi] at hd
      cases hd
      exact ⟨Imm.refl _, R, .int _⟩
    · rw [List.getElem?_eq_none (by rw [List.length_range]; omega)] at hd
      cases hd
/-- a list (for x in xs) -/
theorem i_list (h : ES X iter σ M fun d M1 => match d with
    | .rol ds => R ds (fun _ => True) M1
    | .ref a => ∃ ds, M1 a = some (.lst ds) ∧ R ds (fun M => M a = some (.lst ds)) M1
    | _ => False) : IS X tg iter σ M R :=
  IS.of (pi_list pe_sem) fun σv H S RM => h.go (H0 := H) S RM fun v H1 d M1 i1 R1 t1 q1 => by
    cases t1 <;> first | exact False.elim q1 | skip
    case ref a =>
      obtain ⟨ds, e, q⟩ := q1
      obtain ⟨_, ea, us, rfl, ha⟩ := R1 a _ e
      exact ⟨a, rfl, ⟨us, SqL.of ea⟩, i1, ds, _, M1, R1, wk_L, q⟩
    case rol a xs ds hs ha => exact ⟨a, rfl, ⟨xs, hs.sq⟩, i1, ds, _, M1, R1, wk_R hs ha, q1⟩
theorem i_tup (h : ES X iter σ M fun d M1 => match d with
    | .tup ds => R ds (fun _ => True) M1
    | _ => False) : IS X tg iter σ M R :=
  IS.of (pi_tup pe_sem) fun σv H S RM => h.go (H0 := H) S RM fun v H1 d M1 i1 R1 t1 q1 => by
    cases t1 <;> first | exact False.elim q1 | skip
    case tup a xs ds hs ha => exact ⟨a, rfl, ⟨xs, hs⟩, i1, ds, _, M1, R1, wk_T hs ha, q1⟩
def rgD (lo : Int) (n : Nat) : List D := (List.range n).map fun i => D.int (lo + (i : Nat))
theorem i_rng1 (hm : X.mg "range" = none) (h : ES X a σ M fun d M1 => match d with
    | .int j => -(2 ^ 62) ≤ j ∧ j < 2 ^ 62 ∧ R (rgD 0 j.toNat) (fun _ => True) M1
    | _ => False) (hg : Gl X "range" := by rfl) (hs : starEach [a] X.env = [(false, eval a X.env)] := by rfl) : IS X tg (.Call (.Name "range" p) [a] [] pos) σ M R :=
  IS.of (pi_range1 hg hm pa_sem hs) fun σv H S RM => (a_cons (QA := fun ds M1 => match ds with | [.int j] => -(2 ^ 62) ≤ j ∧ j < 2 ^ 62 ∧ R (rgD 0 j.toNat) (fun _ => True) M1 | _ => False) (h.imp fun d M1 q => by
      cases d <;> first | exact False.elim q | exact a_nil q) hs).go S RM fun vs H1 ds M1 i1 R1 t1 q1 => by
    match ds, t1, q1 with
    | [.int j], t1, q1 =>
      obtain ⟨v, rfl, r⟩ := t1.one
      cases r
      exact ⟨j, rfl, q1.1, q1.2.1, i1, _, _, M1, R1, wk_N, q1.2.2⟩
theorem i_rng2 (hm : X.mg "range" = none) (h : AS X [a, b] σ M fun ds M1 => match ds with
    | [.int i, .int j] => (-(2 ^ 62) ≤ i ∧ i < 2 ^ 62 ∧ -(2 ^ 62) ≤ j ∧ j < 2 ^ 62) ∧ R (rgD i (j - i).toNat) (fun _ => True) M1
    | _ => False) (hg : Gl X "range" := by rfl) (hs : starEach [a, b] X.env = [(false, eval a X.env), (false, eval b X.env)] := by rfl) (hs2 : starEach [b] X.env = [(false, eval b X.env)] := by rfl) : IS X tg (.Call (.Name "range" p) [a, b] [] pos) σ M R :=
  IS.of (pi_range2 hg hm pa_sem hs hs2) fun σv H S RM => h.go S RM fun vs H1 ds M1 i1 R1 t1 q1 => by
    match ds, t1, q1 with
    | [.int i, .int j], t1, q1 =>
      obtain ⟨v, u, rfl, r, r2⟩ := t1.two
      cases r
      cases r2
      exact ⟨i, j, rfl, q1.1, i1, _, _, M1, R1, wk_N, q1.2⟩
end
end DL
set_option maxHeartbeats 1000000
namespace DL
open PySem L2 PySem.Spec PyProof.Rows
/-! ### comprehensions -/
theorem Slots.wipe1 {K : PySem.W.Frag} {H : Hp} {σv : L2.St} {σ : Sd} (s : Slots K H σv σ) (i : Nat) : Slots K H (σv.set i none) (σ.set i none) := by
  refine ⟨by rw [List.length_set, List.length_set, s.len], fun j e h => ?_⟩
  by_cases hj : j = i
  · subst hj
    by_cases hl : j < σ.length
    · rw [List.getElem?_set_self hl] at h
      cases h
    · rw [List.getElem?_eq_none (by rw [List.length_set]; omega)] at h
      cases h
  · rw [List.getElem?_set_ne (Ne.symm hj)] at h
    obtain ⟨v', e', r'⟩ := s.at_ j e h
    exact ⟨v', by rw [List.getElem?_set_ne (Ne.symm hj)]; exact e', r'⟩
section
variable {X : Cx} {elt iter : Expr} {ifs : List Expr} {scope : Scope} {σ : Sd} {M : Mp} {Q : QD} {pos p : Pos} {x : Str}
/-- a block's readings, whatever the block -/
def tEB (X : Cx) (scope : Scope) (e : Expr) : TE := fun σ H Q => ∀ (s : Shared) (H0 : Hp) (C : Addr) (cl : List (Str × Addr)) (fp : List Addr), tE (X.blk s H0 scope (compEnvC scope cl C X.env) fp) e σ H Q
def tTB (X : Cx) (scope : Scope) (e : Expr) : TT := fun σ H Q => ∀ (s : Shared) (H0 : Hp) (C : Addr) (cl : List (Str × Addr)) (fp : List Addr), tT (X.blk s H0 scope (compEnvC scope cl C X.env) fp) e σ H Q
/-- [elt for x in iter]: x in slot j -/
theorem lc_read (j : Nat)
    (h : IS X (.Name x p) iter σ M fun its G M1 => ∀ q, M1 q = none → ∃ Pv : Nat → Mp → Prop, (∀ M', M' q = some (.lst []) → Mle M1 M' → Pv 0 M') ∧ (∀ i M', i ≤ its.length → Pv i M' → G M') ∧
      (∀ i d M', its[i]? = some d → Pv i M' → ∀ (s : Shared) (H0 : Hp) (C : Addr) (cl : List (Str × Addr)) (fp : List Addr),
        ES (X.blk s H0 scope (compEnvC scope cl C X.env) fp) elt (σ.set j (some d)) M' fun y M2 => ∃ acc, M2 q = some (.lst acc) ∧ acc.length < sizeLine ∧ SetM M2 q (.lst (acc ++ [y])) (Pv (i + 1))) ∧
      ∀ M', Pv its.length M' → Q (.ref q) M')
    : ∀ σv H, Slots X.K H σv σ → RelM X.K M H → ∀ Q', To X.K H Q Q' → tLc (tI X (.Name x p) iter) (gName j) tYes (tEB X scope elt) ([(x, j)].map (·.2)) σv H Q' := fun σv H S R Q' to => (h.run σv H S R).mono fun J H1 ⟨i1, its, G, M1, R1, wk, k⟩ q hq => by
    obtain ⟨Pv, p0, pG, ps, pe⟩ := k q (R1.fresh hq)
    have imq := Imm.new (o := .lst []) hq
    refine ⟨fun i m H' => m = its.length - i ∧ i ≤ its.length ∧ Imm H1 H' ∧ ∃ M', RelM X.K M' H' ∧ Pv i M', ⟨its.length, by simp, Nat.zero_le _, imq, _, R1.new (m := .lst []) hq ⟨_, rfl, .nil⟩, p0 _ updM_same (Mle.new (R1.fresh hq))⟩, ?_⟩
    rintro i m H2 ⟨rfl, hi, i2, M2, R2, p2⟩
    by_cases hlt : i < its.length
    · refine .inr ⟨wk.goes i H2 M2 i2 R2 (pG i M2 hi p2) hlt, fun H' => Imm H1 H' ∧ ∃ M', RelM X.K M' H' ∧ Pv (i + 1) M', fun H' ⟨a, b⟩ => ⟨its.length - (i + 1), by omega, rfl, hlt, a, b⟩, fun xv H3 y => ?_⟩
      have hd : its[i]? = some its[i] := List.getElem?_eq_getElem hlt
      obtain ⟨i3, R3, t3⟩ := wk.yields i H2 M2 xv H3 _ i2 R2 (pG i M2 hi p2) hd y
      show L2.wipe ((L2.wipe σv ([(x, j)].map (·.2))).set j (some xv)) ([(x, j)].map (·.2)) = L2.wipe σv ([(x, j)].map (·.2)) ∧ _
      refine ⟨by simp [L2.wipe, List.set_set], ?_⟩
      change tEB X scope elt _ _ _
      intro s0 H0 C cl fp
      have S3 : Slots X.K H3 ((L2.wipe σv ([(x, j)].map (·.2))).set j (some xv)) (σ.set j (some its[i])) := by
        have e : (L2.wipe σv ([(x, j)].map (·.2))).set j (some xv) = σv.set j (some xv) := by simp [L2.wipe, List.set_set]
        rw [e]
        exact (S.mono ((i1.trans i2).trans i3)).set t3 j
      refine (ps i _ M2 hd p2 s0 H0 C cl fp).go (H0 := H3) S3 R3 fun yv H4 yd M4 i4 R4 t4 ⟨acc, ea, hz, p4⟩ => ?_
      obtain ⟨_, eh, us, rfl, ha⟩ := R4 q _ ea
      have im4 : Imm H4 (upd H4 q (.lst (us ++ [yv]))) := Imm.set eh (fun z => z)
      refine ⟨us, eh, by rw [ha.length]; exact hz, ((i2.trans i3).trans i4).trans im4, _, R4.set (m := .lst (acc ++ [yd])) eh (fun z => z) ⟨_, rfl, (Tps.mono im4 _ _ ha).append (.cons (Tp.mono im4 _ _ t4) .nil)⟩, SetM.at p4⟩
    · have e : i = its.length := by omega
      subst e
      exact .inl ⟨wk.stops H2 M2 i2 R2 (pG _ M2 hi p2), to _ _ _ _ (i1.trans i2) R2 (.ref q) (pe M2 p2)⟩
theorem e_lc (j : Nat) (hN : X.N.Nodup) (ok : BlkOk X.N X.env.scope scope [(x, j)])
    (h : IS X (.Name x p) iter σ M fun its G M1 => ∀ q, M1 q = none → ∃ Pv : Nat → Mp → Prop, (∀ M', M' q = some (.lst []) → Mle M1 M' → Pv 0 M') ∧ (∀ i M', i ≤ its.length → Pv i M' → G M') ∧
      (∀ i d M', its[i]? = some d → Pv i M' → ∀ (s : Shared) (H0 : Hp) (C : Addr) (cl : List (Str × Addr)) (fp : List Addr),
        ES (X.blk s H0 scope (compEnvC scope cl C X.env) fp) elt (σ.set j (some d)) M' fun y M2 => ∃ acc, M2 q = some (.lst acc) ∧ acc.length < sizeLine ∧ SetM M2 q (.lst (acc ++ [y])) (Pv (i + 1))) ∧
      ∀ M', Pv its.length M' → Q (.ref q) M')
    (hj : X.N[j]? = some x := by rfl) (hc : X.calm = true := by rfl) (hl : ∀ cl C, Loc (compEnvC scope cl C X.env).scope x := by exact fun _ _ => Or.inl rfl)
    (hf : ∀ (s : Shared) (H0 : Hp) (C : Addr) (cl : List (Str × Addr)) (fp : List Addr), (X.blk s H0 scope (compEnvC scope cl C X.env) fp).fn x = true ∨ (compEnvC scope cl C X.env).scope.names.lookup x = some .local := by exact fun _ _ _ _ _ => Or.inr rfl)
    (hs : ∀ x, foldedSetIterable iter X.env x = pure x := by intro _; rfl) : ES X (.ListComp elt [⟨.Name x p, iter, [], 0⟩] scope pos) σ M Q :=
  ES.of (pe_lc (own := [(x, j)]) (g := gName j) (tt := tYes) (te := tEB X scope elt) hc hN pi_sem ok (fun s H0 C cl fp => pg_name (i := j) hN hj (hl cl C) (hf s H0 C cl fp)) (fun _ _ _ _ _ => pts_nil)
      (fun s H0 C cl fp => ⟨fun pins s1 σ H Q I hw => hw s H0 C cl fp pins s1 I⟩) hs) fun σv H S R => lc_read j h σv H S R _ To.dq
/-- name = [elt for x in iter] on one line, a plain local -/
theorem s_lc (i j : Nat) {y : Str} {py spos : Pos} {E : DE} (hN : X.N.Nodup) (ok : BlkOk X.N X.env.scope scope [(x, j)])
    (h : IS X (.Name x p) iter σ M fun its G M1 => ∀ q, M1 q = none → ∃ Pv : Nat → Mp → Prop, (∀ M', M' q = some (.lst []) → Mle M1 M' → Pv 0 M') ∧ (∀ i M', i ≤ its.length → Pv i M' → G M') ∧
      (∀ i d M', its[i]? = some d → Pv i M' → ∀ (s : Shared) (H0 : Hp) (C : Addr) (cl : List (Str × Addr)) (fp : List Addr),
        ES (X.blk s H0 scope (compEnvC scope cl C X.env) fp) elt (σ.set j (some d)) M' fun y M2 => ∃ acc, M2 q = some (.lst acc) ∧ acc.length < sizeLine ∧ SetM M2 q (.lst (acc ++ [y])) (Pv (i + 1))) ∧
      ∀ M', Pv its.length M' → E.nx (σ.set i (some (.ref q))) M')
    (hy : X.N[i]? = some y := by rfl) (hyl : X.env.scope.names.lookup y = some .local := by rfl) (hsw : swapsWith (.ListComp elt [⟨.Name x p, iter, [], 0⟩] scope pos) (some (.Name y py)) spos.line X.env = pure true := by exact sw_true rfl rfl rfl (by decide +kernel))
    (hj : X.N[j]? = some x := by rfl) (hc : X.calm = true := by rfl) (hl : ∀ cl C, Loc (compEnvC scope cl C X.env).scope x := by exact fun _ _ => Or.inl rfl)
    (hf : ∀ (s : Shared) (H0 : Hp) (C : Addr) (cl : List (Str × Addr)) (fp : List Addr), (X.blk s H0 scope (compEnvC scope cl C X.env) fp).fn x = true ∨ (compEnvC scope cl C X.env).scope.names.lookup x = some .local := by exact fun _ _ _ _ _ => Or.inr rfl)
    (hs : ∀ x, foldedSetIterable iter X.env x = pure x := by intro _; rfl) : SS X (.Assign [.Name y py] (.ListComp elt [⟨.Name x p, iter, [], 0⟩] scope pos) spos) σ M E :=
  SS.of (ps_setLc (own := [(x, j)]) (g := gName j) (tt := tYes) (te := tEB X scope elt) hc hN hy hyl hsw pi_sem ok (fun s H0 C cl fp => pg_name (i := j) hN hj (hl cl C) (hf s H0 C cl fp)) (fun _ _ _ _ _ => pts_nil)
      (fun s H0 C cl fp => ⟨fun pins s1 σ H Q I hw => hw s H0 C cl fp pins s1 I⟩) hs) fun σv H S R =>
    lc_read (Q := fun d M' => E.nx (σ.set i (some d)) M') j h σv H S R _ fun v H' d M' i' R' t' q' => ⟨i', _, M', (S.mono i').set t' i, R', q'⟩
/-- [elt for x in iter if c] -/
theorem lcIf_read {c : Expr} (j : Nat)
    (h : IS X (.Name x p) iter σ M fun its G M1 => ∀ q, M1 q = none → ∃ Pv : Nat → Mp → Prop, (∀ M', M' q = some (.lst []) → Mle M1 M' → Pv 0 M') ∧ (∀ i M', i ≤ its.length → Pv i M' → G M') ∧
      (∀ i d M', its[i]? = some d → Pv i M' → ∀ (s : Shared) (H0 : Hp) (C : Addr) (cl : List (Str × Addr)) (fp : List Addr),
        TT3 (X.blk s H0 scope (compEnvC scope cl C X.env) fp) c (σ.set j (some d)) M' fun k M1 => BQ k
          (∀ (s : Shared) (H0 : Hp) (C : Addr) (cl : List (Str × Addr)) (fp : List Addr), ES (X.blk s H0 scope (compEnvC scope cl C X.env) fp) elt (σ.set j (some d)) M1 fun y M2 => ∃ acc, M2 q = some (.lst acc) ∧ acc.length < sizeLine ∧ SetM M2 q (.lst (acc ++ [y])) (Pv (i + 1)))
          (Pv (i + 1) M1)) ∧
      ∀ M', Pv its.length M' → Q (.ref q) M')
    : ∀ σv H, Slots X.K H σv σ → RelM X.K M H → ∀ Q', To X.K H Q Q' → tLc (tI X (.Name x p) iter) (gName j) (tTB X scope c) (tEB X scope elt) ([(x, j)].map (·.2)) σv H Q' := fun σv H S R Q' to => (h.run σv H S R).mono fun J H1 ⟨i1, its, G, M1, R1, wk, k⟩ q hq => by
    obtain ⟨Pv, p0, pG, ps, pe⟩ := k q (R1.fresh hq)
    have imq := Imm.new (o := .lst []) hq
    refine ⟨fun i m H' => m = its.length - i ∧ i ≤ its.length ∧ Imm H1 H' ∧ ∃ M', RelM X.K M' H' ∧ Pv i M', ⟨its.length, by simp, Nat.zero_le _, imq, _, R1.new (m := .lst []) hq ⟨_, rfl, .nil⟩, p0 _ updM_same (Mle.new (R1.fresh hq))⟩, ?_⟩
    rintro i m H2 ⟨rfl, hi, i2, M2, R2, p2⟩
    by_cases hlt : i < its.length
    · refine .inr ⟨wk.goes i H2 M2 i2 R2 (pG i M2 hi p2) hlt, fun H' => Imm H1 H' ∧ ∃ M', RelM X.K M' H' ∧ Pv (i + 1) M', fun H' ⟨a, b⟩ => ⟨its.length - (i + 1), by omega, rfl, hlt, a, b⟩, fun xv H3 y => ?_⟩
      have hd : its[i]? = some its[i] := List.getElem?_eq_getElem hlt
      obtain ⟨i3, R3, t3⟩ := wk.yields i H2 M2 xv H3 _ i2 R2 (pG i M2 hi p2) hd y
      show L2.wipe ((L2.wipe σv ([(x, j)].map (·.2))).set j (some xv)) ([(x, j)].map (·.2)) = L2.wipe σv ([(x, j)].map (·.2)) ∧ _
      refine ⟨by simp [L2.wipe, List.set_set], ?_⟩
      intro s0 H0 C cl fp
      have S3 : Slots X.K H3 ((L2.wipe σv ([(x, j)].map (·.2))).set j (some xv)) (σ.set j (some its[i])) := by
        have e : (L2.wipe σv ([(x, j)].map (·.2))).set j (some xv) = σv.set j (some xv) := by simp [L2.wipe, List.set_set]
        rw [e]
        exact (S.mono ((i1.trans i2).trans i3)).set t3 j
      refine (ps i _ M2 hd p2 s0 H0 C cl fp).go S3 R3 fun b H5 M5 i5 R5 q5 => ?_
      cases b with
      | true =>
        rw [if_pos rfl]
        intro s0 H0 C cl fp
        refine (q5.1 rfl s0 H0 C cl fp).go (H0 := H5) (S3.mono i5) R5 fun yv H4 yd M4 i4 R4 t4 ⟨acc, ea, hz, p4⟩ => ?_
        obtain ⟨_, eh, us, rfl, ha⟩ := R4 q _ ea
        have im4 : Imm H4 (upd H4 q (.lst (us ++ [yv]))) := Imm.set eh (fun z => z)
        refine ⟨us, eh, by rw [ha.length]; exact hz, (((i2.trans i3).trans i5).trans i4).trans im4, _, R4.set (m := .lst (acc ++ [yd])) eh (fun z => z) ⟨_, rfl, (Tps.mono im4 _ _ ha).append (.cons (Tp.mono im4 _ _ t4) .nil)⟩, SetM.at p4⟩
      | false =>
        rw [if_neg Bool.false_ne_true]
        exact ⟨(i2.trans i3).trans i5, M5, R5, q5.2 rfl⟩
    · have e : i = its.length := by omega
      subst e
      exact .inl ⟨wk.stops H2 M2 i2 R2 (pG _ M2 hi p2), to _ _ _ _ (i1.trans i2) R2 (.ref q) (pe M2 p2)⟩
theorem e_lcIf {c : Expr} (j : Nat) (hN : X.N.Nodup) (ok : BlkOk X.N X.env.scope scope [(x, j)])
    (h : IS X (.Name x p) iter σ M fun its G M1 => ∀ q, M1 q = none → ∃ Pv : Nat → Mp → Prop, (∀ M', M' q = some (.lst []) → Mle M1 M' → Pv 0 M') ∧ (∀ i M', i ≤ its.length → Pv i M' → G M') ∧
      (∀ i d M', its[i]? = some d → Pv i M' → ∀ (s : Shared) (H0 : Hp) (C : Addr) (cl : List (Str × Addr)) (fp : List Addr),
        TT3 (X.blk s H0 scope (compEnvC scope cl C X.env) fp) c (σ.set j (some d)) M' fun k M1 => BQ k
          (∀ (s : Shared) (H0 : Hp) (C : Addr) (cl : List (Str × Addr)) (fp : List Addr), ES (X.blk s H0 scope (compEnvC scope cl C X.env) fp) elt (σ.set j (some d)) M1 fun y M2 => ∃ acc, M2 q = some (.lst acc) ∧ acc.length < sizeLine ∧ SetM M2 q (.lst (acc ++ [y])) (Pv (i + 1)))
          (Pv (i + 1) M1)) ∧
      ∀ M', Pv its.length M' → Q (.ref q) M')
    (hj : X.N[j]? = some x := by rfl) (hc : X.calm = true := by rfl) (hl : ∀ cl C, Loc (compEnvC scope cl C X.env).scope x := by exact fun _ _ => Or.inl rfl)
    (hf : ∀ (s : Shared) (H0 : Hp) (C : Addr) (cl : List (Str × Addr)) (fp : List Addr), (X.blk s H0 scope (compEnvC scope cl C X.env) fp).fn x = true ∨ (compEnvC scope cl C X.env).scope.names.lookup x = some .local := by exact fun _ _ _ _ _ => Or.inr rfl)
    (hs : ∀ x, foldedSetIterable iter X.env x = pure x := by intro _; rfl) : ES X (.ListComp elt [⟨.Name x p, iter, [c], 0⟩] scope pos) σ M Q :=
  ES.of (pe_lc (own := [(x, j)]) (g := gName j) (tt := tTB X scope c) (te := tEB X scope elt) hc hN pi_sem ok (fun s H0 C cl fp => pg_name (i := j) hN hj (hl cl C) (hf s H0 C cl fp))
      (fun s H0 C cl fp => pts_one ⟨fun pins s1 σ H Q I hw => hw s H0 C cl fp pins s1 I⟩)
      (fun s H0 C cl fp => ⟨fun pins s1 σ H Q I hw => hw s H0 C cl fp pins s1 I⟩) hs) fun σv H S R => lcIf_read j h σv H S R _ To.dq
theorem s_lcIf {c : Expr} (i j : Nat) {y : Str} {py spos : Pos} {E : DE} (hN : X.N.Nodup) (ok : BlkOk X.N X.env.scope scope [(x, j)])
    (h : IS X (.Name x p) iter σ M fun its G M1 => ∀ q, M1 q = none → ∃ Pv : Nat → Mp → Prop, (∀ M', M' q = some (.lst []) → Mle M1 M' → Pv 0 M') ∧ (∀ i M', i ≤ its.length → Pv i M' → G M') ∧
      (∀ i d M', its[i]? = some d → Pv i M' → ∀ (s : Shared) (H0 : Hp) (C : Addr) (cl : List (Str × Addr)) (fp : List Addr),
        TT3 (X.blk s H0 scope (compEnvC scope cl C X.env) fp) c (σ.set j (some d)) M' fun k M1 => BQ k
          (∀ (s : Shared) (H0 : Hp) (C : Addr) (cl : List (Str × Addr)) (fp : List Addr), ES (X.blk s H0 scope (compEnvC scope cl C X.env) fp) elt (σ.set j (some d)) M1 fun y M2 => ∃ acc, M2 q = some (.lst acc) ∧ acc.length < sizeLine ∧ SetM M2 q (.lst (acc ++ [y])) (Pv (i + 1)))
          (Pv (i + 1) M1)) ∧
      ∀ M', Pv its.length M' → E.nx (σ.set i (some (.ref q))) M')
    (hy : X.N[i]? = some y := by rfl) (hyl : X.env.scope.names.lookup y = some .local := by rfl) (hsw : swapsWith (.ListComp elt [⟨.Name x p, iter, [c], 0⟩] scope pos) (some (.Name y py)) spos.line X.env = pure true := by exact sw_true rfl rfl rfl (by decide +kernel))
    (hj : X.N[j]? = some x := by rfl) (hc : X.calm = true := by rfl) (hl : ∀ cl C, Loc (compEnvC scope cl C X.env).scope x := by exact fun _ _ => Or.inl rfl)
    (hf : ∀ (s : Shared) (H0 : Hp) (C : Addr) (cl : List (Str × Addr)) (fp : List Addr), (X.blk s H0 scope (compEnvC scope cl C X.env) fp).fn x = true ∨ (compEnvC scope cl C X.env).scope.names.lookup x = some .local := by exact fun _ _ _ _ _ => Or.inr rfl)
    (hs : ∀ x, foldedSetIterable iter X.env x = pure x := by intro _; rfl) : SS X (.Assign [.Name y py] (.ListComp elt [⟨.Name x p, iter, [c], 0⟩] scope pos) spos) σ M E :=
  SS.of (ps_setLc (own := [(x, j)]) (g := gName j) (tt := tTB X scope c) (te := tEB X scope elt) hc hN hy hyl hsw pi_sem ok (fun s H0 C cl fp => pg_name (i := j) hN hj (hl cl C) (hf s H0 C cl fp))
      (fun s H0 C cl fp => pts_one ⟨fun pins s1 σ H Q I hw => hw s H0 C cl fp pins s1 I⟩)
      (fun s H0 C cl fp => ⟨fun pins s1 σ H Q I hw => hw s H0 C cl fp pins s1 I⟩) hs) fun σv H S R =>
    lcIf_read (Q := fun d M' => E.nx (σ.set i (some d)) M') j h σv H S R _ fun v H' d M' i' R' t' q' => ⟨i', _, M', (S.mono i').set t' i, R', q'⟩
end
/-! ### a def's body -/
/-- less may be told at the end -/
def Wk (Q : QD) : QD := fun d M' => ∃ M, Mle M M' ∧ Q d M
theorem Wk.here {Q : QD} {d : D} {M : Mp} (q : Q d M) : Wk Q d M := ⟨M, Mle.refl M, q⟩
theorem fn3 {P : Program} {w : World} {K : PySem.W.Frag} {mg : Str → Option Value} {base : Heap} {N ps : List Str} {x qual : Str} {st : Stmt} {f : Addr} {fd : FuncData} {k : Nat} {sp3 : Sp3}
    (F : Fun K x qual st f fd) (S : FnScope N ps (defScope st)) (len : ∀ ds M Q, sp3 ds M Q → ds.length = ps.length)
    (body : ∀ (cdv : Value) (A : Around) (outer : List Env) (s : Shared) (H : Hp) (E : XK), Room k (A.deeper (envOfC qual (defScope st) s.heap.objs.size f cdv)) → ∀ ds M Q, sp3 ds M Q →
      SSs (cxOf CX0 P w K mg base N qual (defScope st) f cdv A outer s H E).nox (defBody st) (startD N ds) M { nx := fun _ M' => Wk Q .non M', rt := Wk Q }) : FnOk P w K mg base CX0 (k + 1) f fd ps (spD K sp3) := by
  refine F.ok S (fun vs H Q E ⟨ds, M, Q3, t, r, q, to⟩ => ?_) (fun cdv A outer s H vs Q E hr ⟨ds, M, Q3, t, r, q, to⟩ => ?_)
  · rw [t.length]
    exact len ds M Q3 q
  · refine ⟨_, pss_sem, tSs.mono ((body cdv A outer s H E hr ds M Q3 q).run (start N vs) H (Slots.start t) r) ⟨fun σ' H' h => ?_, fun v H' h => ?_, fun _ _ h => ?_, fun _ _ h => ?_⟩⟩
    · obtain ⟨i, σ'', M', S', R', M1, l, q'⟩ := h
      exact to _ _ _ _ i (R'.le l) .non q'
    · obtain ⟨i, d, M', R', t', M1, l, q'⟩ := h
      exact to _ _ _ _ i (R'.le l) t' q'
    · obtain ⟨i, σ'', M', S', R', z⟩ := h
      exact z
    · obtain ⟨i, σ'', M', S', R', z⟩ := h
      exact z
theorem callee {P : Program} {w : World} {K : PySem.W.Frag} {mg : Str → Option Value} {base : Heap} {N ps : List Str} {x qual : Str} {st : Stmt} {f : Addr} {fd : FuncData} {k : Nat} {sp3 : Sp3}
    (F : Fun K x qual st f fd) (S : FnScope N ps (defScope st)) (hm : mg x = some (.ref f)) (hb : Binds K fd ps []) (len : ∀ ds M Q, sp3 ds M Q → ds.length = ps.length)
    (body : ∀ (cdv : Value) (A : Around) (outer : List Env) (s : Shared) (H : Hp) (E : XK), Room k (A.deeper (envOfC qual (defScope st) s.heap.objs.size f cdv)) → ∀ ds M Q, sp3 ds M Q →
      SSs (cxOf CX0 P w K mg base N qual (defScope st) f cdv A outer s H E).nox (defBody st) (startD N ds) M { nx := fun _ M' => Wk Q .non M', rt := Wk Q }) : Callee P w K mg base x (k + 1) ps sp3 := ⟨f, fd, fn3 F S len body, hm, F.kp, hb⟩
/-- the joining of ways behind a statement -/
theorem ss_cut {X : Cx} {st : Stmt} {sts : List Stmt} {σ : Sd} {M : Mp} {E : DE} (P : Sd → Mp → Prop) (h : SS X st σ M { E with nx := P }) (k : ∀ σ1 M1, P σ1 M1 → SSs X sts σ1 M1 E) : SSs X (st :: sts) σ M E :=
  SSs.of (pss_cons ps_sem pss_sem) fun σv H S R => (h.run σv H S R).mono
    ⟨fun σ1 H1 ⟨i1, σ', M1, S1, R1, q1⟩ => ((k σ' M1 q1).run σ1 H1 S1 R1).mono (DE.from i1), fun _ _ q => q, fun _ _ q => q, fun _ _ q => q⟩
/-- if t: .. (no else), then the rest -/
theorem ss_if {X : Cx} {c : Expr} {body sts : List Stmt} {pos : Pos} {σ : Sd} {M : Mp} {E : DE} (h : TT3 X c σ M fun k M1 => BQ k (SSs X body σ M1 { E with nx := fun σ1 M2 => SSs X sts σ1 M2 E }) (SSs X sts σ M1 E)) : SSs X (.If c body [] pos :: sts) σ M E :=
  ss_cons (s_if (⟨fun σv H S R => (h.run σv H S R).mono fun k H1 ⟨i, M1, R1, q1, q2⟩ => ⟨i, M1, R1, q1, fun e => ss_nil (q2 e)⟩⟩))
/-- a test that does not hold: the rest -/
theorem ss_no {X : Cx} {c : Expr} {body sts : List Stmt} {pos : Pos} {σ : Sd} {M : Mp} {E : DE} (h : TT3 X c σ M fun k M1 => k = false ∧ M1 = M) (r : SSs X sts σ M E) : SSs X (.If c body [] pos :: sts) σ M E :=
  ss_if ⟨fun σv H S R => (h.run σv H S R).mono fun k H1 ⟨i, M1, R1, q1, q2⟩ => ⟨i, M1, R1, by subst q1; subst q2; exact BQ.f r⟩⟩
theorem ES.det {X : Cx} {e : Expr} {σ : Sd} {M : Mp} {Q : QD} {d : D} (h : ES X e σ M fun d' M' => d' = d ∧ M' = M) (q : Q d M) : ES X e σ M Q := h.imp fun d' M' ⟨e1, e2⟩ => by rw [e1, e2]; exact q
/-- two plain answers -/
theorem v_orP {X : Cx} {a b : Expr} {rest : List Expr} {σ : Sd} {M : Mp} {Q : QD} {pos : Pos} {x y : Bool} (h : ES X a σ M fun d M1 => d = .bl x ∧ M1 = M) (h2 : ES X (.BoolOp .Or (b :: rest) pos) σ M fun d M1 => d = .bl y ∧ M1 = M) (q : Q (.bl (x || y)) M) : ES X (.BoolOp .Or (a :: b :: rest) pos) σ M Q :=
  v_or (h.imp fun d M1 ⟨e1, e2⟩ => by
    subst e1; subst e2
    refine ⟨fun hx => ?_, fun hx => ?_⟩
    · subst hx; exact q
    · subst hx; exact h2.det q)
theorem v_andP {X : Cx} {a b : Expr} {rest : List Expr} {σ : Sd} {M : Mp} {Q : QD} {pos : Pos} {x y : Bool} (h : ES X a σ M fun d M1 => d = .bl x ∧ M1 = M) (h2 : x = true → ES X (.BoolOp .And (b :: rest) pos) σ M fun d M1 => d = .bl y ∧ M1 = M) (q : Q (.bl (x && y)) M) : ES X (.BoolOp .And (a :: b :: rest) pos) σ M Q :=
  v_and (h.imp fun d M1 ⟨e1, e2⟩ => by
    subst e1; subst e2
    refine ⟨fun hx => ?_, fun hx => ?_⟩
    · subst hx; exact (h2 rfl).det q
    · subst hx; exact q)
/-! ### methods of lists -/
abbrev RM3 := D → List D → Mp → QD → Prop
def RDM (K : PySem.W.Frag) (r : V → List V → Hp → VK → Prop) (R : RM3) : Prop := ∀ H0 H M vx vs x ds Q Q', Imm H0 H → RelM K M H → Tp K H vx x → Tps K H vs ds → To K H0 Q Q' → R x ds M Q → r vx vs H Q'
def isLst (x : D) (M : Mp) : Prop := match x with
  | .ref a => ∃ xs, M a = some (.lst xs)
  | _ => False
def RApp : RM3 := fun x ds M Q => match x, ds with
  | .ref a, [d] => ∃ xs, M a = some (.lst xs) ∧ xs.length < sizeLine ∧ SetM M a (.lst (xs ++ [d])) (Q .non)
  | _, _ => False
def RPop : RM3 := fun x ds M Q => match x, ds with
  | .ref a, [] => ∃ xs d, M a = some (.lst xs) ∧ xs[xs.length - 1]? = some d ∧ SetM M a (.lst xs.dropLast) (Q d)
  | _, _ => False
def RExt : RM3 := fun x ds M Q => match x, ds with
  | .ref a, [.ref b] => ∃ xs ys, M a = some (.lst xs) ∧ M b = some (.lst ys) ∧ xs.length + ys.length ≤ sizeLine ∧ SetM M a (.lst (xs ++ ys)) (Q .non)
  | _, _ => False
section
variable {K : PySem.W.Frag}
theorem rd_app : RDM K rAppend RApp := by
  intro H0 H M vx vs x ds Q Q' i R tx t k q
  match x, ds, tx, t, q with
  | .ref a, [d], tx, t, q =>
    obtain ⟨xs, e, hz, q⟩ := q
    obtain ⟨_, ea, us, rfl, ha⟩ := R a _ e
    obtain ⟨v, rfl, r⟩ := t.one
    cases tx
    have im : Imm H (upd H a (.lst (us ++ [v]))) := Imm.set ea (fun z => z)
    exact ⟨a, us, v, rfl, rfl, ea, by rw [ha.length]; exact hz, k _ _ _ _ (i.trans im) (R.set (m := .lst (xs ++ [d])) ea (fun z => z) ⟨_, rfl, (Tps.mono im _ _ ha).append (.cons (Tp.mono im _ _ r) .nil)⟩) .non (SetM.at q)⟩
theorem rd_pop : RDM K rPop RPop := by
  intro H0 H M vx vs x ds Q Q' i R tx t k q
  match x, ds, tx, t, q with
  | .ref a, [], tx, t, q =>
    obtain ⟨xs, d, e, hd, q⟩ := q
    obtain ⟨_, ea, us, rfl, ha⟩ := R a _ e
    cases t
    cases tx
    obtain ⟨v, ev, tv⟩ := ha.get hd
    have im : Imm H (upd H a (.lst us.dropLast)) := Imm.set ea (fun z => z)
    exact ⟨a, us, v, rfl, rfl, ea, by rw [ha.length]; exact ev, k _ _ _ _ (i.trans im) (R.set (m := .lst xs.dropLast) ea (fun z => z) ⟨_, rfl, Tps.mono im _ _ ha.dropLast⟩) (Tp.mono im _ _ tv) (SetM.at q)⟩
theorem rd_ext : RDM K rExtend RExt := by
  intro H0 H M vx vs x ds Q Q' i R tx t k q
  match x, ds, tx, t, q with
  | .ref a, [.ref b], tx, t, q =>
    obtain ⟨xs, ys, e, e2, hz, q⟩ := q
    obtain ⟨_, ea, us, rfl, ha⟩ := R a _ e
    obtain ⟨_, eb, ws, rfl, hb⟩ := R b _ e2
    obtain ⟨v, rfl, r⟩ := t.one
    cases r
    cases tx
    have im : Imm H (upd H a (.lst (us ++ ws))) := Imm.set ea (fun z => z)
    exact ⟨a, b, us, ws, rfl, rfl, ea, eb, by rw [ha.length, hb.length]; exact hz, k _ _ _ _ (i.trans im) (R.set (m := .lst (xs ++ ys)) ea (fun z => z) ⟨_, rfl, (Tps.mono im _ _ ha).append (Tps.mono im _ _ hb)⟩) .non (SetM.at q)⟩
end
section
variable {X : Cx} {o e : Expr} {es : List Expr} {σ : Sd} {M : Mp} {Q : QD} {apos cpos : Pos} {id : String} {r : V → List V → Hp → VK → Prop} {R : RM3} {name : Str}
theorem ty_lst {K : PySem.W.Frag} {H : Hp} {v : V} {x : D} {M : Mp} (RM : RelM K M H) (t : Tp K H v x) (h : isLst x M) : tyV K "list" v H := by
  cases t <;> first | exact False.elim h | skip
  case ref a =>
    obtain ⟨xs, e⟩ := h
    obtain ⟨_, ea, us, rfl, ha⟩ := RM a _ e
    exact .inl ⟨rfl, us, SqL.of ea⟩
theorem e_lm (slot : Slot "list" name id) (hty : typeOf (.builtin id) = pure (.type "method_descriptor")) (hm : MtR X id r) (hR : RDM X.K r R) (h : ES X o σ M fun x M1 => isLst x M1 ∧ AS X (e :: es) σ M1 fun ds M2 => R x ds M2 Q)
    (hbase : attributeBase o name X.env (eval o X.env) = eval o X.env := by rfl)
    (hfew : ((backTo cpos (starEach (e :: es) X.env)).all (fun x => !x.1) && (backToKw cpos (keywordEach [] X.env)).all (fun x => x.1.isSome)
      && decide ((e :: es).length + ([] : List Keyword).length + (if ([] : List Keyword).isEmpty then 0 else 1) < 30)) = true := by rfl)
    (hline : (apos.endLine == cpos.line) = true := by rfl) (hs : starEach (e :: es) X.env = (false, eval e X.env) :: starEach es X.env := by rfl) (hplain : (backTo cpos (starEach es X.env)).any (·.1) = false := by rfl) :
    ES X (.Call (.Attribute o name apos) (e :: es) [] cpos) σ M Q :=
  ES.of (pe_bm PySem.F.plainAttrs_list slot hty hm pe_sem pa_sem hbase hfew hline hs hplain) fun σv H S RM => h.go (H0 := H) S RM fun v H1 x M1 i1 R1 t1 ⟨hx, q1⟩ =>
    ⟨ty_lst R1 t1 hx, q1.go (S.mono i1) R1 fun vs H2 ds M2 i2 R2 t2 q2 => hR H H2 M2 v vs x ds Q _ (i1.trans i2) R2 (Tp.mono i2 _ _ t1) t2 To.dq q2⟩
theorem e_lm0 (slot : Slot "list" name id) (hty : typeOf (.builtin id) = pure (.type "method_descriptor")) (hm : MtR X id r) (hR : RDM X.K r R) (h : ES X o σ M fun x M1 => isLst x M1 ∧ R x [] M1 Q)
    (hbase : attributeBase o name X.env (eval o X.env) = eval o X.env := by rfl) (hline : (apos.endLine == cpos.line) = true := by rfl) : ES X (.Call (.Attribute o name apos) [] [] cpos) σ M Q :=
  ES.of (pe_bm0 PySem.F.plainAttrs_list slot hty hm pe_sem hbase hline) fun σv H S RM => h.go (H0 := H) S RM fun v H1 x M1 i1 R1 t1 ⟨hx, q1⟩ =>
    ⟨ty_lst R1 t1 hx, hR H H1 M1 v [] x [] Q _ i1 R1 t1 .nil To.dq q1⟩
end
end DL
set_option maxHeartbeats 1000000
namespace DL
open PySem L2
/-! ### equality, reckoned -/
theorem eqv_int (i j : Int) : D.eqv (.int i) (.int j) = decide (i = j) := by simp [D.eqv, D.py, PyData.eqv, Bool.beq_eq_decide_eq]
theorem eqv_str (i j : Str) : D.eqv (.str i) (.str j) = decide (i = j) := by simp [D.eqv, D.py, PyData.eqv, Bool.beq_eq_decide_eq]
theorem eqv_bl (i j : Bool) : D.eqv (.bl i) (.bl j) = decide (i = j) := by simp [D.eqv, D.py, PyData.eqv, Bool.beq_eq_decide_eq]
theorem eqv_is (i : Int) (x : Str) : D.eqv (.int i) (.str x) = false := by simp [D.eqv, D.py, PyData.eqv]
theorem eqv_si (i : Int) (x : Str) : D.eqv (.str x) (.int i) = false := by simp [D.eqv, D.py, PyData.eqv]
theorem eqv_nn : D.eqv .non .non = true := by simp [D.eqv, D.py, PyData.eqv]
theorem eqv_tup (a b : List D) : D.eqv (.tup a) (.tup b) = PyData.eqvAll (D.pys a) (D.pys b) := by simp [D.eqv, D.py, PyData.eqv]
theorem eqv_t0 : D.eqv (.tup []) (.tup []) = true := by simp [eqv_tup, D.pys, PyData.eqvAll]
theorem eqv_tc (a : D) (as : List D) (b : D) (bs : List D) : D.eqv (.tup (a :: as)) (.tup (b :: bs)) = (D.eqv a b && D.eqv (.tup as) (.tup bs)) := by
  rw [eqv_tup, eqv_tup]
  simp [D.pys, PyData.eqvAll, D.eqv]
theorem eqv_tc0 (a : D) (as : List D) : D.eqv (.tup (a :: as)) (.tup []) = false := by simp [eqv_tup, D.pys, PyData.eqvAll]
theorem eqv_t0c (a : D) (as : List D) : D.eqv (.tup []) (.tup (a :: as)) = false := by simp [eqv_tup, D.pys, PyData.eqvAll]
theorem eqv_ts (a : List D) (x : Str) : D.eqv (.tup a) (.str x) = false := by simp [D.eqv, D.py, PyData.eqv]
theorem eqv_st (a : List D) (x : Str) : D.eqv (.str x) (.tup a) = false := by simp [D.eqv, D.py, PyData.eqv]
theorem eqv_nt (a : List D) : D.eqv .non (.tup a) = false := by simp [D.eqv, D.py, PyData.eqv]
theorem eqv_tn (a : List D) : D.eqv (.tup a) .non = false := by simp [D.eqv, D.py, PyData.eqv]
/-- two rows of things of one sort -/
theorem eqv_map {α : Type} [DecidableEq α] {f : α → D} (h : ∀ a b, D.eqv (f a) (f b) = decide (a = b)) : ∀ as bs : List α, D.eqv (.tup (as.map f)) (.tup (bs.map f)) = decide (as = bs)
  | [], [] => by rw [List.map_nil, eqv_t0]; simp
  | a :: as, [] => by rw [List.map_cons, List.map_nil, eqv_tc0]; simp
  | [], b :: bs => by rw [List.map_cons, List.map_nil, eqv_t0c]; simp
  | a :: as, b :: bs => by
    rw [List.map_cons, List.map_cons, eqv_tc, h, eqv_map h as bs, Bool.eq_iff_iff]
    simp
/-! ### comparable by content -/
def D.shn (n : Nat) (d : D) : Bool := d.pure && d.py.canLay0 && decide (d.py.depth ≤ n)
theorem D.shp_of {d : D} {n : Nat} (h : d.shn n = true) (hn : n ≤ 64) : d.shp = true := by
  unfold D.shn at h
  unfold D.shp SeqAt.shaped
  simp only [Bool.and_eq_true, decide_eq_true_eq] at h ⊢
  exact ⟨h.1.1, h.1.2, by omega⟩
theorem D.shn_mono {d : D} {n m : Nat} (h : d.shn n = true) (hn : n ≤ m) : d.shn m = true := by
  unfold D.shn at h ⊢
  simp only [Bool.and_eq_true, decide_eq_true_eq] at h ⊢
  exact ⟨h.1, by omega⟩
theorem shn_int (n : Nat) (i : Int) : (D.int i).shn n = true := by simp [D.shn, D.pure, D.py, PyData.canLay0, PyData.depth]
theorem shn_bl (n : Nat) (i : Bool) : (D.bl i).shn n = true := by simp [D.shn, D.pure, D.py, PyData.canLay0, PyData.depth]
theorem shn_non (n : Nat) : D.non.shn n = true := by simp [D.shn, D.pure, D.py, PyData.canLay0, PyData.depth]
theorem shn_str {n : Nat} {x : Str} (h : PyData.strOk x = true) : (D.str x).shn n = true := by simp [D.shn, D.pure, D.py, PyData.canLay0, PyData.depth, h]
theorem shn_tup {n : Nat} : ∀ {l : List D}, (∀ d ∈ l, d.shn n = true) → (D.tup l).shn (n + 1) = true := by
  have key : ∀ l : List D, (∀ d ∈ l, d.shn n = true) → D.pures l = true ∧ PyData.canLayAll0 (D.pys l) = true ∧ PyData.depthAll (D.pys l) ≤ n := by
    intro l
    induction l with
    | nil => intro _; simp [D.pures, D.pys, PyData.canLayAll0, PyData.depthAll]
    | cons d r ih =>
      intro h
      obtain ⟨h1, h2, h3⟩ := ih fun e he => h e (List.mem_cons_of_mem _ he)
      have hd := h d List.mem_cons_self
      unfold D.shn at hd
      simp only [Bool.and_eq_true, decide_eq_true_eq] at hd
      simp only [D.pures, D.pys, PyData.canLayAll0, PyData.depthAll, Bool.and_eq_true]
      exact ⟨⟨hd.1.1, h1⟩, ⟨hd.1.2, h2⟩, by omega⟩
  intro l h
  obtain ⟨h1, h2, h3⟩ := key l h
  simp only [D.shn, D.pure, D.py, PyData.canLay0, PyData.depth, Bool.and_eq_true, decide_eq_true_eq]
  exact ⟨⟨h1, h2⟩, by omega⟩
theorem shp_tup {l : List D} {n : Nat} (h : ∀ d ∈ l, d.shn n = true) (hn : n ≤ 63) : (D.tup l).shp = true := D.shp_of (shn_tup h) (by omega)
/-! ### texts -/
/-- a text of at most n signs, each a sign -/
def Sok (n : Nat) (x : Str) : Prop := x.length ≤ n ∧ PyData.strOk x = true
theorem Sok.mono {n m : Nat} {x : Str} (h : Sok n x) (l : n ≤ m) : Sok m x := ⟨Nat.le_trans h.1 l, h.2⟩
theorem str_len_app (x y : Str) : (x ++ y).length = x.length + y.length := by
  show (x.cps ++ y.cps).size = x.cps.size + y.cps.size
  rw [Array.size_append]
theorem strOk_app {x y : Str} (hx : PyData.strOk x = true) (hy : PyData.strOk y = true) : PyData.strOk (x ++ y) = true := by
  unfold PyData.strOk at hx hy ⊢
  show (x.cps ++ y.cps).all _ = true
  rw [Array.all_append, hx, hy]
  rfl
theorem Sok.app {n m : Nat} {x y : Str} (hx : Sok n x) (hy : Sok m y) : Sok (n + m) (x ++ y) := ⟨by rw [str_len_app]; exact Nat.add_le_add hx.1 hy.1, strOk_app hx.2 hy.2⟩
theorem strOk_sign {z : Str} {i : Int} {c : Nat} (hz : PyData.strOk z = true) (h : atI z.cps.toList i = some c) : Sok 1 ⟨#[c]⟩ := by
  refine ⟨Nat.le_refl 1, ?_⟩
  have hm : c ∈ z.cps.toList := by
    unfold atI at h
    cases e : ixN z.cps.toList.length i with
    | none => rw [e] at h; cases h
    | some j =>
      rw [e] at h
      exact List.mem_of_getElem? h
  unfold PyData.strOk at hz ⊢
  rw [Array.all_eq_true'] at hz
  have := hz c (by simpa using hm)
  simpa using this
/-! ### places in a row -/
theorem atI_lt {α : Type} {xs : List α} {i : Int} (h0 : 0 ≤ i) (h : i < xs.length) : ∃ v, atI xs i = some v ∧ v ∈ xs := by
  obtain ⟨j, rfl⟩ : ∃ j : Nat, i = (j : Int) := ⟨i.toNat, by omega⟩
  have hj : j < xs.length := by omega
  exact ⟨xs[j], atI_nat (List.getElem?_eq_getElem hj), List.getElem_mem hj⟩
theorem atI_hd {α : Type} {x : α} {xs : List α} : atI (x :: xs) 0 = some x := atI_nat (j := 0) rfl
theorem atI_hd1 {α : Type} {x y : α} {xs : List α} : atI (x :: y :: xs) 1 = some y := atI_nat (j := 1) rfl
/-- a test: what is known behind it, then the ways -/
theorem t_post {X : Cx} {e : Expr} {σ : Sd} {M : Mp} {Q : Bool → Mp → Prop} (P : Bool → Mp → Prop) (h : TT3 X e σ M P) (k : ∀ b M1, P b M1 → Q b M1) : TT3 X e σ M Q :=
  ⟨fun σv H S R => (h.run σv H S R).mono fun b H1 ⟨i, M1, R1, q⟩ => ⟨i, M1, R1, k b M1 q⟩⟩
theorem atI_mem {α : Type} {xs : List α} {i : Int} {v : α} (h : atI xs i = some v) : v ∈ xs := by
  unfold atI at h
  cases e : ixN xs.length i with
  | none => rw [e] at h; cases h
  | some j =>
    rw [e] at h
    exact List.mem_of_getElem? h
theorem one_ofM {xs : List Str} {n : Int} (h0 : 0 ≤ n) (h1 : n < (xs.length : Int)) : ∃ x, atI (xs.map D.str) n = some (.str x) ∧ x ∈ xs := by
  obtain ⟨j, rfl⟩ : ∃ j : Nat, n = (j : Int) := ⟨n.toNat, by omega⟩
  have hj : j < xs.length := by omega
  exact ⟨xs[j], atI_nat (by rw [List.getElem?_map, List.getElem?_eq_getElem hj]; rfl), List.getElem_mem hj⟩
theorem atI_mapP {α β : Type} {f : α → β} {xs : List α} {i : Int} {v : β} (h : atI (xs.map f) i = some v) : ∃ a, atI xs i = some a ∧ v = f a := by
  unfold atI at h ⊢
  rw [List.length_map] at h
  cases e : ixN xs.length i with
  | none => rw [e] at h; cases h
  | some j =>
    rw [e] at h
    have h' : (xs.map f)[j]? = some v := h
    rw [List.getElem?_map] at h'
    cases q : xs[j]? with
    | none => rw [q] at h'; cases h'
    | some a =>
      rw [q] at h'
      cases h'
      exact ⟨a, q, rfl⟩
theorem atI_map_nat {α β : Type} {f : α → β} {xs : List α} {j : Nat} {a : α} (h : xs[j]? = some a) : atI (xs.map f) (j : Int) = some (f a) := atI_nat (by rw [List.getElem?_map, h]; rfl)
theorem cutD_take {α : Type} {f : α → D} (xs : List α) (k : Nat) : cutD (xs.map f) none (some (k : Int)) = (xs.take k).map f := by
  unfold cutD
  rw [HT.sIx_none, HT.sIx_nat, List.drop_zero, Nat.sub_zero, List.map_take, List.length_map]
  by_cases h : k ≤ xs.length
  · rw [Nat.min_eq_left h]
  · rw [Nat.min_eq_right (by omega), List.take_of_length_le (by rw [List.length_map]; omega), List.take_of_length_le (by rw [List.length_map]; omega)]
theorem cutD_drop {α : Type} {f : α → D} (xs : List α) (k : Nat) : cutD (xs.map f) (some (k : Int)) none = (xs.drop k).map f := by
  unfold cutD
  rw [HT.sIx_none, HT.sIx_nat, List.length_map]
  by_cases h : k ≤ xs.length
  · rw [Nat.min_eq_left h, List.take_of_length_le (by rw [List.length_drop, List.length_map]; omega), List.map_drop]
  · rw [Nat.min_eq_right (by omega), List.drop_eq_nil_of_le (by rw [List.length_map]; omega), List.drop_eq_nil_of_le (by omega), List.take_nil]
    rfl
theorem rgD_length (lo : Int) (n : Nat) : (rgD lo n).length = n := by unfold rgD; rw [List.length_map, List.length_range]
theorem rgD_get {lo : Int} {n i : Nat} {d : D} (h : (rgD lo n)[i]? = some d) : i < n ∧ d = .int (lo + (i : Nat)) := by
  unfold rgD at h
  rw [List.getElem?_map] at h
  by_cases hi : i < n
  · rw [List.getElem?_range hi] at h
    cases h
    exact ⟨hi, rfl⟩
  · rw [List.getElem?_eq_none (by rw [List.length_range]; omega)] at h
    cases h
theorem sz {n : Nat} (h : n ≤ 100000) : n ≤ sizeLine := Nat.le_trans h (by decide)
theorem szlt {n : Nat} (h : n < 100000) : n < sizeLine := Nat.lt_of_lt_of_le h (by decide)
theorem len_of (xs : List D) : (xs.length : Int) = ((xs.length : Nat) : Int) := rfl
theorem law_sp {K : PySem.W.Frag} {H : Hp} {a : Addr} {ns : List Int} {sp3 : Sp3} {n : Nat} (hl : ns.length ≤ n) (hO : Only H) (hS : SqL K H a (ns.map V.int))
    (h : ∀ (M : Mp) (Q : QD), (∀ M', Q (.bl true) M') → sp3 [.rol (ns.map D.int)] M Q) : spD K sp3 [.ref a] H (fun v _ => v = .bl true) fun _ _ _ => False := by
  refine ⟨[.rol (ns.map D.int)], fun _ => none, fun d _ => d = .bl true, .cons (.rol ?_ (Tps.ints ns)) .nil, (fun a m e => by cases e), h (fun _ => none) (fun d _ => d = .bl true) (fun _ => rfl), fun v H' d M' _ _ t q => ?_⟩
  · rcases hS with (h | ⟨o, h⟩) | h
    · rcases hO a with z | ⟨o, xs, z⟩
      · rw [z] at h; cases h
      · rw [z] at h; cases h
    · exact .inl ⟨o, h⟩
    · exact .inr h
  · subst q
    cases t
    rfl
end DL
set_option maxHeartbeats 1000000
namespace DL
open PySem L2 PySem.Spec PyProof.Rows
section
variable {K : PySem.W.Frag}
def RMax : RA3 := fun ds M Q => match ds with
  | [.ref a] => ∃ ns : List Int, M a = some (.lst (ns.map D.int)) ∧ 0 < ns.length ∧ ∀ m, m ∈ ns → (∀ y, y ∈ ns → y ≤ m) → Q (.int m) M
  | _ => False
theorem rd_max : RDA K (rMax K) RMax := by
  intro H0 H M vs ds Q Q' i R t k q
  match ds, t, q with
  | [.ref a], t, q =>
    obtain ⟨v, rfl, r⟩ := t.one
    obtain ⟨ns, e, hl, q⟩ := q
    obtain ⟨_, ea, us, rfl, ha⟩ := R a _ e
    cases r
    obtain rfl := tps_ints ha
    exact ⟨a, ns, rfl, SqL.of ea, hl, fun m hm hy => k _ _ _ _ i R (.int _) (q m hm hy)⟩
end
section
variable {X : Cx} {e a b c : Expr} {es rest : List Expr} {σ : Sd} {M : Mp} {Q : QD} {pos p p2 : Pos}
theorem e_max (hm : X.mg "max" = none) (h : AS X [e] σ M fun ds M1 => RMax ds M1 Q) (hc : X.calm = true := by rfl) (hg : Gl X "max" := by rfl) (he : starEach [e] X.env = (false, eval e X.env) :: starEach [] X.env := by rfl) : ES X (.Call (.Name "max" p) [e] [] pos) σ M Q := e_cb (cr_max hc) rd_max hm (by decide +kernel) h hg (by decide) (by decide) he rfl
end
/-! a module's tuple of texts -/
def ConT (K : PySem.W.Frag) (mg : Str → Option Value) (x : Str) (d : D) : Prop := ∃ a : Addr, mg x = some (.ref a) ∧ ∀ H, Tp K H (.ref a) d
theorem e_con {X : Cx} {σ : Sd} {M : Mp} {Q : QD} {pos : Pos} {x : Str} {d : D} (C : ConT X.K X.mg x d) (q : Q d M) (hg : Gl X x := by rfl) (hdb : (x == ("__debug__" : Str)) = false := by decide) : ES X (.Name x pos) σ M Q := by
  obtain ⟨a, hm, ht⟩ := C
  exact e_glob (v := .ref a) hm rfl ht q hg hdb
theorem conT2 {K : PySem.W.Frag} {mg : Str → Option Value} {x : Str} {a : Addr} {dd : Option Addr} {y1 y2 : Str} {u1 u2 : Nat} {n : Nat} {sl : Array (Option Value)} (hm : mg x = some (.ref a)) (hk : K.lookup a = some ⟨.type "tuple", dd, .seq #[.str y1 u1, .str y2 u2] n, sl⟩) :
    ConT K mg x (.tup [.str y1, .str y2]) :=
  ⟨a, hm, fun H => .tup (.inr ⟨_, _, _, hk, rfl, rfl, by show 2 ≤ sizeLine; decide, .cons (show RelV (.str y1) _ from ⟨_, rfl⟩) (.cons (show RelV (.str y2) _ from ⟨_, rfl⟩) .nil)⟩) (.cons (.str _) (.cons (.str _) .nil))⟩
end DL
set_option maxHeartbeats 1000000
namespace PySem
set_option maxHeartbeats 1000000 in
theorem meets_enumerate_new1B {v : Value} {o : Obj} {H : Heap → Prop} (B : Begins v o H) :
    Meets (Builtin.«enumerate.__new__» ⟨[.type "enumerate", v], []⟩) (fun _ R s => H s.heap ∧
      R (.ok (.ret (.ref (s.heap.push o).objs.size))) { s with heap := (s.heap.push o).push { cls := .type "enumerate", data := .fields #[.none, .bool false, .ref s.heap.objs.size, rawInt 0, .none, .none] } }) :=
  .of_wp fun prog w A R s h => by
    obtain ⟨hp, g, d, tk, os⟩ := s; obtain ⟨h1, h⟩ := h
    have hsub := sub_enumerate
    have q1 : ∀ {A' : Around} {E : Value → Shared → Prop} {Q : Value → Shared → Prop}, Q (.ref hp.objs.size) ⟨hp.push o, g, d, tk, os⟩ → wpAny (model prog w) A' (pyIter v) Q E ⟨hp, g, d, tk, os⟩ :=
      fun q => B.iter prog w _ _ ⟨hp, g, d, tk, os⟩ _ h1 q
    wp_walk using q1
    refine wpAny_stack_any fun st => wpAny_pure ?_
    split
    · rename_i c _ _ _ _ _
      cases (c == Value.type "enumerate")
      · wp_walk using q1
        exact ⟨_, rfl, h⟩
      · wp_walk using q1
        exact ⟨_, rfl, h⟩
    · wp_walk using q1
      exact ⟨_, rfl, h⟩
theorem enum_begins1 {prog : Program} {w : World} {A : Around} {E : Value → Shared → Prop} {s : Shared} {v : Value} {o : Obj} {H : Heap → Prop} {Q : Value → Shared → Prop} (B : Begins v o H) (h1 : H s.heap)
    (h : ∀ h', IsEnum h' (s.heap.objs.size + 1) s.heap.objs.size 0 .none → h'.get? s.heap.objs.size = some o → h'.objs.size = s.heap.objs.size + 2 →
      (∀ b o, s.heap.get? b = some o → h'.get? b = some o) → Q (.ref (s.heap.objs.size + 1)) { s with heap := h' }) :
    wpAny (model prog w) A (call (.type "enumerate") [v]) Q E s := by
  refine callType_new F.called_enumerate (by decide) (F.typeCall_enumerate_1 _) (F.newCall_enumerate_1 _) (fun obj => F.args_object_init_2 obj _) F.entry_enumerate_new
    (meets_enumerate_new1B B) ⟨h1, ?_⟩
  have hz : (s.heap.push o).objs.size = s.heap.objs.size + 1 := Heap.size_push ..
  show _ ∧ _
  rw [hz]
  have he : IsEnum ((s.heap.push o).push { cls := .type "enumerate", data := .fields #[.none, .bool false, .ref s.heap.objs.size, rawInt 0, .none, .none] }) (s.heap.objs.size + 1) s.heap.objs.size 0 .none := by
    have := Heap.get?_push_size (s.heap.push o) (o := { cls := .type "enumerate", data := .fields #[.none, .bool false, .ref s.heap.objs.size, rawInt 0, .none, .none] }) rfl
    rw [hz] at this; exact this
  refine ⟨⟨_, he, rfl⟩, h _ he (Heap.get?_push_of_some _ (Heap.get?_push_size _ B.free)) (by rw [Heap.size_push, hz]) fun b o x => Heap.get?_push_of_some _ (Heap.get?_push_of_some _ x)⟩
end PySem
namespace L2
open PySem PySem.Spec PyProof.Rows
/-- the tuple at a, each item in a new pair -/
def IteT (K : PySem.W.Frag) (a : Addr) : It :=
  ⟨fun i H => ∃ (xs : List V) (x : V), SqT K H a xs ∧ xs[i]? = some x, fun i H v H' => ∃ T x, v = .ref T ∧ H T = none ∧ H' = upd H T (.tup [.int (i : Nat), x]) ∧ ∀ xs, SqT K H a xs → xs[i]? = some x, fun i H => ∃ xs : List V, SqT K H a xs ∧ i = xs.length⟩
theorem turn_enumT {P : Program} {w : World} {K : PySem.W.Frag} {elts : List Expr} {kk : Nat} {tpos : Pos} (a e it : Addr) :
    Turn P w K (.Tuple elts kk tpos) (IteT K a) [e, it] e (fun i h => (∃ old, IsEnum h e it ((i : Nat) : Int) old) ∧ h.IsTupleIter it a i ∧ e ≠ it ∧ a ≠ it ∧ a ≠ e) where
  mem := by simp
  obj := fun i h st b hb => by
    obtain ⟨⟨old, he⟩, ⟨o, ho, hc, hd⟩, _⟩ := st
    have e' : b = e ∨ b = it := by simpa using hb
    rcases e' with z | z
    · rw [z]; exact ⟨_, he, fun v q => nomatch q⟩
    · rw [z]; exact ⟨o, ho, fun v q => by rw [hd] at q; cases q⟩
  keep := fun i h h' st k => let ⟨⟨old, he⟩, hi, hne⟩ := st; ⟨⟨old, k e (by simp) _ he⟩, hi.at fun o q => k it (by simp) o q, hne⟩
  item := by
    intro X hP hw hK hc i pins s σ H E I hf st hg
    subst hP hw hK
    obtain ⟨⟨old, he⟩, hit, hne, hna, hnae⟩ := st
    obtain ⟨xs, x, hq, hx⟩ := hg
    obtain ⟨its, rv, p, hz⟩ := I.tuple hq
    obtain ⟨u, hu, ru⟩ := rv.get hx
    have hel : e < s.heap.objs.size := Heap.lt_size he
    have hil : it < s.heap.objs.size := by obtain ⟨_, q, _⟩ := hit; exact Heap.lt_size q
    have pt : s.heap.IsTuple a its.toArray := p
    have hlt : i < its.toArray.size := by
      have := rv.length
      have h2 := (List.getElem?_eq_some_iff.mp hx).1
      simp
      omega
    refine wpAny_pyNext_enum_itemD (Draws.tuple (prog := X.prog) (w := X.w) (A := X.A.in1) (I.ok.hd hc) it a hna its.toArray) he ⟨hit, pt⟩ hlt hne (by simp [hne, Ne.symm hnae]) fun y h' tk hy ho st' hT hsz hk => ?_
    obtain rfl : y = u := by
      have : its.toArray[i]? = some u := by simpa using hu
      rw [this] at hy
      cases hy
      rfl
    refine ⟨_, rfl, wpAny_letOwnedTupleGo_enum (s := { s with heap := h', toks := tk + 1 }) ho fun h'' he' sb => ?_⟩
    have hT2 : h''.get? s.heap.objs.size = some { cls := .type "tuple", data := .seq #[.int i tk, y] } := (sb.2 _ (Nat.ne_of_gt hel)).trans hT
    have new : ObjOk X.prog X.w (upd H s.heap.objs.size (.tup [.int (i : Nat), x])) h'' s.heap.objs.size (.tup [.int (i : Nat), x]) :=
      ⟨by show 2 ≤ sizeLine; decide, [.int i tk, y], .cons ⟨_, rfl⟩ (.cons ru .nil), ⟨_, hT2, rfl, _, rfl⟩⟩
    have I1 : Inv X pins σ (upd H s.heap.objs.size (.tup [.int (i : Nat), x])) { s with heap := h'', toks := tk + 1 } :=
      I.turnedNew (ch := [e, it]) (fun b ob hb q => (sb.2 b (fun z => hb (by simp [z]))).trans (hk b ob (fun z => hb (by simp [z])) (fun z => hb (by simp [z])) q)) hf (Nat.le_refl _) new
    refine ⟨.ref s.heap.objs.size, _, I1, rfl, ⟨_, x, rfl, I.hok.fresh (Nat.le_refl _), rfl, fun ys hy => by rw [I.tuple_inj hy hq]; exact hx⟩, ⟨⟨y, ?_⟩, st'.1.at fun o q => (sb.2 it (Ne.symm hne)).trans q, hne, hna, hnae⟩, fun b hb => ?_⟩
    · have e1 : ((i + 1 : Nat) : Int) = (i : Int) + 1 := by omega
      rw [e1]; exact he'
    · have hb' : b < s.heap.objs.size := by
        have e' : b = e ∨ b = it := by simpa using hb
        rcases e' with z | z
        · rw [z]; exact hel
        · rw [z]; exact hil
      rw [upd_ne (Nat.ne_of_lt hb')]
      exact (hf b hb).1
  done := by
    intro X hP hw hK hc i pins s σ H E I hf st hg
    subst hP hw hK
    obtain ⟨⟨old, he⟩, hit, hne, hna, hnae⟩ := st
    obtain ⟨xs, hq, hx⟩ := hg
    obtain ⟨its, rv, p, hz⟩ := I.tuple hq
    obtain ⟨f0, f1, f2, f3, f4, f5⟩ := hf it (by simp)
    have hl := rv.length
    have pt : s.heap.IsTuple a its.toArray := p
    subst hx
    exact wpAny_pyNext_enum_endD (Draws.tuple (prog := X.prog) (w := X.w) (A := X.A.in1) (I.ok.hd hc) it a hna its.toArray) he ⟨by rw [show its.toArray.size = xs.length by simp [hl]]; exact hit, pt⟩ fun h' eb => ⟨rfl, I.turned (t' := s.toks) (fun b o hb q => eb b o hb q) f0 f1 f3 f4 f5⟩
  self := fun A i s Q E st h => let ⟨⟨_, he⟩, _⟩ := st; wpAny_pyIter_enum he h
def iEnumT (K : PySem.W.Frag) (ta : TA) : TI := fun σ H R => ta σ H fun vs H1 => ∃ a xs, vs = [.ref a] ∧ SqT K H1 a xs ∧ R (IteT K a) H1
theorem pi_enumT {X : Cx} {e : Expr} {ta : TA} {p pos tpos : Pos} {elts : List Expr} {kk : Nat} (hg : Gl X "enumerate") (hm : X.mg "enumerate" = none) (ha : PA X [e] ta) (hs : starEach [e] X.env = [(false, eval e X.env)] := by rfl) :
    PI X (.Tuple elts kk tpos) (.Call (.Name "enumerate" p) [e] [] pos) (iEnumT X.K ta) := by
  refine ⟨fun pins s σ H R I h => ?_⟩
  refine Call_ (ld_blt I hg hm boot_enumerate (PyProof.Rows.callWith_type1 (thn (ha.run pos pins s σ H _ I h) fun us s1 ⟨vs, H1, I1, r1, q1⟩ => ?_) hs rfl))
  obtain ⟨a, xs, ex, hq, q⟩ := q1
  subst ex
  cases r1 with
  | cons r rr =>
    cases rr
    cases r
    obtain ⟨its, rv, p', hz⟩ := I1.tuple hq
    have pt : s1.heap.IsTuple a its.toArray := p'
    have hal : a < s1.heap.objs.size := by obtain ⟨_, q, _⟩ := pt; exact Heap.lt_size q
    refine enum_begins1 (begins_tuple a its.toArray) pt fun h' he hit hsz hk => wpAny_pyIter_enum he ?_
    have I2 : Inv X pins σ H1 { s1 with heap := h' } := I1.kept (t' := s1.toks) hk
    refine ⟨s1.heap.objs.size + 1, [s1.heap.objs.size + 1, s1.heap.objs.size], _, _, H1, rfl, I2, turn_enumT a (s1.heap.objs.size + 1) s1.heap.objs.size, ⟨⟨.none, he⟩, ⟨_, hit, rfl, rfl⟩, Nat.succ_ne_self _, Nat.ne_of_lt hal, Nat.ne_of_lt (Nat.lt_succ_of_lt hal)⟩, fun b hb => ?_, q⟩
    have e' : b = s1.heap.objs.size + 1 ∨ b = s1.heap.objs.size := by simpa using hb
    have hle : s1.heap.objs.size ≤ b := by
      rcases e' with z | z
      · rw [z]; exact Nat.le_add_right _ _
      · rw [z]; exact Nat.le_refl _
    exact I1.fpOk hle (I1.hok.fresh hle)
end L2
namespace DL
open PySem L2 PySem.Spec PyProof.Rows
def enD (n : Nat) : List D → List D
  | [] => []
  | d :: r => .tup [.int n, d] :: enD (n + 1) r
theorem enD_get : ∀ {ds : List D} {n i : Nat}, (enD n ds)[i]? = (ds[i]?).map fun d => D.tup [.int ((n + i : Nat) : Int), d]
  | [], n, i => by simp [enD]
  | d :: r, n, 0 => by simp [enD]
  | d :: r, n, i + 1 => by
    show (enD (n + 1) r)[i]? = _
    rw [enD_get (ds := r)]
    show _ = (r[i]?).map _
    rw [show n + 1 + i = n + (i + 1) by omega]
theorem enD_length : ∀ {ds : List D} {n : Nat}, (enD n ds).length = ds.length
  | [], _ => rfl
  | d :: r, n => by simp [enD, enD_length (ds := r)]
theorem wk_ET {K : PySem.W.Frag} {H1 : Hp} {p : Addr} {xs : List V} {ds : List D} (hs : SqT K H1 p xs) (ha : Tps K H1 xs ds) : WalkD K H1 (IteT K p) (enD 0 ds) (fun _ => True) where
  goes := fun i H M im R _ hi => by
    rw [enD_length] at hi
    obtain ⟨v, ev, _⟩ := ha.get (List.getElem?_eq_getElem hi)
    exact ⟨xs, v, imm_sqT im hs, ev⟩
  stops := fun H M im R _ => ⟨xs, imm_sqT im hs, by rw [enD_length, ha.length]⟩
  yields := fun i H M x H' d im R _ hd y => by
    obtain ⟨T, x', ex, hT, hH, y⟩ := y
    subst ex hH
    rw [enD_get] at hd
    cases hx : ds[i]? with
    | none => rw [hx] at hd; cases hd
    | some d0 =>
      rw [hx] at hd
      cases hd
      obtain ⟨v, ev, tv⟩ := ha.get hx
      have := y xs (imm_sqT im hs)
      rw [ev] at this
      cases this
      have i2 := Imm.new (o := .tup [.int (i : Nat), x']) hT
      refine ⟨i2, R.skip hT, .tup (SqT.of upd_same) (.cons ?_ (.cons (Tp.mono i2 _ _ (Tp.mono im _ _ tv)) .nil))⟩
      rw [Nat.zero_add]
      exact .int _
theorem wk_EL {K : PySem.W.Frag} {H1 : Hp} {p : Addr} {ds : List D} : WalkD K H1 (Ite K p) (enD 0 ds) (fun M => M p = some (.lst ds)) where
  goes := fun i H M im R g hi => by
    rw [enD_length] at hi
    obtain ⟨_, ea, us, rfl, ha⟩ := R p _ g
    obtain ⟨v, ev, _⟩ := ha.get (List.getElem?_eq_getElem hi)
    exact ⟨us, v, SqL.of ea, ev⟩
  stops := fun H M im R g => by
    obtain ⟨_, ea, us, rfl, ha⟩ := R p _ g
    exact ⟨us, SqL.of ea, by rw [enD_length, ha.length]; exact Nat.le_refl _⟩
  yields := fun i H M x H' d im R g hd y => by
    obtain ⟨T, x', ex, hT, hH, y⟩ := y
    subst ex hH
    rw [enD_get] at hd
    cases hx : ds[i]? with
    | none => rw [hx] at hd; cases hd
    | some d0 =>
      rw [hx] at hd
      cases hd
      obtain ⟨_, ea, us, rfl, ha⟩ := R p _ g
      obtain ⟨v, ev, tv⟩ := ha.get hx
      have := y us (SqL.of ea)
      rw [ev] at this
      cases this
      have i2 := Imm.new (o := .tup [.int (i : Nat), x']) hT
      refine ⟨i2, R.skip hT, .tup (SqT.of upd_same) (.cons ?_ (.cons (Tp.mono i2 _ _ tv) .nil))⟩
      rw [Nat.zero_add]
      exact .int _
section
variable {X : Cx} {a b c tg iter : Expr} {σ : Sd} {M : Mp} {pos p : Pos} {R : List D → (Mp → Prop) → Mp → Prop}
theorem i_enumT {elts : List Expr} {kk : Nat} {tpos : Pos} (hm : X.mg "enumerate" = none) (h : ES X a σ M fun d M1 => match d with
    | .tup ds => R (enD 0 ds) (fun _ => True) M1
    | _ => False) (hg : Gl X "enumerate" := by rfl) (hs : starEach [a] X.env = [(false, eval a X.env)] := by rfl) : IS X (.Tuple elts kk tpos) (.Call (.Name "enumerate" p) [a] [] pos) σ M R :=
  IS.of (pi_enumT hg hm pa_sem hs) fun σv H S RM => (a_cons (QA := fun ds M1 => match ds with | [.tup l] => R (enD 0 l) (fun _ => True) M1 | _ => False) (h.imp fun d M1 q => by
      cases d <;> first | exact False.elim q | exact a_nil q) hs).go S RM fun vs H1 ds M1 i1 R1 t1 q1 => by
    match ds, t1, q1 with
    | [.tup l], t1, q1 =>
      obtain ⟨v, rfl, r⟩ := t1.one
      cases r with
      | @tup a xs _ hs ha => exact ⟨a, xs, rfl, hs, i1, _, _, M1, R1, wk_ET hs ha, q1⟩
theorem i_enumL {elts : List Expr} {kk : Nat} {tpos : Pos} (hm : X.mg "enumerate" = none) (h : ES X a σ M fun d M1 => match d with
    | .ref l => ∃ ds, M1 l = some (.lst ds) ∧ R (enD 0 ds) (fun M => M l = some (.lst ds)) M1
    | _ => False) (hg : Gl X "enumerate" := by rfl) (hs : starEach [a] X.env = [(false, eval a X.env)] := by rfl) : IS X (.Tuple elts kk tpos) (.Call (.Name "enumerate" p) [a] [] pos) σ M R :=
  IS.of (pi_enum hg hm pa_sem hs) fun σv H S RM => (a_cons (QA := fun ds M1 => match ds with | [.ref l] => ∃ ds, M1 l = some (.lst ds) ∧ R (enD 0 ds) (fun M => M l = some (.lst ds)) M1 | _ => False) (h.imp fun d M1 q => by
      cases d <;> first | exact False.elim q | exact a_nil q) hs).go S RM fun vs H1 ds M1 i1 R1 t1 q1 => by
    match ds, t1, q1 with
    | [.ref l], t1, q1 =>
      obtain ⟨v, rfl, r⟩ := t1.one
      obtain ⟨ds, e, q⟩ := q1
      obtain ⟨_, ea, us, rfl, ha⟩ := R1 l _ e
      cases r
      exact ⟨l, us, rfl, SqL.of ea, i1, _, _, M1, R1, wk_EL, q⟩
end
end DL
set_option maxHeartbeats 1000000
namespace DL
open PySem L2 PySem.Spec PyProof.Rows
/-! ### exceptions -/
open Classical in
/-- M and all that never changes in H -/
noncomputable def plus (M : Mp) (H : Hp) : Mp := fun a => match M a with
  | some m => some m
  | none => match H a with
    | some o => if fixedO o then some (.fix o) else none
    | none => none
theorem plus_le {M : Mp} {H : Hp} : Mle M (plus M H) := fun a m e => by unfold plus; rw [e]
open Classical in
theorem plus_rel {K : PySem.W.Frag} {M : Mp} {H : Hp} (R : RelM K M H) : RelM K (plus M H) H := fun a m e => by
  unfold plus at e
  cases e1 : M a with
  | some m1 =>
    rw [e1] at e
    cases e
    exact R a _ e1
  | none =>
    rw [e1] at e
    cases e2 : H a with
    | none => rw [e2] at e; cases e
    | some o =>
      rw [e2] at e
      by_cases hf : fixedO o
      · have e' : (if fixedO o then some (MO.fix o) else none) = some m := e
        rw [if_pos hf] at e'
        cases e'
        exact ⟨o, rfl, rfl, hf⟩
      · have e' : (if fixedO o then some (MO.fix o) else none) = some m := e
        rw [if_neg hf] at e'
        cases e'
theorem plus_fix {K : PySem.W.Frag} {M : Mp} {H : Hp} (R : RelM K M H) {a : Addr} {o : HO} (h : H a = some o) (f : fixedO o) : plus M H a = some (.fix o) := by
  unfold plus
  cases e1 : M a with
  | some m1 =>
    obtain ⟨u, e2, r⟩ := R a _ e1
    rw [h] at e2
    cases e2
    cases m1 with
    | fix u => obtain ⟨rfl, _⟩ := r; rfl
    | lst _ => obtain ⟨_, rfl, _⟩ := r; exact f.elim
    | dK _ => obtain ⟨_, rfl, _⟩ := r; exact f.elim
    | ins _ _ _ => obtain ⟨_, rfl, _⟩ := r; exact f.elim
    | own _ => cases r; exact f.elim
    | xd _ => obtain ⟨_, rfl, _⟩ := r; exact f.elim
  | none =>
    rw [h]
    exact if_pos f
def FixLe (N M' : Mp) : Prop := ∀ a o, N a = some (.fix o) → M' a = some (.fix o)
theorem Mle.fix {N M' : Mp} (l : Mle N M') : FixLe N M' := fun a o e => l a _ e
theorem Keep.fix {N M' : Mp} {a : Addr} {m : MO} (k : Keep a N M') (e : N a = some m) (hn : ∀ o, m ≠ .fix o) : FixLe N M' := fun b o eb => k b _ (by rintro rfl; rw [e] at eb; cases eb; exact hn o rfl) eb
theorem FixLe.trans {A B C : Mp} (h : FixLe A B) (k : FixLe B C) : FixLe A C := fun a o e => k a o (h a o e)
theorem imm_of {K : PySem.W.Frag} {M M' : Mp} {H H' : Hp} (R : RelM K M H) (f : FixLe (plus M H) M') (R' : RelM K M' H') : Imm H H' := fun a o e hf => by
  obtain ⟨u, e2, rfl, _⟩ := R' a _ (f a o (plus_fix R e hf))
  exact e2
/-- what is wished of an exception -/
abbrev WD := Value → Option Addr → Sd → Mp → Prop
def TkD (X : Cx) (W : WD) : Prop := ∃ Wv : WX, Takes X Wv ∧ ∀ cls d σv H σ M, Slots X.K H σv σ → RelM X.K M H → W cls d σ M → Wv cls d σv H
theorem tkD0 {X : Cx} : TkD X fun _ _ _ _ => False := ⟨_, takes0, fun _ _ _ _ _ _ _ _ q => q⟩
theorem TkD.imp {X : Cx} {W W' : WD} (t : TkD X W) (h : ∀ c d σ M, W' c d σ M → W c d σ M) : TkD X W' := by
  obtain ⟨Wv, tk, hW⟩ := t
  exact ⟨Wv, tk, fun cls d σv H σ M S R q => hW cls d σv H σ M S R (h _ _ _ _ q)⟩
abbrev E3 := Value → Option Addr → Mp → Prop
abbrev Sp4 := List D → Mp → QD → E3 → Prop
def spX (K : PySem.W.Frag) (sp4 : Sp4) : Sp := fun vs H Q E => ∃ (ds : List D) (M : Mp) (Q3 : QD) (Ex : E3), Tps K H vs ds ∧ RelM K M H ∧ sp4 ds M Q3 Ex ∧ To K H Q3 Q ∧ ∀ cls d H' M', RelM K M' H' → Ex cls d M' → E cls d H'
/-- a def of the module that may raise -/
def CalleeX (P : Program) (w : World) (K : PySem.W.Frag) (mg : Str → Option Value) (base : Heap) (x : Str) (k : Nat) (ps : List Str) (sp4 : Sp4) : Prop :=
  ∃ f fd, FnOk P w K mg base (L2.CX P w) k f fd ps (spX K sp4) ∧ mg x = some (.ref f) ∧ PySem.W.keepIn K (.ref f) = true ∧ Binds K fd ps []
theorem fnX {P : Program} {w : World} {K : PySem.W.Frag} {mg : Str → Option Value} {base : Heap} {N ps : List Str} {x qual : Str} {st : Stmt} {f : Addr} {fd : FuncData} {k : Nat} {sp4 : Sp4}
    (F : Fun K x qual st f fd) (S : FnScope N ps (defScope st)) (len : ∀ ds M Q Ex, sp4 ds M Q Ex → ds.length = ps.length)
    (body : ∀ (cdv : Value) (A : Around) (outer : List Env) (s : Shared) (H : Hp) (E : XK), Room k (A.deeper (envOfC qual (defScope st) s.heap.objs.size f cdv)) → ∀ ds M Q (Ex : E3), sp4 ds M Q Ex →
      TkD (cxOf (L2.CX P w) P w K mg base N qual (defScope st) f cdv A outer s H E) (fun cls d _ M' => Ex cls d M') →
      SSs (cxOf (L2.CX P w) P w K mg base N qual (defScope st) f cdv A outer s H E) (defBody st) (startD N ds) M { nx := fun _ M' => Wk Q .non M', rt := Wk Q }) : FnOk P w K mg base (L2.CX P w) (k + 1) f fd ps (spX K sp4) := by
  refine F.okX S (fun vs H Q E ⟨ds, M, Q3, Ex, t, r, q, to, _⟩ => ?_) (fun cdv A outer s H vs Q E hr ⟨ds, M, Q3, Ex, t, r, q, to, tox⟩ => ?_)
  · rw [t.length]
    exact len ds M Q3 Ex q
  · refine ⟨_, pss_sem, tSs.mono ((body cdv A outer s H E hr ds M Q3 Ex q ⟨_, takes_of rfl rfl rfl rfl, fun cls d σv H' σ M' _ R' w => tox cls d H' M' R' w⟩).run (start N vs) H (Slots.start t) r) ⟨fun σ' H' h => ?_, fun v H' h => ?_, fun _ _ h => ?_, fun _ _ h => ?_⟩⟩
    · obtain ⟨i, σ'', M', S', R', M1, l, q'⟩ := h
      exact to _ _ _ _ i (R'.le l) .non q'
    · obtain ⟨i, d, M', R', t', M1, l, q'⟩ := h
      exact to _ _ _ _ i (R'.le l) t' q'
    · obtain ⟨i, σ'', M', S', R', z⟩ := h
      exact z
    · obtain ⟨i, σ'', M', S', R', z⟩ := h
      exact z
theorem calleeX {P : Program} {w : World} {K : PySem.W.Frag} {mg : Str → Option Value} {base : Heap} {N ps : List Str} {x qual : Str} {st : Stmt} {f : Addr} {fd : FuncData} {k : Nat} {sp4 : Sp4}
    (F : Fun K x qual st f fd) (S : FnScope N ps (defScope st)) (hm : mg x = some (.ref f)) (hb : Binds K fd ps []) (len : ∀ ds M Q Ex, sp4 ds M Q Ex → ds.length = ps.length)
    (body : ∀ (cdv : Value) (A : Around) (outer : List Env) (s : Shared) (H : Hp) (E : XK), Room k (A.deeper (envOfC qual (defScope st) s.heap.objs.size f cdv)) → ∀ ds M Q (Ex : E3), sp4 ds M Q Ex →
      TkD (cxOf (L2.CX P w) P w K mg base N qual (defScope st) f cdv A outer s H E) (fun cls d _ M' => Ex cls d M') →
      SSs (cxOf (L2.CX P w) P w K mg base N qual (defScope st) f cdv A outer s H E) (defBody st) (startD N ds) M { nx := fun _ M' => Wk Q .non M', rt := Wk Q }) : CalleeX P w K mg base x (k + 1) ps sp4 := ⟨f, fd, fnX F S len body, hm, F.kp, hb⟩
theorem CalleeX.none {P : Program} {w : World} {K : PySem.W.Frag} {mg : Str → Option Value} {base : Heap} {x : Str} {k : Nat} {ps : List Str} {sp4 : Sp4} {f : Addr} {fd : FuncData}
    (hm : mg x = some (.ref f)) (hk : PySem.W.keepIn K (.ref f) = true) (hb : Binds K fd ps []) (h : ∀ ds M Q Ex, ¬ sp4 ds M Q Ex) : CalleeX P w K mg base x k ps sp4 :=
  ⟨f, fd, ⟨fun vs H Q E ⟨ds, M, Q3, Ex, _, _, q, _⟩ => absurd q (h ds M Q3 Ex), fun A outer s H args us vs Q E _ _ _ _ ⟨ds, M, Q3, Ex, _, _, q, _⟩ => absurd q (h ds M Q3 Ex)⟩, hm, hk, hb⟩
section
variable {X : Cx} {e a b c : Expr} {es rest : List Expr} {σ : Sd} {M : Mp} {Q : QD} {E : DE} {W : WD} {pos pos2 pos' p p2 np : Pos} {x : Str} {k : Nat} {ps : List Str} {sp4 : Sp4}
theorem e_callX (tk : TkD X W) (C : CalleeX X.prog X.w X.K X.mg X.base x k ps sp4) (hr : Room k X.A) (h : AS X (e :: es) σ M fun ds M1 => ∀ N, Mle M1 N → sp4 ds N Q fun cls d M' => FixLe N M' ∧ W cls d σ M') (hg : Gl X x := by rfl) (hdb : (x == ("__debug__" : Str)) = false := by decide)
    (he : starEach (e :: es) X.env = (false, eval e X.env) :: starEach es X.env := by rfl) (hpl : (backTo pos (starEach es X.env)).any (·.1) = false := by rfl) : ES X (.Call (.Name x p) (e :: es) [] pos) σ M Q := by
  obtain ⟨f, fd, F, hm, hk, hb⟩ := C
  obtain ⟨Wv, tkv, hW⟩ := tk
  refine ES.of (pe_callS F hr hg hm hk hb (fun σ => passAt tkv σ) pa_sem hdb he hpl) fun σv H S R => h.go S R fun vs H1 ds M1 i1 R1 t1 q1 => ?_
  exact ⟨ds, plus M1 H1, Q, _, t1, plus_rel R1, q1 _ plus_le, fun v H2 d M2 i2 R2 t2 q2 => ⟨i1.trans i2, d, M2, R2, t2, q2⟩, fun cls d H' M' R' ⟨fx, w⟩ => hW cls d σv H' σ M' (S.mono (i1.trans (imm_of R1 fx R'))) R' w⟩
/-- an exception class of the program's own, without __init__ -/
structure XcP (K : PySem.W.Frag) (mg : Str → Option Value) (x : Str) (C : Addr) : Prop where
  make : ∀ {X : Cx} {m : Str} {j : Nat} {p p2 pos : Pos}, X.K = K → X.mg = mg → Gl X x → (x == ("__debug__" : Str)) = false → PMk X (.Call (.Name x p) [.Constant (.str m) j p2] [] pos) (fun _ H Q => Q (.ref C) none H)
theorem xcP_mk {K : PySem.W.Frag} {mg : Str → Option Value} {x : Str} {C : Addr} {B newId initId : String} {bmB : List Value} (F : PySem.ExcBaseFacts B newId initId bmB) (q : PySem.W.excIn K C bmB newId = true) (gC : mg x = some (.ref C)) (kC : PySem.W.keepIn K (.ref C) = true)
    (h1 : PySem.W.subIn K (.ref C) (.type "BaseException") = some true) (h2 : PySem.W.typeIn K (.ref C) = some (.type "type")) : XcP K mg x C :=
  ⟨fun {X m j p p2 pos} hK hM hg hdb => by subst hK hM; exact pmk_own F q gC kC (raises_own h1 h2) hg hdb⟩
theorem s_raise {m : Str} {j : Nat} {C : Addr} (tk : TkD X W) (xc : XcP X.K X.mg x C) (q : W (.ref C) none σ M) (hc : X.calm = true := by rfl) (hg : Gl X x := by rfl) (hdb : (x == ("__debug__" : Str)) = false := by decide) : SS X (.Raise (some (.Call (.Name x p) [.Constant (.str m) j p2] [] pos2)) none pos) σ M E := by
  obtain ⟨Wv, tkv, hW⟩ := tk
  exact SS.of (ps_raise hc tkv (xc.make rfl rfl hg hdb)) fun σv H S R => hW _ _ _ _ _ _ S R q
/-- what a clause wishes of the body's exceptions -/
def WIn (X : Cx) (c : Value) (suite : List Stmt) (E : DE) (W : WD) (N : Mp) : WD := fun cls d σ' M' => ∃ b, PySem.W.exmOne X.K cls c = some b ∧ FixLe N M' ∧ (b = true → ∀ a pn, SSs (X.suite a pn) suite σ' M' E) ∧ (b = false → W cls d σ' M')
theorem s_try {c : Value} {body suite : List Stmt} {b₀ : Stmt} (hc : Names X x c) (tk : TkD X W)
    (h : ∀ N, Mle M N → ∀ pn xe, TkD (X.tr pn xe) (WIn X c (b₀ :: suite) E W N) → SSs (X.tr pn xe) body σ N E) (hs : X.stack = X.env :: X.outer := by rfl) (hf : X.env.frame = some X.env.locals := by rfl) : SS X (.Try body [.ExceptHandler (some (.Name x np)) none (b₀ :: suite) pos'] [] [] pos) σ M E := by
  obtain ⟨Wv, tkv, hW⟩ := tk
  refine SS.of (ps_try_only (tb := fun W' D σ H => ∀ pn xe, Takes (X.tr pn xe) W' → tSs (X.tr pn xe) body D σ H) (ts := fun a cls d D σ H => ∀ pn, tSs (X.suite a pn) (b₀ :: suite) D σ H) hs hf hc tkv
    (fun W' pn xe t _ => ⟨fun pins s σ H D I hw => pss_sem.run pins s σ H D I (hw pn xe t)⟩) (fun a oe cls d pn _ _ => ⟨fun pins s σ H D I hw => pss_sem.run pins s σ H D I (hw _)⟩)) fun σv H S R pn xe t => ?_
  refine (h (plus M H) plus_le pn xe ⟨_, t, fun cls d σv' H' σ' M' S' R' ⟨b, hb, fx, q1, q2⟩ => ?_⟩).run σv H S (plus_rel R)
  exact ⟨b, hb, fun e a _ pn' => ((q1 e a pn').run σv' H' S' R').mono (DE.from (imm_of R fx R')), fun e => hW cls d σv' H' σ' M' S' R' (q2 e)⟩
end
end DL
set_option maxHeartbeats 1000000
namespace DL
open PySem L2 PySem.Spec PyProof.Rows
theorem Slots.unset {K : PySem.W.Frag} {H : Hp} {σv : L2.St} {σ : Sd} (s : Slots K H σv σ) (i : Nat) : Slots K H (σv.set i none) (σ.set i none) := by
  refine ⟨by rw [List.length_set, List.length_set, s.len], fun j e h => ?_⟩
  by_cases hj : j = i
  · subst hj
    by_cases hl : j < σ.length
    · rw [List.getElem?_set_self hl] at h
      cases h
    · rw [List.getElem?_eq_none (by rw [List.length_set]; omega)] at h
      cases h
  · rw [List.getElem?_set_ne (Ne.symm hj)] at h
    obtain ⟨v', e', r'⟩ := s.at_ j e h
    exact ⟨v', by rw [List.getElem?_set_ne (Ne.symm hj)]; exact e', r'⟩
/-- behind an except clause with a name: the name is gone -/
def DE.unset (E : DE) (i : Nat) : DE := { nx := fun σ M => E.nx (σ.set i none) M, rt := E.rt, bk := fun σ M => E.bk (σ.set i none) M, ct := fun σ M => E.ct (σ.set i none) M }
theorem DN.unset {K : PySem.W.Frag} {H0 H : Hp} {Q : Sd → Mp → Prop} {i : Nat} (im : Imm H0 H) {σv : L2.St} {H' : Hp} (h : DN K H (fun σ M => Q (σ.set i none) M) σv H') : DN K H0 Q (σv.set i none) H' := by
  obtain ⟨i1, σ', M', S', R', q⟩ := h
  exact ⟨im.trans i1, _, M', S'.unset i, R', q⟩
def WAs (X : Cx) (c : Value) (i : Nat) (suite : List Stmt) (E : DE) (W : WD) (N : Mp) : WD := fun cls d σ' M' => ∃ b, PySem.W.exmOne X.K cls c = some b ∧ FixLe N M' ∧
  (b = true → ∀ a oe pn, M' a = none → Zc cls d oe → (∃ vs, oe.data = .fields vs) → SSs (X.suite a ((a, oe) :: pn)) suite (σ'.set i (some (.ref a))) M' (E.unset i)) ∧ (b = false → W cls d σ' M')
section
variable {X : Cx} {e a b c : Expr} {es rest : List Expr} {σ : Sd} {M : Mp} {Q : QD} {E : DE} {W : WD} {pos pos2 pos' p p2 np : Pos} {x : Str} {k : Nat} {ps : List Str} {sp4 : Sp4}
theorem s_tryAs {c : Value} {body suite : List Stmt} {b₀ : Stmt} {n : Str} (i : Nat) (hN : X.N.Nodup) (hc : Names X x c) (tk : TkD X W)
    (h : ∀ N, Mle M N → ∀ pn xe, TkD (X.tr pn xe) (WAs X c i (b₀ :: suite) E W N) → SSs (X.tr pn xe) body σ N E) (hi : X.N[i]? = some n := by rfl) (hln : X.env.kindOf n = some .local := by rfl)
    (hs : X.stack = X.env :: X.outer := by rfl) (hf : X.env.frame = some X.env.locals := by rfl) : SS X (.Try body [.ExceptHandler (some (.Name x np)) (some n) (b₀ :: suite) pos'] [] [] pos) σ M E := by
  obtain ⟨Wv, tkv, hW⟩ := tk
  refine SS.of (ps_try_as (i := i) (tb := fun W' D σ H => ∀ pn xe, Takes (X.tr pn xe) W' → tSs (X.tr pn xe) body D σ H) (ts := fun a cls d D σ H => ∀ oe pn, Zc cls d oe → (∃ vs, oe.data = .fields vs) → tSs (X.suite a ((a, oe) :: pn)) (b₀ :: suite) D σ H) hs hf hN hi hln hc tkv
    (fun W' pn xe t _ => ⟨fun pins s σ H D I hw => pss_sem.run pins s σ H D I (hw pn xe t)⟩) (fun a oe cls d pn hz hff => ⟨fun pins s σ H D I hw => pss_sem.run pins s σ H D I (hw oe pn hz hff)⟩)) fun σv H S R pn xe t => ?_
  refine (h (plus M H) plus_le pn xe ⟨_, t, fun cls d σv' H' σ' M' S' R' ⟨b, hb, fx, q1, q2⟩ => ?_⟩).run σv H S (plus_rel R)
  have im := imm_of R fx R'
  refine ⟨b, hb, fun e a ha oe pn' hz hff => ?_, fun e => hW cls d σv' H' σ' M' S' R' (q2 e)⟩
  exact ((q1 e a oe pn' (R'.fresh ha) hz hff).run _ H' (S'.set (.ref a) i) R').mono ⟨fun _ _ q => DN.unset im q, fun _ _ q => DQ.from im q, fun _ _ q => DN.unset im q, fun _ _ q => DN.unset im q⟩
/-! isinstance of a caught error -/
def clsD : D → Value → Prop := fun d c => match d with
  | .ty n => c = .type n
  | .ref a => c = .ref a
  | _ => False
def RIsE (K : PySem.W.Frag) (D₀ a : Addr) : RA3 := fun ds M Q => match ds with
  | [.ref x, c] => x = a ∧ ∃ cv b, clsD c cv ∧ PySem.W.kitOne K (.ref D₀) cv = some b ∧ Q (.bl b) M
  | _ => False
theorem rd_isE {K : PySem.W.Frag} {D₀ a : Addr} : RDA K (rIsE K D₀ a) (RIsE K D₀ a) := by
  intro H0 H M vs ds Q Q' i R t k q
  match ds, t, q with
  | [.ref x, c], t, q =>
    obtain ⟨hx, cv, b, hc, hk, q1⟩ := q
    subst hx
    obtain ⟨v, u, rfl, r, r2⟩ := t.two
    cases r
    refine ⟨u, cv, b, rfl, fun w hw => ?_, hk, k _ _ _ _ i R (.bl _) q1⟩
    cases r2 <;> first | exact False.elim hc | (cases hc; exact hw)
theorem e_isE {a : Addr} {D₀ : Addr} {oe : Obj} {pn : List (Addr × Obj)} {e1 e2 : Expr} (C : ExcC X.K D₀) (hz : Zc (.ref D₀) none oe) (hf : ∃ vs, oe.data = .fields vs) (hm : X.mg "isinstance" = none)
    (h : AS (X.suite a ((a, oe) :: pn)) [e1, e2] σ M fun ds M1 => RIsE X.K D₀ a ds M1 Q) (hg : Gl X "isinstance" := by rfl) (he : starEach [e1, e2] X.env = (false, eval e1 X.env) :: starEach [e2] X.env := by rfl) (he2 : (backTo pos (starEach [e2] X.env)).any (·.1) = false := by rfl) :
    ES (X.suite a ((a, oe) :: pn)) (.Call (.Name "isinstance" p) [e1, e2] [] pos) σ M Q := e_cb (X := X.suite a ((a, oe) :: pn)) (call_isE C hz hf) rd_isE hm (by decide +kernel) h hg (by decide) (by decide) he he2
/-- a class of the program's own, as a value -/
theorem e_cls {x : Str} {C : Addr} (hm : X.mg x = some (.ref C)) (q : Q (.ref C) M) (hg : Gl X x := by rfl) (hdb : (x == ("__debug__" : Str)) = false := by decide) : ES X (.Name x pos) σ M Q := e_glob (v := .ref C) hm rfl (fun _ => .ref C) q hg hdb
def RSum : RA3 := fun ds M Q => match ds with
  | [.ref a] => ∃ ns : List Int, M a = some (.lst (ns.map D.int)) ∧ Q (.int ns.sum) M
  | _ => False
theorem rd_sum {K : PySem.W.Frag} : RDA K (rSum K) RSum := by
  intro H0 H M vs ds Q Q' i R t k q
  match ds, t, q with
  | [.ref a], t, q =>
    obtain ⟨v, rfl, r⟩ := t.one
    obtain ⟨ns, e, q⟩ := q
    obtain ⟨_, ea, us, rfl, ha⟩ := R a _ e
    cases r
    obtain rfl := tps_ints ha
    exact ⟨a, ns, rfl, SqL.of ea, k _ _ _ _ i R (.int _) q⟩
theorem e_sum (hm : X.mg "sum" = none) (h : AS X [e] σ M fun ds M1 => RSum ds M1 Q) (hc : X.calm = true := by rfl) (hg : Gl X "sum" := by rfl) (he : starEach [e] X.env = (false, eval e X.env) :: starEach [] X.env := by rfl) : ES X (.Call (.Name "sum" p) [e] [] pos) σ M Q := e_cb (cr_sum hc) rd_sum hm (by decide +kernel) h hg (by decide) (by decide) he rfl
end
end DL
set_option maxHeartbeats 1000000
namespace DL
open PySem L2 PySem.Spec PyProof.Rows
theorem wipe2 {σv : L2.St} {j1 j2 : Nat} {x y : V} : L2.wipe (((L2.wipe σv [j1, j2]).set j1 (some x)).set j2 (some y)) [j1, j2] = L2.wipe σv [j1, j2] := by
  simp only [L2.wipe]
  refine List.ext_getElem? fun k => ?_
  simp only [List.getElem?_set, List.length_set]
  by_cases h2 : j2 = k
  · simp [h2]
  · by_cases h1 : j1 = k
    · simp [h1, h2]
    · simp [h1, h2]
section
variable {X : Cx} {elt iter : Expr} {scope : Scope} {σ : Sd} {M : Mp} {Q : QD} {pos p1 p2 tpos : Pos} {x1 x2 : Str} {kk : Nat}
theorem lc2_read (j1 j2 : Nat)
    (h : IS X (.Tuple [.Name x1 p1, .Name x2 p2] kk tpos) iter σ M fun its G M1 => ∀ q, M1 q = none → ∃ Pv : Nat → Mp → Prop, (∀ M', M' q = some (.lst []) → Mle M1 M' → Pv 0 M') ∧ (∀ i M', i ≤ its.length → Pv i M' → G M') ∧
      (∀ i d M', its[i]? = some d → Pv i M' → ∃ d1 d2, d = .tup [d1, d2] ∧ ∀ (s : Shared) (H0 : Hp) (C : Addr) (cl : List (Str × Addr)) (fp : List Addr),
        ES (X.blk s H0 scope (compEnvC scope cl C X.env) fp) elt ((((σ.set j2 none).set j1 none).set j1 (some d1)).set j2 (some d2)) M' fun y M2 => ∃ acc, M2 q = some (.lst acc) ∧ acc.length < sizeLine ∧ SetM M2 q (.lst (acc ++ [y])) (Pv (i + 1))) ∧
      ∀ M', Pv its.length M' → Q (.ref q) M')
    : ∀ σv H, Slots X.K H σv σ → RelM X.K M H → ∀ Q', To X.K H Q Q' → tLc (tI X (.Tuple [.Name x1 p1, .Name x2 p2] kk tpos) iter) (gTup X.K 2 (gCons (gName j1) (gCons (gName j2) gNil))) tYes (tEB X scope elt) ([(x1, j1), (x2, j2)].map (·.2)) σv H Q' := fun σv H S R Q' to => (h.run σv H S R).mono fun J H1 ⟨i1, its, G, M1, R1, wk, k⟩ q hq => by
    obtain ⟨Pv, p0, pG, ps, pe⟩ := k q (R1.fresh hq)
    have imq := Imm.new (o := .lst []) hq
    refine ⟨fun i m H' => m = its.length - i ∧ i ≤ its.length ∧ Imm H1 H' ∧ ∃ M', RelM X.K M' H' ∧ Pv i M', ⟨its.length, by simp, Nat.zero_le _, imq, _, R1.new (m := .lst []) hq ⟨_, rfl, .nil⟩, p0 _ updM_same (Mle.new (R1.fresh hq))⟩, ?_⟩
    rintro i m H2 ⟨rfl, hi, i2, M2, R2, p2⟩
    by_cases hlt : i < its.length
    · refine .inr ⟨wk.goes i H2 M2 i2 R2 (pG i M2 hi p2) hlt, fun H' => Imm H1 H' ∧ ∃ M', RelM X.K M' H' ∧ Pv (i + 1) M', fun H' ⟨a, b⟩ => ⟨its.length - (i + 1), by omega, rfl, hlt, a, b⟩, fun xv H3 y => ?_⟩
      have hd : its[i]? = some its[i] := List.getElem?_eq_getElem hlt
      obtain ⟨i3, R3, t3⟩ := wk.yields i H2 M2 xv H3 _ i2 R2 (pG i M2 hi p2) hd y
      obtain ⟨d1, d2, ed, pe2⟩ := ps i _ M2 hd p2
      rw [ed] at t3
      cases t3 with
      | @tup a xs _ hs ha =>
        obtain ⟨v1, v2, rfl, t1, t2⟩ := ha.two
        refine ⟨a, _, rfl, hs, rfl, v1, [v2], rfl, ?_⟩
        show ∃ x r, [v2] = x :: r ∧ _
        refine ⟨v2, [], rfl, ?_⟩
        show [] = [] ∧ _
        refine ⟨rfl, ?_⟩
        refine ⟨wipe2, ?_⟩
        intro s0 H0 C cl fp
        have S3 : Slots X.K H3 (((L2.wipe σv [j1, j2]).set j1 (some v1)).set j2 (some v2)) ((((σ.set j2 none).set j1 none).set j1 (some d1)).set j2 (some d2)) := ((((S.mono ((i1.trans i2).trans i3)).wipe1 j2).wipe1 j1).set t1 j1).set t2 j2
        refine (pe2 s0 H0 C cl fp).go (H0 := H3) S3 R3 fun yv H4 yd M4 i4 R4 t4 ⟨acc, ea, hz, p4⟩ => ?_
        obtain ⟨_, eh, us, rfl, ha⟩ := R4 q _ ea
        have im4 : Imm H4 (upd H4 q (.lst (us ++ [yv]))) := Imm.set eh (fun z => z)
        exact ⟨us, eh, by rw [ha.length]; exact hz, ((i2.trans i3).trans i4).trans im4, _, R4.set (m := .lst (acc ++ [yd])) eh (fun z => z) ⟨_, rfl, (Tps.mono im4 _ _ ha).append (.cons (Tp.mono im4 _ _ t4) .nil)⟩, SetM.at p4⟩
    · have e : i = its.length := by omega
      subst e
      exact .inl ⟨wk.stops H2 M2 i2 R2 (pG _ M2 hi p2), to _ _ _ _ (i1.trans i2) R2 (.ref q) (pe M2 p2)⟩
theorem e_lc2 (j1 j2 : Nat) (hN : X.N.Nodup) (ok : BlkOk X.N X.env.scope scope [(x1, j1), (x2, j2)])
    (h : IS X (.Tuple [.Name x1 p1, .Name x2 p2] kk tpos) iter σ M fun its G M1 => ∀ q, M1 q = none → ∃ Pv : Nat → Mp → Prop, (∀ M', M' q = some (.lst []) → Mle M1 M' → Pv 0 M') ∧ (∀ i M', i ≤ its.length → Pv i M' → G M') ∧
      (∀ i d M', its[i]? = some d → Pv i M' → ∃ d1 d2, d = .tup [d1, d2] ∧ ∀ (s : Shared) (H0 : Hp) (C : Addr) (cl : List (Str × Addr)) (fp : List Addr),
        ES (X.blk s H0 scope (compEnvC scope cl C X.env) fp) elt ((((σ.set j2 none).set j1 none).set j1 (some d1)).set j2 (some d2)) M' fun y M2 => ∃ acc, M2 q = some (.lst acc) ∧ acc.length < sizeLine ∧ SetM M2 q (.lst (acc ++ [y])) (Pv (i + 1))) ∧
      ∀ M', Pv its.length M' → Q (.ref q) M')
    (h1 : X.N[j1]? = some x1 := by rfl) (h2 : X.N[j2]? = some x2 := by rfl) (hc : X.calm = true := by rfl)
    (hl1 : ∀ cl C, Loc (compEnvC scope cl C X.env).scope x1 := by exact fun _ _ => Or.inl rfl) (hl2 : ∀ cl C, Loc (compEnvC scope cl C X.env).scope x2 := by exact fun _ _ => Or.inl rfl)
    (hf1 : ∀ (s : Shared) (H0 : Hp) (C : Addr) (cl : List (Str × Addr)) (fp : List Addr), (X.blk s H0 scope (compEnvC scope cl C X.env) fp).fn x1 = true ∨ (compEnvC scope cl C X.env).scope.names.lookup x1 = some .local := by exact fun _ _ _ _ _ => Or.inr rfl)
    (hf2 : ∀ (s : Shared) (H0 : Hp) (C : Addr) (cl : List (Str × Addr)) (fp : List Addr), (X.blk s H0 scope (compEnvC scope cl C X.env) fp).fn x2 = true ∨ (compEnvC scope cl C X.env).scope.names.lookup x2 = some .local := by exact fun _ _ _ _ _ => Or.inr rfl)
    (hs : ∀ x, foldedSetIterable iter X.env x = pure x := by intro _; rfl) : ES X (.ListComp elt [⟨.Tuple [.Name x1 p1, .Name x2 p2] kk tpos, iter, [], 0⟩] scope pos) σ M Q :=
  ES.of (pe_lc (own := [(x1, j1), (x2, j2)]) (g := gTup X.K 2 (gCons (gName j1) (gCons (gName j2) gNil))) (tt := tYes) (te := tEB X scope elt) hc hN pi_sem ok
      (fun s H0 C cl fp => pg_tup (X := X.blk s H0 scope (compEnvC scope cl C X.env) fp) hc (pgs_cons (pg_name (X := X.blk s H0 scope (compEnvC scope cl C X.env) fp) (i := j1) hN h1 (hl1 cl C) (hf1 s H0 C cl fp)) (pgs_cons (pg_name (X := X.blk s H0 scope (compEnvC scope cl C X.env) fp) (i := j2) hN h2 (hl2 cl C) (hf2 s H0 C cl fp)) pgs_nil rfl) rfl) rfl rfl) (fun _ _ _ _ _ => pts_nil)
      (fun s H0 C cl fp => ⟨fun pins s1 σ H Q I hw => hw s H0 C cl fp pins s1 I⟩) hs) fun σv H S R => lc2_read j1 j2 h σv H S R _ To.dq
end
/-! two lists, by content -/
def REqL : R3 := fun x y M Q => match x, y with
  | .ref a, .ref b => ∃ xs ys : List D, M a = some (.lst xs) ∧ M b = some (.lst ys) ∧ (D.rol xs).shp = true ∧ (D.rol ys).shp = true ∧ Q (.bl (D.eqv (.rol xs) (.rol ys))) M
  | _, _ => False
theorem rd_eqL {K : PySem.W.Frag} : RD K (rEqD K) REqL := by
  intro H0 H M vx vy x y Q Q' i R tx ty k q
  cases tx <;> first | exact False.elim q | skip
  case ref a =>
    cases ty <;> first | exact False.elim q | skip
    case ref b =>
      obtain ⟨xs, ys, e1, e2, s1, s2, q⟩ := q
      obtain ⟨_, ea, us, rfl, ha⟩ := R a _ e1
      obtain ⟨_, eb, ws, rfl, hb⟩ := R b _ e2
      unfold D.shp at s1 s2
      rw [Bool.and_eq_true] at s1 s2
      exact ⟨_, _, .lst (SqL.of ea) (Tps.dp _ _ (by simpa only [D.pure] using s1.1) ha), .lst (SqL.of eb) (Tps.dp _ _ (by simpa only [D.pure] using s2.1) hb), s1.2, s2.2, k _ _ _ _ i R (.bl _) q⟩
theorem e_eqL {X : Cx} {a b : Expr} {σ : Sd} {M : Mp} {Q : QD} {pos : Pos} (hr : ∃ k, Room k X.A) (h : ES X a σ M fun x M1 => ES X b σ M1 fun y M2 => REqL x y M2 Q) : ES X (.Compare a [.Eq] [b] pos) σ M Q := e_cmp (op_eqD hr.choose_spec.units) rd_eqL (nomark _) h
end DL
set_option maxHeartbeats 1000000
namespace DL
open PySem L2 PySem.Spec PyProof.Rows
/-! str of an int -/
def RStrI : RA3 := fun ds M Q => match ds with
  | [.int i] => i.natAbs.log2 < 1920 ∧ Q (.str (toString i)) M
  | _ => False
theorem rd_strI {K : PySem.W.Frag} : RDA K (fun xs H Q => ∃ i, xs = [.int i] ∧ i.natAbs.log2 < 1920 ∧ Q (.str (toString i)) H) RStrI := by
  intro H0 H M vs ds Q Q' i R t k q
  match ds, t, q with
  | [.int n], t, q =>
    obtain ⟨v, rfl, r⟩ := t.one
    cases r
    exact ⟨_, rfl, q.1, k _ _ _ _ i R (.str _) q.2⟩
section
variable {X : Cx} {e : Expr} {σ : Sd} {M : Mp} {Q : QD} {pos p : Pos}
theorem e_strI (hm : X.mg "str" = none) (h : AS X [e] σ M fun ds M1 => RStrI ds M1 Q) (hg : Gl X "str" := by rfl) (he : starEach [e] X.env = (false, eval e X.env) :: starEach [] X.env := by rfl) : ES X (.Call (.Name "str" p) [e] [] pos) σ M Q := e_ct call_str_int rd_strI hm (by decide +kernel) h hg (by decide) (by decide) he rfl
end
theorem cps_app (x y : Str) : (x ++ y).cps.toList = x.cps.toList ++ y.cps.toList := by
  show (x.cps ++ y.cps).toList = _
  rw [Array.toList_append]
theorem cps_one (c : Nat) : (⟨#[c]⟩ : Str).cps.toList = [c] := rfl
end DL
set_option maxHeartbeats 1000000
namespace DL
open PySem L2 PySem.Spec PyProof.Rows
section
variable {X : Cx} {a b c : Expr} {σ : Sd} {M : Mp} {pos : Pos} {Q : Bool → Mp → Prop} {op op' : CmpOp} {r r' : R2} {R R' : R3}
/-- a op b op' c, as a test -/
theorem t_chain (ho : OpR X (compareOp op) r) (hR : RD X.K r R) (ho' : OpR X (compareOp op') r') (hR' : RD X.K r' R') (hm : lastMarks [op, op'] [b, c] = false)
    (h : ES X a σ M fun x M1 => ES X b σ M1 fun y M2 => R x y M2 fun d M3 => ∃ k, d = .bl k ∧ BQ k (ES X c σ M3 fun z M4 => R' y z M4 fun d M5 => ∃ k, d = .bl k ∧ Q k M5) (Q false M3)) : TT3 X (.Compare a [op, op'] [b, c] pos) σ M Q :=
  TT3.of (pt_chain ho ho' pe_sem pe_sem pe_sem hm) fun σv H S RM => h.go (H0 := H) S RM fun v H1 x M1 i1 R1 t1 q1 => q1.go (H0 := H) (S.mono i1) R1 fun u H2 y M2 i2 R2 t2 q2 => by
    refine hR H2 H2 M2 v u x y _ _ (Imm.refl _) R2 (Tp.mono i2 _ _ t1) t2 (fun w H3 d M3 i3 R3 t3 q3 => ?_) q2
    obtain ⟨k, rfl, q4⟩ := q3
    cases t3
    refine ⟨k, rfl, ?_⟩
    cases k with
    | true =>
      rw [if_pos rfl]
      refine (q4.1 rfl).go (H0 := H3) (S.mono ((i1.trans i2).trans i3)) R3 fun z H4 dz M4 i4 R4 t4 q5 => ?_
      refine hR' H H4 M4 u z y dz _ _ (((i1.trans i2).trans i3).trans i4) R4 (Tp.mono (i3.trans i4) _ _ t2) t4 (fun w H5 d M5 i5 R5 t5 q6 => ?_) q5
      obtain ⟨k', rfl, q6⟩ := q6
      cases t5
      exact ⟨k', rfl, i5, M5, R5, q6⟩
    | false =>
      rw [if_neg Bool.false_ne_true]
      exact ⟨false, rfl, (i1.trans i2).trans i3, M3, R3, q4.2 rfl⟩
/-- a <= b < c, ints -/
theorem t_leLt (h : ES X a σ M fun x M1 => ES X b σ M1 fun y M2 => RInt0 (fun i j => .bl (decide (i ≤ j))) x y M2 fun d M3 => ∃ k, d = .bl k ∧ BQ k (ES X c σ M3 fun z M4 => RInt0 (fun i j => .bl (decide (i < j))) y z M4 fun d M5 => ∃ k, d = .bl k ∧ Q k M5) (Q false M3)) (hm : lastMarks [.LtE, .Lt] [b, c] = false := by with_unfolding_all rfl) : TT3 X (.Compare a [.LtE, .Lt] [b, c] pos) σ M Q :=
  t_chain op_le rd_cmp0 op_lt rd_cmp0 hm h
end
end DL
set_option maxHeartbeats 1000000
namespace DL
open PySem L2 PySem.Spec PyProof.Rows
/-! isinstance of a caught error, a tuple of classes -/
def rIsET (K : PySem.W.Frag) (D₀ a : Addr) : List V → Hp → VK → Prop := fun xs H Q => ∃ (tp : Addr) (cs : List V) (us : List Value) (b : Bool), xs = [.ref a, .ref tp] ∧ SqT K H tp cs ∧ (∀ ws, Vals cs ws → ws = us) ∧ PySem.W.kitAny K (.ref D₀) us = some b ∧ Q (.bl b) H
theorem call_isET {X : Cx} {a D₀ : Addr} {oe : Obj} {pn : List (Addr × Obj)} (C : ExcC X.K D₀) (hz : Zc (.ref D₀) none oe) (hf : ∃ vs, oe.data = .fields vs) : CallR (X.suite a ((a, oe) :: pn)) (.builtin "isinstance") (rIsET X.K D₀ a) := by
  intro pins s σ H xs us Q I r h
  obtain ⟨tp, cs, ws, b, rfl, hT, hcv, e, q⟩ := h
  cases r with
  | cons rx rr =>
    cases rr with
    | cons rt rr =>
      cases rr
      cases rx
      cases rt
      obtain ⟨hget, _⟩ := I.pin (a, oe) (List.mem_append.mpr (.inl List.mem_cons_self))
      obtain ⟨vs, hv⟩ := hf
      have J : PySem.W.InstAt s.heap a oe D₀ none := by
        obtain ⟨oc, od, oda, osl⟩ := oe
        obtain ⟨h1, h2⟩ := hz
        dsimp only at h1 h2 hv
        subst h1 h2 hv
        exact ⟨hget, rfl, rfl, trivial⟩
      obtain ⟨its, rv, p, _⟩ := I.tuple hT
      have pt : s.heap.IsTuple tp its.toArray := p
      obtain ⟨o, h1, h2, n, h3⟩ := pt
      have e3 := hcv its rv
      subst e3
      obtain ⟨oc, od, dt, sl⟩ := o
      simp only at h2 h3
      subst h2 h3
      exact PySem.W.kia_tup (PySem.W.handS_kitx_exc C.hg C.hk C.hs C.hd C.ha C.hn C.ht C.hm) I.kIn J h1 e (fun z => nomatch z) fun tk => ⟨.bl b, H, I.kept (t' := tk) fun _ _ z => z, rfl, q⟩
def clsDs : List D → List Value → Prop
  | [], [] => True
  | c :: cs, u :: us => clsD c u ∧ clsDs cs us
  | _, _ => False
theorem clsDs_ok {K : PySem.W.Frag} {H : Hp} : ∀ {cs : List D} {us : List Value} {vs : List V} {ws : List Value}, clsDs cs us → Tps K H vs cs → Vals vs ws → ws = us
  | [], [], _, _, _, .nil, .nil => rfl
  | c :: cs, u :: us, _, _, h, .cons t ts, .cons r rs => by
    rw [clsDs_ok h.2 ts rs]
    have h1 := h.1
    cases t <;> first | exact False.elim h1 | skip
    case ref a => cases h1; cases r; rfl
    case ty n => cases h1; cases r; rfl
  | [], _ :: _, _, _, h, _, _ => h.elim
  | _ :: _, [], _, _, h, _, _ => h.elim
def RIsET (K : PySem.W.Frag) (D₀ a : Addr) : RA3 := fun ds M Q => match ds with
  | [.ref x, .tup cs] => x = a ∧ ∃ us b, clsDs cs us ∧ PySem.W.kitAny K (.ref D₀) us = some b ∧ Q (.bl b) M
  | _ => False
theorem rd_isET {K : PySem.W.Frag} {D₀ a : Addr} : RDA K (rIsET K D₀ a) (RIsET K D₀ a) := by
  intro H0 H M vs ds Q Q' i R t k q
  match ds, t, q with
  | [.ref x, .tup cs], t, q =>
    obtain ⟨hx, us, b, hc, hk, q1⟩ := q
    subst hx
    obtain ⟨v, u, rfl, r, r2⟩ := t.two
    cases r
    cases r2 with
    | tup hs ha => exact ⟨_, _, us, b, rfl, hs, fun ws hw => clsDs_ok hc ha hw, hk, k _ _ _ _ i R (.bl _) q1⟩
theorem e_isET {X : Cx} {σ : Sd} {M : Mp} {Q : QD} {pos p : Pos} {a : Addr} {D₀ : Addr} {oe : Obj} {pn : List (Addr × Obj)} {e1 e2 : Expr} (C : ExcC X.K D₀) (hz : Zc (.ref D₀) none oe) (hf : ∃ vs, oe.data = .fields vs) (hm : X.mg "isinstance" = none)
    (h : AS (X.suite a ((a, oe) :: pn)) [e1, e2] σ M fun ds M1 => RIsET X.K D₀ a ds M1 Q) (hg : Gl X "isinstance" := by rfl) (he : starEach [e1, e2] X.env = (false, eval e1 X.env) :: starEach [e2] X.env := by rfl) (he2 : (backTo pos (starEach [e2] X.env)).any (·.1) = false := by rfl) :
    ES (X.suite a ((a, oe) :: pn)) (.Call (.Name "isinstance" p) [e1, e2] [] pos) σ M Q := e_cb (X := X.suite a ((a, oe) :: pn)) (call_isET C hz hf) rd_isET hm (by decide +kernel) h hg (by decide) (by decide) he he2
end DL
set_option maxHeartbeats 1000000
namespace DL
open PySem L2 PySem.Spec PyProof.Rows
/-! dicts whose keys are ints and texts -/
section
variable {κ : Type} [DecidableEq κ]
def valD (kvs : List (κ × D)) (k : κ) : Option D := (kvs.find? fun kv => decide (kv.1 = k)).map (·.2)
def putD (kvs : List (κ × D)) (k : κ) (v : D) : List (κ × D) :=
  if (kvs.any fun kv => decide (kv.1 = k)) = true then kvs.map (fun kv => if kv.1 = k then (kv.1, v) else kv) else kvs ++ [(k, v)]
def dropD (kvs : List (κ × D)) (k : κ) : List (κ × D) := kvs.filter fun kv => decide (kv.1 ≠ k)
theorem valD_nil {k : κ} : valD ([] : List (κ × D)) k = none := rfl
theorem valD_pos {p : κ × D} {r : List (κ × D)} {k : κ} (e : p.1 = k) : valD (p :: r) k = some p.2 := by simp [valD, List.find?_cons, e]
theorem valD_neg {p : κ × D} {r : List (κ × D)} {k : κ} (e : ¬ p.1 = k) : valD (p :: r) k = valD r k := by simp [valD, List.find?_cons, e]
theorem valD_any (k : κ) : ∀ kvs : List (κ × D), (kvs.any fun kv => decide (kv.1 = k)) = (valD kvs k).isSome
  | [] => rfl
  | p :: r => by
    rw [List.any_cons]
    by_cases e : p.1 = k
    · simp only [valD_pos e, decide_eq_true e, Bool.true_or, Option.isSome_some]
    · rw [valD_neg e, decide_eq_false e, Bool.false_or]; exact valD_any k r
theorem putD_new {kvs : List (κ × D)} {k : κ} (v : D) (h : valD kvs k = none) : putD kvs k v = kvs ++ [(k, v)] := by
  unfold putD
  rw [valD_any, h]
  rfl
theorem putD_old {kvs : List (κ × D)} {k : κ} (v : D) (h : (valD kvs k).isSome = true) : putD kvs k v = kvs.map (fun kv => if kv.1 = k then (kv.1, v) else kv) := by
  unfold putD
  rw [valD_any, h]
  rfl
theorem length_putD (kvs : List (κ × D)) (k : κ) (v : D) : (putD kvs k v).length ≤ kvs.length + 1 := by
  unfold putD
  split
  · rw [List.length_map]; omega
  · rw [List.length_append]; simp
theorem valD_map (k j : κ) (y : D) : ∀ kvs : List (κ × D), valD (kvs.map fun kv => if kv.1 = k then (kv.1, y) else kv) j = (valD kvs j).map fun x => if j = k then y else x
  | [] => rfl
  | p :: r => by
    have ih := valD_map k j y r
    rw [List.map_cons]
    by_cases h : p.1 = k
    · rw [if_pos h]
      by_cases e : p.1 = j
      · rw [valD_pos (p := (p.1, y)) e, valD_pos e, Option.map_some, if_pos (e.symm.trans h)]
      · rw [valD_neg (p := (p.1, y)) e, valD_neg e, ih]
    · rw [if_neg h]
      by_cases e : p.1 = j
      · rw [valD_pos (p := p) e, valD_pos e, Option.map_some, if_neg (fun z => h (e.trans z))]
      · rw [valD_neg (p := p) e, valD_neg e, ih]
theorem valD_app (j : κ) (ls : List (κ × D)) : ∀ kvs : List (κ × D), valD (kvs ++ ls) j = (valD kvs j).or (valD ls j)
  | [] => by rw [List.nil_append, valD_nil]; rfl
  | p :: r => by
    rw [List.cons_append]
    by_cases e : p.1 = j
    · rw [valD_pos e, valD_pos e]; rfl
    · rw [valD_neg e, valD_neg e, valD_app j ls r]
theorem valD_put (kvs : List (κ × D)) (k j : κ) (y : D) : valD (putD kvs k y) j = if j = k then some y else valD kvs j := by
  cases h : valD kvs k with
  | none =>
    rw [putD_new y h, valD_app]
    by_cases e : j = k
    · subst e
      rw [h, if_pos rfl, valD_pos rfl]; rfl
    · rw [if_neg e, valD_neg (fun z => e z.symm), valD_nil]
      cases valD kvs j <;> rfl
  | some v =>
    rw [putD_old y (by rw [h]; rfl), valD_map]
    by_cases e : j = k
    · subst e
      rw [h, if_pos rfl]; simp
    · rw [if_neg e]
      simp only [if_neg e]
      cases valD kvs j <;> rfl
theorem valD_drop (k j : κ) : ∀ kvs : List (κ × D), valD (dropD kvs k) j = if j = k then none else valD kvs j
  | [] => by simp [dropD, valD]
  | p :: r => by
    have ih := valD_drop k j r
    unfold dropD at ih ⊢
    rw [List.filter_cons]
    by_cases h : p.1 = k
    · rw [if_neg (by simp [h]), ih]
      by_cases e : j = k
      · rw [if_pos e, if_pos e]
      · rw [if_neg e, if_neg e, valD_neg (fun z => e (z.symm.trans h))]
    · rw [if_pos (by simp [h])]
      by_cases e : p.1 = j
      · rw [valD_pos e, valD_pos e, if_neg (fun z => h (e.trans z))]
      · rw [valD_neg e, valD_neg e, ih]
theorem keys_put (kvs : List (κ × D)) (k : κ) (y : D) : (putD kvs k y).map (·.1) = if (valD kvs k).isSome = true then kvs.map (·.1) else kvs.map (·.1) ++ [k] := by
  cases h : valD kvs k with
  | none => rw [putD_new y h, List.map_append]; rfl
  | some v =>
    rw [putD_old y (by rw [h]; rfl), List.map_map]
    simp only [Option.isSome_some, if_true]
    refine List.map_congr_left fun p _ => ?_
    simp only [Function.comp]
    split <;> rfl
theorem valD_mem {kvs : List (κ × D)} {k : κ} {d : D} (h : valD kvs k = some d) : (k, d) ∈ kvs := by
  induction kvs with
  | nil => cases h
  | cons p r ih =>
    by_cases e : p.1 = k
    · rw [valD_pos e] at h
      cases h
      subst e
      exact List.mem_cons_self
    · rw [valD_neg e] at h
      exact List.mem_cons_of_mem _ (ih h)
theorem valD_some {kvs : List (κ × D)} {k : κ} (h : k ∈ kvs.map (·.1)) : ∃ d, valD kvs k = some d := by
  induction kvs with
  | nil => simp at h
  | cons p r ih =>
    by_cases e : p.1 = k
    · exact ⟨_, valD_pos e⟩
    · rw [valD_neg e]
      rw [List.map_cons, List.mem_cons] at h
      rcases h with h | h
      · exact absurd h.symm e
      · exact ih h
theorem valD_none {kvs : List (κ × D)} {k : κ} (h : k ∉ kvs.map (·.1)) : valD kvs k = none := by
  cases e : valD kvs k with
  | none => rfl
  | some d => exact absurd (List.mem_map.mpr ⟨_, valD_mem e, rfl⟩) h
variable {K : PySem.W.Frag} {H : Hp}
theorem KVs.val {k : κ} : ∀ {vs : List (κ × V)} {ds : List (κ × D)}, KVs K H vs ds → (∀ d, valD ds k = some d → ∃ v, valV vs k = some v ∧ Tp K H v d) ∧ (valD ds k = none → valV vs k = none)
  | _, _, .nil => ⟨(fun _ h => by cases h), fun _ => rfl⟩
  | _, _, .cons (k := k') (v := v) (vs := vs) (ds := ds) r t => by
    obtain ⟨h1, h2⟩ := KVs.val (k := k) t
    by_cases e : k' = k
    · refine ⟨fun d h => ?_, fun h => ?_⟩
      · rw [valD_pos (p := (k', _)) e] at h
        cases h
        exact ⟨_, valV_pos (p := (k', v)) e, r⟩
      · rw [valD_pos (p := (k', _)) e] at h
        cases h
    · rw [valD_neg (p := (k', _)) e, valV_neg (p := (k', _)) e]
      exact ⟨h1, h2⟩
theorem KVs.isSome {k : κ} {vs : List (κ × V)} {ds : List (κ × D)} (h : KVs K H vs ds) : (valV vs k).isSome = (valD ds k).isSome := by
  obtain ⟨h1, h2⟩ := KVs.val (k := k) h
  cases e : valD ds k with
  | none => rw [h2 e]; rfl
  | some d => obtain ⟨v, ev, _⟩ := h1 d e; rw [ev]; rfl
theorem KVs.app : ∀ {vs us : List (κ × V)} {ds es : List (κ × D)}, KVs K H vs ds → KVs K H us es → KVs K H (vs ++ us) (ds ++ es)
  | _, _, _, _, .nil, s => s
  | _, _, _, _, .cons r t, s => .cons r (KVs.app t s)
theorem KVs.repl {k : κ} {y : V} {d : D} (ry : Tp K H y d) : ∀ {vs : List (κ × V)} {ds : List (κ × D)}, KVs K H vs ds → KVs K H (vs.map fun kv => if kv.1 = k then (kv.1, y) else kv) (ds.map fun kv => if kv.1 = k then (kv.1, d) else kv)
  | _, _, .nil => .nil
  | _, _, .cons (k := k') r t => by
    rw [List.map_cons, List.map_cons]
    by_cases e : k' = k
    · simp only [if_pos e]
      exact .cons ry (KVs.repl ry t)
    · simp only [if_neg e]
      exact .cons r (KVs.repl ry t)
theorem KVs.any {k : κ} {vs : List (κ × V)} {ds : List (κ × D)} (h : KVs K H vs ds) : (vs.any fun kv => decide (kv.1 = k)) = (ds.any fun kv => decide (kv.1 = k)) := by
  rw [valV_any, valD_any, h.isSome]
theorem KVs.put {k : κ} {y : V} {d : D} {vs : List (κ × V)} {ds : List (κ × D)} (h : KVs K H vs ds) (ry : Tp K H y d) : KVs K H (putK vs k y) (putD ds k d) := by
  unfold putK putD
  rw [h.any]
  split
  · exact KVs.repl ry h
  · exact h.app (.cons ry .nil)
theorem KVs.drop {k : κ} : ∀ {vs : List (κ × V)} {ds : List (κ × D)}, KVs K H vs ds → KVs K H (dropK vs k) (dropD ds k)
  | _, _, .nil => .nil
  | _, _, .cons (k := k') r t => by
    unfold dropK dropD
    rw [List.filter_cons, List.filter_cons]
    by_cases e : k' = k
    · rw [if_neg (by simp [e]), if_neg (by simp [e])]
      exact KVs.drop t
    · rw [if_pos (by simp [e]), if_pos (by simp [e])]
      exact .cons r (KVs.drop t)
theorem KVs.keys : ∀ {vs : List (κ × V)} {ds : List (κ × D)}, KVs K H vs ds → vs.map (·.1) = ds.map (·.1)
  | _, _, .nil => rfl
  | _, _, .cons _ t => by rw [List.map_cons, List.map_cons, KVs.keys t]
end
/-- a key as data -/
def kD : Key → D
  | .inl i => .int i
  | .inr x => .str x
theorem tp_kD {K : PySem.W.Frag} {H : Hp} {v : V} {k : Key} (t : Tp K H v (kD k)) : v = kV k := by
  cases k <;> cases t <;> rfl
theorem tp_kV {K : PySem.W.Frag} {H : Hp} (k : Key) : Tp K H (kV k) (kD k) := by
  cases k
  · exact .int _
  · exact .str _
theorem tps_keys {K : PySem.W.Frag} {H : Hp} : ∀ {vs : List (Key × V)} {ds : List (Key × D)}, KVs K H vs ds → Tps K H (vs.map fun kv => kV kv.1) (ds.map fun kv => kD kv.1)
  | _, _, .nil => .nil
  | _, _, .cons (k := k) _ t => .cons (tp_kV k) (tps_keys t)
section
variable {X : Cx} {e o i value a b : Expr} {es : List Expr} {σ : Sd} {M : Mp} {Q : QD} {QB : Bool → Mp → Prop} {E : DE} {pos pos' p p2 tpos apos cpos mpos : Pos}
/-- d[k] -/
def RDGet : R3 := fun x y M Q => match x with
  | .ref a => ∃ kvs k d, M a = some (.dK kvs) ∧ y = kD k ∧ valD kvs k = some d ∧ Q d M
  | _ => False
theorem e_dget (hr : ∃ k, Room k X.A) (h : ES X o σ M fun x M1 => ES X i σ M1 fun y M2 => RDGet x y M2 Q) (hs : NoSl i := by exact fun _ _ => rfl) : ES X (.Subscript o i pos) σ M Q :=
  ES.of (pe_dget (by have := hr.choose_spec.units; omega) pe_sem pe_sem hs) fun σv H S R => h.go (H0 := H) S R fun v H1 x M1 i1 R1 t1 q1 => q1.go (H0 := H1) (S.mono i1) R1 fun u H2 y M2 i2 R2 t2 q2 => by
    have t1' := Tp.mono i2 _ _ t1
    cases t1' <;> first | exact False.elim q2 | skip
    case ref a =>
      obtain ⟨kvs, k, d, ea, rfl, ev, q⟩ := q2
      obtain ⟨_, eh, us, rfl, hk⟩ := R2 a _ ea
      obtain ⟨v, evv, tv⟩ := (hk.val (k := k)).1 d ev
      obtain rfl := tp_kD t2
      exact ⟨a, v, rfl, by rw [← evv]; exact DGet.k eh, i1.trans i2, d, M2, R2, tv, q⟩
def RDIn (neg : Bool) : R3 := fun y x M Q => match x with
  | .ref a => ∃ kvs k, M a = some (.dK kvs) ∧ y = kD k ∧ Q (.bl (if neg then !(valD kvs k).isSome else (valD kvs k).isSome)) M
  | _ => False
theorem din_go {H : Hp} {σv : L2.St} (h : ES X i σ M fun y M1 => ES X o σ M1 fun x M2 => RDIn false y x M2 (QBl QB)) (S : Slots X.K H σv σ) (R : RelM X.K M H) : tDIn (tE X i) (tE X o) σv H fun v H' => ∃ c, v = .bl c ∧ DB X.K H QB c H' :=
  h.go (H0 := H) S R fun v H1 y M1 i1 R1 t1 q1 => q1.go (H0 := H1) (S.mono i1) R1 fun u H2 x M2 i2 R2 t2 q2 => by
    have t1' := Tp.mono i2 _ _ t1
    cases t2 <;> first | exact False.elim q2 | skip
    case ref a =>
      obtain ⟨kvs, k, ea, rfl, q⟩ := q2
      obtain ⟨_, eh, us, rfl, hk⟩ := R2 a _ ea
      obtain rfl := tp_kD t1'
      exact ⟨a, _, rfl, DGet.k eh, _, rfl, i1.trans i2, M2, R2, by rw [hk.isSome]; exact q⟩
theorem dnin_go {H : Hp} {σv : L2.St} (h : ES X i σ M fun y M1 => ES X o σ M1 fun x M2 => RDIn true y x M2 (QBl QB)) (S : Slots X.K H σv σ) (R : RelM X.K M H) : tDNotIn (tE X i) (tE X o) σv H fun v H' => ∃ c, v = .bl c ∧ DB X.K H QB c H' :=
  h.go (H0 := H) S R fun v H1 y M1 i1 R1 t1 q1 => q1.go (H0 := H1) (S.mono i1) R1 fun u H2 x M2 i2 R2 t2 q2 => by
    have t1' := Tp.mono i2 _ _ t1
    cases t2 <;> first | exact False.elim q2 | skip
    case ref a =>
      obtain ⟨kvs, k, ea, rfl, q⟩ := q2
      obtain ⟨_, eh, us, rfl, hk⟩ := R2 a _ ea
      obtain rfl := tp_kD t1'
      exact ⟨a, _, rfl, DGet.k eh, _, rfl, i1.trans i2, M2, R2, by rw [hk.isSome]; exact q⟩
theorem t_din (hr : ∃ k, Room k X.A) (h : ES X i σ M fun y M1 => ES X o σ M1 fun x M2 => RDIn false y x M2 (QBl QB)) (hm : behindInMarks .In o = false := by rfl) : TT3 X (.Compare i [.In] [o] pos) σ M QB :=
  TT3.of (pt_cmp (pc_din (by have := hr.choose_spec.units; omega) pe_sem pe_sem) hm) fun σv H S R => din_go h S R
theorem t_dnin (hr : ∃ k, Room k X.A) (h : ES X i σ M fun y M1 => ES X o σ M1 fun x M2 => RDIn true y x M2 (QBl QB)) (hm : behindInMarks .NotIn o = false := by rfl) : TT3 X (.Compare i [.NotIn] [o] pos) σ M QB :=
  TT3.of (pt_cmp (pc_dnotin (by have := hr.choose_spec.units; omega) pe_sem pe_sem) hm) fun σv H S R => dnin_go h S R
/-- d[k] = v: v first, then d, k -/
def RDPut (x y v : D) (M : Mp) (Q : Mp → Prop) : Prop := match x with
  | .ref a => ∃ kvs k, M a = some (.dK kvs) ∧ y = kD k ∧ kvs.length < sizeLine ∧ SetM M a (.dK (putD kvs k v)) Q
  | _ => False
theorem s_dput (hr : ∃ k, Room k X.A) (h : ES X value σ M fun v M1 => ES X o σ M1 fun x M2 => ES X i σ M2 fun y M3 => RDPut x y v M3 fun M4 => E.nx σ M4) (hs : swapsWith value (some (.Subscript o i pos')) pos.line X.env = pure false := by rfl) : SS X (.Assign [.Subscript o i pos'] value pos) σ M E :=
  SS.of (ps_dput (by have := hr.choose_spec.units; omega) pe_sem pe_sem pe_sem hs) fun σv H S R => h.go (H0 := H) S R fun v H1 d M1 i1 R1 t1 q1 => q1.go (H0 := H1) (S.mono i1) R1 fun u H2 x M2 i2 R2 t2 q2 => q2.go (H0 := H2) ((S.mono i1).mono i2) R2 fun ky H3 y M3 i3 R3 t3 q3 => by
    have t2' := Tp.mono i3 _ _ t2
    cases t2' <;> first | exact False.elim q3 | skip
    case ref a =>
      obtain ⟨kvs, k, ea, rfl, hl, q⟩ := q3
      obtain ⟨_, eh, us, rfl, hk⟩ := R3 a _ ea
      obtain rfl := tp_kD t3
      have im : Imm H3 (upd H3 a (.dK (putK us k v))) := Imm.set eh (fun z => z)
      have ii := (i1.trans i2).trans i3
      exact ⟨a, _, rfl, DPut.k eh (by rw [hk.length]; exact hl), ii.trans im, σ, _, S.mono (ii.trans im), R3.set (m := .dK (putD kvs k d)) eh (fun z => z) ⟨_, rfl, (hk.mono im).put (Tp.mono ((i2.trans i3).trans im) _ _ t1)⟩, SetM.at q⟩
/-- del d[k] -/
def RDDel (x y : D) (M : Mp) (Q : Mp → Prop) : Prop := match x with
  | .ref a => ∃ kvs k, M a = some (.dK kvs) ∧ y = kD k ∧ (valD kvs k).isSome = true ∧ SetM M a (.dK (dropD kvs k)) Q
  | _ => False
theorem s_ddel (h : ES X o σ M fun x M1 => ES X i σ M1 fun y M2 => RDDel x y M2 fun M3 => E.nx σ M3) : SS X (.Delete [.Subscript o i tpos] pos) σ M E :=
  SS.of (ps_ddel pe_sem pe_sem) fun σv H S R => h.go (H0 := H) S R fun v H1 x M1 i1 R1 t1 q1 => q1.go (H0 := H1) (S.mono i1) R1 fun u H2 y M2 i2 R2 t2 q2 => by
    have t1' := Tp.mono i2 _ _ t1
    cases t1' <;> first | exact False.elim q2 | skip
    case ref a =>
      obtain ⟨kvs, k, ea, rfl, hk', q⟩ := q2
      obtain ⟨_, eh, us, rfl, hk⟩ := R2 a _ ea
      obtain rfl := tp_kD t2
      have im : Imm H2 (upd H2 a (.dK (dropK us k))) := Imm.set eh (fun z => z)
      have ii := (i1.trans i2).trans im
      exact ⟨a, us, k, rfl, eh, rfl, by rw [hk.isSome]; exact hk', ii, σ, _, S.mono ii, R2.set (m := .dK (dropD kvs k)) eh (fun z => z) ⟨_, rfl, (hk.mono im).drop⟩, SetM.at q⟩
/-- list(d) -/
def RListD : RA3 := fun ds M Q => match ds with
  | [.ref a] => ∃ kvs : List (Key × D), M a = some (.dK kvs) ∧ NewM M (.lst (kvs.map fun kv => kD kv.1)) fun p M' => Q (.ref p) M'
  | _ => False
theorem rd_listD {K : PySem.W.Frag} : RDA K rListD RListD := by
  intro H0 H M vs ds Q Q' i R t k q
  match ds, t, q with
  | [.ref a], t, q =>
    obtain ⟨v, rfl, r⟩ := t.one
    obtain ⟨kvs, e, q⟩ := q
    obtain ⟨_, ea, us, rfl, ha⟩ := R a _ e
    cases r
    exact ⟨a, us, rfl, ea, fun p hp => new_lst i R (tps_keys ha) k q p hp⟩
theorem e_listD (hm : X.mg "list" = none) (h : AS X [e] σ M fun ds M1 => RListD ds M1 Q) (hc : X.calm = true := by rfl) (hg : Gl X "list" := by rfl) (he : starEach [e] X.env = (false, eval e X.env) :: starEach [] X.env := by rfl) : ES X (.Call (.Name "list" p) [e] [] pos) σ M Q := e_ct (call_list_dK hc) rd_listD hm (by decide +kernel) h hg (by decide) (by decide) he rfl
/-- len(d) -/
def RLenD : RA3 := fun ds M Q => match ds with
  | [.ref a] => ∃ kvs : List (Key × D), M a = some (.dK kvs) ∧ Q (.int kvs.length) M
  | _ => False
theorem rd_lenD {K : PySem.W.Frag} : RDA K (fun xs H Q => ∃ a kvs, xs = [V.ref a] ∧ H a = some (.dK kvs) ∧ Q (.int kvs.length) H) RLenD := by
  intro H0 H M vs ds Q Q' i R t k q
  match ds, t, q with
  | [.ref a], t, q =>
    obtain ⟨v, rfl, r⟩ := t.one
    obtain ⟨kvs, e, q⟩ := q
    obtain ⟨_, ea, us, rfl, ha⟩ := R a _ e
    cases r
    exact ⟨a, us, rfl, ea, k _ _ _ _ i R (.int _) (by rw [ha.length]; exact q)⟩
theorem e_lenD (hm : X.mg "len" = none) (h : AS X [e] σ M fun ds M1 => RLenD ds M1 Q) (hg : Gl X "len" := by rfl) (he : starEach [e] X.env = (false, eval e X.env) :: starEach [] X.env := by rfl) : ES X (.Call (.Name "len" p) [e] [] pos) σ M Q := e_cb call_lenD rd_lenD hm PySem.boot_len h hg (by decide) (by decide) he rfl
/-- list(d.items()) -/
def RItemsL : D → Mp → QD → Prop := fun x M Q => match x with
  | .ref a => ∃ kvs : List (Key × D), M a = some (.dK kvs) ∧ NewM M (.lst (kvs.map fun kv => .tup [kD kv.1, kv.2])) fun p M' => Q (.ref p) M'
  | _ => False
theorem tps_items {K : PySem.W.Frag} {H : Hp} : ∀ {ts : List Addr} {vs : List (Key × V)} {ds : List (Key × D)}, Paired (fun (t : Addr) (q : Key × V) => H t = some (.tup [kV q.1, q.2])) ts vs → KVs K H vs ds → Tps K H (ts.map V.ref) (ds.map fun kv => .tup [kD kv.1, kv.2])
  | [], [], [], .nil, .nil => .nil
  | _ :: _, (k, _) :: _, (_, _) :: _, .cons h t, .cons r s => .cons (.tup (SqT.of h) (.cons (tp_kV k) (.cons r .nil))) (tps_items t s)
theorem e_listItems (hm : X.mg "list" = none) (h : ES X e σ M fun x M1 => RItemsL x M1 Q) (hc : X.calm = true := by rfl) (hg : Gl X "list" := by rfl) (hbase : attributeBase e "items" X.env (eval e X.env) = eval e X.env := by rfl) (hline : (apos.endLine == cpos.line) = true := by rfl)
    (hs : starEach [.Call (.Attribute e "items" apos) [] [] cpos] X.env = (false, eval (.Call (.Attribute e "items" apos) [] [] cpos) X.env) :: starEach [] X.env := by rfl) : ES X (.Call (.Name "list" p) [.Call (.Attribute e "items" apos) [] [] cpos] [] pos) σ M Q :=
  ES.of (LiI.pe_listItems hc pe_sem hg hm (by decide +kernel) hbase hline hs) fun σv H S R => h.go (H0 := H) S R fun v H1 x M1 i1 R1 t1 q1 => by
    cases t1 <;> first | exact False.elim q1 | skip
    case ref a =>
      obtain ⟨kvs, e, q⟩ := q1
      obtain ⟨_, ea, us, rfl, ha⟩ := R1 a _ e
      refine ⟨a, us, rfl, ea, fun H' p ts hK hp ht hpt hl hpr => ?_⟩
      have im : Imm H1 H' := fun b o eb _ => hK b o eb
      have R' : RelM X.K (updM M1 p (.lst (kvs.map fun kv => .tup [kD kv.1, kv.2]))) H' := fun b m eb => by
        by_cases hb : b = p
        · subst hb
          rw [updM_same] at eb
          cases eb
          exact ⟨_, hl, _, rfl, tps_items hpr (ha.mono im)⟩
        · rw [updM_ne hb] at eb
          obtain ⟨o, eo, ro⟩ := R1 b m eb
          exact ⟨o, hK b o eo, ro.mono im⟩
      exact ⟨i1.trans im, _, _, R', .ref p, NewM.at q (R1.fresh hp)⟩
end
end DL
set_option maxHeartbeats 1000000
namespace DL
open PySem L2 PySem.Spec PyProof.Rows
/-! calls with keywords, defs that may raise -/
def tK (X : Cx) (kws : List Keyword) : TA := fun σ H Q => ∀ pos pins s, Inv X pins σ H s → wpAny (model X.prog X.w) X.A (evalAll ((backToKw pos (keywordEach kws X.env)).map (·.2))) (AP X pins σ Q) X.xe s
structure KS (X : Cx) (kws : List Keyword) (σ : Sd) (M : Mp) (Q : List D → Mp → Prop) : Prop where
  run : ∀ σv H, Slots X.K H σv σ → RelM X.K M H → tK X kws σv H (DA X.K H Q)
section
variable {X : Cx} {e : Expr} {es : List Expr} {kws : List Keyword} {σ : Sd} {M : Mp} {Q : QD} {QA : List D → Mp → Prop} {W : WD} {pos p kpos : Pos} {nm : Option Str} {x : Str} {k : Nat} {ps ks : List Str}
theorem pk_sem : PK X kws (tK X kws) := ⟨fun pos pins s σ H Q I h => h pos pins s I⟩
theorem KS.of {t : TA} (h : PK X kws t) (q : ∀ σv H, Slots X.K H σv σ → RelM X.K M H → t σv H (DA X.K H QA)) : KS X kws σ M QA := ⟨fun σv H S R pos pins s I => h.run pos pins s σv H _ I (q σv H S R)⟩
theorem KS.go {H : Hp} {σv : L2.St} {Q' : List V → Hp → Prop} (h : KS X kws σ M QA) (S : Slots X.K H σv σ) (R : RelM X.K M H)
    (k : ∀ v H1 d M1, Imm H H1 → RelM X.K M1 H1 → Tps X.K H1 v d → QA d M1 → Q' v H1) : tK X kws σv H Q' := fun pos pins s I =>
  thn (h.run σv H S R pos pins s I) fun us s' ⟨vs, H', I', r, i, d, M1, R1, t, q⟩ => ⟨vs, H', I', r, k vs H' d M1 i R1 t q⟩
theorem k_nil (q : QA [] M) : KS X [] σ M QA := KS.of pk_nil fun σv H S R => ⟨Imm.refl H, [], M, R, .nil, q⟩
theorem k_cons (h : ES X e σ M fun d M1 => KS X kws σ M1 fun ds M2 => QA (d :: ds) M2) : KS X (⟨nm, e, kpos⟩ :: kws) σ M QA :=
  KS.of (pk_cons pe_sem pk_sem) fun σv H S R => h.go (H0 := H) S R fun v H1 d M1 i1 R1 t1 q1 => q1.go (S.mono i1) R1 fun vs H2 ds M2 i2 R2 t2 q2 => ⟨i1.trans i2, d :: ds, M2, R2, .cons (Tp.mono i2 _ _ t1) t2, q2⟩
/-- n positional values, then the keywords' in their order -/
def gN {α : Type} (n : Nat) (us ws : List α) : List α := if us.length = n then us ++ ws else []
theorem gN_eq {α : Type} {n : Nat} {us ws : List α} (h : us.length = n) : gN n us ws = us ++ ws := if_pos h
def KB (K : PySem.W.Frag) (fd : FuncData) (ps ks : List Str) (n : Nat) : Prop := KBinds K fd ps ks (gN n) (gN n)
theorem kb_of {K : PySem.W.Frag} {fd : FuncData} {ps ks : List Str} {n : Nat} (h0 : 0 < ps.length) (h : ∀ (s : Shared) (us ws : List Value), us.length = n → (us ++ ws).length = ps.length → BindsTo s fd ⟨us, ks.zip ws⟩ (ps.zip (us ++ ws))) : KB K fd ps ks n :=
  ⟨fun s us ws _ hl => by
    by_cases e : us.length = n
    · rw [gN_eq e] at hl ⊢
      exact h s us ws e hl
    · unfold gN at hl
      rw [if_neg e] at hl
      exact absurd hl (by rw [List.length_nil]; omega), fun {vs us zs ws} r1 r2 => by
    unfold gN
    rw [r1.length]
    split
    · exact r1.append r2
    · exact .nil⟩
theorem kb_fun {K : PySem.W.Frag} {x qual : Str} {st : Stmt} {f : Addr} {fd : FuncData} {ps ks : List Str} {n : Nat} (F : Fun K x qual st f fd) (h0 : 0 < ps.length)
    (h : ∀ (kV doc pm : Value) (an : Option Addr) (cdv ct : Value) (us ws : List Value), us.length = n → (us ++ ws).length = ps.length → bindArgs (PySem.W.fnOf x qual (defArgs st) (defBody st) (defScope st) .none kV doc pm an cdv ct) ⟨us, ks.zip ws⟩ = pure (ps.zip (us ++ ws))) : KB K fd ps ks n := by
  obtain ⟨oc, od, kV, doc, pm, an, cdv, ct, osl, rfl, lk, hcd⟩ := F.ex
  exact kb_of h0 fun s us ws h1 h2 => .of_eq (h kV doc pm an cdv ct us ws h1 h2)
/-- a def of the module that may raise, called with keywords ks -/
def CalleeKX (P : Program) (w : World) (K : PySem.W.Frag) (mg : Str → Option Value) (base : Heap) (x : Str) (k : Nat) (ps ks : List Str) (n : Nat) (sp4 : Sp4) : Prop :=
  ∃ f fd, FnOk P w K mg base (L2.CX P w) k f fd ps (spX K sp4) ∧ mg x = some (.ref f) ∧ PySem.W.keepIn K (.ref f) = true ∧ KB K fd ps ks n
def CalleeK (P : Program) (w : World) (K : PySem.W.Frag) (mg : Str → Option Value) (base : Heap) (x : Str) (k : Nat) (ps ks : List Str) (n : Nat) (sp3 : Sp3) : Prop :=
  ∃ f fd, FnOk P w K mg base CX0 k f fd ps (spD K sp3) ∧ mg x = some (.ref f) ∧ PySem.W.keepIn K (.ref f) = true ∧ KB K fd ps ks n
def tCallKS (n : Nat) (sp : Sp) (E : L2.St → XK) (t tk : TA) : TE := fun σ H Q => t σ H fun vs H1 => tk σ H1 fun zs H2 => sp (gN n vs zs) H2 Q (E σ)
theorem run_fnKS {n : Nat} {CX : CXT} {f : Addr} {fd : FuncData} {sp : Sp} {E : L2.St → XK} {σ : L2.St} {pins : List (Addr × Obj)} {H : Hp} {s : Shared} {Q : VK} {us ws : List Value} {vs zs : List V} (F : FnOk X.prog X.w X.K X.mg X.base CX k f fd ps sp) (hr : Room k X.A) (hb : KB X.K fd ps ks n) (hx : PassesAt CX X σ (E σ))
    (I : Inv X pins σ H s) (r : Vals vs us) (rz : Vals zs ws) (h : sp (gN n vs zs) H Q (E σ)) : wpAny (model X.prog X.w) X.A (call (.ref f) us (ks.zip ws)) (EP X pins σ Q) X.xe s := by
  have r2 := hb.rel r rz
  have hl : (gN n us ws).length = ps.length := by rw [← r2.length]; exact F.len _ _ _ _ h
  refine wpAny_call (codeAny_mono (F.run X.A X.stack s H ⟨us, ks.zip ws⟩ (gN n us ws) (gN n vs zs) Q (E σ) hr I.env0 (hb.to s us ws I.kIn hl) r2 h) fun r s' hq => ?_)
  cases r with
  | error e => exact hx pins H s e s' I hq
  | ok fl =>
    cases fl with
    | ret u => exact I.after hq
    | next => exact False.elim hq
    | brk => exact False.elim hq
    | cont => exact False.elim hq
theorem pe_callKS {n : Nat} {CX : CXT} {f : Addr} {fd : FuncData} {sp : Sp} {E : L2.St → XK} {t tk : TA} (F : FnOk X.prog X.w X.K X.mg X.base CX k f fd ps sp) (hr : Room k X.A) (hg : Gl X x) (hm : X.mg x = some (.ref f)) (hk : PySem.W.keepIn X.K (.ref f) = true) (hb : KB X.K fd ps ks n) (hx : ∀ σ, PassesAt CX X σ (E σ))
    (ha : PA X (e :: es) t) (hkw : PK X kws tk) (hall : (backToKw pos (keywordEach kws X.env)).all (·.1.isSome) = true) (hks : (backToKw pos (keywordEach kws X.env)).filterMap (·.1) = ks)
    (hdb : (x == ("__debug__" : Str)) = false) (he : starEach (e :: es) X.env = (false, eval e X.env) :: starEach es X.env)
    (hpl : ((backTo pos (starEach (e :: es) X.env)).any (·.1) || (backToKw pos (keywordEach kws X.env)).any (·.1.isNone)) = false) :
    PE X (.Call (.Name x p) (e :: es) kws pos) (tCallKS n sp E t tk) := by
  refine ⟨fun pins s σ H Q I h => ?_⟩
  refine wpAny_Call_Name_kw (ld_glob I hg hm ?_ hdb)
  refine PySem.W.callWith_KW (h₀ := X.base) I.ok.mod.kin hk hall (thn (ha.run pos pins s σ H _ I h) fun us s1 ⟨vs, H1, I1, r, q⟩ => ?_) hpl he
  refine thn (hkw.run pos pins s1 σ H1 _ I1 q) fun ws s2 ⟨zs, H2, I2, rz, q2⟩ => ⟨I2.kIn, ?_⟩
  rw [hks]
  exact run_fnKS F hr hb (hx σ) I2 r rz q2
theorem Tps.appD {K : PySem.W.Frag} {H : Hp} {vs us : List V} {ds es : List D} (h : Tps K H vs ds) (h2 : Tps K H us es) : Tps K H (vs ++ us) (ds ++ es) := h.append h2
theorem e_callKX {n : Nat} {sp4 : Sp4} (tk : TkD X W) (C : CalleeKX X.prog X.w X.K X.mg X.base x k ps ks n sp4) (hr : Room k X.A) (h : AS X (e :: es) σ M fun ds M1 => KS X kws σ M1 fun zs M2 => ∀ N, Mle M2 N → ds.length = n ∧ sp4 (ds ++ zs) N Q fun cls d M' => FixLe N M' ∧ W cls d σ M') (hg : Gl X x := by rfl) (hdb : (x == ("__debug__" : Str)) = false := by decide)
    (hall : (backToKw pos (keywordEach kws X.env)).all (·.1.isSome) = true := by rfl) (hks : (backToKw pos (keywordEach kws X.env)).filterMap (·.1) = ks := by rfl)
    (he : starEach (e :: es) X.env = (false, eval e X.env) :: starEach es X.env := by rfl) (hpl : ((backTo pos (starEach (e :: es) X.env)).any (·.1) || (backToKw pos (keywordEach kws X.env)).any (·.1.isNone)) = false := by rfl) : ES X (.Call (.Name x p) (e :: es) kws pos) σ M Q := by
  obtain ⟨f, fd, F, hm, hk, hb⟩ := C
  obtain ⟨Wv, tkv, hW⟩ := tk
  refine ES.of (pe_callKS F hr hg hm hk hb (fun σ => passAt tkv σ) pa_sem pk_sem hall hks hdb he hpl) fun σv H S R => h.go S R fun vs H1 ds M1 i1 R1 t1 q1 => q1.go (S.mono i1) R1 fun zs H2 dz M2 i2 R2 t2 q2 => ?_
  rw [gN_eq (by rw [t1.length]; exact (q2 M2 (Mle.refl M2)).1)]
  exact ⟨ds ++ dz, plus M2 H2, Q, _, (Tps.mono i2 _ _ t1).append t2, plus_rel R2, (q2 _ plus_le).2, fun v H3 d M3 i3 R3 t3 q3 => ⟨(i1.trans i2).trans i3, d, M3, R3, t3, q3⟩, fun cls d H' M' R' ⟨fx, w⟩ => hW cls d σv H' σ M' (S.mono ((i1.trans i2).trans (imm_of R2 fx R'))) R' w⟩
theorem e_callK {n : Nat} {sp3 : Sp3} (C : CalleeK X.prog X.w X.K X.mg X.base x k ps ks n sp3) (hr : Room k X.A) (h : AS X (e :: es) σ M fun ds M1 => KS X kws σ M1 fun zs M2 => ds.length = n ∧ sp3 (ds ++ zs) M2 Q) (hg : Gl X x := by rfl) (hdb : (x == ("__debug__" : Str)) = false := by decide)
    (hall : (backToKw pos (keywordEach kws X.env)).all (·.1.isSome) = true := by rfl) (hks : (backToKw pos (keywordEach kws X.env)).filterMap (·.1) = ks := by rfl)
    (he : starEach (e :: es) X.env = (false, eval e X.env) :: starEach es X.env := by rfl) (hpl : ((backTo pos (starEach (e :: es) X.env)).any (·.1) || (backToKw pos (keywordEach kws X.env)).any (·.1.isNone)) = false := by rfl) : ES X (.Call (.Name x p) (e :: es) kws pos) σ M Q := by
  obtain ⟨f, fd, F, hm, hk, hb⟩ := C
  refine ES.of (pe_callK F hr hg hm hk hb pass0 pa_sem pk_sem hall hks hdb he hpl) fun σv H S R => h.go S R fun vs H1 ds M1 i1 R1 t1 q1 => q1.go (S.mono i1) R1 fun zs H2 dz M2 i2 R2 t2 q2 => ?_
  rw [gN_eq (by rw [t1.length]; exact q2.1)]
  exact ⟨ds ++ dz, M2, Q, (Tps.mono i2 _ _ t1).append t2, R2, q2.2, fun v H3 d M3 i3 R3 t3 q3 => ⟨(i1.trans i2).trans i3, d, M3, R3, t3, q3⟩⟩
theorem calleeKX {P : Program} {w : World} {K : PySem.W.Frag} {mg : Str → Option Value} {base : Heap} {N ps ks : List Str} {x qual : Str} {st : Stmt} {f : Addr} {fd : FuncData} {k n : Nat} {sp4 : Sp4}
    (F : Fun K x qual st f fd) (S : FnScope N ps (defScope st)) (hm : mg x = some (.ref f)) (hb : KB K fd ps ks n) (len : ∀ ds M Q Ex, sp4 ds M Q Ex → ds.length = ps.length)
    (body : ∀ (cdv : Value) (A : Around) (outer : List Env) (s : Shared) (H : Hp) (E : XK), Room k (A.deeper (envOfC qual (defScope st) s.heap.objs.size f cdv)) → ∀ ds M Q (Ex : E3), sp4 ds M Q Ex →
      TkD (cxOf (L2.CX P w) P w K mg base N qual (defScope st) f cdv A outer s H E) (fun cls d _ M' => Ex cls d M') →
      SSs (cxOf (L2.CX P w) P w K mg base N qual (defScope st) f cdv A outer s H E) (defBody st) (startD N ds) M { nx := fun _ M' => Wk Q .non M', rt := Wk Q }) : CalleeKX P w K mg base x (k + 1) ps ks n sp4 := ⟨f, fd, fnX F S len body, hm, F.kp, hb⟩
theorem calleeK {P : Program} {w : World} {K : PySem.W.Frag} {mg : Str → Option Value} {base : Heap} {N ps ks : List Str} {x qual : Str} {st : Stmt} {f : Addr} {fd : FuncData} {k n : Nat} {sp3 : Sp3}
    (F : Fun K x qual st f fd) (S : FnScope N ps (defScope st)) (hm : mg x = some (.ref f)) (hb : KB K fd ps ks n) (len : ∀ ds M Q, sp3 ds M Q → ds.length = ps.length)
    (body : ∀ (cdv : Value) (A : Around) (outer : List Env) (s : Shared) (H : Hp) (E : XK), Room k (A.deeper (envOfC qual (defScope st) s.heap.objs.size f cdv)) → ∀ ds M Q, sp3 ds M Q →
      SSs (cxOf CX0 P w K mg base N qual (defScope st) f cdv A outer s H E).nox (defBody st) (startD N ds) M { nx := fun _ M' => Wk Q .non M', rt := Wk Q }) : CalleeK P w K mg base x (k + 1) ps ks n sp3 := ⟨f, fd, fn3 F S len body, hm, F.kp, hb⟩
end
end DL
set_option maxHeartbeats 1000000
namespace DL
open PySem L2 PySem.Spec PyProof.Rows
/-! try: several except clauses, with or without a name -/
abbrev ClT := Value × Option Nat × (Addr → Value → Option Addr → TS)
def setN (i : Option Nat) (a : Addr) (σ : L2.St) : L2.St := match i with
  | none => σ
  | some i => σ.set i (some (.ref a))
def goneN (i : Option Nat) (σ : L2.St) : L2.St := match i with
  | none => σ
  | some i => σ.set i none
def endsN (i : Option Nat) (D : Ends) : Ends := { nx := fun σ H => D.nx (goneN i σ) H, rt := D.rt, bk := fun σ H => D.bk (goneN i σ) H, ct := fun σ H => D.ct (goneN i σ) H }
/-- what the clauses, one after the other, wish of an exception of the body -/
def wCl (K : PySem.W.Frag) (Wout : WX) (D : Ends) : List ClT → WX
  | [] => Wout
  | c :: r => fun cls d σ H => ∃ b, PySem.W.exmOne K cls c.1 = some b ∧ (b = true → ∀ a, H a = none → c.2.2 a cls d (endsN c.2.1 D) (setN c.2.1 a σ) H) ∧ (b = false → wCl K Wout D r cls d σ H)
/-- the exception a, landed in the frame that catches it -/
structure Landed (X : Cx) (pins : List (Addr × Obj)) (σ : L2.St) (H : Hp) (a : Addr) (cls : Value) (d : Option Addr) (B : Heap) (sI s : Shared) : Prop where
  before : Inv X pins σ H sI
  now : Inv X pins σ H s
  old : ∀ b o, sI.heap.get? b = some o → b ∉ frs X.stack → B.get? b = some o
  up : sI.heap.UpToSlots s.heap
  fly : HandSPX.FlyingZ B (X.env :: X.outer) a (Zc cls d) s.heap
  out : H a = none
  os : s.os = sI.os
  bare : AllBare s.gens
section
variable {X : Cx} {pins : List (Addr × Obj)} {σ : L2.St} {H : Hp} {a : Addr} {cls : Value} {d : Option Addr} {B : Heap} {sI s : Shared}
theorem Landed.there (l : Landed X pins σ H a cls d B sI s) (hf : X.env.frame = some X.env.locals) : ∃ oe vs, s.heap.get? a = some oe ∧ Zc cls d oe ∧ oe.data = .fields vs ∧ a ≠ X.env.locals ∧ a ∉ X.fs := by
  obtain ⟨oe, vs, he, hz, hd⟩ := l.fly.there
  have off : a ∉ frs (X.env :: X.outer) := fun hm => by
    obtain ⟨_, o', e', hno⟩ := l.fly.2.2.1.mem hm
    rw [he] at e'
    cases e'
    exact hno _ hd
  refine ⟨oe, vs, he, hz, hd, fun z => off (List.mem_filterMap.mpr ⟨X.env, List.mem_cons_self, by rw [hf, z]⟩), fun hm => ?_⟩
  obtain ⟨e, h1, h2⟩ := List.mem_filterMap.mp hm
  exact off (List.mem_filterMap.mpr ⟨e, List.mem_cons_of_mem _ h1, h2⟩)
theorem Landed.suite (l : Landed X pins σ H a cls d B sI s) (hf : X.env.frame = some X.env.locals) : ∃ oe, Zc cls d oe ∧ (∃ vs, oe.data = .fields vs) ∧ s.heap.get? a = some oe ∧ Inv (X.suite a ((a, oe) :: (X.pn ++ pins))) [] σ H s := by
  obtain ⟨oe, vs, he, hz, hd, n1, n2⟩ := l.there hf
  exact ⟨oe, hz, ⟨vs, hd⟩, he, l.now.suite he hd l.out n1 n2⟩
/-- the clause's test -/
theorem Landed.test {x : Str} {c : Value} {b : Bool} {np : Pos} {Q : Bool → Shared → Prop} {E : Value → Shared → Prop} (l : Landed X pins σ H a cls d B sI s) (hf : X.env.frame = some X.env.locals) (hc : Names X x c) (hb : PySem.W.exmOne X.K cls c = some b) (q : Q b s) :
    wpAny (model X.prog X.w) (X.A.mark (some (.ref a))) (eval (.Name x np) X.env) (fun cv s1 => wpAny (model X.prog X.w) (X.A.mark (some (.ref a))) (excMatches (.ref a) cv) Q E s1) E s := by
  obtain ⟨oe, hz, _, he, I⟩ := l.suite hf
  have ty : PySem.W.Looks (model X.prog X.w) s.heap (typeOf (.ref a)) cls := fun A Q E s2 k q2 => wpAny_typeOf_ref (k _ _ he) (by rw [hz.1]; exact q2)
  have go : wpAny (model X.prog X.w) (X.A.mark (some (.ref a))) (excMatches (.ref a) c) Q E s := (PySem.W.exm_one (M := model X.prog X.w) l.now.kIn ty hb).here q
  obtain ⟨hg, hdb, hm | ⟨hm, hv, hn⟩⟩ := hc
  · exact ld_glob (X := X.suite a ((a, oe) :: (X.pn ++ pins))) I hg hm go hdb
  · exact ld_blt (X := X.suite a ((a, oe) :: (X.pn ++ pins))) I hg hm hv go hn hdb
/-- no clause fits -/
theorem Landed.on {Wout : WX} {D : Ends} (l : Landed X pins σ H a cls d B sI s) (hs : X.stack = X.env :: X.outer) (hf : X.env.frame = some X.env.locals) (tk : Takes X Wout) (w : Wout cls d σ H) :
    wpAny (model X.prog X.w) X.A (handleBy (.ref a) X.env []) (SP X pins D) X.xe s := by
  refine wpAny_handleBy_nil ?_
  obtain ⟨_, _, _, oe, vs, T, _, _, he, _, hd, h1, _⟩ := id l.fly
  unfold PySem.passOn
  refine wpAny_bind (wpAny_field he hd h1 ?_)
  rw [if_neg (by simp : ¬ (Value.ref T == Value.none) = true)]
  have last : wpAny (model X.prog X.w) X.A (setFlight (.ref a) X.env.frame) (fun _ s2 => wpAny (model X.prog X.w) X.A (throw (.ref a) : Sem Flow) (SP X pins D) X.xe s2) X.xe s := by
    rw [hf]
    exact HandSPX.setFlight_upZ l.fly fun h4 fl4 up4 => wpAny_throw (tk _ _ ⟨a, B, sI, pins, σ, H, cls, d, rfl, l.before, l.old, l.up.trans up4, .inr (.inr (by rw [hs]; exact fl4)), l.out, l.os, l.bare, w⟩)
  first
    | exact wpAny_bind (wpAny_pure (wpAny_bind last))
    | exact wpAny_bind last
theorem Landed.again {h4 : Heap} (l : Landed X pins σ H a cls d B sI s) (f : HandSPX.FlyingZ B (X.env :: X.outer) a (Zc cls d) h4) (u : s.heap.UpToSlots h4) : Landed X pins σ H a cls d B sI { s with heap := h4 } :=
  ⟨l.before, l.before.landed (s' := { s with heap := h4 }) l.old f.1 (l.up.trans u) l.os l.bare, l.old, l.up.trans u, f, l.out, l.os, l.bare⟩
end
inductive HdCl (X : Cx) : List ExceptHandler → List ClT → Prop
  | nil : HdCl X [] []
  | bare {x : Str} {c : Value} {ts : Addr → Value → Option Addr → TS} {b₀ : Stmt} {suite : List Stmt} {np pos' : Pos} {hds : List ExceptHandler} {l : List ClT} (hc : Names X x c)
      (hsu : ∀ (a : Addr) (oe : Obj) (cls : Value) (d : Option Addr) (pn : List (Addr × Obj)), Zc cls d oe → (∃ vs, oe.data = .fields vs) → PSs (X.suite a ((a, oe) :: pn)) (b₀ :: suite) (ts a cls d)) (r : HdCl X hds l) :
      HdCl X (.ExceptHandler (some (.Name x np)) none (b₀ :: suite) pos' :: hds) ((c, none, ts) :: l)
  | named {x n : Str} {c : Value} {i : Nat} {ts : Addr → Value → Option Addr → TS} {b₀ : Stmt} {suite : List Stmt} {np pos' : Pos} {hds : List ExceptHandler} {l : List ClT} (hN : X.N.Nodup) (hi : X.N[i]? = some n) (hln : X.env.kindOf n = some .local) (hc : Names X x c)
      (hsu : ∀ (a : Addr) (oe : Obj) (cls : Value) (d : Option Addr) (pn : List (Addr × Obj)), Zc cls d oe → (∃ vs, oe.data = .fields vs) → PSs (X.suite a ((a, oe) :: pn)) (b₀ :: suite) (ts a cls d)) (r : HdCl X hds l) :
      HdCl X (.ExceptHandler (some (.Name x np)) (some n) (b₀ :: suite) pos' :: hds) ((c, some i, ts) :: l)
theorem clauses {X : Cx} {pins : List (Addr × Obj)} {σ : L2.St} {H : Hp} {a : Addr} {cls : Value} {d : Option Addr} {B : Heap} {sI s : Shared} {Wout : WX} {D : Ends} (hs : X.stack = X.env :: X.outer) (hf : X.env.frame = some X.env.locals) (tk : Takes X Wout) (l : Landed X pins σ H a cls d B sI s) :
    ∀ {hds : List ExceptHandler} {cl : List ClT}, HdCl X hds cl → wCl X.K Wout D cl cls d σ H → wpAny (model X.prog X.w) X.A (handleBy (.ref a) X.env hds) (SP X pins D) X.xe s := by
  intro hds cl hk
  induction hk with
  | nil => exact fun w => l.on hs hf tk w
  | @bare x c ts b₀ suite np pos' hds cl hc hsu _ ih =>
    rintro ⟨b, hb, yes, no⟩
    refine wpAny_handleBy_cons (codeAny_handlers_test (l.test hf hc hb ?_)) (fun q => nomatch q)
    cases b with
    | false => exact ih (no rfl)
    | true =>
      refine codeAny_handlers_suite (HandSPX.lands_againZ l.fly fun h4 f4 u4 => ?_)
      obtain ⟨oe, hz, hd, _, I4⟩ := (l.again f4 u4).suite hf
      refine wpAny_mono ((hsu a oe cls d (X.pn ++ pins) hz hd).run [] _ σ H (endsN none D) I4 (yes rfl a l.out)) (fun f s6 sp => ?_) (fun _ _ z => z.elim)
      cases f with
      | next => exact let ⟨_, _, J, q⟩ := sp; ⟨_, _, J.unsuite l.now.ok, q⟩
      | brk => exact let ⟨_, _, J, q⟩ := sp; ⟨_, _, J.unsuite l.now.ok, q⟩
      | cont => exact let ⟨_, _, J, q⟩ := sp; ⟨_, _, J.unsuite l.now.ok, q⟩
      | ret u => exact let ⟨_, _, _, J, r, q⟩ := sp; ⟨_, _, _, J.unsuite l.now.ok, r, q⟩
  | @named x n c i ts b₀ suite np pos' hds cl hN hi hln hc hsu _ ih =>
    rintro ⟨b, hb, yes, no⟩
    refine wpAny_handleBy_cons (codeAny_handlers_test (l.test hf hc hb ?_)) (fun q => nomatch q)
    cases b with
    | false => exact ih (no rfl)
    | true =>
      refine codeAny_handlers_suite_as (HandSPX.lands_againZ l.fly fun h4 f4 u4 => ?_)
      obtain ⟨oe, hz, hd, _, I4⟩ := (l.again f4 u4).suite hf
      refine store_ok (X := X.suite a ((a, oe) :: (X.pn ++ pins))) (v := .ref a) I4 hN hi (.inl hln) rfl (fun s5 I5 => ?_) (.inr hln)
      refine wpAny_mono ((hsu a oe cls d (X.pn ++ pins) hz hd).run [] s5 _ H (endsN (some i) D) I5 (yes rfl a l.out)) (fun f s6 sp => ?_) (fun _ _ z => z.elim)
      have bye : ∀ {σ6 : L2.St} {H6 : Hp} {Q : Shared → Prop}, Inv (X.suite a ((a, oe) :: (X.pn ++ pins))) [] σ6 H6 s6 → (∀ s7, Inv X pins (σ6.set i none) H6 s7 → Q s7) →
          wpAny (model X.prog X.w) X.A (do bindName X.env n .none; unbindBehindTheSuite X.env n pos') (fun _ s7 => Q s7) X.xe s6 := fun J hq => gone_ok (J.unsuite l.now.ok) hN hi hln hq
      cases f with
      | next => exact let ⟨_, _, J, q⟩ := sp; bye J fun s7 J7 => ⟨_, _, J7, q⟩
      | brk => exact let ⟨_, _, J, q⟩ := sp; bye J fun s7 J7 => ⟨_, _, J7, q⟩
      | cont => exact let ⟨_, _, J, q⟩ := sp; bye J fun s7 J7 => ⟨_, _, J7, q⟩
      | ret u => exact let ⟨_, _, _, J, r, q⟩ := sp; bye J fun s7 J7 => ⟨_, _, _, J7, r, q⟩
theorem ps_tryCl {X : Cx} {body : List Stmt} {h₀ : ExceptHandler} {hds : List ExceptHandler} {cl : List ClT} {pos : Pos} {tb : WX → TS} {Wout : WX} (hs : X.stack = X.env :: X.outer) (hf : X.env.frame = some X.env.locals) (tk : Takes X Wout)
    (hb : ∀ (W : WX) (pn : List (Addr × Obj)) (xe : Value → Shared → Prop), Takes (X.tr pn xe) W → PSs (X.tr pn xe) body (tb W)) (hh : HdCl X (h₀ :: hds) cl) :
    PS X (.Try body (h₀ :: hds) [] [] pos) (fun D σ H => tb (wCl X.K Wout D cl) D σ H) := by
  refine ⟨fun pins s σ H D I h => wpAny_Try_except ?_⟩
  have ok := I.ok
  have fr : X.A.frames = some (X.env :: X.outer) := by rw [ok.frames, hs]
  refine wpAny_mono ((hb (wCl X.K Wout D cl) (X.pn ++ pins) (fun e s₁ => wpAny (model X.prog X.w) X.A (noteFrame e X.env) (fun _ s₂ => wpAny (model X.prog X.w) X.A (setFlight e none) (fun _ s₃ =>
    wpAny (model X.prog X.w) X.A (handleBy e X.env (h₀ :: hds)) (SP X pins D) X.xe s₃) X.xe s₂) X.xe s₁) ?_).run [] s σ H D (I.toTry _) h) (fun f s1 sp => ?_) (fun _ _ z => z)
  · rintro u s' ⟨a, B, sI, pins', σ', H', cls, d, rfl, J', old, up, sky, out, os, bare, w⟩
    have J : Inv X pins σ' H' sI := J'.ofTry ok
    refine Sky.land Zc.steady fr hf (by rw [← hs]; exact sky) fun h3 fl3 up3 => ?_
    exact clauses hs hf tk ⟨J, J.landed (s' := { s' with heap := h3 }) old fl3.1 (up.trans up3) os bare, old, up.trans up3, fl3, out, os, bare⟩ hh w
  · cases f with
    | next => exact let ⟨_, _, J, q⟩ := sp; wpAny_execs_nil ⟨_, _, J.ofTry ok, q⟩
    | brk => exact let ⟨_, _, J, q⟩ := sp; ⟨_, _, J.ofTry ok, q⟩
    | cont => exact let ⟨_, _, J, q⟩ := sp; ⟨_, _, J.ofTry ok, q⟩
    | ret u => exact let ⟨_, _, _, J, r, q⟩ := sp; ⟨_, _, _, J.ofTry ok, r, q⟩
end DL
set_option maxHeartbeats 1000000
namespace DL
open PySem L2 PySem.Spec PyProof.Rows
abbrev ClD := Value × Option Nat × List Stmt
def setS (i : Option Nat) (a : Addr) (σ : Sd) : Sd := match i with
  | none => σ
  | some i => σ.set i (some (.ref a))
def DE.unsetN (E : DE) (i : Option Nat) : DE := match i with
  | none => E
  | some i => E.unset i
def WClD (X : Cx) (E : DE) (W : WD) (N : Mp) : List ClD → WD
  | [] => fun cls d σ' M' => FixLe N M' ∧ W cls d σ' M'
  | c :: r => fun cls d σ' M' => ∃ b, PySem.W.exmOne X.K cls c.1 = some b ∧ FixLe N M' ∧
    (b = true → ∀ a oe pn, M' a = none → Zc cls d oe → (∃ vs, oe.data = .fields vs) → SSs (X.suite a ((a, oe) :: pn)) c.2.2 (setS c.2.1 a σ') M' (E.unsetN c.2.1)) ∧ (b = false → WClD X E W N r cls d σ' M')
def toCl (X : Cx) (c : ClD) : ClT := (c.1, c.2.1, fun a cls d D σ H => ∀ oe pn, Zc cls d oe → (∃ vs, oe.data = .fields vs) → tSs (X.suite a ((a, oe) :: pn)) c.2.2 D σ H)
inductive HdS (X : Cx) : List ExceptHandler → List ClD → Prop
  | nil : HdS X [] []
  | bare {x : Str} {c : Value} {b₀ : Stmt} {suite : List Stmt} {np pos' : Pos} {hds : List ExceptHandler} {l : List ClD} (hc : Names X x c) (r : HdS X hds l) : HdS X (.ExceptHandler (some (.Name x np)) none (b₀ :: suite) pos' :: hds) ((c, none, b₀ :: suite) :: l)
  | named {x n : Str} {c : Value} {b₀ : Stmt} {suite : List Stmt} {np pos' : Pos} {hds : List ExceptHandler} {l : List ClD} (i : Nat) (hN : X.N.Nodup) (hc : Names X x c) (r : HdS X hds l) (hi : X.N[i]? = some n := by rfl) (hln : X.env.kindOf n = some .local := by rfl) :
      HdS X (.ExceptHandler (some (.Name x np)) (some n) (b₀ :: suite) pos' :: hds) ((c, some i, b₀ :: suite) :: l)
theorem HdS.cl {X : Cx} {hds : List ExceptHandler} {l : List ClD} (h : HdS X hds l) : HdCl X hds (l.map (toCl X)) := by
  induction h with
  | nil => exact .nil
  | bare hc _ ih => exact .bare hc (fun a oe cls d pn hz hd => ⟨fun pins s σ H D I hw => pss_sem.run pins s σ H D I (hw oe pn hz hd)⟩) ih
  | named i hN hc _ hi hln ih => exact .named hN hi hln hc (fun a oe cls d pn hz hd => ⟨fun pins s σ H D I hw => pss_sem.run pins s σ H D I (hw oe pn hz hd)⟩) ih
theorem unsetN_ends {X : Cx} {E : DE} {i : Option Nat} {H H' : Hp} (im : Imm H H') : EndsLe ((E.unsetN i).ends X.K H') (endsN i (E.ends X.K H)) := by
  cases i with
  | none => exact DE.from im
  | some i => exact ⟨fun _ _ q => DN.unset im q, fun _ _ q => DQ.from im q, fun _ _ q => DN.unset im q, fun _ _ q => DN.unset im q⟩
theorem setS_slots {K : PySem.W.Frag} {H : Hp} {σv : L2.St} {σ : Sd} {i : Option Nat} {a : Addr} (S : Slots K H σv σ) : Slots K H (setN i a σv) (setS i a σ) := by
  cases i with
  | none => exact S
  | some i => exact S.set (.ref a) i
theorem wCl_of {X : Cx} {E : DE} {W : WD} {Wv : WX} {M : Mp} {H : Hp} (R : RelM X.K M H) (hW : ∀ cls d σv H σ M, Slots X.K H σv σ → RelM X.K M H → W cls d σ M → Wv cls d σv H) :
    ∀ (l : List ClD) (cls : Value) (d : Option Addr) (σv : L2.St) (H' : Hp) (σ' : Sd) (M' : Mp), Slots X.K H' σv σ' → RelM X.K M' H' → WClD X E W (plus M H) l cls d σ' M' → wCl X.K Wv (E.ends X.K H) (l.map (toCl X)) cls d σv H'
  | [], cls, d, σv, H', σ', M', S, R', w => hW cls d σv H' σ' M' S R' w.2
  | c :: r, cls, d, σv, H', σ', M', S, R', ⟨b, hb, fx, yes, no⟩ => ⟨b, hb, fun e a _ oe pn hz hd => ((yes e a oe pn (R'.fresh ‹_›) hz hd).run _ H' (setS_slots S) R').mono (unsetN_ends (imm_of R fx R')), fun e => wCl_of R hW r cls d σv H' σ' M' S R' (no e)⟩
theorem s_tryCl {X : Cx} {σ : Sd} {M : Mp} {E : DE} {W : WD} {pos : Pos} {body : List Stmt} {h₀ : ExceptHandler} {hds : List ExceptHandler} (cl : List ClD) (hh : HdS X (h₀ :: hds) cl) (tk : TkD X W)
    (h : ∀ N, Mle M N → ∀ pn xe, TkD (X.tr pn xe) (WClD X E W N cl) → SSs (X.tr pn xe) body σ N E)
    (hs : X.stack = X.env :: X.outer := by rfl) (hf : X.env.frame = some X.env.locals := by rfl) : SS X (.Try body (h₀ :: hds) [] [] pos) σ M E := by
  obtain ⟨Wv, tkv, hW⟩ := tk
  refine SS.of (ps_tryCl (tb := fun W' D σ H => ∀ pn xe, Takes (X.tr pn xe) W' → tSs (X.tr pn xe) body D σ H) hs hf tkv (fun W' pn xe t => ⟨fun pins s σ H D I hw => pss_sem.run pins s σ H D I (hw pn xe t)⟩) hh.cl) fun σv H S R pn xe t => ?_
  exact (h (plus M H) plus_le pn xe ⟨_, t, fun cls d σv' H' σ' M' S' R' w => wCl_of R hW cl cls d σv' H' σ' M' S' R' w⟩).run σv H S (plus_rel R)
/-! two lists that differ -/
def RNeL : R3 := fun x y M Q => match x, y with
  | .ref a, .ref b => ∃ xs ys : List D, M a = some (.lst xs) ∧ M b = some (.lst ys) ∧ (D.rol xs).shp = true ∧ (D.rol ys).shp = true ∧ Q (.bl (!D.eqv (.rol xs) (.rol ys))) M
  | _, _ => False
theorem rd_neL {K : PySem.W.Frag} : RD K (rNeD K) RNeL := by
  intro H0 H M vx vy x y Q Q' i R tx ty k q
  cases tx <;> first | exact False.elim q | skip
  case ref a =>
    cases ty <;> first | exact False.elim q | skip
    case ref b =>
      obtain ⟨xs, ys, e1, e2, s1, s2, q⟩ := q
      obtain ⟨_, ea, us, rfl, ha⟩ := R a _ e1
      obtain ⟨_, eb, ws, rfl, hb⟩ := R b _ e2
      unfold D.shp at s1 s2
      rw [Bool.and_eq_true] at s1 s2
      exact ⟨_, _, .lst (SqL.of ea) (Tps.dp _ _ (by simpa only [D.pure] using s1.1) ha), .lst (SqL.of eb) (Tps.dp _ _ (by simpa only [D.pure] using s2.1) hb), s1.2, s2.2, k _ _ _ _ i R (.bl _) q⟩
theorem t_neL {X : Cx} {a b : Expr} {σ : Sd} {M : Mp} {QB : Bool → Mp → Prop} {pos : Pos} (hr : ∃ k, Room k X.A) (h : ES X a σ M fun x M1 => ES X b σ M1 fun y M2 => RNeL x y M2 (QBl QB)) : TT3 X (.Compare a [.NotEq] [b] pos) σ M QB := t_cmp (op_neD hr.choose_spec.units) rd_neL (nomark _) h
theorem t_eqL {X : Cx} {a b : Expr} {σ : Sd} {M : Mp} {QB : Bool → Mp → Prop} {pos : Pos} (hr : ∃ k, Room k X.A) (h : ES X a σ M fun x M1 => ES X b σ M1 fun y M2 => REqL x y M2 (QBl QB)) : TT3 X (.Compare a [.Eq] [b] pos) σ M QB := t_cmp (op_eqD hr.choose_spec.units) rd_eqL (nomark _) h
mutual
theorem py_refl : ∀ d : D, PyData.eqv d.py d.py = true
  | .non => by simp [D.py, PyData.eqv]
  | .bl b => by simp [D.py, PyData.eqv]
  | .int i => by simp [D.py, PyData.eqv]
  | .str x => by simp [D.py, PyData.eqv]
  | .ref _ => by simp [D.py, PyData.eqv]
  | .ty _ => by simp [D.py, PyData.eqv]
  | .tup l => by simpa [D.py, PyData.eqv] using pys_refl l
  | .rol l => by simpa [D.py, PyData.eqv] using pys_refl l
theorem pys_refl : ∀ l : List D, PyData.eqvAll (D.pys l) (D.pys l) = true
  | [] => by simp [D.pys, PyData.eqvAll]
  | d :: r => by simp [D.pys, PyData.eqvAll, py_refl d, pys_refl r]
end
theorem eqv_refl (d : D) : D.eqv d d = true := py_refl d
theorem shp_rol {l : List D} {n : Nat} (h : ∀ d ∈ l, d.shn n = true) (hn : n ≤ 63) : (D.rol l).shp = true := by
  have := shp_tup h hn
  unfold D.shp SeqAt.shaped at this ⊢
  simpa [D.pure, D.py, PyData.canLay0, PyData.depth] using this
end DL
set_option maxHeartbeats 1000000
namespace DL
open PySem L2 PySem.Spec PyProof.Rows
/-! instances: attributes, methods, making -/
def putFD (f : Str) (v : D) : List (Str × D) → List (Str × D)
  | [] => [(f, v)]
  | p :: r => if p.1 = f then (p.1, v) :: r else p :: putFD f v r
theorem KVs.putF {K : PySem.W.Frag} {H : Hp} {f : Str} {y : V} {d : D} (ry : Tp K H y d) : ∀ {vs : List (Str × V)} {ds : List (Str × D)}, KVs K H vs ds → KVs K H (L2.putF f y vs) (putFD f d ds)
  | _, _, .nil => .cons ry .nil
  | _, _, .cons (k := g) (v := v) (vs := vs) (d := e) (ds := ds) r t => by
    show KVs K H (if g = f then (g, y) :: vs else (g, v) :: L2.putF f y vs) (if g = f then (g, d) :: ds else (g, e) :: putFD f d ds)
    split
    · exact .cons ry t
    · exact .cons r (KVs.putF ry t)
theorem KVs.look {K : PySem.W.Frag} {H : Hp} {f : Str} : ∀ {vs : List (Str × V)} {ds : List (Str × D)}, KVs K H vs ds → (∀ d, ds.lookup f = some d → ∃ v, vs.lookup f = some v ∧ Tp K H v d) ∧ (ds.lookup f = none → vs.lookup f = none)
  | _, _, .nil => ⟨(fun _ h => by cases h), fun _ => rfl⟩
  | _, _, .cons (k := g) r t => by
    obtain ⟨h1, h2⟩ := KVs.look (f := f) t
    rw [List.lookup_cons, List.lookup_cons]
    cases hb : (f == g) with
    | true => exact ⟨fun d h => by cases h; exact ⟨_, rfl, r⟩, fun h => by cases h⟩
    | false => exact ⟨h1, h2⟩
theorem length_putFD (f : Str) (v : D) : ∀ l : List (Str × D), (putFD f v l).length ≤ l.length + 1
  | [] => by simp [putFD]
  | p :: r => by
    have := length_putFD f v r
    simp only [putFD]
    split <;> simp <;> omega
section
variable {X : Cx} {e o value : Expr} {es : List Expr} {σ : Sd} {M : Mp} {Q : QD} {E : DE} {pos pos' p apos : Pos} {f m x : Str} {k : Nat} {ps : List Str} {C : Addr}
/-- e.f -/
def RFld (K : PySem.W.Frag) (f : Str) : D → Mp → QD → Prop := fun x M Q => match x with
  | .ref a => ∃ C dx fs d, M a = some (.ins C dx fs) ∧ Cls K C ∧ NoAttr K C f ∧ fs.lookup f = some d ∧ Q d M
  | _ => False
theorem e_fld (h : ES X e σ M fun x M1 => RFld X.K f x M1 Q) (hb : attributeBase e f X.env (eval e X.env) = eval e X.env := by rfl) : ES X (.Attribute e f pos) σ M Q :=
  ES.of (pe_fld pe_sem hb) fun σv H S R => h.go (H0 := H) S R fun v H1 x M1 i1 R1 t1 q1 => by
    cases t1 <;> first | exact False.elim q1 | skip
    case ref a =>
      obtain ⟨C, dx, fs, d, ea, c, n, l, q⟩ := q1
      obtain ⟨_, eh, gs, rfl, hk⟩ := R1 a _ ea
      obtain ⟨v, lv, tv⟩ := (hk.look (f := f)).1 d l
      exact ⟨a, C, dx, gs, v, rfl, eh, c, n, lv, i1, d, M1, R1, tv, q⟩
/-- o.f = value -/
def RFSet (K : PySem.W.Frag) (f : Str) : D → D → Mp → (Mp → Prop) → Prop := fun x v M Q => match x with
  | .ref a => ∃ C dx fs, M a = some (.ins C dx fs) ∧ Cls K C ∧ NoAttr K C f ∧ fs.length < 1000 ∧ SetM M a (.ins C dx (putFD f v fs)) Q
  | _ => False
theorem s_fld (h : ES X value σ M fun v M1 => ES X o σ M1 fun x M2 => RFSet X.K f x v M2 fun M3 => E.nx σ M3) (hs : swapsWith value (some (.Attribute o f pos')) pos.line X.env = pure false := by rfl) : SS X (.Assign [.Attribute o f pos'] value pos) σ M E :=
  SS.of (ps_fld pe_sem pe_sem hs) fun σv H S R => h.go (H0 := H) S R fun v H1 d M1 i1 R1 t1 q1 => q1.go (H0 := H1) (S.mono i1) R1 fun u H2 x M2 i2 R2 t2 q2 => by
    cases t2 <;> first | exact False.elim q2 | skip
    case ref a =>
      obtain ⟨C, dx, fs, ea, c, n, hl, q⟩ := q2
      obtain ⟨_, eh, gs, rfl, hk⟩ := R2 a _ ea
      have im : Imm H2 (upd H2 a (.ins C dx (L2.putF f v gs))) := Imm.set eh (fun z => z)
      have ii := (i1.trans i2).trans im
      exact ⟨a, C, dx, gs, rfl, eh, c, n, by rw [hk.length]; exact hl, ii, σ, _, S.mono ii, R2.set (m := .ins C dx (putFD f d fs)) eh (fun z => z) ⟨_, rfl, KVs.putF (Tp.mono (i2.trans im) _ _ t1) (hk.mono im)⟩, SetM.at q⟩
/-- a method of the class at C and what it promises (self first) -/
def CalleeM (P : Program) (w : World) (K : PySem.W.Frag) (mg : Str → Option Value) (base : Heap) (C : Addr) (m : Str) (k : Nat) (ps : List Str) (sp3 : Sp3) : Prop :=
  ∃ g fd, FnOk P w K mg base CX0 k g fd ps (spD K sp3) ∧ Meth K C m g ∧ Binds K fd ps []
def CalleeMX (P : Program) (w : World) (K : PySem.W.Frag) (mg : Str → Option Value) (base : Heap) (C : Addr) (m : Str) (k : Nat) (ps : List Str) (sp4 : Sp4) : Prop :=
  ∃ g fd, FnOk P w K mg base (L2.CX P w) k g fd ps (spX K sp4) ∧ Meth K C m g ∧ Binds K fd ps []
theorem e_meth {sp3 : Sp3} {pl : Sem Bool} (c : Cls X.K C) (F : CalleeM X.prog X.w X.K X.mg X.base C m k ps sp3) (hr : Room k X.A) (h : ES X o σ M fun x M1 => ∃ a dx fs, x = .ref a ∧ M1 a = some (.ins C dx fs) ∧ fs.lookup m = none ∧ AS X (e :: es) σ M1 fun ds M2 => sp3 (x :: ds) M2 Q)
    (hst : starEach (e :: es) X.env = (false, eval e X.env) :: starEach es X.env := by rfl) (hpl : (backTo pos (starEach es X.env)).any (·.1) = false := by rfl)
    (ht : eval (.Call (.Attribute o m apos) (e :: es) [] pos) X.env = (do
      let ov ← eval o X.env
      standAt apos.atName
      let (f, first) ← holding [ov] (getMethod ov m pl)
      callWith pos f first (backTo pos (starEach (e :: es) X.env)) (backToKw pos (keywordEach [] X.env))) := by rfl) : ES X (.Call (.Attribute o m apos) (e :: es) [] pos) σ M Q := by
  obtain ⟨g, fd, F, hm, hb⟩ := F
  refine ES.of (pe_meth pe_sem c hm F hr hb .nil pass0 pa_sem hst hpl ht) fun σv H S R => h.go (H0 := H) S R fun v H1 x M1 i1 R1 t1 ⟨a, dx, fs, ex, ea, l, q1⟩ => ?_
  subst ex
  obtain ⟨_, eh, gs, rfl, hk⟩ := R1 a _ ea
  cases t1
  refine ⟨a, dx, gs, rfl, eh, (hk.look (f := m)).2 l, q1.go (S.mono i1) R1 fun vs H2 ds M2 i2 R2 t2 q2 => ?_⟩
  rw [List.append_nil]
  exact ⟨.ref a :: ds, M2, Q, .cons (.ref a) t2, R2, q2, fun v H3 d M3 i3 R3 t3 q3 => ⟨(i1.trans i2).trans i3, d, M3, R3, t3, q3⟩⟩
theorem e_meth0 {sp3 : Sp3} {pl : Sem Bool} (c : Cls X.K C) (F : CalleeM X.prog X.w X.K X.mg X.base C m k ps sp3) (hr : Room k X.A) (h : ES X o σ M fun x M1 => ∃ a dx fs, x = .ref a ∧ M1 a = some (.ins C dx fs) ∧ fs.lookup m = none ∧ sp3 [x] M1 Q)
    (ht : eval (.Call (.Attribute o m apos) [] [] pos) X.env = (do
      let ov ← eval o X.env
      standAt apos.atName
      let (f, first) ← holding [ov] (getMethod ov m pl)
      callWith pos f first (backTo pos (starEach [] X.env)) (backToKw pos (keywordEach [] X.env))) := by rfl) : ES X (.Call (.Attribute o m apos) [] [] pos) σ M Q := by
  obtain ⟨g, fd, F, hm, hb⟩ := F
  refine ES.of (pe_meth0 pe_sem c hm F hr hb .nil pass0 ht) fun σv H S R => h.go (H0 := H) S R fun v H1 x M1 i1 R1 t1 ⟨a, dx, fs, ex, ea, l, q1⟩ => ?_
  subst ex
  obtain ⟨_, eh, gs, rfl, hk⟩ := R1 a _ ea
  cases t1
  exact ⟨a, dx, gs, rfl, eh, (hk.look (f := m)).2 l, [.ref a], M1, Q, .cons (.ref a) .nil, R1, q1, fun v H3 d M3 i3 R3 t3 q3 => ⟨i1.trans i3, d, M3, R3, t3, q3⟩⟩
/-- a class and its __init__ -/
def CalleeI (P : Program) (w : World) (K : PySem.W.Frag) (mg : Str → Option Value) (base : Heap) (x : Str) (C : Addr) (k : Nat) (ps : List Str) (sp3 : Sp3) : Prop :=
  ∃ g fd, FnOk P w K mg base CX0 k g fd ps (spD K sp3) ∧ Mk K C g ∧ Binds K fd ps [] ∧ mg x = some (.ref C)
/-- what a new instance asks of __init__ -/
def NewI (sp3 : Sp3) (C : Addr) (ds : List D) (M : Mp) (Q : QD) : Prop := ∀ a dx M', M a = none → M dx = none → dx ≠ a → M' a = some (.ins C dx []) → M' dx = some (.own a) → Mle M M' → sp3 (.ref a :: ds) M' fun v M2 => v = .non ∧ Q (.ref a) M2
theorem newI_at {X : Cx} {sp3 : Sp3} {C x dx : Addr} {ds : List D} {vs : List V} {M : Mp} {Q : QD} {H0 H : Hp} (i0 : Imm H0 H) (R : RelM X.K M H) (t : Tps X.K H vs ds) (q : NewI sp3 C ds M Q) (nx : H x = none) (nd : H dx = none) (ne : dx ≠ x) :
    spD X.K sp3 (.ref x :: (vs ++ [])) (upd (upd H dx (.own x)) x (.ins C dx [])) (fun v H2 => v = .non ∧ DQ X.K H0 Q (.ref x) H2) fun _ _ _ => False := by
  have i1 : Imm H (upd H dx (.own x)) := Imm.new nd
  have nx' : upd H dx (.own x) x = none := by rw [upd_ne (Ne.symm ne)]; exact nx
  have i2 : Imm (upd H dx (.own x)) (upd (upd H dx (.own x)) x (.ins C dx [])) := Imm.new nx'
  have R1 := R.new (m := .own x) (o := .own x) nd rfl
  have R2 := R1.new (m := .ins C dx []) (o := .ins C dx []) nx' ⟨[], rfl, .nil⟩
  have fx : M x = none := R.fresh nx
  have fd : M dx = none := R.fresh nd
  rw [List.append_nil]
  refine ⟨.ref x :: ds, _, fun v M2 => v = .non ∧ Q (.ref x) M2, .cons (.ref x) (Tps.mono (i1.trans i2) _ _ t), R2, q x dx _ fx fd ne updM_same (by rw [updM_ne ne, updM_same]) ((Mle.new fd).new2 fx), fun v H3 d M3 i3 R3 t3 ⟨e3, q3⟩ => ?_⟩
  subst e3
  cases t3
  exact ⟨rfl, ((i0.trans i1).trans i2).trans i3, _, M3, R3, .ref x, q3⟩
theorem e_make0 {sp3 : Sp3} (F : CalleeI X.prog X.w X.K X.mg X.base x C k ps sp3) (hr : Room (k + 1) X.A) (h : NewI sp3 C [] M Q) (hg : Gl X x := by rfl) (hdb : (x == ("__debug__" : Str)) = false := by decide) : ES X (.Call (.Name x p) [] [] pos) σ M Q := by
  obtain ⟨g, fd, F, M0, hb, hm⟩ := F
  exact ES.of (pe_make0 M0 F hr hg hm hb .nil pass0 hdb) fun σv H S R a dx na nd ne => newI_at (Imm.refl H) R (vs := []) .nil h na nd ne
theorem e_make {sp3 : Sp3} (F : CalleeI X.prog X.w X.K X.mg X.base x C k ps sp3) (hr : Room (k + 1) X.A) (h : AS X (e :: es) σ M fun ds M1 => NewI sp3 C ds M1 Q) (hg : Gl X x := by rfl) (hdb : (x == ("__debug__" : Str)) = false := by decide)
    (he : starEach (e :: es) X.env = (false, eval e X.env) :: starEach es X.env := by rfl) (hpl : (backTo pos (starEach es X.env)).any (·.1) = false := by rfl) : ES X (.Call (.Name x p) (e :: es) [] pos) σ M Q := by
  obtain ⟨g, fd, F, M0, hb, hm⟩ := F
  exact ES.of (pe_make M0 F hr hg hm hb .nil pass0 pa_sem hdb he hpl) fun σv H S R => h.go S R fun vs H1 ds M1 i1 R1 t1 q1 a dx na nd ne => newI_at i1 R1 t1 q1 na nd ne
end
end DL
set_option maxHeartbeats 1000000
namespace DL
open PySem L2 PySem.Spec PyProof.Rows
/-! list.insert, list.remove -/
def RIns : RM3 := fun x ds M Q => match x, ds with
  | .ref a, [.int i, d] => ∃ xs, M a = some (.lst xs) ∧ xs.length < sizeLine ∧ 0 ≤ i ∧ i < 2 ^ 63 ∧ SetM M a (.lst (xs.take i.toNat ++ [d] ++ xs.drop i.toNat)) (Q .non)
  | _, _ => False
theorem rd_ins {K : PySem.W.Frag} : RDM K (fun x vs H Q => ∃ (l : Addr) (xs : List V) (i : Int) (y : V), x = .ref l ∧ vs = [.int i, y] ∧ H l = some (.lst xs) ∧ xs.length < sizeLine ∧ 0 ≤ i ∧ i < 2 ^ 63 ∧ Q .non (upd H l (.lst (xs.take i.toNat ++ [y] ++ xs.drop i.toNat)))) RIns := by
  intro H0 H M vx vs x ds Q Q' i R tx t k q
  match x, ds, tx, t, q with
  | .ref a, [.int n, d], tx, t, q =>
    obtain ⟨xs, e, hz, h0, h1, q⟩ := q
    obtain ⟨_, ea, us, rfl, ha⟩ := R a _ e
    obtain ⟨v1, v2, rfl, r1, r2⟩ := t.two
    cases tx
    cases r1
    have im : Imm H (upd H a (.lst (us.take n.toNat ++ [v2] ++ us.drop n.toNat))) := Imm.set ea (fun z => z)
    have ha' := Tps.mono im _ _ ha
    exact ⟨a, us, n, v2, rfl, rfl, ea, by rw [ha.length]; exact hz, h0, h1, k _ _ _ _ (i.trans im) (R.set (m := .lst (xs.take n.toNat ++ [d] ++ xs.drop n.toNat)) ea (fun z => z) ⟨_, rfl, ((ha'.take _).append (.cons (Tp.mono im _ _ r2) .nil)).append (ha'.drop _)⟩) .non (SetM.at q)⟩
def RRem : RM3 := fun x ds M Q => match x, ds with
  | .ref a, [.int n] => ∃ (ns : List Int) (j : Nat), M a = some (.lst (ns.map D.int)) ∧ ns[j]? = some n ∧ (∀ m : Nat, m < j → ns[m]? ≠ some n) ∧ SetM M a (.lst ((ns.eraseIdx j).map D.int)) (Q .non)
  | _, _ => False
theorem rd_rem {K : PySem.W.Frag} : RDM K rRemI RRem := by
  intro H0 H M vx vs x ds Q Q' i R tx t k q
  match x, ds, tx, t, q with
  | .ref a, [.int n], tx, t, q =>
    obtain ⟨ns, j, e, hj, hno, q⟩ := q
    obtain ⟨_, ea, us, rfl, ha⟩ := R a _ e
    obtain ⟨v1, rfl, r1⟩ := t.one
    cases tx
    cases r1
    obtain rfl := tps_ints ha
    have im : Imm H (upd H a (.lst ((ns.eraseIdx j).map V.int))) := Imm.set ea (fun z => z)
    exact ⟨a, ns, n, j, rfl, rfl, ea, hj, hno, k _ _ _ _ (i.trans im) (R.set (m := .lst ((ns.eraseIdx j).map D.int)) ea (fun z => z) ⟨_, rfl, Tps.ints _⟩) .non (SetM.at q)⟩
end DL
set_option maxHeartbeats 1000000
namespace DL
open PySem L2 PySem.Spec PyProof.Rows
/-! x in a tuple, in a list: data of any depth; a dict display of one pair -/
section
variable {X : Cx} {K : PySem.W.Frag}
def rInT (K : PySem.W.Frag) (neg : Bool) : R2 := fun x y H Q => ∃ d ds, Dp K H x d ∧ Dp K H y (.tuple ds) ∧ SeqAt.shaped d = true ∧ SeqAt.shaped (.tuple ds) = true ∧ Q (.bl (if neg then !ds.any fun z => PyData.eqv z d else ds.any fun z => PyData.eqv z d)) H
theorem op_inT (hu : X.A.units + 65 < cLine) : OpR X (compareOp .In) (rInT X.K false) := by
  rintro pins s σ H x y v u Q I rx ry ⟨d, ds, hd, he, sd, se, q⟩
  obtain ⟨as, r1⟩ := Dp.reads I d x v hd rx
  obtain ⟨bs, r2⟩ := Dp.reads I (.tuple ds) y u he ry
  exact SeqAt.in_tuple_reads r2 r1 (SeqAt.canLay_of_shaped se) (SeqAt.canLay_of_shaped sd) (room_in_shaped sd hu) ⟨.bl (ds.any fun z => PyData.eqv z d), H, I, rfl, q⟩
theorem op_notInT (hu : X.A.units + 65 < cLine) : OpR X (compareOp .NotIn) (rInT X.K true) := by
  rintro pins s σ H x y v u Q I rx ry ⟨d, ds, hd, he, sd, se, q⟩
  obtain ⟨as, r1⟩ := Dp.reads I d x v hd rx
  obtain ⟨bs, r2⟩ := Dp.reads I (.tuple ds) y u he ry
  exact SeqAt.notIn_tuple_reads r2 r1 (SeqAt.canLay_of_shaped se) (SeqAt.canLay_of_shaped sd) (room_in_shaped sd hu) ⟨.bl (!ds.any fun z => PyData.eqv z d), H, I, rfl, q⟩
theorem pys_any (x : D) : ∀ l : List D, ((D.pys l).any fun z => PyData.eqv z x.py) = inD x l
  | [] => rfl
  | d :: r => by
    have ih := pys_any x r
    simp only [D.pys, List.any_cons, inD] at ih ⊢
    rw [ih]
    rfl
def RInDp (neg : Bool) : R3 := fun x y M Q => match y with
  | .tup ds => x.shp = true ∧ (D.tup ds).shp = true ∧ Q (.bl (if neg then !inD x ds else inD x ds)) M
  | .rol ds => x.shp = true ∧ (D.rol ds).shp = true ∧ Q (.bl (if neg then !inD x ds else inD x ds)) M
  | .ref a => ∃ ds, M a = some (.lst ds) ∧ x.shp = true ∧ (D.rol ds).shp = true ∧ Q (.bl (if neg then !inD x ds else inD x ds)) M
  | _ => False
theorem shp_two {d : D} (h : d.shp = true) : d.pure = true ∧ SeqAt.shaped d.py = true := by
  unfold D.shp at h
  simpa only [Bool.and_eq_true] using h
theorem rd_inDp : RD K (fun x y H Q => rInT K false x y H Q ∨ rInD K x y H Q) (RInDp false) := by
  intro H0 H M vx vy x y Q Q' i R tx ty k q
  cases ty with
  | tup hs ha =>
    obtain ⟨h1, h2, q⟩ := q
    obtain ⟨p1, s1⟩ := shp_two h1
    obtain ⟨p2, s2⟩ := shp_two h2
    exact .inl ⟨_, _, Tp.dp _ _ p1 tx, .tup hs (Tps.dp _ _ (by simpa only [D.pure] using p2) ha), s1, s2, k _ _ _ _ i R (.bl _) (by rw [pys_any]; exact q)⟩
  | rol hs ha =>
    obtain ⟨h1, h2, q⟩ := q
    obtain ⟨p1, s1⟩ := shp_two h1
    obtain ⟨p2, s2⟩ := shp_two h2
    exact .inr ⟨_, _, Tp.dp _ _ p1 tx, .lst hs.sq (Tps.dp _ _ (by simpa only [D.pure] using p2) ha), s1, s2, k _ _ _ _ i R (.bl _) (by rw [pys_any]; exact q)⟩
  | ref a =>
    obtain ⟨ds, e, h1, h2, q⟩ := q
    obtain ⟨_, ea, us, rfl, ha⟩ := R a _ e
    obtain ⟨p1, s1⟩ := shp_two h1
    obtain ⟨p2, s2⟩ := shp_two h2
    exact .inr ⟨_, _, Tp.dp _ _ p1 tx, .lst (SqL.of ea) (Tps.dp _ _ (by simpa only [D.pure] using p2) ha), s1, s2, k _ _ _ _ i R (.bl _) (by rw [pys_any]; exact q)⟩
  | _ => exact False.elim q
theorem rd_notInDp : RD K (fun x y H Q => rInT K true x y H Q ∨ rNotInD K x y H Q) (RInDp true) := by
  intro H0 H M vx vy x y Q Q' i R tx ty k q
  cases ty with
  | tup hs ha =>
    obtain ⟨h1, h2, q⟩ := q
    obtain ⟨p1, s1⟩ := shp_two h1
    obtain ⟨p2, s2⟩ := shp_two h2
    exact .inl ⟨_, _, Tp.dp _ _ p1 tx, .tup hs (Tps.dp _ _ (by simpa only [D.pure] using p2) ha), s1, s2, k _ _ _ _ i R (.bl _) (by rw [pys_any]; exact q)⟩
  | rol hs ha =>
    obtain ⟨h1, h2, q⟩ := q
    obtain ⟨p1, s1⟩ := shp_two h1
    obtain ⟨p2, s2⟩ := shp_two h2
    exact .inr ⟨_, _, Tp.dp _ _ p1 tx, .lst hs.sq (Tps.dp _ _ (by simpa only [D.pure] using p2) ha), s1, s2, k _ _ _ _ i R (.bl _) (by rw [pys_any]; exact q)⟩
  | ref a =>
    obtain ⟨ds, e, h1, h2, q⟩ := q
    obtain ⟨_, ea, us, rfl, ha⟩ := R a _ e
    obtain ⟨p1, s1⟩ := shp_two h1
    obtain ⟨p2, s2⟩ := shp_two h2
    exact .inr ⟨_, _, Tp.dp _ _ p1 tx, .lst (SqL.of ea) (Tps.dp _ _ (by simpa only [D.pure] using p2) ha), s1, s2, k _ _ _ _ i R (.bl _) (by rw [pys_any]; exact q)⟩
  | _ => exact False.elim q
variable {a b : Expr} {σ : Sd} {M : Mp} {Q : QD} {QB : Bool → Mp → Prop} {pos : Pos}
theorem t_inDp (hr : ∃ k, Room k X.A) (h : ES X a σ M fun x M1 => ES X b σ M1 fun y M2 => RInDp false x y M2 (QBl QB)) (hm : behindInMarks .In b = false := by rfl) : TT3 X (.Compare a [.In] [b] pos) σ M QB :=
  t_cmp (OpR.or (op_inT (by have := hr.choose_spec.un; omega)) (op_inD (by have := hr.choose_spec.un; omega))) rd_inDp hm h
theorem e_inDp (hr : ∃ k, Room k X.A) (h : ES X a σ M fun x M1 => ES X b σ M1 fun y M2 => RInDp false x y M2 Q) (hm : behindInMarks .In b = false := by rfl) : ES X (.Compare a [.In] [b] pos) σ M Q :=
  e_cmp (OpR.or (op_inT (by have := hr.choose_spec.un; omega)) (op_inD (by have := hr.choose_spec.un; omega))) rd_inDp hm h
theorem t_notInDp (hr : ∃ k, Room k X.A) (h : ES X a σ M fun x M1 => ES X b σ M1 fun y M2 => RInDp true x y M2 (QBl QB)) (hm : behindInMarks .NotIn b = false := by rfl) : TT3 X (.Compare a [.NotIn] [b] pos) σ M QB :=
  t_cmp (OpR.or (op_notInT (by have := hr.choose_spec.un; omega)) (op_notInD (by have := hr.choose_spec.un; omega))) rd_notInDp hm h
/-- {k: v} -/
theorem e_disp1 {kx vx : Expr} (h : ∀ p M1, M p = none → M1 p = some (.dK []) → Mle M M1 → ES X kx σ M1 fun kd M2 => ES X vx σ M2 fun vd M3 => ∃ k, kd = kD k ∧ M3 p = some (.dK []) ∧ SetM M3 p (.dK [(k, vd)]) fun M4 => Q (.ref p) M4) : ES X (.Dict [some kx] [vx] pos) σ M Q :=
  ES.of (pe_disp (pps_cons pe_sem pe_sem pps_nil) rfl rfl (by simp) (by simp)) fun σv H S R p hp => by
    have im := Imm.new (o := .dK []) hp
    have R1 := R.new (m := .dK []) hp ⟨_, rfl, .nil⟩
    refine (h p _ (R.fresh hp) updM_same (Mle.new (R.fresh hp))).go (H0 := upd H p (.dK [])) (S.mono im) R1 fun v1 H1 kd M2 i1 R2 t1 q1 => ?_
    refine q1.go (H0 := H1) ((S.mono im).mono i1) R2 fun v2 H2 vd M3 i2 R3 t2 ⟨k, ek, ep, q⟩ => ?_
    subst ek
    obtain rfl := tp_kD t1
    obtain ⟨_, eh, us, rfl, hk⟩ := R3 p _ ep
    cases hk
    refine ⟨eh, [(k, v2)], rfl, by simp, ?_⟩
    have im2 : Imm H2 (upd H2 p (.dK [(k, v2)])) := Imm.set eh (fun z => z)
    exact ⟨((im.trans i1).trans i2).trans im2, _, _, R3.set (m := .dK [(k, vd)]) eh (fun z => z) ⟨_, rfl, .cons (Tp.mono im2 _ _ t2) .nil⟩, .ref p, SetM.at q⟩
end
end DL
set_option maxHeartbeats 1000000
namespace DL
open PySem L2 PySem.Spec PyProof.Rows
/-! ### texts: join, repeated texts, one sign in a text -/
section
variable {X : Cx} {o e a b : Expr} {σ : Sd} {M : Mp} {Q : QD} {QB : Bool → Mp → Prop} {pos apos : Pos}
/-- sep.join(a list | a tuple of texts) -/
def RJoin (a : Str) : D → Mp → QD → Prop := fun y M Q => ∃ ys : List Str, ((∃ p, y = .ref p ∧ M p = some (.lst (ys.map D.str))) ∨ y = .tup (ys.map D.str) ∨ y = .rol (ys.map D.str)) ∧ (ys.map (·.length)).sum + ys.length * a.length ≤ 16777216 ∧ Q (.str (Str.join a ys)) M
theorem e_join (h : ES X o σ M fun x M1 => ∃ a, x = .str a ∧ ES X e σ M1 fun y M2 => RJoin a y M2 Q) (hs : starEach [e] X.env = [(false, eval e X.env)] := by rfl)
    (hbase : attributeBase o "join" X.env (eval o X.env) = eval o X.env := by rfl) (hline : (apos.endLine == pos.line) = true := by rfl) : ES X (.Call (.Attribute o "join" apos) [e] [] pos) σ M Q :=
  ES.of (pe_join pe_sem pe_sem hs hbase hline) fun σv H S R => h.go (H0 := H) S R fun v H1 x M1 i1 R1 t1 ⟨a, ex, q1⟩ => by
    subst ex
    cases t1
    refine ⟨⟨a, rfl⟩, q1.go (H0 := H1) (S.mono i1) R1 fun u H2 y M2 i2 R2 t2 ⟨ys, hy, hz, q⟩ => ?_⟩
    have fin : ∀ p, (SqL X.K H2 p (ys.map V.str) ∨ SqT X.K H2 p (ys.map V.str)) → u = .ref p → ∃ a_1 p, ∃ ys : List Str, V.str a = .str a_1 ∧ [u] = [.ref p] ∧ (SqL X.K H2 p (ys.map V.str) ∨ SqT X.K H2 p (ys.map V.str)) ∧
      (ys.map (·.length)).sum + ys.length * a_1.length ≤ 16777216 ∧ DQ X.K H Q (.str (Txt.join a_1 ys)) H2 := fun p hp e => by
      subst e
      exact ⟨a, p, ys, rfl, rfl, hp, hz, i1.trans i2, _, M2, R2, .str _, by rw [TL.join_eq]; exact q⟩
    rcases hy with ⟨p, rfl, ep⟩ | rfl | rfl
    · obtain ⟨_, ea, us, rfl, ha⟩ := R2 p _ ep
      obtain rfl := tps_strs ha
      cases t2
      exact fin p (.inl (SqL.of ea)) rfl
    · cases t2 with
      | tup hs ha => obtain rfl := tps_strs ha; exact fin _ (.inr hs) rfl
    · cases t2 with
      | rol hs ha => obtain rfl := tps_strs ha; exact fin _ (.inl hs.sq) rfl
/-- a text, n times -/
def mulS (x : Str) (n : Nat) : Str := if (n : Int) < 1 then Str.empty else if ((n : Int) == 1 || x.length == 0) = true then x else ⟨(List.replicate n x.cps).foldl (· ++ ·) #[]⟩
theorem mulS_len (x : Str) (n : Nat) : (mulS x n).length ≤ x.length * n := by
  have key : ∀ (m : Nat) (acc : Array Nat), ((List.replicate m x.cps).foldl (· ++ ·) acc).size = acc.size + x.length * m := by
    intro m
    induction m with
    | zero => intro acc; simp
    | succ m ih =>
      intro acc
      rw [List.replicate_succ, List.foldl_cons, ih, Array.size_append, Nat.mul_succ]
      simp only [Str.length]
      omega
  unfold mulS
  split
  · exact Nat.zero_le _
  · split
    · rename_i h1 h2
      exact Nat.le_mul_of_pos_right _ (by omega)
    · rw [Str.length]
      dsimp only
      rw [key]
      simp
def RMulS : R3 := fun x y M Q => ∃ (a : Str) (n : Nat), x = .str a ∧ y = .int (n : Int) ∧ a.length ≤ 1000 ∧ n ≤ 1000 ∧ Q (.str (mulS a n)) M
theorem op_mulS : OpR X (binaryOp .Mult) (fun x y H Q => ∃ (a : Str) (n : Nat), x = .str a ∧ y = .int (n : Int) ∧ a.length ≤ 1000 ∧ n ≤ 1000 ∧ Q (.str (mulS a n)) H) := by
  intro pins s σ H x y v u Q I rx ry h
  obtain ⟨a, n, rfl, rfl, h1, h2, q⟩ := h
  obtain ⟨t, rfl⟩ := rx
  obtain ⟨t', rfl⟩ := ry
  have hp : a.length * n ≤ 1000000 := by
    have := Nat.mul_le_mul h1 h2
    omega
  have hl := mulS_len a n
  refine PySem.P.mul_str (by rw [Bool.or_eq_false_iff, decide_eq_false_iff_not, decide_eq_false_iff_not]; omega) (fun h3 h4 => ?_) (fun _ _ => ?_) ?_
  · have hp' : (a.length : Int) * (n : Int) ≤ 2 ^ 63 - 1 := by rw [← Int.natCast_mul]; omega
    have := Int.le_ediv_of_mul_le (c := (n : Int)) (by omega) hp'
    omega
  · unfold Builtin.Str.tooLong
    rw [decide_eq_false_iff_not, sizeLine_eq]
    rw [Int.toNat_natCast]
    omega
  · unfold mulS at q hl
    split
    · rename_i h3
      rw [if_pos h3] at q
      exact ⟨by decide, ⟨V.str Str.empty, H, I.tok _, ⟨_, rfl⟩, q⟩⟩
    · rename_i h3
      rw [if_neg h3] at q hl
      split
      · rename_i h4
        rw [if_pos h4] at q
        exact ⟨V.str a, H, I, ⟨_, rfl⟩, q⟩
      · rename_i h4
        rw [if_neg h4] at q hl
        rw [Int.toNat_natCast]
        exact ⟨by rw [sizeLine_eq]; omega, ⟨V.str ⟨(List.replicate n a.cps).foldl (· ++ ·) #[]⟩, H, I.tok _, ⟨_, rfl⟩, q⟩⟩
theorem rd_mulS {K : PySem.W.Frag} : RD K (fun x y H Q => ∃ (a : Str) (n : Nat), x = .str a ∧ y = .int (n : Int) ∧ a.length ≤ 1000 ∧ n ≤ 1000 ∧ Q (.str (mulS a n)) H) RMulS := by
  intro H0 H M vx vy x y Q Q' i R tx ty k q
  obtain ⟨a, n, rfl, rfl, h1, h2, q⟩ := q
  cases tx
  cases ty
  exact ⟨a, n, rfl, rfl, h1, h2, k _ _ _ _ i R (.str _) q⟩
theorem e_mulS (h : ES X a σ M fun x M1 => ES X b σ M1 fun y M2 => RMulS x y M2 Q) : ES X (.BinOp a .Mult b pos) σ M Q := e_op op_mulS rd_mulS h
/-- one sign in a text -/
def RInSg (neg : Bool) : R3 := fun x y M Q => ∃ (c : Nat) (z : Str), x = .str ⟨#[c]⟩ ∧ y = .str z ∧ Q (.bl (if neg then !decide (c ∈ z.cps.toList) else decide (c ∈ z.cps.toList))) M
theorem rd_inSg {K : PySem.W.Frag} : RD K (fun x y H Q => ∃ (c : Nat) (z : Str), x = .str ⟨#[c]⟩ ∧ y = .str z ∧ Q (.bl (decide (c ∈ z.cps.toList))) H) (RInSg false) := by
  intro H0 H M vx vy x y Q Q' i R tx ty k q
  obtain ⟨c, z, rfl, rfl, q⟩ := q
  cases tx
  cases ty
  exact ⟨c, z, rfl, rfl, k _ _ _ _ i R (.bl _) q⟩
theorem e_inSg (h : ES X a σ M fun x M1 => ES X b σ M1 fun y M2 => RInSg false x y M2 Q) (hm : behindInMarks .In b = false := by rfl) : ES X (.Compare a [.In] [b] pos) σ M Q := e_cmp op_in_sign rd_inSg hm h
theorem t_inSg (h : ES X a σ M fun x M1 => ES X b σ M1 fun y M2 => RInSg false x y M2 (QBl QB)) (hm : behindInMarks .In b = false := by rfl) : TT3 X (.Compare a [.In] [b] pos) σ M QB := t_cmp op_in_sign rd_inSg hm h
end
end DL
set_option maxHeartbeats 1000000
namespace DL
open PySem L2 PySem.Spec PyProof.Rows
/-! ### str of an int or of a text -/
def strD : D → Str
  | .int i => ((toString i : String) : Str)
  | .str x => x
  | _ => ""
def RStrD : RA3 := fun ds M Q => match ds with
  | [.int i] => i.natAbs.log2 < 1920 ∧ Q (.str (strD (.int i))) M
  | [.str x] => Q (.str x) M
  | _ => False
section
variable {X : Cx} {K : PySem.W.Frag} {e : Expr} {σ : Sd} {M : Mp} {Q : QD} {pos p : Pos}
theorem call_str_any : CallR X (.type "str") (fun xs H Q => (∃ i : Int, xs = [.int i] ∧ i.natAbs.log2 < 1920 ∧ Q (.str (toString i)) H) ∨ ∃ a, xs = [.str a] ∧ Q (.str a) H) := by
  intro pins s σ H xs us Q I r h
  rcases h with h | h
  · exact call_str_int pins s σ H xs us Q I r h
  · exact SkE.call_str_str pins s σ H xs us Q I r h
theorem rd_strD : RDA K (fun xs H Q => (∃ i : Int, xs = [.int i] ∧ i.natAbs.log2 < 1920 ∧ Q (.str (toString i)) H) ∨ ∃ a, xs = [.str a] ∧ Q (.str a) H) RStrD := by
  intro H0 H M vs ds Q Q' i R t k q
  match ds, t, q with
  | [.int n], t, q =>
    obtain ⟨v, rfl, r⟩ := t.one
    cases r
    exact .inl ⟨_, rfl, q.1, k _ _ _ _ i R (.str _) q.2⟩
  | [.str x], t, q =>
    obtain ⟨v, rfl, r⟩ := t.one
    cases r
    exact .inr ⟨_, rfl, k _ _ _ _ i R (.str _) q⟩
theorem e_strD (hm : X.mg "str" = none) (h : AS X [e] σ M fun ds M1 => RStrD ds M1 Q) (hg : Gl X "str" := by rfl) (he : starEach [e] X.env = (false, eval e X.env) :: starEach [] X.env := by rfl) : ES X (.Call (.Name "str" p) [e] [] pos) σ M Q := e_ct call_str_any rd_strD hm (by decide +kernel) h hg (by decide) (by decide) he rfl
end
/-- // by a larger divisor -/
theorem e_fdivW {X : Cx} {a b : Expr} {σ : Sd} {M : Mp} {Q : QD} {pos : Pos} (h : ES X a σ M fun x M1 => ES X b σ M1 fun y M2 => RInt CDivW (fun i j => .int (i / j)) x y M2 Q) : ES X (.BinOp a .FloorDiv b pos) σ M Q := e_op op_fdivW rd_int h
theorem divW {j : Int} (h0 : 0 < j) (h : j < 20000000000) (i : Int) : CDivW i j := by
  refine ⟨h0, ?_⟩
  have : j.natAbs.log2 < 40 := (Nat.log2_lt (by omega)).mpr (by omega)
  omega
/-- a number's text -/
theorem num_text (i : Int) : (∃ c cs, (strD (.int i)).cps.toList = c :: cs ∧ (c = 45 ∨ (48 ≤ c ∧ c ≤ 57))) := by
  have nat : ∀ n : Nat, ∃ c cs, TL.tl (Str.ofString (Nat.repr n)) = c :: cs ∧ (48 ≤ c ∧ c ≤ 57) := fun n => by
    have e : TL.tl (Str.ofString (Nat.repr n)) = TL.numL n := TL.tl_num n
    have hd := TL.numL_digits n
    have hne : TL.numL n ≠ [] := by
      unfold TL.numL
      intro h
      exact Nat.toDigits_ne_nil (List.map_eq_nil_iff.mp h)
    rw [e]
    cases h : TL.numL n with
    | nil => exact absurd h hne
    | cons c cs => exact ⟨c, cs, rfl, hd c (by rw [h]; exact List.mem_cons_self)⟩
  cases i with
  | ofNat n =>
    obtain ⟨c, cs, e, h⟩ := nat n
    exact ⟨c, cs, e, .inr h⟩
  | negSucc m =>
    refine ⟨45, ((Nat.repr (m + 1)).toList.map Char.toNat), ?_, .inl rfl⟩
    show TL.tl (Str.ofString ("-" ++ Nat.repr (m + 1))) = _
    rw [TL.tl_ofString, String.toList_append, List.map_append]
    rfl
theorem num_len {i : Int} (h : i.natAbs < 10 ^ 20) : (strD (.int i)).length ≤ 21 := by
  have := int_text_length_le10 (a := i) (k := 20) (by decide) h
  have e : (Str.ofString (toString i)).length = (toString i).length := by
    rw [TL.len_tl, TL.tl_ofString, List.length_map, String.length_toList]
  show (Str.ofString (toString i)).length ≤ 21
  omega
end DL
set_option maxHeartbeats 1000000
namespace DL
open PySem L2 PySem.Spec PyProof.Rows
/-! ### o.f += e; the signs of a text walked; int(text); texts, numbers and tuples of texts of a module -/
section
variable {X : Cx} {e o value a : Expr} {es : List Expr} {σ : Sd} {M : Mp} {Q : QD} {E : DE} {pos pos' p apos tpos : Pos} {f x : Str}
theorem s_faug (h : ES X o σ M fun x M1 => ∃ a C dx fs d, x = .ref a ∧ M1 a = some (.ins C dx fs) ∧ Cls X.K C ∧ NoAttr X.K C f ∧ fs.lookup f = some d ∧
      ES X value σ M1 fun y M2 => RInt0 (fun i j => .int (i + j)) d y M2 fun z M3 => ∃ dx' fs', M3 a = some (.ins C dx' fs') ∧ fs'.length < 1000 ∧ SetM M3 a (.ins C dx' (putFD f z fs')) fun M4 => E.nx σ M4) : SS X (.AugAssign (.Attribute o f tpos) .Add value pos) σ M E :=
  SS.of (ps_fldaug pe_sem pe_sem in_add) fun σv H S R => h.go (H0 := H) S R fun v H1 x M1 i1 R1 t1 ⟨a, C, dx, fs, d, ex, ea, c, n, l, q1⟩ => by
    subst ex
    obtain ⟨_, eh, gs, rfl, hk⟩ := R1 a _ ea
    obtain ⟨u, lu, tu⟩ := (hk.look (f := f)).1 d l
    cases t1
    refine ⟨a, C, dx, gs, u, rfl, eh, c, n, lu, q1.go (H0 := H1) (S.mono i1) R1 fun y H2 yd M2 i2 R2 t2 q2 => ?_⟩
    cases tu <;> first | exact False.elim q2 | skip
    case int i =>
      cases t2 <;> first | exact False.elim q2 | skip
      case int j =>
        obtain ⟨dx', fs', ea', l', q⟩ := q2
        obtain ⟨_, eh', gs', rfl, hk'⟩ := R2 a _ ea'
        have im : Imm H2 (upd H2 a (.ins C dx' (L2.putF f (.int (i + j)) gs'))) := Imm.set eh' (fun z => z)
        have ii := (i1.trans i2).trans im
        exact ⟨i, j, rfl, rfl, dx', gs', eh', by rw [hk'.length]; exact l', ii, σ, _, S.mono ii, R2.set (m := .ins C dx' (putFD f (.int (i + j)) fs')) eh' (fun z => z) ⟨_, rfl, KVs.putF (.int _) (hk'.mono im)⟩, SetM.at q⟩
def chD (x : Str) : List D := x.cps.toList.map fun c => .str ⟨#[c]⟩
theorem wk_S {K : PySem.W.Frag} {H1 : Hp} {x : Str} : WalkD K H1 (Its x) (chD x) (fun _ => True) where
  goes := fun i H M im R _ hi => by
    unfold chD at hi
    rw [List.length_map, Array.length_toList] at hi
    exact hi
  stops := fun H M im R _ => by
    unfold chD
    rw [List.length_map, Array.length_toList]
    exact Nat.le_refl _
  yields := fun i H M y H' d im R _ hd z => by
    obtain ⟨e, c, hc, ey⟩ := z
    subst e ey
    unfold chD at hd
    rw [List.getElem?_map] at hd
    have : x.cps.toList[i]? = some c := by simpa using hc
    rw [this] at hd
    cases hd
    exact ⟨Imm.refl _, R, .str _⟩
theorem i_str {tg : Expr} {R : List D → (Mp → Prop) → Mp → Prop} (h : ES X a σ M fun d M1 => ∃ x, d = .str x ∧ R (chD x) (fun _ => True) M1) : IS X tg a σ M R :=
  IS.of (pi_str pe_sem) fun σv H S RM => h.go (H0 := H) S RM fun v H1 d M1 i1 R1 t1 ⟨x, e, q⟩ => by
    subst e
    cases t1
    exact ⟨x, rfl, i1, _, _, M1, R1, wk_S, q⟩
theorem chD_get {x : Str} {i : Nat} {d : D} (h : (chD x)[i]? = some d) : ∃ c, x.cps.toList[i]? = some c ∧ d = .str ⟨#[c]⟩ := by
  unfold chD at h
  rw [List.getElem?_map] at h
  cases hx : x.cps.toList[i]? with
  | none => rw [hx] at h; cases h
  | some c => rw [hx] at h; cases h; exact ⟨c, rfl, rfl⟩
theorem chD_len (x : Str) : (chD x).length = x.length := by
  unfold chD
  rw [List.length_map, Array.length_toList]
  rfl
theorem rd_notInSg {K : PySem.W.Frag} : RD K (fun x y H Q => ∃ (c : Nat) (z : Str), x = .str ⟨#[c]⟩ ∧ y = .str z ∧ Q (.bl (!decide (c ∈ z.cps.toList))) H) (RInSg true) := by
  intro H0 H M vx vy x y Q Q' i R tx ty k q
  obtain ⟨c, z, rfl, rfl, q⟩ := q
  cases tx
  cases ty
  exact ⟨c, z, rfl, rfl, k _ _ _ _ i R (.bl _) q⟩
theorem t_notInSg {b : Expr} {QB : Bool → Mp → Prop} (h : ES X a σ M fun x M1 => ES X b σ M1 fun y M2 => RInSg true x y M2 (QBl QB)) (hm : behindInMarks .NotIn b = false := by rfl) : TT3 X (.Compare a [.NotIn] [b] pos) σ M QB := t_cmp op_notIn_sign rd_notInSg hm h
/-- int(text) -/
def RIntS : RA3 := fun ds M Q => match ds with
  | [.str x] => ∃ n, PySem.intText? x = some n ∧ x.length ≤ 640 ∧ Q (.int n) M
  | _ => False
theorem rd_intS {K : PySem.W.Frag} : RDA K (fun xs H Q => ∃ a n, xs = [.str a] ∧ PySem.intText? a = some n ∧ a.length ≤ 640 ∧ Q (.int n) H) RIntS := by
  intro H0 H M vs ds Q Q' i R t k q
  match ds, t, q with
  | [.str x], t, ⟨n, h1, h2, q⟩ =>
    obtain ⟨v, rfl, r⟩ := t.one
    cases r
    exact ⟨x, n, rfl, h1, h2, k _ _ _ _ i R (.int _) q⟩
theorem e_intS (hm : X.mg "int" = none) (h : AS X [e] σ M fun ds M1 => RIntS ds M1 Q) (hg : Gl X "int" := by rfl) (he : starEach [e] X.env = (false, eval e X.env) :: starEach [] X.env := by rfl) : ES X (.Call (.Name "int" p) [e] [] pos) σ M Q := e_ct call_int_str rd_intS hm (by decide +kernel) h hg (by decide) (by decide) he rfl
/-- a module's text, a module's number -/
def ConS (mg : Str → Option Value) (x : Str) (y : Str) : Prop := ∃ u, mg x = some (.str y u)
def ConI (mg : Str → Option Value) (x : Str) (y : Int) : Prop := ∃ u, mg x = some (.int y u)
theorem e_conS {y : Str} (C : ConS X.mg x y) (q : Q (.str y) M) (hg : Gl X x := by rfl) (hdb : (x == ("__debug__" : Str)) = false := by decide) : ES X (.Name x pos) σ M Q := by
  obtain ⟨u, hm⟩ := C
  exact e_glob (v := .str y) hm ⟨_, rfl⟩ (fun H => .str y) q hg hdb
theorem e_conI {y : Int} (C : ConI X.mg x y) (q : Q (.int y) M) (hg : Gl X x := by rfl) (hdb : (x == ("__debug__" : Str)) = false := by decide) : ES X (.Name x pos) σ M Q := by
  obtain ⟨u, hm⟩ := C
  exact e_glob (v := .int y) hm ⟨_, rfl⟩ (fun H => .int y) q hg hdb
end
theorem vals_strs : ∀ {ps : List (Str × Nat)}, Vals (ps.map fun p => V.str p.1) (ps.map fun p => Value.str p.1 p.2)
  | [] => .nil
  | p :: r => .cons (show RelV (.str p.1) _ from ⟨_, rfl⟩) vals_strs
/-- a module's tuple of texts, of any length -/
theorem conT {K : PySem.W.Frag} {mg : Str → Option Value} {x : Str} {a : Addr} {dd : Option Addr} {ps : List (Str × Nat)} {vs : Array Value} {n : Nat} {sl : Array (Option Value)} (hm : mg x = some (.ref a)) (hk : K.lookup a = some ⟨.type "tuple", dd, .seq vs n, sl⟩)
    (hv : vs.toList = ps.map fun p => Value.str p.1 p.2) (hl : ps.length ≤ 1000) : ConT K mg x (.tup (ps.map fun p => D.str p.1)) := by
  have e : (ps.map fun p => D.str p.1) = (ps.map (·.1)).map D.str := by rw [List.map_map]; rfl
  have e2 : (ps.map fun p => V.str p.1) = (ps.map (·.1)).map V.str := by rw [List.map_map]; rfl
  refine ⟨a, hm, fun H => .tup (xs := ps.map fun p => V.str p.1) (.inr ⟨_, _, _, hk, rfl, rfl, ?_, ?_⟩) ?_⟩
  · rw [← Array.length_toList, hv, List.length_map]
    exact sz (by omega)
  · rw [hv]
    exact vals_strs
  · rw [e, e2]
    exact Tps.strs _
end DL
set_option maxHeartbeats 4000000
namespace DL
open PySem L2 PySem.Spec PyProof.Rows
/-! ### a tuple, repeated -/
theorem tuple_mul1 (l : Addr) (items : Array Value) (n : Nat) (dd : Option Addr) (sl : Array (Option Value)) (x : Int) (u : PySem.Tok) (c0 : (decide (x < -(2 ^ 63)) || decide (x ≥ 2 ^ 63)) = false) (c1 : (items.isEmpty || x == 1) = true) :
    Meets (Builtin.«tuple.__mul__» ⟨[.ref l, .int x u], []⟩) (fun _ R s => s.heap.get? l = some { cls := .type "tuple", dict := dd, data := .seq items n, slots := sl } ∧ R (.ok (.ret (Value.ref l))) { s with heap := s.heap, toks := s.toks }) :=
  .of_wp fun prog w A R s h => by
    obtain ⟨hp, g, d, tk, os⟩ := s
    obtain ⟨hl, h⟩ := h
    have f1 := AutoSeq1.idx_int
    have f2 := AutoSeq1.sub_tuple_tuple
    wp_walk using wpAny_loadPart' hl
    repeat (first
      | (refine wpAny_ite_false (decide_eq_false (by rw [c0]; exact Bool.false_ne_true)) ?_; wp_walk using wpAny_loadPart' hl)
      | (refine wpAny_ite_true (decide_eq_true c1) ?_; wp_walk using wpAny_loadPart' hl))
    exact ⟨_, rfl, h⟩
def rRep1 (K : PySem.W.Frag) : R2 := fun x y H Q => ∃ l k xs, x = .ref l ∧ y = .int k ∧ SqT K H l xs ∧ (xs = [] ∨ k = 1) ∧ 0 ≤ k ∧ k ≤ 1000 ∧ xs.length ≤ 1000 ∧ Q (.ref l) H
section
variable {X : Cx}
theorem op_rep1 : OpR X (binaryOp .Mult) (rRep1 X.K) := by
  intro pins s σ H x y v u Q I rx ry h
  obtain ⟨l, k, xs, rfl, rfl, hT, hne, h1, h2, hz, q⟩ := h
  cases rx
  obtain ⟨t, rfl⟩ := ry
  obtain ⟨its, r, ⟨⟨cls, dd, data, sl⟩, ho, hc, n, hd⟩, hs⟩ := I.tuple hT
  simp only at hc hd
  subst hc hd
  have c0 : (decide (k < -(2 ^ 63)) || decide (k ≥ 2 ^ 63)) = false := by
    rw [decide_eq_false (by omega), decide_eq_false (by omega)] <;> rfl
  have c1 : (its.toArray.isEmpty || k == 1) = true := by
    rcases hne with rfl | rfl
    · cases r
      rfl
    · rw [Bool.or_eq_true]
      exact .inr rfl
  refine wpAny_binaryOp_repeat_ref (T := "tuple") (U := "int") (by decide) ⟨_, ho, rfl⟩ (fun s' => typeIs_int s' k t) noFill_tuple_mul F.fills_int_mul F.slot_int_rmul repeat_tuple F.slot_int_index.lookup
    (call_meets F.slot_int_rmul (typeIs_int s k t) F.entry_int_rmul (F.args_int_rmul_2 _ _) (int_rmul_tuple k t l its.toArray n dd sl)
      ⟨ho, rfl, ⟨_, ho, rfl⟩, call_meets F.slot_tuple_mul ⟨_, ho, rfl⟩ F.entry_tuple_mul (F.args_tuple_mul_2 _ _) (tuple_mul1 l its.toArray n dd sl k t c0 c1) ⟨ho, ?_⟩⟩)
  exact ⟨.ref l, H, I.tok _, rfl, q⟩
def RRep : R3 := fun x y M Q => ∃ (ds : List D) (k : Nat), x = .tup ds ∧ y = .int (k : Int) ∧ 1 ≤ k ∧ k ≤ 1000 ∧ ds.length ≤ 1000 ∧ Q (.tup (List.replicate k ds).flatten) M
theorem rep_nil : ∀ k : Nat, (List.replicate k ([] : List D)).flatten = []
  | 0 => rfl
  | k + 1 => by rw [List.replicate_succ, List.flatten_cons, rep_nil k]; rfl
theorem tps_rep {K : PySem.W.Frag} {H : Hp} {xs : List V} {ds : List D} (h : Tps K H xs ds) : ∀ k : Nat, Tps K H (List.replicate k xs).flatten (List.replicate k ds).flatten
  | 0 => .nil
  | k + 1 => by
    rw [List.replicate_succ, List.flatten_cons, List.replicate_succ, List.flatten_cons]
    exact h.append (tps_rep h k)
theorem rd_rep {K : PySem.W.Frag} : RD K (fun x y H Q => rRepT K x y H Q ∨ rRep1 K x y H Q) RRep := by
  intro H0 H M vx vy x y Q Q' i R tx ty k q
  obtain ⟨ds, n, rfl, rfl, h1, h2, hz, q⟩ := q
  cases ty
  cases tx with
  | @tup a xs ds hs ha =>
    by_cases hc : xs = [] ∨ n = 1
    · refine .inr ⟨a, n, xs, rfl, rfl, hs, ?_, by omega, by omega, by rw [ha.length]; exact hz, ?_⟩
      · rcases hc with h | h
        · exact .inl h
        · exact .inr (by omega)
      · refine k _ _ _ _ i R (.tup hs ha) ?_
        rcases hc with h | h
        · subst h
          cases ha
          rw [rep_nil] at q
          exact q
        · subst h
          have : (List.replicate 1 ds).flatten = ds := by simp
          rw [this] at q
          exact q
    · have hn1 : n ≠ 1 := fun h => hc (.inr h)
      refine .inl ⟨a, n, xs, rfl, rfl, hs, fun h => hc (.inl h), by omega, by omega, by rw [ha.length]; exact hz, fun p hp => ?_⟩
      rw [Int.toNat_natCast]
      have im := Imm.new (o := .tup (List.replicate n xs).flatten) hp
      exact k _ _ _ _ (i.trans im) (R.skip hp) (.tup (SqT.of upd_same) (Tps.mono im _ _ (tps_rep ha n))) q
end
theorem e_rep {X : Cx} {a b : Expr} {σ : Sd} {M : Mp} {Q : QD} {pos : Pos} (h : ES X a σ M fun x M1 => ES X b σ M1 fun y M2 => RRep x y M2 Q) : ES X (.BinOp a .Mult b pos) σ M Q := e_op (OpR.or op_repT op_rep1) rd_rep h
end DL
set_option maxHeartbeats 4000000
namespace L2
open PySem PySem.Spec PyProof.Rows
/-! ### an __init__ that begins with super().__init__(text) -/
/-- the context of a def whose only free name is __class__ -/
def cxS (CX : CXT) (P : Program) (w : World) (K : PySem.W.Frag) (mg : Str → Option Value) (base : Heap) (N : List Str) (qual : Str) (scope : Scope) (f : Addr) (cd : Value) (cc : Addr) (A : Around) (outer : List Env) (s : Shared) (H : Hp) (E : XK) : Cx where
  prog := P
  w := w
  K := K
  mg := mg
  base := base
  A := A.deeper (PySem.W.ksEnv qual scope s.heap.objs.size f cd cc)
  N := N
  s_0 := s
  H_0 := H
  env := PySem.W.ksEnv qual scope s.heap.objs.size f cd cc
  outer := outer
  stack := PySem.W.ksEnv qual scope s.heap.objs.size f cd cc :: outer
  ex := []
  calm := true
  fn := fun x => !(x == ("__class__" : Str))
  pn := []
  xe := fun e s' => wpAny (model P w) (A.deeper (PySem.W.ksEnv qual scope s.heap.objs.size f cd cc)) (leaving (PySem.W.ksEnv qual scope s.heap.objs.size f cd cc) e) (fun _ s'' => CX outer H s E e s'') (fun e' s'' => CX outer H s E e' s'') s'
structure SScope (N P : List Str) (sc : Scope) : Prop where
  kind : sc.kind = .function
  co : sc.isCoroutine = false
  gen : sc.isGenerator = false
  nd : N.Nodup
  pre : N.take P.length = P
  par : ∀ x ∈ P, sc.names.lookup x = some .local
  nocell : ∀ y ∈ sc.names, y.2 ≠ .cell
  free : ∀ x, sc.names.lookup x = some .free → x = "__class__"
  cls : sc.names.lookup ("__class__" : Str) = some .free
  sup : sc.names.lookup ("super" : Str) = some .globalImplicit
theorem look1 {k x : Str} {c d : Addr} (h : ([(k, c)] : List (Str × Addr)).lookup x = some d) : x = k ∧ d = c := by
  by_cases e : x = k
  · subst e
    simp at h
    exact ⟨rfl, h.symm⟩
  · have : (x == k) = false := by simpa using e
    simp [List.lookup, this] at h
theorem rev_get {x : Str} {v : Value} : ∀ {P : List Str} {vs : List Value} {i : Nat}, P.Nodup → P[i]? = some x → vs[i]? = some v → (P.zip vs).reverse.lookup x = some v
  | [], _, _, _, h, _ => by simp at h
  | _ :: _, [], _, _, _, h => by simp at h
  | p :: P, w :: vs, i, nd, h1, h2 => by
    rw [List.zip_cons_cons, List.reverse_cons, List.lookup_append]
    cases i with
    | zero =>
      simp at h1 h2
      subst h1 h2
      have hn : (P.zip vs).reverse.lookup p = none := by
        rw [List.lookup_eq_none_iff]
        rintro ⟨a, b⟩ hm
        have := (List.of_mem_zip (List.mem_reverse.mp hm)).1
        simpa using fun e : p = a => (List.nodup_cons.mp nd).1 (e ▸ this)
      rw [hn]
      simp
    | succ i =>
      rw [rev_get (i := i) (List.nodup_cons.mp nd).2 (by simpa using h1) (by simpa using h2)]
      rfl
theorem inv_startS {CX : CXT} {P : Program} {w : World} {K : PySem.W.Frag} {mg : Str → Option Value} {base : Heap} {N ps : List Str} {qual : Str} {scope : Scope} {f cc D : Addr} {cd cl : Value} {cld : Option Addr} {csl : Array (Option Value)} {A : Around} {outer : List Env} {s : Shared} {H : Hp} {E : XK} {us : List Value} {vs : List V} {h1 : Heap} {tk : Nat}
    (S : SScope N ps scope) (hcell : K.lookup cc = some ⟨cl, cld, .cell (some (.ref D)), csl⟩) (hd : A.handled = none) (e0 : Env0 P w K mg base A outer s H) (hl : vs.length = ps.length) (r : Vals vs us)
    (hns : h1.Ns s.heap.objs.size (fun x => (ps.zip us).reverse.lookup x)) (hk : ∀ b o, s.heap.get? b = some o → h1.get? b = some o) :
    Inv (cxS CX P w K mg base N qual scope f cd cc A outer s H E) [] (start N vs) H { s with heap := h1, toks := tk } := by
  have hpl : ps.length ≤ N.length := by have := congrArg List.length S.pre; rw [List.length_take] at this; omega
  have KX : K.In s.heap := e0.mod.kin.keeps fun b o e => (e0.bs b o e).1
  have noA : ∀ b : Addr, b ∉ (cxS CX P w K mg base N qual scope f cd cc A outer s H E).ex := fun b z => absurd (show b ∈ ([] : List Addr) from z) (by simp)
  refine ⟨⟨e0.mod, S.kind, rfl, rfl, Nat.le_refl _, fun y z c h1 h2 => ?_, fun y hy => ?_, fun y c hf h => ?_, fun _ => hd, Around.frames_deeper e0.frames, .inr ⟨rfl, rfl⟩, fun b z => absurd z (noA b), e0.bs, e0.bsz, fun b _ _ => noA b, fun b z => absurd z (noA b), e0.funs, e0.frf⟩,
    rfl, e0.bare, Un.kept hk, ⟨_, hns, fun i y v h1 h2 h3 => ?_⟩, fun y c h => ?_, e0.hok.fresh (Nat.le_refl _), fun y c h => ?_, fun p hp => absurd (show p ∈ ([] : List (Addr × Obj)) from hp) (by simp), e0.hok.kept hk, ?_⟩
  · exact (look1 h1).1.trans (look1 h2).1.symm
  · have hy : scope.names.lookup y = some .cell ∨ scope.names.lookup y = some .free := hy
    rcases hy with hy | hy
    · exact absurd rfl (S.nocell _ (PySem.mem_of_lookup hy))
    · have := S.free y hy
      subst this
      exact ⟨cc, by show ([(("__class__" : Str), cc)] : List (Str × Addr)).lookup _ = _; simp⟩
  · have := (look1 h).1
    subst this
    exact absurd (show (!(("__class__" : Str) == ("__class__" : Str))) = true from hf) (by decide)
  · have hi : i < vs.length := by
      unfold start at h2
      by_cases hi : i < vs.length
      · exact hi
      · rw [List.getElem?_append_right (by simpa using hi)] at h2
        rw [List.getElem?_replicate] at h2
        split at h2 <;> cases h2
    have ha : vs[i]? = some v := by
      unfold start at h2
      rw [List.getElem?_append_left (by simpa using hi), List.getElem?_map] at h2
      cases e : vs[i]? with
      | none => rw [e] at h2; cases h2
      | some a => rw [e] at h2; cases h2; rfl
    obtain ⟨u, hu, rv⟩ := r.get ha
    have hp : ps[i]? = some y := by
      rw [← S.pre, List.getElem?_take_of_lt (by omega)]; exact h1
    have ndP : ps.Nodup := by rw [← S.pre]; exact S.nd.sublist (List.take_sublist _ _)
    exact ⟨u, rv, .inl ⟨S.par y (List.mem_of_getElem? hp), rev_get ndP hp hu⟩⟩
  · obtain ⟨_, rfl⟩ := look1 h
    exact ⟨_, _, hk _ _ (KX _ _ hcell), rfl⟩
  · obtain ⟨_, rfl⟩ := look1 h
    exact (e0.bs _ _ (e0.mod.kin _ _ hcell)).2
  · unfold start
    show _ = N.length
    rw [List.length_append, List.length_map, List.length_replicate]
    omega
/-- what the written part says of an own exception class above ValueError whose __init__ says super().__init__ -/
structure SupC (P : Program) (K : PySem.W.Frag) (mg : Str → Option Value) (cc C cda : Addr) : Prop where
  cell : ∃ cl cld csl, K.lookup cc = some ⟨cl, cld, .cell (some (.ref C)), csl⟩
  code : ∃ ccl cdd vs ccs file tf, K.lookup cda = some ⟨ccl, cdd, .fields vs, ccs⟩ ∧ vs[2]? = some (.str file tf) ∧ ((P.main.file : Str) == file) = true
  mro : PySem.W.mroIn K C (.ref C) = some true
  sup : PySem.W.ks_superIn K C C "__init__" = some (some (.builtin "ValueError.__init__"))
  base : PySem.W.subIn K (.ref C) (.type "ValueError") = some true
  third : PySem.W.nsIn K PySem.cStatics "thirdparty.any" = some none
  msup : mg "super" = none
  top : (P.main.scope.names.lookup ("super" : Str)).isSome = false
section
variable {prog : Program} {w : World} {A : Around} {E : Value → Shared → Prop} {h : Heap} {g : Array GenState} {d : Drawn} {t : Nat} {os : OsState} {B i newId : String} {bmB : List Value}
variable {nm q : Str} {C N : Addr} {bs bm : List Value} {hdct : Bool} {sn : List Str} {sub : List Value} {ab : Bool} {col : Option Bool} {dd : Option Addr} {k0 k1 k2 k3 k5 : Option Value}
theorem call_mw (FB : ExcBaseFacts B newId i bmB) {u x t0 : Addr} {rest : List Value} {Q : Value → Shared → Prop}
    (hC : h.get? C = some (excClassObj nm q C N bs bm hdct sn sub ab col dd k0 k1 k2 k3 k5 newId)) (he : h.get? x = some (PySem.HandSPX.excO C t0)) (hu : h.get? u = some (PySem.W.kxs_mw i x)) (hz : rest.length ≤ sizeLine)
    (hq : ∀ h' t1, (∀ b o, b ≠ x → h.get? b = some o → h'.get? b = some o) → h'.get? x = some (PySem.HandSPX.excO C t1) → Q .none ⟨h', g, d, t, os⟩) :
    wpAny (model prog w) A (call (.ref u) rest) Q E ⟨h, g, d, t, os⟩ := by
  refine wpAny_call (codeAny_of_tree ?_)
  show wpAny _ A.in1 (callAny (.ref u) ⟨rest, []⟩) _ _ _
  simp only [callAny]
  refine wpAny_bind (wpAny_load hu ?_)
  simp only [PySem.W.kxs_mw, show (Value.type "method-wrapper" == Value.type "method" || Value.type "method-wrapper" == Value.type "builtin_function_or_method" || Value.type "method-wrapper" == Value.type "method-wrapper") = true by decide, if_true]
  refine PySem.W.KFB.if_so (by decide) ?_
  refine wpAny_bind (PySem.W.check_bound_init FB.toExcCallFacts hC he rfl ?_)
  refine wpAny_bind (wpAny_pure (wpAny_pure ?_))
  refine ⟨plainId_quiet FB.init.plain _, codeAny_builtin FB.initEntry ?_⟩
  exact PySem.W.exc_init_tree (cls := .ref C) (t0 := t0) (dv := none) (c2 := .none) (c3 := .none) (b4 := .bool false) he hz fun h' k e' _ => hq h' _ k e'
end
theorem callWith_mw {M : Model} {A : Around} {E : Value → Shared → Prop} {s : Shared} {i : String} {u x : Addr} {pos : Pos} {env : Env} {e : Expr} {rest : List Expr} {Q : Value → Shared → Prop}
    (h : wpAny M A (spliced (backTo pos (starEach (e :: rest) env))) (fun vs s₁ => PySem.W.KxsAt i u x s₁.heap ∧ wpAny M A (call (.ref u) vs) Q E s₁) E s)
    (he : starEach (e :: rest) env = (false, eval e env) :: starEach rest env := by rfl) (hplain : (backTo pos (starEach rest env)).any (·.1) = false := by rfl) :
    wpAny M A (callWith pos (.ref u) [] (backTo pos (starEach (e :: rest) env)) []) Q E s := by
  rw [he] at h ⊢
  refine PySem.W.kxs_callWith (i := i) (x := x) (by show (false || (backTo pos (starEach rest env)).any (·.1)) = false; rw [hplain]; rfl) ?_
  exact Calls.evalArgs_plain h
theorem excO_of {C t1 : Addr} {h : Heap} {a : Addr} (e : h.get? a = some ({ cls := .ref C, dict := none, data := .fields #[.ref t1, .none, .none, .none, .bool false, .none] } : Obj)) : h.get? a = some (PySem.HandSPX.excO C t1) := e
theorem boot_super : bootBuiltins "super" = some (.type "super") := by first | rfl | kernel_rfl
/-- super().__init__(text), the first statement -/
theorem super_st {CX : CXT} {P : Program} {w : World} {K : PySem.W.Frag} {mg : Str → Option Value} {base : Heap} {N ps : List Str} {qual : Str} {scope : Scope} {f cc C cda a : Addr} {A : Around} {outer : List Env} {s0 : Shared} {H0 H : Hp} {E0 : XK} {σ : St} {s : Shared}
    {fd : FuncData} {oc : Value} {od : Option Addr} {osl : Array (Option Value)} {ar : Arg} {body : List Stmt} {txt : Str} {p0 p1 ap p2 pos p3 : Pos} {j : Nat} {pl : Sem Bool} {Q : Flow → Shared → Prop}
    (S : SScope N ps scope) (SC : SupC P K mg cc C cda) (lk : K.lookup f = some ⟨oc, od, .func fd, osl⟩) (hp : (fd.params.posonlyargs ++ fd.params.args).head? = some ar) (har : N[0]? = some ar.arg) (hloc : scope.names.lookup ar.arg = some .local)
    (T : OexC K C) (I : Inv (cxS CX P w K mg base N qual scope f (.ref cda) cc A outer s0 H0 E0) [] σ H s) (hσ : σ[0]? = some (some (.ref a))) (ea : H a = some (exo a C none))
    (hq : ∀ s', Inv (cxS CX P w K mg base N qual scope f (.ref cda) cc A outer s0 H0 E0) [] σ H s' → Q .next s')
    (hi : interactive (cxS CX P w K mg base N qual scope f (.ref cda) cc A outer s0 H0 E0).env = false) (hsw : swapsWith (.Call (.Attribute (.Call (.Name "super" p0) [] [] p1) "__init__" ap) [.Constant (.str txt) j p2] [] pos) none p3.line (cxS CX P w K mg base N qual scope f (.ref cda) cc A outer s0 H0 E0).env = pure false)
    (hst : starEach [.Constant (.str txt) j p2] (cxS CX P w K mg base N qual scope f (.ref cda) cc A outer s0 H0 E0).env = (false, eval (.Constant (.str txt) j p2) (cxS CX P w K mg base N qual scope f (.ref cda) cc A outer s0 H0 E0).env) :: starEach [] (cxS CX P w K mg base N qual scope f (.ref cda) cc A outer s0 H0 E0).env)
    (hce : eval (.Call (.Attribute (.Call (.Name "super" p0) [] [] p1) "__init__" ap) [.Constant (.str txt) j p2] [] pos) (cxS CX P w K mg base N qual scope f (.ref cda) cc A outer s0 H0 E0).env = (do
      let ov ← attributeBase (.Call (.Name "super" p0) [] [] p1) "__init__" (cxS CX P w K mg base N qual scope f (.ref cda) cc A outer s0 H0 E0).env (eval (.Call (.Name "super" p0) [] [] p1) (cxS CX P w K mg base N qual scope f (.ref cda) cc A outer s0 H0 E0).env)
      standAt ap.atName
      let (fv, first) ← holding [ov] (getMethod ov "__init__" pl)
      callWith pos fv first (backTo pos (starEach [.Constant (.str txt) j p2] (cxS CX P w K mg base N qual scope f (.ref cda) cc A outer s0 H0 E0).env)) [])) :
    PySem.wpAt (model P w) (cxS CX P w K mg base N qual scope f (.ref cda) cc A outer s0 H0 E0).A (.func body (cxS CX P w K mg base N qual scope f (.ref cda) cc A outer s0 H0 E0).env) (exec (.Expr (.Call (.Attribute (.Call (.Name "super" p0) [] [] p1) "__init__" ap) [.Constant (.str txt) j p2] [] pos) p3) (cxS CX P w K mg base N qual scope f (.ref cda) cc A outer s0 H0 E0).env) Q (cxS CX P w K mg base N qual scope f (.ref cda) cc A outer s0 H0 E0).xe s := by
  obtain ⟨cl, cld, csl, hcell⟩ := SC.cell
  obtain ⟨ccl, cdd, vs, ccs, file, tf, hcode, hvs, hfile⟩ := SC.code
  obtain ⟨nm, q, N', bs, bm, sn, sub, ab, col, dd, k0, k1, k2, k3, k5, hC, hbm⟩ := T.cls
  have hcl : PySem.W.clsIn K C = some { name := nm, bases := bs, mro := .ref C :: bm, ns := N', qualname := q, hasDict := true, slotNames := sn, subclasses := sub, abstract := ab, collection := col, hasDel := false } := by unfold PySem.W.clsIn; rw [hC] <;> rfl
  have hsup := SC.sup
  unfold PySem.W.ks_superIn at hsup
  rw [hcl] at hsup
  obtain ⟨m, hns, hlk⟩ := id I.loc
  have hself : m ar.arg = some (.ref a) := by
    obtain ⟨u, ru, lo⟩ := hlk 0 ar.arg (.ref a) har hσ (.inl hloc)
    obtain rfl : u = .ref a := ru
    rcases lo with ⟨_, h⟩ | ⟨h, _⟩
    · exact h
    · have h' : scope.names.lookup ar.arg = some .cell ∨ scope.names.lookup ar.arg = some .free := h
      rw [hloc] at h'
      rcases h' with h' | h' <;> cases h'
  obtain ⟨mb, hb1, hb2⟩ := I.mod.blt
  refine PySem.ks_wpAt_Expr_any (PySem.ks_wpAt_MethodCall (pl := pl) ?_ hce) hi hsw
  refine PySem.ks_wpAt_super_base S.sup S.cls rfl rfl (I.kIn _ _ lk) rfl hp rfl (I.kIn _ _ hcode) rfl hvs hfile SC.top ?_
  refine PySem.W.ks_loadName_global S.kind S.sup (Calls.loadGlobal_builtin (I.mod.glob.keeps I.bk) SC.msup (hb1.keeps I.bk) ((hb2 "super" (by decide)).trans boot_super) ⟨rfl, ?_⟩)
  refine wpAny_loadName_free S.kind S.cls rfl ⟨_, I.kIn _ _ hcell, rfl⟩ ?_
  refine wpAny_loadName_local S.kind hloc hns hself ?_
  have hCh := I.kIn _ _ hC
  refine PySem.ks_wpAny_isType_cls hCh rfl ⟨rfl, ?_⟩
  obtain ⟨t1, ho⟩ := exo_at I.hok ea
  obtain ⟨hp0, g, dr, tk, os⟩ := s
  refine PySem.ks_wpAny_call_super hCh rfl ho rfl (fun c e => by cases e) (PySem.W.looks_mroIn I.kIn SC.mro) (fun h1 e1 k1 => ?_)
  have I1 := I.kept (t' := tk) k1
  have ho1 := k1 _ _ ho
  have hI : PySem.W.Looks (model P w) h1 (isInstance (.ref a) (.type "ValueError")) true := (show PySem.W.InstAt h1 a _ C none from ⟨ho1, rfl, rfl, trivial⟩).type.andThen (PySem.W.looks_subIn I1.kIn SC.base)
  have hxC : a ≠ C := fun z => by
    have := I.kIn _ _ hC
    rw [← z] at this
    rw [show hp0.get? a = _ from ho] at this
    cases this
  refine PySem.W.kxs_getMethod PySem.W.kxs_ValueError e1 (PySem.W.looks_opaque I1.kIn SC.third) (fun A Q E s k q => wpAny_bind ((PySem.W.looks_clsIn I1.kIn hcl) A _ E s k (wpAny_pure q))) rfl I1.kIn hsup hI hxC rfl ?_
  have k2' : ∀ b o, h1.get? b = some o → (h1.push (PySem.W.kxs_mw "ValueError.__init__" a)).get? b = some o := fun b o e => Heap.get?_push_of_some _ e
  have I2 := I1.kept (t' := tk + 1) k2'
  have hmw : (h1.push (PySem.W.kxs_mw "ValueError.__init__" a)).get? h1.objs.size = some (PySem.W.kxs_mw "ValueError.__init__" a) := Heap.get?_push_at rfl rfl
  have hn : H h1.objs.size = none := I1.hok.fresh (Nat.le_refl _)
  have I3 := I2.pins_of (pins' := [(h1.objs.size, PySem.W.kxs_mw "ValueError.__init__" a)]) (fun p hp => by
    rw [List.mem_singleton.mp hp]
    exact ⟨hmw, hn, Ne.symm (Nat.ne_of_lt I1.lt), I1.nofs (Nat.le_refl _), fun v z => by cases z⟩)
  refine callWith_mw (i := "ValueError.__init__") (x := a) ?_ hst rfl
  refine wpAny_mono ((pa_cons pe_str pa_nil hst).run pos _ _ σ H (fun vs H1 => vs = [.str txt] ∧ H1 = H) I3 ⟨rfl, rfl⟩) (fun us s3 hh => ?_) fun _ _ x => x
  obtain ⟨vs3, H3, J, rv, e3, e4⟩ := hh
  subst e3
  rw [e4] at J
  have hu3 := (J.pin (h1.objs.size, PySem.W.kxs_mw "ValueError.__init__" a) (List.mem_append_right _ (List.mem_singleton_self _))).1
  refine ⟨hu3, ?_⟩
  obtain ⟨t3, ho3⟩ := exo_at J.hok ea
  have J0 := J.pins_of (pins' := []) (fun p hp => by cases hp)
  obtain ⟨hp3, g3, d3, tk3, os3⟩ := s3
  have hlen : us.length ≤ sizeLine := by
    rw [← Paired.length rv, sizeLine_eq]
    show 1 ≤ _
    omega
  refine call_mw F.excBase_ValueError (J.kIn _ _ hC) (excO_of ho3) hu3 hlen fun h4 t4 k4 e4 => ?_
  have J4 := J0.write (t' := tk3) (x := a) (e := a) (o := exo a C none) (by rw [ea]; exact True.intro) (.inl rfl) k4 ⟨_, e4⟩ (exo_ok e4)
  have eu : upd H a (exo a C none) = H := by
    funext b
    by_cases hb : b = a
    · rw [hb, upd_same, ea]
    · rw [upd_ne hb]
  rw [eu] at J4
  exact hq _ J4
theorem env_cxS {CX : CXT} {P : Program} {w : World} {K : PySem.W.Frag} {mg : Str → Option Value} {base : Heap} {N : List Str} {qual : Str} {scope : Scope} {f cc : Addr} {cd : Value} {A : Around} {outer : List Env} {s : Shared} {H : Hp} {E : XK} :
    (cxS CX P w K mg base N qual scope f cd cc A outer s H E).env = PySem.W.ksEnv qual scope s.heap.objs.size f cd cc := rfl
/-- what has to be known of the first statement, in every frame -/
structure SupSt (qual : Str) (scope : Scope) (f : Addr) (cd : Value) (cc : Addr) (txt : Str) (p0 p1 ap p2 pos p3 : Pos) (j : Nat) : Prop where
  hi : ∀ L, interactive (PySem.W.ksEnv qual scope L f cd cc) = false
  hsw : ∀ L, swapsWith (.Call (.Attribute (.Call (.Name "super" p0) [] [] p1) "__init__" ap) [.Constant (.str txt) j p2] [] pos) none p3.line (PySem.W.ksEnv qual scope L f cd cc) = pure false
  hst : ∀ L, starEach [.Constant (.str txt) j p2] (PySem.W.ksEnv qual scope L f cd cc) = (false, eval (.Constant (.str txt) j p2) (PySem.W.ksEnv qual scope L f cd cc)) :: starEach [] (PySem.W.ksEnv qual scope L f cd cc)
  hce : ∀ L, ∃ pl : Sem Bool, eval (.Call (.Attribute (.Call (.Name "super" p0) [] [] p1) "__init__" ap) [.Constant (.str txt) j p2] [] pos) (PySem.W.ksEnv qual scope L f cd cc) = (do
      let ov ← attributeBase (.Call (.Name "super" p0) [] [] p1) "__init__" (PySem.W.ksEnv qual scope L f cd cc) (eval (.Call (.Name "super" p0) [] [] p1) (PySem.W.ksEnv qual scope L f cd cc))
      standAt ap.atName
      let (fv, first) ← holding [ov] (getMethod ov "__init__" pl)
      callWith pos fv first (backTo pos (starEach [.Constant (.str txt) j p2] (PySem.W.ksEnv qual scope L f cd cc))) [])
/-- a def that begins with super().__init__(text) -/
theorem fn_super {CX : CXT} {P : Program} {w : World} {K : PySem.W.Frag} {mg : Str → Option Value} {base : Heap} {k : Nat} {f cc C cda : Addr} {name qual : Str} {params : Arguments} {body : List Stmt} {scope : Scope} {dV kV doc pm ct oc : Value} {an od : Option Addr}
    {osl : Array (Option Value)} {N ps : List Str} {sp : Sp} {ar : Arg} {txt : Str} {p0 p1 ap p2 pos p3 : Pos} {j : Nat}
    (lk : K.lookup f = some ⟨oc, od, .func (PySem.W.ksFn name qual params (.Expr (.Call (.Attribute (.Call (.Name "super" p0) [] [] p1) "__init__" ap) [.Constant (.str txt) j p2] [] pos) p3 :: body) scope dV kV doc pm an (.ref cda) ct cc), osl⟩)
    (hcd : PySem.W.codeIn K (.ref cda) qual = true) (S : SScope N ps scope) (SC : SupC P K mg cc C cda) (T : OexC K C) (SS : SupSt qual scope f (.ref cda) cc txt p0 p1 ap p2 pos p3 j)
    (hp : (params.posonlyargs ++ params.args).head? = some ar) (har : N[0]? = some ar.arg) (hloc : scope.names.lookup ar.arg = some .local)
    (len : ∀ vs H Q E, sp vs H Q E → vs.length = ps.length)
    (hbody : ∀ (A : Around) (outer : List Env) (s : Shared) (H : Hp) (vs : List V) (Q : VK) (E : XK), sp vs H Q E → ∃ a t, vs[0]? = some (.ref a) ∧ H a = some (exo a C none) ∧
      PSs (cxS CX P w K mg base N qual scope f (.ref cda) cc A outer s H E) body t ∧ t { nx := fun _ H' => Q .non H', rt := Q } (start N vs) H) :
    FnOk P w K mg base CX (k + 1) f (PySem.W.ksFn name qual params (.Expr (.Call (.Attribute (.Call (.Name "super" p0) [] [] p1) "__init__" ap) [.Constant (.str txt) j p2] [] pos) p3 :: body) scope dV kV doc pm an (.ref cda) ct cc) ps sp := by
  refine ⟨len, fun A outer s H args us vs Q E hr e0 hb r hsp => ?_⟩
  have hl := len _ _ _ _ hsp
  have KX : K.In s.heap := e0.mod.kin.keeps fun b o e => (e0.bs b o e).1
  have lim : s.heap.NoLimit := e0.mod.nolimit.keeps fun b o e => (e0.bs b o e).1
  obtain ⟨cl, cld, csl, hcell⟩ := SC.cell
  refine PySem.ks_codeAny_call_defAt hr.depth (KX _ _ lk) rfl lim (PySem.W.codeRec_of KX hcd) rfl hb S.nocell (fun y hy => S.par _ (List.of_mem_zip hy).1) (fun h₁ hns hk₁ => ?_) S.co S.gen S.kind
  obtain ⟨a, t, ha, ea, ht, hq⟩ := hbody A outer s H vs Q E hsp
  have I : Inv (cxS CX P w K mg base N qual scope f (.ref cda) cc A outer s H E) [] (start N vs) H { s with heap := h₁, toks := s.toks + (ps.zip us).length } := inv_startS S hcell hr.hd e0 hl r hns hk₁
  have fin : ∀ {σ' : St} {H' : Hp} {v : V} {u : Value} {s' : Shared}, Inv (cxS CX P w K mg base N qual scope f (.ref cda) cc A outer s H E) [] σ' H' s' → RelV v u → Q v H' → CE outer P w H s Q u s' :=
    fun {σ' H' v u s'} J rv q => ⟨v, H', J.os, J.bare, J.base, J.hok, rv, q⟩
  obtain ⟨pl, hce⟩ := SS.hce s.heap.objs.size
  have hσ : (start N vs)[0]? = some (some (.ref a)) := by
    have hv : 0 < vs.length := by
      cases vs with
      | nil => cases ha
      | cons x r => simp
    unfold start
    rw [List.getElem?_append_left (by simpa using hv), List.getElem?_map, ha]
    rfl
  refine PySem.ks_wpAt_execs_cons (super_st S SC lk hp har hloc T I hσ ea (fun s' J => ?_) (SS.hi _) (SS.hsw _) (SS.hst _) hce)
  refine PySem.wpAt_of_wpAny (wpAny_mono (ht.run [] s' (start N vs) H _ J hq) (fun fl s2 hs => ?_) fun e s' hs => hs)
  cases fl with
  | ret u =>
    obtain ⟨v, σ', H', J, rv, q⟩ := hs
    exact fin J rv q
  | next =>
    obtain ⟨σ', H', J, q⟩ := hs
    exact fin (v := V.non) (u := Value.none) J rfl q
  | brk =>
    obtain ⟨_, _, _, q⟩ := hs
    exact False.elim q
  | cont =>
    obtain ⟨_, _, _, q⟩ := hs
    exact False.elim q
/-! its fields: one or two -/
def spI1 (C : Addr) (f1 : Str) : Sp := fun vs H Q _ => ∃ a v1, vs = [.ref a, v1] ∧ H a = some (exo a C none) ∧ ∀ dx, H dx = none → dx ≠ a → Q .non (upd (upd H dx (exd dx [(f1, v1)])) a (exo a C (some dx)))
def spI2 (C : Addr) (f1 f2 : Str) : Sp := fun vs H Q _ => ∃ a v1 v2, vs = [.ref a, v1, v2] ∧ H a = some (exo a C none) ∧ ∀ dx, H dx = none → dx ≠ a → Q .non (upd (upd (upd H dx (exd dx [(f1, v1)])) a (exo a C (some dx))) dx (exd dx [(f2, v2), (f1, v1)]))
/-- the fields laid, one by one -/
theorem body1 {X : Cx} {C : Addr} {f1 l0 l1 : Str} {pa pb pc pd : Pos} {vs : List V} {H : Hp} {Q : VK} {E : XK} (T : OexC X.K C) (n1 : PySem.W.findIn X.K (.ref C) f1 = some none) (hN : X.N = [l0, l1]) (v0 : Vis X.env.scope l0) (v1 : Vis X.env.scope l1)
    (d0 : (l0 == ("__debug__" : Str)) = false) (d1 : (l1 == ("__debug__" : Str)) = false) (c0 : (l0 == ("__classdict__" : Str)) = false) (c1 : (l1 == ("__classdict__" : Str)) = false)
    (hs : swapsWith (.Name l1 pc) (some (.Attribute (.Name l0 pa) f1 pb)) pd.line X.env = pure false) (h : spI1 C f1 vs H Q E) :
    ∃ a t, vs[0]? = some (.ref a) ∧ H a = some (exo a C none) ∧ PSs X [.Assign [.Attribute (.Name l0 pa) f1 pb] (.Name l1 pc) pd] t ∧ t { nx := fun _ H' => Q .non H', rt := Q } (start X.N vs) H := by
  obtain ⟨a, y, rfl, ea, q⟩ := h
  refine ⟨a, _, rfl, ea, pss_one (ps_ost (pe_var (i := 0) (by rw [hN]; rfl) v0 d0 c0) (pe_var (i := 1) (by rw [hN]; rfl) v1 d1 c1) hs), ?_⟩
  have h1 : (start X.N [V.ref a, y])[1]? = some (some y) := by rw [hN]; rfl
  have h0 : (start X.N [V.ref a, y])[0]? = some (some (.ref a)) := by rw [hN]; rfl
  exact ⟨y, h1, .ref a, h0, a, C, rfl, T, n1, .inl ⟨ea, fun dx n ne => q dx n ne⟩⟩
theorem body2 {X : Cx} {C : Addr} {f1 f2 l0 l1 l2 : Str} {pa pb pc pd pe pf pg ph : Pos} {vs : List V} {H : Hp} {Q : VK} {E : XK} (T : OexC X.K C) (n1 : PySem.W.findIn X.K (.ref C) f1 = some none) (n2 : PySem.W.findIn X.K (.ref C) f2 = some none) (hN : X.N = [l0, l1, l2])
    (v0 : Vis X.env.scope l0) (v1 : Vis X.env.scope l1) (v2 : Vis X.env.scope l2)
    (d0 : (l0 == ("__debug__" : Str)) = false) (d1 : (l1 == ("__debug__" : Str)) = false) (d2 : (l2 == ("__debug__" : Str)) = false) (c0 : (l0 == ("__classdict__" : Str)) = false) (c1 : (l1 == ("__classdict__" : Str)) = false) (c2 : (l2 == ("__classdict__" : Str)) = false)
    (hs : swapsWith (.Name l1 pc) (some (.Attribute (.Name l0 pa) f1 pb)) pd.line X.env = pure false) (hs2 : swapsWith (.Name l2 pg) (some (.Attribute (.Name l0 pe) f2 pf)) ph.line X.env = pure false) (h : spI2 C f1 f2 vs H Q E) :
    ∃ a t, vs[0]? = some (.ref a) ∧ H a = some (exo a C none) ∧ PSs X [.Assign [.Attribute (.Name l0 pa) f1 pb] (.Name l1 pc) pd, .Assign [.Attribute (.Name l0 pe) f2 pf] (.Name l2 pg) ph] t ∧ t { nx := fun _ H' => Q .non H', rt := Q } (start X.N vs) H := by
  obtain ⟨a, y, z, rfl, ea, q⟩ := h
  refine ⟨a, _, rfl, ea, pss_cons (ps_ost (pe_var (i := 0) (by rw [hN]; rfl) v0 d0 c0) (pe_var (i := 1) (by rw [hN]; rfl) v1 d1 c1) hs) (pss_one (ps_ost (pe_var (i := 0) (by rw [hN]; rfl) v0 d0 c0) (pe_var (i := 2) (by rw [hN]; rfl) v2 d2 c2) hs2)), ?_⟩
  have h2 : (start X.N [V.ref a, y, z])[2]? = some (some z) := by rw [hN]; rfl
  have h1 : (start X.N [V.ref a, y, z])[1]? = some (some y) := by rw [hN]; rfl
  have h0 : (start X.N [V.ref a, y, z])[0]? = some (some (.ref a)) := by rw [hN]; rfl
  refine ⟨y, h1, .ref a, h0, a, C, rfl, T, n1, .inl ⟨ea, fun dx n ne => ?_⟩⟩
  exact ⟨z, h2, .ref a, h0, a, C, rfl, T, n2, .inr ⟨dx, [(f1, y)], upd_same, by rw [upd_ne ne, upd_same], by show 1 ≤ 900; decide, q dx n ne⟩⟩
/-- what C's __init__ has to give, for C(e, ..) to be an exception with the fields fs -/
def GiveI (C : Addr) (fs : List Str) (sp : Sp) : Prop := ∀ (vs : List V) (H1 : Hp) (Q : XK), vs.length = fs.length → (∀ d, H1 d = none → Q (.ref C) (some d) (upd H1 d (.xd (fs.zip vs).reverse))) →
  vs.length ≤ 1000 ∧ ∀ a, H1 a = none → sp (.ref a :: (vs ++ [])) (upd H1 a (exo a C none)) (fun v H2 => v = .non ∧ ∃ (d : Addr) (gs : List (Str × V)), H2 a = some (exo a C (some d)) ∧ H2 d = some (exd d gs) ∧ H1 d = none ∧ Q (.ref C) (some d) (upd (del H2 a) d (.xd gs))) (fun _ _ _ => False)
theorem give1 (C : Addr) (f1 : Str) : GiveI C [f1] (spI1 C f1) := fun vs H1 Q hl q => by
  match vs, hl with
  | [y], _ =>
    refine ⟨by show 1 ≤ 1000; decide, fun a ha => ⟨a, y, rfl, upd_same, fun dx hd ne => ⟨rfl, dx, [(f1, y)], upd_same, by rw [upd_ne ne, upd_same], ?_, ?_⟩⟩⟩
    · rw [upd_ne ne] at hd; exact hd
    · rw [upd_ne ne] at hd
      have e : upd (del (upd (upd (upd H1 a (exo a C none)) dx (exd dx [(f1, y)])) a (exo a C (some dx))) a) dx (HO.xd [(f1, y)]) = upd H1 dx (.xd [(f1, y)]) := by
        funext b
        by_cases h1 : b = dx
        · rw [h1, upd_same, upd_same]
        · rw [upd_ne h1, upd_ne h1]
          by_cases h2 : b = a
          · rw [h2, del_same, ha]
          · rw [del_ne h2, upd_ne h2, upd_ne h1, upd_ne h2]
      rw [e]
      exact q dx hd
theorem give2 (C : Addr) (f1 f2 : Str) : GiveI C [f1, f2] (spI2 C f1 f2) := fun vs H1 Q hl q => by
  match vs, hl with
  | [y, z], _ =>
    refine ⟨by show 2 ≤ 1000; decide, fun a ha => ⟨a, y, z, rfl, upd_same, fun dx hd ne => ⟨rfl, dx, [(f2, z), (f1, y)], by rw [upd_ne (Ne.symm ne), upd_same], upd_same, ?_, ?_⟩⟩⟩
    · rw [upd_ne ne] at hd; exact hd
    · rw [upd_ne ne] at hd
      have e : upd (del (upd (upd (upd (upd H1 a (exo a C none)) dx (exd dx [(f1, y)])) a (exo a C (some dx))) dx (exd dx [(f2, z), (f1, y)])) a) dx (HO.xd [(f2, z), (f1, y)]) = upd H1 dx (.xd [(f2, z), (f1, y)]) := by
        funext b
        by_cases h1 : b = dx
        · rw [h1, upd_same, upd_same]
        · rw [upd_ne h1, upd_ne h1]
          by_cases h2 : b = a
          · rw [h2, del_same, ha]
          · rw [del_ne h2, upd_ne h1, upd_ne h2, upd_ne h1, upd_ne h2]
      rw [e]
      exact q dx hd
/-- C(e, ..): the exception made, its dict new -/
structure XcI (P : Program) (w : World) (K : PySem.W.Frag) (mg : Str → Option Value) (base : Heap) (k : Nat) (x : Str) (C : Addr) (fs : List Str) : Prop where
  ex : ∃ sp, GiveI C fs sp ∧ ∀ {X : Cx} {e : Expr} {es : List Expr} {p pos : Pos} {ta : TA}, X.prog = P → X.w = w → X.K = K → X.mg = mg → X.base = base → Room (k + 1) X.A → Gl X x → (x == ("__debug__" : Str)) = false → PA X (e :: es) ta →
    starEach (e :: es) X.env = (false, eval e X.env) :: starEach es X.env → (backTo pos (starEach es X.env)).any (·.1) = false →
    PMk X (.Call (.Name x p) (e :: es) [] pos) (tMkO C sp [] ta)
theorem xcI {P : Program} {w : World} {K : PySem.W.Frag} {mg : Str → Option Value} {base : Heap} {k : Nat} {x : Str} {C fI : Addr} {fd : FuncData} {fs ps : List Str} {sp : Sp} (G : GiveI C fs sp) (T : OexC K C) (iC : PySem.W.findIn K (.ref C) "__init__" = some (some (.ref fI))) (tI : PySem.W.typeIn K (.ref fI) = some (.type "function"))
    (F1 : FnOk P w K mg base CX0 k fI fd ps sp) (hb : Binds K fd ps []) (hm : mg x = some (.ref C)) : XcI P w K mg base k x C fs := by
  refine ⟨sp, G, fun {X e es p pos ta} hP hw hK hmg hbase hr hg hdb ha he hpl => ?_⟩
  subst hP hw hK hmg hbase
  exact pmk_oex (p := p) (pos := pos) T iC tI F1 hr hb .nil pass0 hg hm ha hdb he hpl
end L2
namespace DL
open PySem L2 PySem.Spec PyProof.Rows
section
variable {X : Cx} {e : Expr} {es : List Expr} {σ : Sd} {M : Mp} {Q : QD} {E : DE} {W : WD} {pos pos2 p : Pos} {x : Str} {k : Nat}
theorem kvs_zip {K : PySem.W.Frag} {H : Hp} : ∀ {fs : List Str} {vs : List V} {ds : List D}, Tps K H vs ds → KVs K H (fs.zip vs) (fs.zip ds)
  | [], _, _, _ => .nil
  | _ :: _, _, _, .nil => .nil
  | _ :: _, _, _, .cons r t => .cons r (kvs_zip t)
theorem kvs_app {K : PySem.W.Frag} {H : Hp} {κ : Type} : ∀ {a b : List (κ × V)} {c d : List (κ × D)}, KVs K H a c → KVs K H b d → KVs K H (a ++ b) (c ++ d)
  | _, _, _, _, .nil, h => h
  | _, _, _, _, .cons r t, h => .cons r (kvs_app t h)
theorem kvs_rev {K : PySem.W.Frag} {H : Hp} {κ : Type} : ∀ {a : List (κ × V)} {c : List (κ × D)}, KVs K H a c → KVs K H a.reverse c.reverse
  | _, _, .nil => .nil
  | _, _, .cons r t => by
    rw [List.reverse_cons, List.reverse_cons]
    exact kvs_app (kvs_rev t) (.cons r .nil)
/-- raise C(e, ..), C an own class whose __init__ lays fields -/
theorem s_raiseI {C : Addr} {fs : List Str} (tk : TkD X W) (xc : XcI X.prog X.w X.K X.mg X.base k x C fs) (hr : Room (k + 1) X.A)
    (h : AS X (e :: es) σ M fun ds M1 => ds.length = fs.length ∧ NewM M1 (.xd (fs.zip ds).reverse) fun d M2 => W (.ref C) (some d) σ M2)
    (hc : X.calm = true := by rfl) (hg : Gl X x := by rfl) (hdb : (x == ("__debug__" : Str)) = false := by decide) (he : starEach (e :: es) X.env = (false, eval e X.env) :: starEach es X.env := by rfl) (hpl : (backTo pos2 (starEach es X.env)).any (·.1) = false := by rfl) :
    SS X (.Raise (some (.Call (.Name x p) (e :: es) [] pos2)) none pos) σ M E := by
  obtain ⟨Wv, tkv, hW⟩ := tk
  obtain ⟨sp, G, mk⟩ := xc.ex
  refine SS.of (ps_raise hc tkv (mk rfl rfl rfl rfl rfl hr hg hdb pa_sem he hpl)) fun σv H S R => h.go S R fun vs H1 ds M1 i1 R1 t1 ⟨hl, q⟩ => ?_
  refine G vs H1 (fun cls d H' => Wv cls d σv H') (by rw [t1.length, hl]) fun d hd => ?_
  have im := Imm.new (o := HO.xd (fs.zip vs).reverse) hd
  exact hW _ _ _ _ _ _ (S.mono (i1.trans im)) (R1.new (m := .xd (fs.zip ds).reverse) hd ⟨_, rfl, kvs_rev (kvs_zip (Tps.mono im _ _ t1))⟩) (NewM.at q (R1.fresh hd))
end
end DL
set_option maxHeartbeats 4000000
namespace PySem.W
open PySem PySem.Spec PySem.Calls PyProof.Rows
/-! ### isinstance of a caught error that has a dict -/
section
variable {prog : Program} {w : World} {A : Around} {E : Value → Shared → Prop} {s : Shared} {K : Frag} {x D : Addr} {ox : Obj} {odx : Option Obj}
theorem dl_findObj {C : Addr} {name : Str} {a g : Value} (hc : (clsIn K C).isSome = true) (ha : findIn K (.ref C) name = some (some a)) (hg : specialIn K a "__get__" = some (some g)) (ht : takesIn K a = some true) : findObj K C odx name = some (.bind g a) := by
  obtain ⟨cd, hc⟩ := Option.isSome_iff_exists.mp hc
  unfold findObj
  rw [hc, Option.bind_some, ha, Option.bind_some]
  simp [hg, ht]
theorem dl_classE {Q : Option Value → Shared → Prop} (hga : findIn K (.ref D) "__getattribute__" = some (some (.builtin "BaseException.__getattribute__"))) (hgt : findIn K (.ref D) "__getattr__" = some none) (hsub : subIn K (.ref D) (.type "BaseException") = some true)
    (hdct : hasDictIn K D = true) (ha : findIn K (.ref D) "__class__" = some (some (.builtin "object.__class__")))
    (hn : specialIn K (.builtin "object.__class__") "__get__" = some (some (.builtin "getset_descriptor.__get__"))) (htk : takesIn K (.builtin "object.__class__") = some true) (hm : mroIn K D (.type "object") = some true)
    (X : K.In s.heap) (I : InstAt s.heap x ox D odx) (h : Q (some (.ref D)) { s with toks := s.toks + 1 }) : wpAny (model prog w) A (getAttr? (.ref x) "__class__") Q E s := by
  have hf : findObj K D odx "__class__" = some (.bind (.builtin "getset_descriptor.__get__") (.builtin "object.__class__")) := dl_findObj (by obtain ⟨cd, hc, _⟩ := any_some hdct; rw [hc]; rfl) ha hn htk
  obtain ⟨hp, g, d, t, os⟩ := s
  have L0 := I.type (M := model prog w)
  have L1 := looks_findIn (M := model prog w) X hga
  have L2 := looks_findIn (M := model prog w) X hgt
  have L3 := looks_find (M := model prog w) X I hf
  have sub : Looks (model prog w) hp (isInstance (.ref x) (.type "BaseException")) true := L0.andThen (looks_subIn X hsub)
  have hx0 : (false && onTheHeap (Value.builtin "BaseException.__getattribute__")) = false := rfl
  have hx2 : (Value.builtin "BaseException.__getattribute__" == Value.builtin "object.__getattribute__") = false := by decide +kernel
  have hx1 : (onTheHeap (Value.ref D) && Value.builtin "BaseException.__getattribute__" == Value.builtin "object.__getattribute__") = false := by rw [hx2]; rfl
  unfold getAttr? getAttrBy? getAttrBy
  refine wpAny_bind (wpAny_mkText (wpAny_bind (wpAny_attempt (wpAny_holding (wpAny_bind (L0.at (wpAny_bind (L1.at ?_))))))))
  show wpAny _ _ (if (onTheHeap (Value.ref D) && Value.builtin "BaseException.__getattribute__" == Value.builtin "object.__getattribute__") = true then _ else _) _ _ _
  rw [hx1, if_neg Bool.false_ne_true]
  unfold getAttrByItsOwn hookBefore
  refine wpAny_bind ?_
  rw [if_pos (show onTheHeap (Value.ref D) = true from rfl)]
  refine L2.at ?_
  refine wpAny_bind (wpAny_attempt (wpAny_holding ?_))
  unfold callGetattribute
  rw [hx0, if_neg Bool.false_ne_true]
  unfold boundAndCalled
  rw [PySem.F.excAttr_ValueError.ga.bind (.ref x)]
  refine wpAny_bind (wpAny_pure ?_)
  show wpAny _ _ (call (.builtin "BaseException.__getattribute__") [.ref x, .str "__class__" t]) _ _ _
  refine wpAny_call (codeAny_call_builtin PySem.F.excAttr_ValueError.ga.plain PySem.F.entry_bexc_ga ?_)
  refine @check_slot (model prog w) _ _ ⟨hp, g, d, t + 1, os⟩ "BaseException.__getattribute__" "BaseException" "__getattribute__" (.ref x) [.str "__class__" t] [] _ (by decide +kernel) (by decide +kernel) sub (PySem.F.args_bexc_ga (.ref x) (.str "__class__" t)) ?_
  unfold Builtin.«object.__getattribute__»
  refine wpAny_bind (wpAny_of_eq (a := ((Value.ref x : Value), [Value.str "__class__" t])) (by first | rfl | (simp only [slotArgs]; rfl)) ?_)
  refine wpAny_bind (wpAny_pure (wpAny_bind (L0.at (wpAny_bind (L3.at ?_)))))
  show wpAny _ _ (holding [Value.builtin "object.__class__"] (call (.builtin "getset_descriptor.__get__") [.builtin "object.__class__", .ref x, .ref D]) >>= ret) _ _ _
  refine wpAny_bind (wpAny_holding (wpAny_call (class_get (s := ⟨hp, g, d, t + 1, os⟩) (ox := ox) (od := odx) X I hm ?_)))
  refine wpAny_pure ?_
  show wpAny _ _ (handedOut (.ref D)) _ _ _
  rw [handedOut_of (v := .ref D) rfl]
  first
    | exact wpAny_pure (wpAny_pure h)
    | exact wpAny_pure h
    | exact wpAny_pure (wpAny_bind (wpAny_pure (wpAny_pure h)))
theorem dl_kitx (hga : findIn K (.ref D) "__getattribute__" = some (some (.builtin "BaseException.__getattribute__"))) (hgt : findIn K (.ref D) "__getattr__" = some none) (hsub : subIn K (.ref D) (.type "BaseException") = some true) (hdct : hasDictIn K D = true) (ha : findIn K (.ref D) "__class__" = some (some (.builtin "object.__class__")))
    (hn : specialIn K (.builtin "object.__class__") "__get__" = some (some (.builtin "getset_descriptor.__get__"))) (htk : takesIn K (.builtin "object.__class__") = some true) (hm : mroIn K D (.type "object") = some true) :
    KitX K (.ref x) (.ref D) (fun h => ∃ odx, InstAt h x ox D odx) where
  ty := fun _ _ _ ⟨_, I⟩ => I.type
  it := fun _ _ X _ => by
    obtain ⟨cdD, hcD, _⟩ := any_some hdct
    unfold clsIn at hcD
    split at hcD
    · rename_i c' d' cd' sl' ho
      intro A' Q' E' s' k q
      unfold isType loadHead
      exact wpAny_bind (wpAny_loadPart (k _ _ (X _ _ ho)) (wpAny_pure q))
    · cases hcD
  ne := fun h tp dd its n sl X htp => by
    obtain ⟨cdD, hcD, _⟩ := any_some hdct
    refine Bool.eq_false_iff.mpr fun q => ?_
    have e : D = tp := Value.ref.inj (beq_iff_eq.mp q)
    subst e
    unfold clsIn at hcD
    split at hcD
    · rename_i c' d' cd' sl' ho
      have z := (X _ _ ho).symm.trans htp
      cases z
    · cases hcD
  ca := fun X ⟨_, I⟩ k => dl_classE hga hgt hsub hdct ha hn htk hm X I k
end
end PySem.W
namespace L2
open PySem PySem.Spec PyProof.Rows
/-- isinstance(e, c), e the exception that the suite holds, its dict at dd -/
def rIsD (K : PySem.W.Frag) (D a dd : Addr) : List V → Hp → VK → Prop := fun xs H Q => ∃ (c : V) (cv : Value) (b : Bool) (fs : List (Str × V)), xs = [.ref a, c] ∧ H dd = some (.xd fs) ∧ (∀ u, RelV c u → u = cv) ∧ PySem.W.kitOne K (.ref D) cv = some b ∧ Q (.bl b) H
theorem inst_d {X : Cx} {pins : List (Addr × Obj)} {σ : St} {H : Hp} {s : Shared} {a D dd : Addr} {oe : Obj} {fs : List (Str × V)} (I : Inv X pins σ H s) (hget : s.heap.get? a = some oe) (hz : Zc (.ref D) (some dd) oe) (hf : ∃ vs, oe.data = .fields vs) (ed : H dd = some (.xd fs)) : ∃ odx, PySem.W.InstAt s.heap a oe D odx := by
  obtain ⟨vs, hd⟩ := hf
  have hx : ObjOk X.prog X.w H s.heap dd (.xd fs) := I.hok dd _ ed
  obtain ⟨mA, hns, hr⟩ := hx
  obtain ⟨od, ho, hl⟩ := lookIn_ns hns
  exact ⟨some od, hget, hz.1, by unfold PySem.W.notCls; rw [hd] <;> rfl, by rw [hz.2]; exact ho⟩
theorem call_isD {X : Cx} {a D dd : Addr} {oe : Obj} {pn : List (Addr × Obj)} (C : ExcC X.K D) (hz : Zc (.ref D) (some dd) oe) (hf : ∃ vs, oe.data = .fields vs) : CallR (X.suite a ((a, oe) :: pn)) (.builtin "isinstance") (rIsD X.K D a dd) := by
  intro pins s σ H xs us Q I r h
  obtain ⟨c, cv, b, fs, rfl, ed, hcv, e, q⟩ := h
  cases r with
  | cons rx rr =>
    cases rr with
    | cons rt rr =>
      cases rr
      cases rx
      have ec := hcv _ rt
      subst ec
      obtain ⟨hget, _⟩ := I.pin (a, oe) (List.mem_append.mpr (.inl List.mem_cons_self))
      have J := inst_d I hget hz hf ed
      exact PySem.W.kia_one (PySem.W.dl_kitx C.hg C.hk C.hs C.hd C.ha C.hn C.ht C.hm) I.kIn J e (fun z => nomatch z) fun tk => ⟨.bl b, H, I.kept (t' := tk) fun _ _ z => z, rfl, q⟩
end L2
namespace DL
open PySem L2 PySem.Spec PyProof.Rows
def RIsD (K : PySem.W.Frag) (D₀ a dd : Addr) : RA3 := fun ds M Q => match ds with
  | [.ref x, c] => x = a ∧ ∃ cv b fs, M dd = some (.xd fs) ∧ clsD c cv ∧ PySem.W.kitOne K (.ref D₀) cv = some b ∧ Q (.bl b) M
  | _ => False
theorem rd_isD {K : PySem.W.Frag} {D₀ a dd : Addr} : RDA K (rIsD K D₀ a dd) (RIsD K D₀ a dd) := by
  intro H0 H M vs ds Q Q' i R t k q
  match ds, t, q with
  | [.ref x, c], t, q =>
    obtain ⟨hx, cv, b, fs, ed, hc, hk, q1⟩ := q
    subst hx
    obtain ⟨v, u, rfl, r, r2⟩ := t.two
    cases r
    obtain ⟨_, eh, gs, rfl, _⟩ := R dd _ ed
    refine ⟨u, cv, b, gs, rfl, eh, fun w hw => ?_, hk, k _ _ _ _ i R (.bl _) q1⟩
    cases r2 <;> first | exact False.elim hc | (cases hc; exact hw)
section
variable {X : Cx} {e a b c o : Expr} {es rest : List Expr} {σ : Sd} {M : Mp} {Q : QD} {E : DE} {W : WD} {pos pos2 pos' p p2 np apos : Pos} {x m f : Str} {k : Nat} {ps : List Str} {sp4 : Sp4} {C : Addr}
theorem e_isD {x0 : Addr} {D₀ dd : Addr} {oe : Obj} {pn : List (Addr × Obj)} {e1 e2 : Expr} (C : ExcC X.K D₀) (hz : Zc (.ref D₀) (some dd) oe) (hf : ∃ vs, oe.data = .fields vs) (hm : X.mg "isinstance" = none)
    (h : AS (X.suite x0 ((x0, oe) :: pn)) [e1, e2] σ M fun ds M1 => RIsD X.K D₀ x0 dd ds M1 Q) (hg : Gl X "isinstance" := by rfl) (he : starEach [e1, e2] X.env = (false, eval e1 X.env) :: starEach [e2] X.env := by rfl) (he2 : (backTo pos (starEach [e2] X.env)).any (·.1) = false := by rfl) :
    ES (X.suite x0 ((x0, oe) :: pn)) (.Call (.Name "isinstance" p) [e1, e2] [] pos) σ M Q := e_cb (X := X.suite x0 ((x0, oe) :: pn)) (call_isD C hz hf) rd_isD hm (by decide +kernel) h hg (by decide) (by decide) he he2
/-- err.f in the suite that holds it -/
theorem e_xf {x0 : Addr} {D₀ dd : Addr} {oe : Obj} {pn : List (Addr × Obj)} (T : XfC X.K D₀) (hno : PySem.W.findIn X.K (.ref D₀) f = some none) (hz : Zc (.ref D₀) (some dd) oe) (hf : ∃ vs, oe.data = .fields vs)
    (h : ES (X.suite x0 ((x0, oe) :: pn)) e σ M fun d M1 => d = .ref x0 ∧ ∃ fs v, M1 dd = some (.xd fs) ∧ fs.lookup f = some v ∧ Q v M1) (hb : attributeBase e f X.env (eval e X.env) = eval e X.env := by rfl) : ES (X.suite x0 ((x0, oe) :: pn)) (.Attribute e f pos) σ M Q := by
  refine ES.of (X := X.suite x0 ((x0, oe) :: pn)) (pe_xf T hno hz hf pe_sem hb) fun σv H S R => h.go (H0 := H) S R fun v H1 d M1 i1 R1 t1 ⟨ed, fs, y, e1, l, q⟩ => ?_
  subst ed
  obtain ⟨_, eh, gs, rfl, hk⟩ := R1 dd _ e1
  obtain ⟨u, lu, tu⟩ := (hk.look (f := f)).1 y l
  cases t1
  exact ⟨rfl, rfl, dd, gs, u, rfl, eh, lu, i1, y, M1, R1, tu, q⟩
end
end DL
namespace L2
open PySem PySem.Spec PyProof.Rows
section
variable {X : Cx} {CX : CXT} {k : Nat} {f C : Addr} {fd : FuncData} {ps : List Str} {sp : Sp} {E : St → XK} {x m : Str} {p pos apos : Pos} {e o : Expr} {es : List Expr} {ta : TE} {t : TA}
def tMethX (C : Addr) (m : Str) (sp : Sp) (E : St → XK) (ta : TE) (t : TA) : TE := fun σ H Q => ta σ H fun x H1 => ∃ a dx fs, x = .ref a ∧ H1 a = some (.ins C dx fs) ∧ fs.lookup m = none ∧ t σ H1 fun vs H2 => sp (.ref a :: vs) H2 Q (E σ)
/-- o.m(e, ..), what is raised wished for at the caller's slots -/
theorem pe_methX {pl : Sem Bool} (he : PE X o ta) (c : Cls X.K C) (hm : Meth X.K C m f) (F : FnOk X.prog X.w X.K X.mg X.base CX k f fd ps sp) (hr : Room k X.A) (hb : Binds X.K fd ps []) (hx : ∀ σ, PassesAt CX X σ (E σ)) (ha : PA X (e :: es) t)
    (hst : starEach (e :: es) X.env = (false, eval e X.env) :: starEach es X.env := by rfl) (hpl : (backTo pos (starEach es X.env)).any (·.1) = false := by rfl)
    (ht : eval (.Call (.Attribute o m apos) (e :: es) [] pos) X.env = (do
      let ov ← eval o X.env
      standAt apos.atName
      let (f, first) ← holding [ov] (getMethod ov m pl)
      callWith pos f first (backTo pos (starEach (e :: es) X.env)) (backToKw pos (keywordEach [] X.env))) := by rfl) :
    PE X (.Call (.Attribute o m apos) (e :: es) [] pos) (tMethX C m sp E ta t) := by
  refine ⟨fun pins s σ H Q I h => ?_⟩
  refine PySem.W.methodCall_KW (pl := pl) (thn (he.run pins s σ H _ I h) fun u s1 ⟨x, H1, I1, rx, a, dx, fs, ex, ea, l, q⟩ => ?_) ht
  subst ex
  obtain rfl : u = Value.ref a := rx
  refine getmeth_ok I1 ea c hm l ?_
  refine PySem.W.callWith_K (first := [.ref a]) (h₀ := X.base) I.ok.mod.kin hm.kp (thn (ha.run pos pins s1 σ H1 _ I1 q) fun us s2 ⟨vs, H2, I2, r, q2⟩ => ⟨I2.kIn, ?_⟩) hst hpl
  exact run_fnS (us := .ref a :: us) (vs := .ref a :: vs) F hr hb (hx σ) I2 (.cons rfl r) q2
theorem pe_methX0 {pl : Sem Bool} (he : PE X o ta) (c : Cls X.K C) (hm : Meth X.K C m f) (F : FnOk X.prog X.w X.K X.mg X.base CX k f fd ps sp) (hr : Room k X.A) (hb : Binds X.K fd ps []) (hx : ∀ σ, PassesAt CX X σ (E σ))
    (ht : eval (.Call (.Attribute o m apos) [] [] pos) X.env = (do
      let ov ← eval o X.env
      standAt apos.atName
      let (f, first) ← holding [ov] (getMethod ov m pl)
      callWith pos f first (backTo pos (starEach [] X.env)) (backToKw pos (keywordEach [] X.env))) := by rfl) :
    PE X (.Call (.Attribute o m apos) [] [] pos) (tMethX C m sp E ta tNil) := by
  refine ⟨fun pins s σ H Q I h => ?_⟩
  refine PySem.W.methodCall_KW (pl := pl) (thn (he.run pins s σ H _ I h) fun u s1 ⟨x, H1, I1, rx, a, dx, fs, ex, ea, l, q⟩ => ?_) ht
  subst ex
  obtain rfl : u = Value.ref a := rx
  refine getmeth_ok I1 ea c hm l ?_
  exact PySem.W.callWith_K0 (first := [.ref a]) I1.kIn hm.kp (run_fnS (us := [.ref a]) (vs := [.ref a]) F hr hb (hx σ) I1 (.cons rfl .nil) q)
end
end L2
namespace DL
open PySem L2 PySem.Spec PyProof.Rows
section
variable {X : Cx} {e a b c o : Expr} {es rest : List Expr} {σ : Sd} {M : Mp} {Q : QD} {E : DE} {W : WD} {pos pos2 pos' p p2 np apos : Pos} {x m f : Str} {k : Nat} {ps : List Str} {sp4 : Sp4} {C : Addr}
/-- o.m(e, ..), a method that may raise -/
theorem e_methX {pl : Sem Bool} (tk : TkD X W) (c : Cls X.K C) (F : CalleeMX X.prog X.w X.K X.mg X.base C m k ps sp4) (hr : Room k X.A)
    (h : ES X o σ M fun x M1 => ∃ a dx fs, x = .ref a ∧ M1 a = some (.ins C dx fs) ∧ fs.lookup m = none ∧ AS X (e :: es) σ M1 fun ds M2 => ∀ N, Mle M2 N → sp4 (x :: ds) N Q fun cls d M' => FixLe N M' ∧ W cls d σ M')
    (hst : starEach (e :: es) X.env = (false, eval e X.env) :: starEach es X.env := by rfl) (hpl : (backTo pos (starEach es X.env)).any (·.1) = false := by rfl)
    (ht : eval (.Call (.Attribute o m apos) (e :: es) [] pos) X.env = (do
      let ov ← eval o X.env
      standAt apos.atName
      let (f, first) ← holding [ov] (getMethod ov m pl)
      callWith pos f first (backTo pos (starEach (e :: es) X.env)) (backToKw pos (keywordEach [] X.env))) := by rfl) : ES X (.Call (.Attribute o m apos) (e :: es) [] pos) σ M Q := by
  obtain ⟨g, fd, F, hm, hb⟩ := F
  obtain ⟨Wv, tkv, hW⟩ := tk
  refine ES.of (pe_methX pe_sem c hm F hr hb (fun σ => passAt tkv σ) pa_sem hst hpl ht) fun σv H S R => h.go (H0 := H) S R fun v H1 x M1 i1 R1 t1 ⟨a, dx, fs, ex, ea, l, q1⟩ => ?_
  subst ex
  obtain ⟨_, eh, gs, rfl, hk⟩ := R1 a _ ea
  cases t1
  refine ⟨a, dx, gs, rfl, eh, (hk.look (f := m)).2 l, q1.go (S.mono i1) R1 fun vs H2 ds M2 i2 R2 t2 q2 => ?_⟩
  exact ⟨.ref a :: ds, plus M2 H2, Q, _, .cons (.ref a) t2, plus_rel R2, q2 _ plus_le, fun v H3 d M3 i3 R3 t3 q3 => ⟨(i1.trans i2).trans i3, d, M3, R3, t3, q3⟩, fun cls d H' M' R' ⟨fx, w⟩ => hW cls d σv H' σ M' (S.mono ((i1.trans i2).trans (imm_of R2 fx R'))) R' w⟩
theorem e_methX0 {pl : Sem Bool} (tk : TkD X W) (c : Cls X.K C) (F : CalleeMX X.prog X.w X.K X.mg X.base C m k ps sp4) (hr : Room k X.A)
    (h : ES X o σ M fun x M1 => ∃ a dx fs, x = .ref a ∧ M1 a = some (.ins C dx fs) ∧ fs.lookup m = none ∧ ∀ N, Mle M1 N → sp4 [x] N Q fun cls d M' => FixLe N M' ∧ W cls d σ M')
    (ht : eval (.Call (.Attribute o m apos) [] [] pos) X.env = (do
      let ov ← eval o X.env
      standAt apos.atName
      let (f, first) ← holding [ov] (getMethod ov m pl)
      callWith pos f first (backTo pos (starEach [] X.env)) (backToKw pos (keywordEach [] X.env))) := by rfl) : ES X (.Call (.Attribute o m apos) [] [] pos) σ M Q := by
  obtain ⟨g, fd, F, hm, hb⟩ := F
  obtain ⟨Wv, tkv, hW⟩ := tk
  refine ES.of (pe_methX0 pe_sem c hm F hr hb (fun σ => passAt tkv σ) ht) fun σv H S R => h.go (H0 := H) S R fun v H1 x M1 i1 R1 t1 ⟨a, dx, fs, ex, ea, l, q1⟩ => ?_
  subst ex
  obtain ⟨_, eh, gs, rfl, hk⟩ := R1 a _ ea
  cases t1
  exact ⟨a, dx, gs, rfl, eh, (hk.look (f := m)).2 l, [.ref a], plus M1 H1, Q, _, .cons (.ref a) .nil, plus_rel R1, q1 _ plus_le, fun v H3 d M3 i3 R3 t3 q3 => ⟨i1.trans i3, d, M3, R3, t3, q3⟩, fun cls d H' M' R' ⟨fx, w⟩ => hW cls d σv H' σ M' (S.mono (i1.trans (imm_of R1 fx R'))) R' w⟩
end
end DL
set_option maxHeartbeats 4000000
namespace DL
open PySem L2 PySem.Spec PyProof.Rows
/-! ### own exception classes with __init__, put together -/
theorem tail_ve : ∀ l : List Value, PySem.W.excTail [.type "ValueError", .type "Exception", .type "BaseException", .type "object"] l = true → PySem.HandSPX.refsVE l = true
  | [], h => by
    revert h
    decide
  | x :: r, h => by
    cases x with
    | ref c => exact tail_ve r h
    | _ => exact h
theorem oexC_of {K : PySem.W.Frag} {C : Addr} (q : PySem.W.excInitIn K C [.type "ValueError", .type "Exception", .type "BaseException", .type "object"] "ValueError.__new__" = true) (hd : PySem.W.hasDictIn K C = true)
    (sa : PySem.W.findIn K (.ref C) "__setattr__" = some (some (.builtin "object.__setattr__"))) (exC : PySem.W.subIn K (.ref C) (.type "BaseException") = some true) (tyC : PySem.W.typeIn K (.ref C) = some (.type "type")) (kC : PySem.W.keepIn K (.ref C) = true) : OexC K C := by
  refine ⟨?_, sa, exC, tyC, kC⟩
  unfold PySem.W.excInitIn at q
  split at q
  · rename_i dd cd sl ho
    split at q
    · rename_i C' bm k0 k1 k2 k3 n k5 hm hs
      simp only [Bool.and_eq_true, beq_iff_eq, Bool.not_eq_true'] at q
      obtain ⟨⟨⟨rfl, rfl⟩, hdel⟩, ht⟩ := q
      have hcl : PySem.W.clsIn K C' = some cd := by unfold PySem.W.clsIn; rw [ho]
      have hdd : cd.hasDict = true := by
        unfold PySem.W.hasDictIn at hd
        rw [hcl] at hd
        exact hd
      obtain ⟨nm, bs, mro, ns, qn, hdc, sn, sub, ab, col, del⟩ := cd
      dsimp only at hm hdel hdd
      subst hm hdel hdd
      have hsl : sl = #[k0, k1, k2, k3, some (.builtin "ValueError.__new__"), k5] := by
        obtain ⟨l⟩ := sl
        simp only at hs
        rw [hs]
      subst hsl
      exact ⟨nm, qn, ns, bs, bm, sn, sub, ab, col, dd, k0, k1, k2, k3, k5, ho, tail_ve _ ht⟩
    · cases q
  · cases q
section
variable {P : Program} {w : World} {K : PySem.W.Frag} {mg : Str → Option Value} {base : Heap} {x : Str} {C fI cc cda : Addr} {st : Stmt} {qual txt f1 f2 l0 l1 l2 : Str} {p0 p1 ap p2 pos p3 pa pb pc pd pe pf pg ph : Pos} {j : Nat} {kV dc pm ct oc : Value} {an od : Option Addr} {sl : Array (Option Value)} {ar : Arg}
theorem xcI_of1 (S : SScope [l0, l1] [l0, l1] (defScope st))
    (hbd : defBody st = [.Expr (.Call (.Attribute (.Call (.Name "super" p0) [] [] p1) "__init__" ap) [.Constant (.str txt) j p2] [] pos) p3, .Assign [.Attribute (.Name l0 pa) f1 pb] (.Name l1 pc) pd])
    (lk : K.lookup fI = some ⟨oc, od, .func (PySem.W.ksFn "__init__" qual (defArgs st) (defBody st) (defScope st) .none kV dc pm an (.ref cda) ct cc), sl⟩) (hcd : PySem.W.codeIn K (.ref cda) qual = true) (SC : SupC P K mg cc C cda) (T : OexC K C)
    (SS : SupSt qual (defScope st) fI (.ref cda) cc txt p0 p1 ap p2 pos p3 j) (hp : ((defArgs st).posonlyargs ++ (defArgs st).args).head? = some ar) (har : ar.arg = l0) (n1 : PySem.W.findIn K (.ref C) f1 = some none)
    (hs : ∀ L, swapsWith (.Name l1 pc) (some (.Attribute (.Name l0 pa) f1 pb)) pd.line (PySem.W.ksEnv qual (defScope st) L fI (.ref cda) cc) = pure false)
    (d0 : (l0 == ("__debug__" : Str)) = false) (d1 : (l1 == ("__debug__" : Str)) = false) (c0 : (l0 == ("__classdict__" : Str)) = false) (c1 : (l1 == ("__classdict__" : Str)) = false)
    (iC : PySem.W.findIn K (.ref C) "__init__" = some (some (.ref fI))) (tI : PySem.W.typeIn K (.ref fI) = some (.type "function"))
    (hb : Binds K (PySem.W.ksFn "__init__" qual (defArgs st) (defBody st) (defScope st) .none kV dc pm an (.ref cda) ct cc) [l0, l1] []) (hm : mg x = some (.ref C)) : XcI P w K mg base 1 x C [f1] := by
  rw [hbd] at lk hb
  refine xcI (give1 C f1) T iC tI (fn_super (k := 0) lk hcd S SC T SS hp (by rw [har]; rfl) (by rw [har]; exact S.par _ (by simp)) (fun vs H Q E ⟨a, y, e, _⟩ => by rw [e]; rfl) fun A outer s H vs Q E q => ?_) hb hm
  exact body1 (X := cxS CX0 P w K mg base [l0, l1] qual (defScope st) fI (.ref cda) cc A outer s H E) T n1 rfl (.inl (S.par _ (by simp))) (.inl (S.par _ (by simp))) d0 d1 c0 c1 (hs _) q
theorem xcI_of2 (S : SScope [l0, l1, l2] [l0, l1, l2] (defScope st))
    (hbd : defBody st = [.Expr (.Call (.Attribute (.Call (.Name "super" p0) [] [] p1) "__init__" ap) [.Constant (.str txt) j p2] [] pos) p3, .Assign [.Attribute (.Name l0 pa) f1 pb] (.Name l1 pc) pd, .Assign [.Attribute (.Name l0 pe) f2 pf] (.Name l2 pg) ph])
    (lk : K.lookup fI = some ⟨oc, od, .func (PySem.W.ksFn "__init__" qual (defArgs st) (defBody st) (defScope st) .none kV dc pm an (.ref cda) ct cc), sl⟩) (hcd : PySem.W.codeIn K (.ref cda) qual = true) (SC : SupC P K mg cc C cda) (T : OexC K C)
    (SS : SupSt qual (defScope st) fI (.ref cda) cc txt p0 p1 ap p2 pos p3 j) (hp : ((defArgs st).posonlyargs ++ (defArgs st).args).head? = some ar) (har : ar.arg = l0) (n1 : PySem.W.findIn K (.ref C) f1 = some none) (n2 : PySem.W.findIn K (.ref C) f2 = some none)
    (hs : ∀ L, swapsWith (.Name l1 pc) (some (.Attribute (.Name l0 pa) f1 pb)) pd.line (PySem.W.ksEnv qual (defScope st) L fI (.ref cda) cc) = pure false) (hs2 : ∀ L, swapsWith (.Name l2 pg) (some (.Attribute (.Name l0 pe) f2 pf)) ph.line (PySem.W.ksEnv qual (defScope st) L fI (.ref cda) cc) = pure false)
    (d0 : (l0 == ("__debug__" : Str)) = false) (d1 : (l1 == ("__debug__" : Str)) = false) (d2 : (l2 == ("__debug__" : Str)) = false) (c0 : (l0 == ("__classdict__" : Str)) = false) (c1 : (l1 == ("__classdict__" : Str)) = false) (c2 : (l2 == ("__classdict__" : Str)) = false)
    (iC : PySem.W.findIn K (.ref C) "__init__" = some (some (.ref fI))) (tI : PySem.W.typeIn K (.ref fI) = some (.type "function"))
    (hb : Binds K (PySem.W.ksFn "__init__" qual (defArgs st) (defBody st) (defScope st) .none kV dc pm an (.ref cda) ct cc) [l0, l1, l2] []) (hm : mg x = some (.ref C)) : XcI P w K mg base 1 x C [f1, f2] := by
  rw [hbd] at lk hb
  refine xcI (give2 C f1 f2) T iC tI (fn_super (k := 0) lk hcd S SC T SS hp (by rw [har]; rfl) (by rw [har]; exact S.par _ (by simp)) (fun vs H Q E ⟨a, y, z, e, _⟩ => by rw [e]; rfl) fun A outer s H vs Q E q => ?_) hb hm
  exact body2 (X := cxS CX0 P w K mg base [l0, l1, l2] qual (defScope st) fI (.ref cda) cc A outer s H E) T n1 n2 rfl (.inl (S.par _ (by simp))) (.inl (S.par _ (by simp))) (.inl (S.par _ (by simp))) d0 d1 d2 c0 c1 c2 (hs _) (hs2 _) q
end
end DL
set_option maxHeartbeats 4000000
namespace DL
open PySem L2 PySem.Spec PyProof.Rows
/-! ### a dict that is walked: it stands locked meanwhile -/
/-- what a value's data rest on -/
structure Imm2 (H H' : Hp) : Prop where
  t : ∀ a xs, H a = some (.tup xs) → H' a = some (.tup xs)
  ft : ∀ a o xs, H a = some (.frz o (.tup xs)) → H' a = some (.frz o (.tup xs))
  fl : ∀ a o xs, H a = some (.frz o (.lst xs)) → H' a = some (.frz o (.lst xs))
section
variable {K : PySem.W.Frag} {H H' : Hp}
theorem imm2_sqT {a : Addr} {xs : List V} (i : Imm2 H H') (h : SqT K H a xs) : SqT K H' a xs := by
  rcases h with h | h
  · rcases h with h | ⟨o, h⟩
    · exact .inl (.inl (i.t a _ h))
    · exact .inl (.inr ⟨o, i.ft a _ _ h⟩)
  · exact .inr h
theorem imm2_sqF {a : Addr} {xs : List V} (i : Imm2 H H') (h : SqF K H a xs) : SqF K H' a xs := by
  rcases h with ⟨o, h⟩ | h
  · exact .inl ⟨o, i.fl a _ _ h⟩
  · exact .inr h
mutual
theorem Tp.mono2 (i : Imm2 H H') : ∀ (d : D) (v : V), Tp K H v d → Tp K H' v d
  | .non, _, h => by cases h; exact .non
  | .bl b, _, h => by cases h; exact .bl b
  | .int n, _, h => by cases h; exact .int n
  | .str x, _, h => by cases h; exact .str x
  | .ref a, _, h => by cases h; exact .ref a
  | .ty n, _, h => by cases h; exact .ty n
  | .tup ds, _, h => by
    cases h with
    | tup hs ha => exact .tup (imm2_sqT i hs) (Tps.mono2 i ds _ ha)
  | .rol ds, _, h => by
    cases h with
    | rol hs ha => exact .rol (imm2_sqF i hs) (Tps.mono2 i ds _ ha)
theorem Tps.mono2 (i : Imm2 H H') : ∀ (ds : List D) (vs : List V), Tps K H vs ds → Tps K H' vs ds
  | [], _, h => by cases h; exact .nil
  | d :: ds, _, h => by
    cases h with
    | cons h1 h2 => exact .cons (Tp.mono2 i d _ h1) (Tps.mono2 i ds _ h2)
end
theorem KVs.mono2 {κ : Type} (i : Imm2 H H') : ∀ {vs : List (κ × V)} {ds : List (κ × D)}, KVs K H vs ds → KVs K H' vs ds
  | _, _, .nil => .nil
  | _, _, .cons r t => .cons (Tp.mono2 i _ _ r) (KVs.mono2 i t)
theorem RelO.mono2 (i : Imm2 H H') : ∀ {m : MO} {o : HO}, RelO K H m o → RelO K H' m o
  | .lst _, _, ⟨xs, e, h⟩ => ⟨xs, e, Tps.mono2 i _ _ h⟩
  | .dK _, _, ⟨xs, e, h⟩ => ⟨xs, e, KVs.mono2 i h⟩
  | .ins _ _ _, _, ⟨gs, e, h⟩ => ⟨gs, e, KVs.mono2 i h⟩
  | .own _, _, e => e
  | .fix _, _, e => e
  | .xd _, _, ⟨gs, e, h⟩ => ⟨gs, e, KVs.mono2 i h⟩
theorem Slots.mono2 {σv : L2.St} {σ : Sd} (i : Imm2 H H') (s : Slots K H σv σ) : Slots K H' σv σ := ⟨s.len, fun j d h => let ⟨v, e, r⟩ := s.at_ j d h; ⟨v, e, Tp.mono2 i _ _ r⟩⟩
/-- a dict unlocked -/
theorem imm2_unl {d : Addr} {od : Obj} {xs : List (Key × V)} (h : H d = some (.frz od (.dK xs))) {u : HO} : Imm2 H (upd H d u) := by
  have ne : ∀ a o, H a = some o → o ≠ .frz od (.dK xs) → a ≠ d := fun a o e n z => by rw [z, h] at e; cases e; exact n rfl
  refine ⟨fun a ys e => ?_, fun a o ys e => ?_, fun a o ys e => ?_⟩
  · rw [upd_ne (ne a _ e (fun z => nomatch z))]; exact e
  · rw [upd_ne (ne a _ e (fun z => nomatch z))]; exact e
  · rw [upd_ne (ne a _ e (fun z => nomatch z))]; exact e
/-- the dict at d stands locked: its pairs kvs -/
structure Lk (K : PySem.W.Frag) (M : Mp) (d : Addr) (kvs : List (Key × D)) (od : Obj) (xs : List (Key × V)) (H : Hp) : Prop where
  at_ : M d = some (.fix (.frz od (.dK xs)))
  kv : KVs K H xs kvs
  all : ∀ a o, H a = some o → fixedO o → M a = some (.fix o)
theorem Lk.fix {M M' : Mp} {d : Addr} {kvs : List (Key × D)} {od : Obj} {xs : List (Key × V)} (h : Lk K M d kvs od xs H) (f : FixLe M M') : Lk K M' d kvs od xs H := ⟨f _ _ h.at_, h.kv, fun a o e z => f _ _ (h.all a o e z)⟩
theorem Lk.imm {M : Mp} {d : Addr} {kvs : List (Key × D)} {od : Obj} {xs : List (Key × V)} (h : Lk K M d kvs od xs H) (R : RelM K M H') : Imm H H' := fun a o e f => by
  obtain ⟨_, e2, rfl, _⟩ := R a _ (h.all a o e f)
  exact e2
theorem Lk.here {M : Mp} {d : Addr} {kvs : List (Key × D)} {od : Obj} {xs : List (Key × V)} (h : Lk K M d kvs od xs H) (R : RelM K M H') : H' d = some (.frz od (.dK xs)) ∧ KVs K H' xs kvs := by
  obtain ⟨_, e2, rfl, _⟩ := R d _ h.at_
  exact ⟨e2, KVs.mono (h.imm R) h.kv⟩
theorem RelM.unl {M : Mp} {d : Addr} {kvs : List (Key × D)} {od : Obj} {xs : List (Key × V)} (R : RelM K M H') (e : H' d = some (.frz od (.dK xs))) (hk : KVs K H' xs kvs) : RelM K (updM M d (.dK kvs)) (upd H' d (.dK xs)) := fun a m h => by
  by_cases ha : a = d
  · subst ha
    rw [updM_same] at h
    cases h
    exact ⟨_, upd_same, xs, rfl, KVs.mono2 (imm2_unl e) hk⟩
  · rw [updM_ne ha] at h
    obtain ⟨o, e1, r⟩ := R a m h
    exact ⟨o, by rw [upd_ne ha]; exact e1, RelO.mono2 (imm2_unl e) r⟩
end
section
variable {X : Cx} {e o i iter tg : Expr} {st : Stmt} {σ : Sd} {M : Mp} {Q : QD} {E : DE} {pos p : Pos} {x : Str}
theorem imm_unl {H H' : Hp} {d : Addr} {od : Obj} {xs : List (Key × V)} (e : H d = some (.dK xs)) (i : Imm (upd H d (.frz od (.dK xs))) H') : Imm H (upd H' d (.dK xs)) := fun a o h f => by
  have ha : a ≠ d := fun z => by rw [z, e] at h; cases h; exact f
  rw [upd_ne ha]
  exact i a o (by rw [upd_ne ha]; exact h) f
/-- the statement runs while the dict at d stands locked -/
theorem s_lockD {d : Addr} {kvs : List (Key × D)} (e : M d = some (.dK kvs))
    (h : ∀ M1 od xs Hl, Lk X.K M1 d kvs od xs Hl → Keep d M M1 → SS X st σ M1 { nx := fun σ' M' => FixLe M1 M' ∧ SetM M' d (.dK kvs) (E.nx σ'), rt := fun v M' => FixLe M1 M' ∧ SetM M' d (.dK kvs) (E.rt v), bk := fun σ' M' => FixLe M1 M' ∧ SetM M' d (.dK kvs) (E.bk σ'), ct := fun σ' M' => FixLe M1 M' ∧ SetM M' d (.dK kvs) (E.ct σ') }) : SS X st σ M E :=
  SS.of (ps_lock ps_sem) fun σv H S R => by
    obtain ⟨_, eh, xs, rfl, hk⟩ := R d _ e
    refine ⟨d, .dK xs, eh, trivial, fun od => ?_⟩
    have im : Imm H (upd H d (.frz od (.dK xs))) := Imm.set eh (fun z => z)
    have R0 : RelM X.K (updM M d (.fix (.frz od (.dK xs)))) (upd H d (.frz od (.dK xs))) := R.set (m := .fix (.frz od (.dK xs))) eh (fun z => z) ⟨rfl, trivial⟩
    have k0 : Keep d M (plus (updM M d (.fix (.frz od (.dK xs)))) (upd H d (.frz od (.dK xs)))) := fun b m hb eb => plus_le _ _ (by rw [updM_ne hb]; exact eb)
    have lk : Lk X.K (plus (updM M d (.fix (.frz od (.dK xs)))) (upd H d (.frz od (.dK xs)))) d kvs od xs (upd H d (.frz od (.dK xs))) := ⟨plus_le _ _ updM_same, KVs.mono im hk, fun a o ea f => plus_fix R0 ea f⟩
    have N : ∀ {Q : Sd → Mp → Prop} {σv' : L2.St} {H' : Hp}, DN X.K (upd H d (.frz od (.dK xs))) (fun σ' M' => FixLe (plus (updM M d (.fix (.frz od (.dK xs)))) (upd H d (.frz od (.dK xs)))) M' ∧ SetM M' d (.dK kvs) (Q σ')) σv' H' → H' d = some (.frz od (.dK xs)) ∧ DN X.K H Q σv' (upd H' d (.dK xs)) := by
      rintro Q σv' H' ⟨i1, σ', M', S', R', fx, q⟩
      have ed : H' d = some (.frz od (.dK xs)) := i1 d _ upd_same trivial
      exact ⟨ed, imm_unl eh i1, σ', _, S'.mono2 (imm2_unl ed), R'.unl ed (lk.fix fx |>.here R').2, q.at⟩
    refine ((h _ od xs _ lk k0).run σv _ (S.mono im) (plus_rel R0)).mono ⟨fun _ _ q => N q, fun v H' ⟨i1, dv, M', R', t', fx, q⟩ => ?_, fun _ _ q => N q, fun _ _ q => N q⟩
    have ed : H' d = some (.frz od (.dK xs)) := i1 d _ upd_same trivial
    exact ⟨ed, imm_unl eh i1, dv, _, R'.unl ed (lk.fix fx |>.here R').2, Tp.mono2 (imm2_unl ed) _ _ t', q.at⟩
/-- for k in d, d locked -/
theorem i_keys {R : List D → (Mp → Prop) → Mp → Prop} (h : ES X iter σ M fun v M1 => ∃ d kvs od xs Hl, v = .ref d ∧ Lk X.K M1 d kvs od xs Hl ∧ R (kvs.map fun kv => kD kv.1) (fun M => Lk X.K M d kvs od xs Hl) M1) : IS X tg iter σ M R :=
  IS.of (pi_keys pe_sem) fun σv H S RM => h.go (H0 := H) S RM fun v H1 dv M1 i1 R1 t1 ⟨d, kvs, od, xs, Hl, ev, lk, q⟩ => by
    subst ev
    cases t1
    obtain ⟨ed, hk⟩ := lk.here R1
    refine ⟨d, od, rfl, .inl ⟨xs, ed, i1, _, _, M1, R1, ⟨fun i H M im R g hi => ⟨(Lk.here g R).1, ?_⟩, fun H M im R g => ⟨(Lk.here g R).1, ?_⟩, fun i H M x H' y im R g hd z => ?_⟩, q⟩⟩
    · rw [List.length_map] at hi; rw [hk.length]; exact hi
    · rw [List.length_map, hk.length]; exact Nat.le_refl _
    · obtain ⟨rfl, k, u, hx, rfl⟩ := z
      obtain ⟨v, ev, tv⟩ := (tps_keys hk).get hd
      rw [List.getElem?_map, hx] at ev
      cases ev
      exact ⟨Imm.refl _, R, Tp.mono im _ _ tv⟩
/-- d[k], d locked -/
theorem e_dgetL (hr : ∃ k, Room k X.A) (h : ES X o σ M fun x M1 => ES X i σ M1 fun y M2 => ∃ d kvs od xs Hl k v, x = .ref d ∧ Lk X.K M2 d kvs od xs Hl ∧ y = kD k ∧ valD kvs k = some v ∧ Q v M2) (hs : NoSl i := by exact fun _ _ => rfl) : ES X (.Subscript o i pos) σ M Q :=
  ES.of (pe_dget (by have := hr.choose_spec.units; omega) pe_sem pe_sem hs) fun σv H S R => h.go (H0 := H) S R fun v H1 x M1 i1 R1 t1 q1 => q1.go (H0 := H1) (S.mono i1) R1 fun u H2 y M2 i2 R2 t2 ⟨d, kvs, od, xs, Hl, k, dv, ex, lk, ey, ev, q⟩ => by
    subst ex ey
    cases t1
    obtain ⟨ed, hk⟩ := lk.here R2
    obtain ⟨v, evv, tv⟩ := (hk.val (k := k)).1 dv ev
    obtain rfl := tp_kD t2
    exact ⟨d, v, rfl, .inl ⟨xs, k, .inr ⟨od, ed⟩, rfl, by rw [evv]⟩, i1.trans i2, dv, M2, R2, tv, q⟩
end
end DL
set_option maxHeartbeats 4000000
namespace My
open PySem L2 DL
def top (i : Nat) : Stmt := PySem.Challenge.pw_lendback_k58_memory_cells.main.body.getD i (.Pass ⟨0, 0, 0, 0⟩)
abbrev st__wall : Stmt := top 0
theorem scope__wall : FnScope ["k"] ["k"] (defScope st__wall) := ⟨rfl, rfl, rfl, by decide +kernel, rfl, by decide +kernel, by decide +kernel⟩
abbrev st__law_raises : Stmt := top 9
theorem scope__law_raises : FnScope ["_law_memory", "_law_what", "_law_address", "problem"] ["_law_memory", "_law_what", "_law_address"] (defScope st__law_raises) := ⟨rfl, rfl, rfl, by decide +kernel, rfl, by decide +kernel, by decide +kernel⟩
abbrev st__law_agrees : Stmt := top 10
theorem scope__law_agrees : FnScope ["_law_memory", "_law_due", "_law_top", "_law_address"] ["_law_memory", "_law_due", "_law_top"] (defScope st__law_agrees) := ⟨rfl, rfl, rfl, by decide +kernel, rfl, by decide +kernel, by decide +kernel⟩
abbrev st_law : Stmt := top 11
theorem scope_law : FnScope ["_law_script", "_law_first", "_law_second", "_law_due", "_law_other", "_law_starts", "_law_cell", "_law_size", "_law_start", "_law_k", "_law_top", "_law_places", "_law_address", "_law_number", "_law_kept"] ["_law_script"] (defScope st_law) := ⟨rfl, rfl, rfl, by decide +kernel, rfl, by decide +kernel, by decide +kernel⟩
abbrev st_Memory___init__ : Stmt := inClass (top 7) 0
theorem scope_Memory___init__ : FnScope ["self"] ["self"] (defScope st_Memory___init__) := ⟨rfl, rfl, rfl, by decide +kernel, rfl, by decide +kernel, by decide +kernel⟩
abbrev st_Memory_allocate : Stmt := inClass (top 7) 1
theorem scope_Memory_allocate : FnScope ["self", "size", "address", "at", "cell"] ["self", "size"] (defScope st_Memory_allocate) := ⟨rfl, rfl, rfl, by decide +kernel, rfl, by decide +kernel, by decide +kernel⟩
abbrev st_Memory_release : Stmt := inClass (top 7) 2
theorem scope_Memory_release : FnScope ["self", "address", "cell"] ["self", "address"] (defScope st_Memory_release) := ⟨rfl, rfl, rfl, by decide +kernel, rfl, by decide +kernel, by decide +kernel⟩
abbrev st_Memory_read : Stmt := inClass (top 7) 3
theorem scope_Memory_read : FnScope ["self", "address"] ["self", "address"] (defScope st_Memory_read) := ⟨rfl, rfl, rfl, by decide +kernel, rfl, by decide +kernel, by decide +kernel⟩
abbrev st_Memory_write : Stmt := inClass (top 7) 4
theorem scope_Memory_write : FnScope ["self", "address", "number"] ["self", "address", "number"] (defScope st_Memory_write) := ⟨rfl, rfl, rfl, by decide +kernel, rfl, by decide +kernel, by decide +kernel⟩
abbrev st_Memory_blocks : Stmt := inClass (top 7) 5
theorem scope_Memory_blocks : FnScope ["self"] ["self"] (defScope st_Memory_blocks) := ⟨rfl, rfl, rfl, by decide +kernel, rfl, by decide +kernel, by decide +kernel⟩
abbrev st_NotAllocated___init__ : Stmt := inClass (top 4) 0
theorem sscope_NotAllocated___init__ : SScope ["self", "address"] ["self", "address"] (defScope st_NotAllocated___init__) := ⟨rfl, rfl, rfl, by decide +kernel, rfl, by decide +kernel, by decide +kernel, fun x h => (show ∀ y ∈ (defScope st_NotAllocated___init__).names, y.2 = .free → y.1 = "__class__" by decide +kernel) _ (PySem.mem_of_lookup h) rfl, rfl, rfl⟩
theorem take_succ_map {α β : Type} {f : α → β} {l : List α} {i : Nat} {x : α} (h : l[i]? = some x) : (l.take (i + 1)).map f = (l.take i).map f ++ [f x] := by
  rw [List.take_add_one, h, List.map_append]
  rfl
theorem get_map {α : Type} {f : α → D} {l : List α} {i : Nat} {d : D} (h : (l.map f)[i]? = some d) : ∃ x, l[i]? = some x ∧ d = f x := by
  rw [List.getElem?_map] at h
  cases hx : l[i]? with
  | none => rw [hx] at h; cases h
  | some x => rw [hx] at h; cases h; exact ⟨x, rfl, rfl⟩
/-! ### blocks -/
abbrev Bl := List (Int × Int)
/-- ascending from lo on, none over another, none empty -/
def Srt : Int → Bl → Prop
  | _, [] => True
  | lo, b :: r => lo ≤ b.1 ∧ 0 < b.2 ∧ Srt (b.1 + b.2) r
/-- the lowest place for n cells, from a on -/
def low : Int → Bl → Int → Int
  | a, [], _ => a
  | a, b :: r, n => if n ≤ b.1 - a then a else low (b.1 + b.2) r n
def insB (bs : Bl) (b : Int × Int) : Bl := (bs.filter fun x => decide (x.1 < b.1)) ++ [b] ++ (bs.filter fun x => decide (b.1 < x.1))
theorem Srt.le {lo lo' : Int} {bs : Bl} (h : Srt lo bs) (l : lo' ≤ lo) : Srt lo' bs := by
  cases bs with
  | nil => trivial
  | cons b r => exact ⟨by have := h.1; omega, h.2⟩
theorem Srt.mem : ∀ {lo : Int} {bs : Bl}, Srt lo bs → ∀ b ∈ bs, lo ≤ b.1 ∧ 0 < b.2
  | _, [], _, b, h => absurd h List.not_mem_nil
  | lo, c :: r, h, b, hb => by
    rcases List.mem_cons.mp hb with rfl | hb
    · exact ⟨h.1, h.2.1⟩
    · have := Srt.mem h.2.2 b hb
      have h1 := h.1
      have h2 := h.2.1
      omega
theorem Srt.drop : ∀ {lo : Int} {bs : Bl} (i : Nat) {b : Int × Int}, Srt lo bs → bs[i]? = some b → lo ≤ b.1 ∧ 0 < b.2 ∧ Srt (b.1 + b.2) (bs.drop (i + 1))
  | lo, [], i, b, _, h => by simp at h
  | lo, c :: r, 0, b, hs, h => by simp at h; subst h; exact hs
  | lo, c :: r, i + 1, b, hs, h => by
    have := Srt.drop i hs.2.2 (by simpa using h)
    have h1 := hs.1
    have h2 := hs.2.1
    refine ⟨by omega, this.2.1, ?_⟩
    simpa using this.2.2
theorem Srt.app : ∀ {lo a n : Int} {xs ys : Bl}, Srt lo xs → (∀ b ∈ xs, b.1 + b.2 ≤ a) → lo ≤ a → 0 < n → Srt (a + n) ys → Srt lo (xs ++ (a, n) :: ys)
  | lo, a, n, [], ys, _, _, hl, hn, hy => ⟨hl, hn, hy⟩
  | lo, a, n, c :: r, ys, hx, hb, hl, hn, hy => ⟨hx.1, hx.2.1, Srt.app hx.2.2 (fun b h => hb b (List.mem_cons_of_mem _ h)) (hb c List.mem_cons_self) hn hy⟩
theorem Srt.take : ∀ {lo : Int} {bs : Bl} (i : Nat), Srt lo bs → Srt lo (bs.take i)
  | _, [], i, _ => by simp [Srt]
  | _, c :: r, 0, _ => trivial
  | _, c :: r, i + 1, h => ⟨h.1, h.2.1, Srt.take i h.2.2⟩
theorem Srt.filter (p : Int × Int → Bool) : ∀ {lo : Int} {bs : Bl}, Srt lo bs → Srt lo (bs.filter p)
  | _, [], _ => trivial
  | lo, c :: r, h => by
    have ih := Srt.filter p h.2.2
    rw [List.filter_cons]
    split
    · exact ⟨h.1, h.2.1, ih⟩
    · exact ih.le (by have := h.1; have := h.2.1; omega)
theorem Srt.inj : ∀ {lo : Int} {bs : Bl}, Srt lo bs → ∀ b ∈ bs, ∀ c ∈ bs, b.1 = c.1 → b = c
  | _, [], _, b, h, _, _, _ => absurd h List.not_mem_nil
  | lo, d :: r, h, b, hb, c, hc, e => by
    have h1 := h.2.1
    rcases List.mem_cons.mp hb with hb1 | hb1
    · rcases List.mem_cons.mp hc with hc1 | hc1
      · rw [hb1, hc1]
      · have := (Srt.mem h.2.2 c hc1).1
        subst hb1
        omega
    · rcases List.mem_cons.mp hc with hc1 | hc1
      · have := (Srt.mem h.2.2 b hb1).1
        subst hc1
        omega
      · exact Srt.inj h.2.2 b hb1 c hc1 e
/-- the place that a step to the left leaves -/
theorem filter_lt_all {a : Int} : ∀ {xs : Bl}, (∀ b ∈ xs, b.1 < a) → xs.filter (fun x => decide (x.1 < a)) = xs ∧ xs.filter (fun x => decide (a < x.1)) = []
  | [], _ => ⟨rfl, rfl⟩
  | c :: r, h => by
    obtain ⟨h1, h2⟩ := filter_lt_all (xs := r) fun b hb => h b (List.mem_cons_of_mem _ hb)
    have := h c List.mem_cons_self
    rw [List.filter_cons, List.filter_cons, if_pos (by simpa using this), if_neg (by simp; omega), h1, h2]
    exact ⟨rfl, rfl⟩
theorem filter_gt_all {a : Int} : ∀ {xs : Bl}, (∀ b ∈ xs, a < b.1) → xs.filter (fun x => decide (x.1 < a)) = [] ∧ xs.filter (fun x => decide (a < x.1)) = xs
  | [], _ => ⟨rfl, rfl⟩
  | c :: r, h => by
    obtain ⟨h1, h2⟩ := filter_gt_all (xs := r) fun b hb => h b (List.mem_cons_of_mem _ hb)
    have := h c List.mem_cons_self
    rw [List.filter_cons, List.filter_cons, if_neg (by simp; omega), if_pos (by simpa using this), h1, h2]
    exact ⟨rfl, rfl⟩
theorem insB_at {bs : Bl} {a n : Int} {i : Nat} (h1 : ∀ b ∈ bs.take i, b.1 < a) (h2 : ∀ b ∈ bs.drop i, a < b.1) : insB bs (a, n) = bs.take i ++ [(a, n)] ++ bs.drop i := by
  unfold insB
  have e : bs = bs.take i ++ bs.drop i := (List.take_append_drop i bs).symm
  obtain ⟨f1, f2⟩ := filter_lt_all h1
  obtain ⟨g1, g2⟩ := filter_gt_all h2
  conv => lhs; rw [e]
  rw [List.filter_append, List.filter_append]
  dsimp only
  rw [f1, f2, g1, g2]
  simp
def bD (b : Int × Int) : D := .tup [.int b.1, .int b.2]
/-- the block that begins at a -/
def atB (bs : Bl) (a : Int) : Option (Int × Int) := bs.find? fun b => decide (b.1 = a)
theorem atB_of {bs : Bl} {lo : Int} (h : Srt lo bs) {b : Int × Int} (hb : b ∈ bs) : atB bs b.1 = some b := by
  unfold atB
  cases e : bs.find? fun x => decide (x.1 = b.1) with
  | none =>
    rw [List.find?_eq_none] at e
    have := e b hb
    simp at this
  | some c =>
    have hc := List.mem_of_find?_eq_some e
    have he := List.find?_some e
    rw [h.inj c hc b hb (by simpa using he)]
theorem atB_mem {bs : Bl} {a : Int} {b : Int × Int} (h : atB bs a = some b) : b ∈ bs ∧ b.1 = a := ⟨List.mem_of_find?_eq_some h, by simpa using List.find?_some h⟩
theorem atB_none {bs : Bl} {a : Int} (h : ∀ b ∈ bs, b.1 ≠ a) : atB bs a = none := by
  unfold atB
  rw [List.find?_eq_none]
  exact fun b hb => by simpa using h b hb
def flds (s z c : Addr) : List (Str × D) := [("starts", .ref s), ("sizes", .ref z), ("cells", .ref c)]
theorem fl_starts {s z c : Addr} : (flds s z c).lookup ("starts" : Str) = some (.ref s) := by
  unfold flds
  rw [List.lookup_cons_self]
theorem fl_sizes {s z c : Addr} : (flds s z c).lookup ("sizes" : Str) = some (.ref z) := by
  unfold flds
  have h : (("sizes" : Str) == "starts") = false := by decide +kernel
  rw [List.lookup_cons, h, List.lookup_cons_self]
theorem fl_cells {s z c : Addr} : (flds s z c).lookup ("cells" : Str) = some (.ref c) := by
  unfold flds
  have h : (("cells" : Str) == "starts") = false := by decide +kernel
  have h2 : (("cells" : Str) == "sizes") = false := by decide +kernel
  rw [List.lookup_cons, h, List.lookup_cons, h2, List.lookup_cons_self]
theorem fl_no {s z c : Addr} {m : Str} (h1 : (m == "starts") = false) (h2 : (m == "sizes") = false) (h3 : (m == "cells") = false) : (flds s z c).lookup m = none := by
  unfold flds
  rw [List.lookup_cons, h1, List.lookup_cons, h2, List.lookup_cons, h3]
  rfl
/-- a memory at m: its blocks bs, its cells by number -/
structure MA (C : Addr) (M : Mp) (m dx s z c : Addr) (bs : Bl) (zs cs : List (Key × D)) (cf : Int → Option Int) : Prop where
  ob : M m = some (.ins C dx (flds s z c))
  st : M s = some (.lst (bs.map fun b => .int b.1))
  sz : M z = some (.dK zs)
  ce : M c = some (.dK cs)
  nzc : z ≠ c
  zv : ∀ a, valD zs (.inl a) = (atB bs a).map fun b => .int b.2
  cv : ∀ i, valD cs (.inl i) = (cf i).map D.int
  so : Srt 1 bs
/-- all but s z c stays -/
def Keep3 (s z c : Addr) (M M' : Mp) : Prop := ∀ b o, b ≠ s → b ≠ z → b ≠ c → M b = some o → M' b = some o
theorem Keep3.refl {s z c : Addr} {M : Mp} : Keep3 s z c M M := fun _ _ _ _ _ h => h
theorem Keep3.trans {s z c : Addr} {M M1 M2 : Mp} (h : Keep3 s z c M M1) (k : Keep3 s z c M1 M2) : Keep3 s z c M M2 := fun b o h1 h2 h3 e => k b o h1 h2 h3 (h b o h1 h2 h3 e)
theorem Keep.k3s {s z c : Addr} {M M' : Mp} (k : Keep s M M') : Keep3 s z c M M' := fun b o h1 _ _ e => k b o h1 e
theorem Keep.k3z {s z c : Addr} {M M' : Mp} (k : Keep z M M') : Keep3 s z c M M' := fun b o _ h2 _ e => k b o h2 e
theorem Keep.k3c {s z c : Addr} {M M' : Mp} (k : Keep c M M') : Keep3 s z c M M' := fun b o _ _ h3 e => k b o h3 e
theorem Mle.k3 {s z c : Addr} {M M' : Mp} (l : Mle M M') : Keep3 s z c M M' := fun b o _ _ _ e => l b o e
theorem MA.le {C : Addr} {M M' : Mp} {m dx s z c : Addr} {bs : Bl} {zs cs : List (Key × D)} {cf : Int → Option Int} (h : MA C M m dx s z c bs zs cs cf) (l : Mle M M') : MA C M' m dx s z c bs zs cs cf := ⟨l.at h.ob, l.at h.st, l.at h.sz, l.at h.ce, h.nzc, h.zv, h.cv, h.so⟩
theorem MA.nsz {C : Addr} {M : Mp} {m dx s z c : Addr} {bs : Bl} {zs cs : List (Key × D)} {cf : Int → Option Int} (h : MA C M m dx s z c bs zs cs cf) : s ≠ z := by
  rintro rfl
  have := h.st.symm.trans h.sz
  cases this
theorem MA.nsc {C : Addr} {M : Mp} {m dx s z c : Addr} {bs : Bl} {zs cs : List (Key × D)} {cf : Int → Option Int} (h : MA C M m dx s z c bs zs cs cf) : s ≠ c := by
  rintro rfl
  have := h.st.symm.trans h.ce
  cases this
theorem MA.nms {C : Addr} {M : Mp} {m dx s z c : Addr} {bs : Bl} {zs cs : List (Key × D)} {cf : Int → Option Int} (h : MA C M m dx s z c bs zs cs cf) : m ≠ s ∧ m ≠ z ∧ m ≠ c := by
  refine ⟨?_, ?_, ?_⟩
  · rintro rfl
    have := h.ob.symm.trans h.st
    cases this
  · rintro rfl
    have := h.ob.symm.trans h.sz
    cases this
  · rintro rfl
    have := h.ob.symm.trans h.ce
    cases this
end My
set_option maxHeartbeats 4000000
namespace My
open PySem L2 DL
section
variable {P : Program} {w : World} {K : PySem.W.Frag} {mg : Str → Option Value} {base : Heap} {f : Addr} {fd : FuncData} {C : Addr}
/-- what the walks ask of the class -/
structure MCls (K : PySem.W.Frag) (C : Addr) : Prop where
  cl : Cls K C
  n1 : NoAttr K C "starts"
  n2 : NoAttr K C "sizes"
  n3 : NoAttr K C "cells"
def spInit (C : Addr) : Sp3 := fun ds M Q => ∃ m dx, ds = [.ref m] ∧ M m = some (.ins C dx []) ∧ ∀ s z c M', M s = none → M z = none → M c = none → MA C M' m dx s z c [] [] [] (fun _ => none) → Keep m M M' → Q .non M'
theorem ok_init (T : MCls K C) (F : Fun K "__init__" "Memory.__init__" st_Memory___init__ f fd) (b : Binds K fd ["self"] []) (Mm : Mk K C f) (gC : mg "Memory" = some (.ref C)) :
    CalleeI P w K mg base "Memory" C 1 ["self"] (spInit C) := by
  refine ⟨f, fd, fn3 F scope_Memory___init__ (fun ds M Q ⟨_, _, e, _⟩ => by rw [e]; rfl) (fun cdv A outer sh H E hr ds M Q ⟨m, dx, e, em, q⟩ => ?_), Mm, b, gC⟩
  subst e
  refine ss_cons (s_fld (e_lst (a_nil ⟨by show 0 ≤ sizeLine; decide, fun s M1 f1 e1 l1 => e_var 0 rfl ⟨C, dx, [], l1.at em, T.cl, T.n1, by decide, fun M2 e2 k2 => ?_⟩⟩)))
  have hsm : s ≠ m := Ne.symm (mne em f1)
  refine ss_cons (s_fld (e_dict0 fun z M3 f3 e3 l3 => e_var 0 rfl ⟨C, dx, _, l3.at e2, T.cl, T.n2, by show 1 < 1000; decide, fun M4 e4 k4 => ?_⟩))
  have hzm : z ≠ m := Ne.symm (mne e2 f3)
  have fz : M z = none := (l1.keep.trans k2).fresh ⟨_, e2⟩ f3
  refine ss_one (s_fld (e_dict0 fun c M5 f5 e5 l5 => e_var 0 rfl ⟨C, dx, _, l5.at e4, T.cl, T.n3, by show 2 < 1000; decide, fun M6 e6 k6 => ?_⟩))
  have hcm : c ≠ m := Ne.symm (mne e4 f5)
  have hzc : z ≠ c := mne (k4.at hzm e3) f5
  have fc : M c = none := (((l1.keep.trans k2).to l3).trans k4).fresh ⟨_, e4⟩ f5
  have e1' : M2 s = some (.lst []) := k2.at hsm e1
  have e1'' : M6 s = some (.lst []) := k6.at hsm (l5.at (k4.at hsm (l3.at e1')))
  have e3'' : M6 z = some (.dK []) := k6.at hzm (l5.at (k4.at hzm e3))
  refine Wk.here (q s z c M6 f1 fz fc ⟨?_, e1'', e3'', k6.at hcm e5, hzc, fun _ => rfl, fun _ => rfl, trivial⟩ ((((((l1.keep.trans k2).to l3).trans k4).to l5)).trans k6))
  rw [e6]
  have h1 : ¬ ("starts" : Str) = "sizes" := by decide +kernel
  have h2 : ¬ ("starts" : Str) = "cells" := by decide +kernel
  have h3 : ¬ ("sizes" : Str) = "cells" := by decide +kernel
  simp only [putFD, if_neg h1, if_neg h2, if_neg h3, flds]
def spRead (C : Addr) : Sp3 := fun ds M Q => ∃ (m dx s z c : Addr) (bs : Bl) (zs cs : List (Key × D)) (cf : Int → Option Int) (i v : Int), ds = [.ref m, .int i] ∧ MA C M m dx s z c bs zs cs cf ∧ cf i = some v ∧ Q (.int v) M
theorem ok_read (T : MCls K C) (F : Fun K "read" "Memory.read" st_Memory_read f fd) (b : Binds K fd ["self", "address"] []) (Mm : Meth K C "read" f) :
    CalleeM P w K mg base C "read" 1 ["self", "address"] (spRead C) := by
  refine ⟨f, fd, fn3 F scope_Memory_read (fun ds M Q ⟨_, _, _, _, _, _, _, _, _, _, _, e, _⟩ => by rw [e]; rfl) (fun cdv A outer sh H E hr ds M Q ⟨m, dx, s, z, c, bs, zs, cs, cf, i, v, e, R, hv, q⟩ => ?_), Mm, b⟩
  subst e
  refine ss_if (t_dnin ⟨_, hr⟩ (e_var 1 rfl (e_fld (e_var 0 rfl ⟨C, dx, _, _, R.ob, T.cl, T.n3, fl_cells, cs, .inl i, R.ce, rfl, ?_⟩))))
  rw [if_pos rfl, R.cv, hv]
  refine ⟨fun h => absurd h (by simp), fun _ => ?_⟩
  exact ss_one (s_ret (e_dget ⟨_, hr⟩ (e_fld (e_var 0 rfl ⟨C, dx, _, _, R.ob, T.cl, T.n3, fl_cells, e_var 1 rfl ⟨cs, .inl i, .int v, R.ce, rfl, by rw [R.cv, hv]; rfl, Wk.here q⟩⟩))))
def spWrite (C : Addr) : Sp3 := fun ds M Q => ∃ (m dx s z c : Addr) (bs : Bl) (zs cs : List (Key × D)) (cf : Int → Option Int) (i v : Int), ds = [.ref m, .int i, .int v] ∧ MA C M m dx s z c bs zs cs cf ∧ cs.length < 10000000 ∧ (cf i).isSome = true ∧
  ∀ M' cs', MA C M' m dx s z c bs zs cs' (fun j => if j = i then some v else cf j) → cs'.length ≤ cs.length + 1 → Keep3 s z c M M' → Q .non M'
theorem ok_write (T : MCls K C) (F : Fun K "write" "Memory.write" st_Memory_write f fd) (b : Binds K fd ["self", "address", "number"] []) (Mm : Meth K C "write" f) :
    CalleeM P w K mg base C "write" 1 ["self", "address", "number"] (spWrite C) := by
  refine ⟨f, fd, fn3 F scope_Memory_write (fun ds M Q ⟨_, _, _, _, _, _, _, _, _, _, _, e, _⟩ => by rw [e]; rfl) (fun cdv A outer sh H E hr ds M Q ⟨m, dx, s, z, c, bs, zs, cs, cf, i, v, e, R, hz, hv, q⟩ => ?_), Mm, b⟩
  subst e
  refine ss_if (t_dnin ⟨_, hr⟩ (e_var 1 rfl (e_fld (e_var 0 rfl ⟨C, dx, _, _, R.ob, T.cl, T.n3, fl_cells, cs, .inl i, R.ce, rfl, ?_⟩))))
  have hs : (valD cs (.inl i)).isSome = true := by rw [R.cv, Option.isSome_map]; exact hv
  rw [if_pos rfl, hs]
  refine ⟨fun h => absurd h (by decide), fun _ => ?_⟩
  refine ss_one (s_dput ⟨_, hr⟩ (e_var 2 rfl (e_fld (e_var 0 rfl ⟨C, dx, _, _, R.ob, T.cl, T.n3, fl_cells, e_var 1 rfl ⟨cs, .inl i, R.ce, rfl, Nat.lt_of_lt_of_le hz (by decide), fun M' e' k' => ?_⟩⟩))))
  obtain ⟨n1, n2, n3⟩ := R.nms
  refine Wk.here (q M' _ ⟨k'.at n3 R.ob, k'.at R.nsc R.st, k'.at R.nzc R.sz, e', R.nzc, R.zv, fun j => ?_, R.so⟩ (length_putD _ _ _) (Keep.k3c k'))
  rw [valD_put]
  by_cases hj : j = i
  · subst hj; rw [if_pos rfl, if_pos rfl]; rfl
  · rw [if_neg (by simpa using hj), if_neg hj, R.cv]
end
end My
set_option maxHeartbeats 4000000
namespace My
open PySem L2 DL
section
variable {P : Program} {w : World} {K : PySem.W.Frag} {mg : Str → Option Value} {base : Heap} {f : Addr} {fd : FuncData} {C : Addr}
def cellsOf (cf : Int → Option Int) (a n : Int) : Int → Option Int := fun i => if a ≤ i ∧ i < a + n then some 0 else cf i
def spAlloc (C : Addr) : Sp3 := fun ds M Q => ∃ (m dx s z c : Addr) (bs : Bl) (zs cs : List (Key × D)) (cf : Int → Option Int) (n B : Int), ds = [.ref m, .int n] ∧ MA C M m dx s z c bs zs cs cf ∧ 0 < n ∧ n ≤ 1000 ∧ bs.length ≤ 1000 ∧ zs.length ≤ 1000 ∧ cs.length ≤ 1000000 ∧ 1 ≤ B ∧ B ≤ 1000000 ∧ (∀ b ∈ bs, b.1 + b.2 ≤ B) ∧
  ∀ M' zs' cs', 1 ≤ low 1 bs n → low 1 bs n ≤ B → MA C M' m dx s z c (insB bs (low 1 bs n, n)) zs' cs' (cellsOf cf (low 1 bs n) n) → (insB bs (low 1 bs n, n)).length = bs.length + 1 → zs'.length ≤ zs.length + 1 → cs'.length ≤ cs.length + n.toNat → Keep3 s z c M M' → Q (.int (low 1 bs n)) M'
theorem atB_ins {bs : Bl} {a n : Int} {i : Nat} (h1 : ∀ b ∈ bs.take i, b.1 ≠ a) (x : Int) : atB (bs.take i ++ [(a, n)] ++ bs.drop i) x = if x = a then some (a, n) else atB bs x := by
  unfold atB
  rw [List.find?_append, List.find?_append]
  have e : bs = bs.take i ++ bs.drop i := (List.take_append_drop i bs).symm
  by_cases hx : x = a
  · subst hx
    rw [if_pos rfl]
    have : (bs.take i).find? (fun b => decide (b.1 = x)) = none := by
      rw [List.find?_eq_none]
      exact fun b hb => by simpa using h1 b hb
    rw [this]
    simp
  · rw [if_neg hx]
    conv => rhs; rw [e]
    rw [List.find?_append]
    have : [((a, n) : Int × Int)].find? (fun b => decide (b.1 = x)) = none := by
      rw [List.find?_eq_none]
      intro b hb
      rw [List.mem_singleton.mp hb]
      simpa using Ne.symm hx
    rw [this]
    cases (bs.take i).find? (fun b => decide (b.1 = x)) <;> simp
theorem ok_alloc (T : MCls K C) (F : Fun K "allocate" "Memory.allocate" st_Memory_allocate f fd) (b : Binds K fd ["self", "size"] []) (Mm : Meth K C "allocate" f) (m_len : mg "len" = none) (m_range : mg "range" = none) :
    CalleeM P w K mg base C "allocate" 1 ["self", "size"] (spAlloc C) := by
  refine ⟨f, fd, fn3 F scope_Memory_allocate (fun ds M Q ⟨_, _, _, _, _, _, _, _, _, _, _, e, _⟩ => by rw [e]; rfl) (fun cdv A outer sh H E hr ds M Q ⟨m, dx, s, z, c, bs, zs, cs, cf, n, B, e, R, hn0, hn, hbl, hzl, hcl, hB1, hB, hBb, q⟩ => ?_), Mm, b⟩
  subst e
  refine ss_cons (s_asg 2 scope_Memory_allocate.nd (e_int ?_))
  refine ss_cons (s_asg 3 scope_Memory_allocate.nd (e_int ?_))
  refine ss_cut (fun σ' M' => ∃ (a : Int) (i : Nat), σ' = [some (.ref m), some (.int n), some (.int a), some (.int (i : Int)), none] ∧ M' = M ∧ i ≤ bs.length ∧ low 1 bs n = a ∧ Srt (a + n) (bs.drop i) ∧ 1 ≤ a ∧ a ≤ B ∧ ∀ b ∈ bs.take i, b.1 + b.2 ≤ a)
    (s_while (fun k σ' M' => ∃ (a : Int) (i : Nat), σ' = [some (.ref m), some (.int n), some (.int a), some (.int (i : Int)), none] ∧ M' = M ∧ k = bs.length - i ∧ i ≤ bs.length ∧ low 1 bs n = low a (bs.drop i) n ∧ Srt a (bs.drop i) ∧ 1 ≤ a ∧ a ≤ B ∧ ∀ b ∈ bs.take i, b.1 + b.2 ≤ a) bs.length
      ⟨1, 0, rfl, rfl, rfl, Nat.zero_le _, rfl, R.so, by omega, hB1, fun b hb => absurd hb (by simp)⟩ PassesOwn.never ?_) ?_
  · rintro k σ' M' ⟨a, i, rfl, rfl, rfl, hi, hlow, hso, ha1, haB, hb⟩
    refine t_w (w_and (t_lt (e_var 3 rfl (e_len m_len (a_cons (e_fld (e_var 0 rfl ⟨C, dx, _, _, R.ob, T.cl, T.n1, fl_starts, a_nil ⟨_, R.st, ?_⟩⟩)))))))
    rw [List.length_map]
    refine ⟨fun hc => ?_, fun hc => BQ.f ?_⟩
    · have hc : i < bs.length := by have := of_decide_eq_true hc; omega
      have hx : bs[i]? = some bs[i] := List.getElem?_eq_getElem hc
      generalize bs[i] = x at hx
      have hdr : bs.drop i = x :: bs.drop (i + 1) := by rw [List.drop_eq_getElem_cons hc]; congr 1; rw [List.getElem?_eq_getElem hc] at hx; exact Option.some.inj hx
      have hat : atI (bs.map fun b => D.int b.1) (i : Int) = some (.int x.1) := atI_map_nat hx
      rw [hdr] at hlow hso
      have hxm := List.mem_of_getElem? hx
      refine w_and1 (t_lt (e_sub (e_ix (e_fld (e_var 0 rfl ⟨C, dx, _, _, R.ob, T.cl, T.n1, fl_starts, e_var 3 rfl ⟨_, _, R.st, hat, e_var 2 rfl (e_var 1 rfl ⟨fun hc2 => ?_, fun hc2 => ?_⟩)⟩⟩)))))
      · have hc2 := of_decide_eq_true hc2
        refine ss_cons (s_asg 2 scope_Memory_allocate.nd (e_add (e_ix (e_fld (e_var 0 rfl ⟨C, dx, _, _, R.ob, T.cl, T.n1, fl_starts, e_var 3 rfl ⟨_, _, R.st, hat, e_dget ⟨_, hr⟩ (e_fld (e_var 0 rfl ⟨C, dx, _, _, R.ob, T.cl, T.n2, fl_sizes, e_ix (e_fld (e_var 0 rfl ⟨C, dx, _, _, R.ob, T.cl, T.n1, fl_starts, e_var 3 rfl ⟨_, _, R.st, hat, zs, .inl x.1, .int x.2, R.sz, rfl, by rw [R.zv, atB_of R.so hxm]; rfl, ?_⟩⟩))⟩))⟩⟩)))))
        refine ss_one (s_augI 3 scope_Memory_allocate.nd rfl (e_int ?_))
        refine ⟨bs.length - (i + 1), by omega, x.1 + x.2, i + 1, rfl, rfl, rfl, hc, ?_, hso.2.2, by have := hso.1; have := hso.2.1; omega, hBb x hxm, fun b hb' => ?_⟩
        · rw [hlow]
          simp only [low]
          rw [if_neg (by omega)]
        · rw [List.take_add_one, hx] at hb'
          rcases List.mem_append.mp hb' with h | h
          · have := hb b h
            have := hso.1
            have := hso.2.1
            omega
          · rw [List.mem_singleton.mp h]
            exact Int.le_refl _
      · have hc2 := of_decide_eq_false hc2
        refine ⟨a, i, rfl, rfl, hi, ?_, ?_, ha1, haB, hb⟩
        · rw [hlow]
          simp only [low]
          rw [if_pos (by omega)]
        · rw [hdr]
          exact ⟨by omega, hso.2.1, hso.2.2⟩
    · have hc : i = bs.length := by have := of_decide_eq_false hc; omega
      subst hc
      rw [List.drop_length] at hlow
      refine ⟨a, _, rfl, rfl, Nat.le_refl _, hlow, ?_, ha1, haB, hb⟩
      rw [List.drop_length]
      trivial
  rintro σ' M1 ⟨a, i, rfl, rfl, hi, hlow, hso, ha1, haB, hb⟩
  have hpos : ∀ b ∈ bs, 0 < b.2 := fun b hb => (R.so.mem b hb).2
  have hlt : ∀ b ∈ bs.take i, b.1 < a := fun b h => by have := hb b h; have := hpos b (List.mem_of_mem_take h); omega
  have hgt : ∀ b ∈ bs.drop i, a < b.1 := fun b h => by have := (hso.mem b h).1; omega
  have hins : insB bs (a, n) = bs.take i ++ [(a, n)] ++ bs.drop i := insB_at hlt hgt
  obtain ⟨n1, n2, n3⟩ := R.nms
  refine ss_cons (s_expr (e_lm PySem.F.slot_list_insert PySem.F.type_list_insert mt_insert rd_ins (e_fld (e_var 0 rfl ⟨C, dx, _, _, R.ob, T.cl, T.n1, fl_starts, ⟨_, R.st⟩, a_cons (e_var 3 rfl (a_cons (e_var 2 rfl (a_nil ⟨_, R.st, szlt (by rw [List.length_map]; omega), by omega, by omega, fun M2 e2 k2 => ?_⟩))))⟩))))
  rw [Int.toNat_natCast, ← List.map_take, ← List.map_drop] at e2
  have e2' : M2 s = some (.lst ((insB bs (a, n)).map fun b => D.int b.1)) := by rw [e2, hins, List.map_append, List.map_append]; rfl
  have o2 := k2.at n1 R.ob
  have z2 := k2.at (Ne.symm R.nsz) R.sz
  have c2 := k2.at (Ne.symm R.nsc) R.ce
  refine ss_cons (s_dput ⟨_, hr⟩ (e_var 1 rfl (e_fld (e_var 0 rfl ⟨C, dx, _, _, o2, T.cl, T.n2, fl_sizes, e_var 2 rfl ⟨zs, .inl a, z2, rfl, szlt (by omega), fun M3 e3 k3 => ?_⟩⟩))))
  have o3 := k3.at n2 o2
  have s3 := k3.at R.nsz e2'
  have c3 := k3.at (Ne.symm R.nzc) c2
  refine ss_cons (s_for PassesOwn.never (i_rng2 m_range (a_cons (e_var 2 rfl (a_cons (e_add (e_var 2 rfl (e_var 1 rfl (a_nil ⟨⟨by omega, by omega, by omega, by omega⟩, ?_⟩)))))))))
  have hcount : (a + n - a).toNat = n.toNat := by omega
  rw [hcount]
  refine ⟨fun j σ' M' => ∃ (cs' : List (Key × D)) (d4 : Option D), σ' = [some (.ref m), some (.int n), some (.int a), some (.int (i : Int)), d4] ∧ M' c = some (.dK cs') ∧ (∀ x, valD cs' (.inl x) = (cellsOf cf a (j : Int) x).map D.int) ∧ cs'.length ≤ cs.length + j ∧ Keep c M3 M', ⟨cs, none, rfl, c3, fun x => ?_, Nat.le_refl _, Keep.refl⟩, fun _ _ _ _ _ => trivial, ?_, ?_⟩
  · rw [R.cv]
    unfold cellsOf
    rw [if_neg (by omega)]
  · rintro j d σ' M4 hd ⟨cs', d4, rfl, ec, hv, hl', k4⟩
    obtain ⟨hj, rfl⟩ := rgD_get hd
    refine g_name 4 scope_Memory_allocate.nd ?_
    have o4 := k4.at n3 o3
    refine ss_one (s_dput ⟨_, hr⟩ (e_int (e_fld (e_var 0 rfl ⟨C, dx, _, _, o4, T.cl, T.n3, fl_cells, e_var 4 rfl ⟨cs', .inl (a + (j : Int)), ec, rfl, Nat.lt_of_le_of_lt hl' (Nat.lt_of_lt_of_le (show cs.length + j < 2000000 by omega) (by decide)), fun M5 e5 k5 => ?_⟩⟩))))
    refine ⟨_, _, rfl, e5, fun x => ?_, by have := length_putD cs' (.inl (a + (j : Int))) (.int 0); omega, k4.trans k5⟩
    rw [valD_put]
    unfold cellsOf
    by_cases hx : x = a + (j : Int)
    · subst hx
      rw [if_pos rfl, if_pos (by omega)]
      rfl
    · rw [if_neg (by simpa using hx), hv]
      unfold cellsOf
      by_cases h : a ≤ x ∧ x < a + (j : Int)
      · rw [if_pos h, if_pos (by omega)]
      · rw [if_neg h, if_neg (by omega)]
  · rintro σ' M4 ⟨cs', d4, rfl, ec, hv, hl', k4⟩
    rw [rgD_length] at hv hl'
    have hnn : ((n.toNat : Nat) : Int) = n := by omega
    rw [hnn] at hv
    refine ss_one (s_ret (e_var 2 rfl (Wk.here ?_)))
    rw [← hlow] at hins hv ha1 haB hb hlt hgt hso ⊢
    have hK : Keep3 s z c M1 M4 := ((Keep.k3s k2).trans (Keep.k3z k3)).trans (Keep.k3c k4)
    refine q M4 _ cs' ha1 haB ⟨k4.at n3 o3, ?_, k4.at R.nzc e3, ec, R.nzc, fun x => ?_, hv, ?_⟩ ?_ (length_putD _ _ _) hl' hK
    · rw [hlow]
      exact k4.at R.nsc s3
    · rw [← hlow, valD_put, hins, atB_ins (fun b h => by have := hlt b h; omega)]
      by_cases hx : x = low 1 bs n
      · subst hx
        rw [if_pos rfl, if_pos rfl]
        rfl
      · rw [if_neg (by simpa using hx), if_neg hx, R.zv]
    · rw [hins, List.append_assoc]
      exact Srt.app (R.so.take i) hb ha1 hn0 hso
    · rw [hins, List.length_append, List.length_append, List.length_take, List.length_drop, List.length_singleton]
      omega
end
end My
set_option maxHeartbeats 4000000
namespace My
open PySem L2 DL
theorem erase_filter : ∀ {bs : Bl} {lo : Int} {j : Nat} {x : Int × Int}, Srt lo bs → bs[j]? = some x → bs.eraseIdx j = bs.filter (fun b => decide (b.1 ≠ x.1))
  | [], lo, j, x, _, h => by simp at h
  | c :: r, lo, 0, x, hs, h => by
    simp at h
    subst h
    have : r.filter (fun b => decide (b.1 ≠ c.1)) = r := List.filter_eq_self.mpr fun b hb => by
      have := (hs.2.2.mem b hb).1
      have := hs.2.1
      simp only [decide_eq_true_eq]
      omega
    rw [List.eraseIdx_cons_zero, List.filter_cons, if_neg (by simp), this]
  | c :: r, lo, j + 1, x, hs, h => by
    have hx : r[j]? = some x := by simpa using h
    have := (hs.2.2.mem x (List.mem_of_getElem? hx)).1
    have := hs.2.1
    rw [List.eraseIdx_cons_succ, List.filter_cons, if_pos (by simp only [decide_eq_true_eq]; omega), erase_filter hs.2.2 hx]
theorem eraseIdx_map {α β : Type} (f : α → β) : ∀ (l : List α) (j : Nat), (l.map f).eraseIdx j = (l.eraseIdx j).map f
  | [], j => by simp
  | a :: r, 0 => by simp
  | a :: r, j + 1 => by simp [eraseIdx_map f r j]
theorem Srt.first : ∀ {bs : Bl} {lo : Int} {j i : Nat} {x y : Int × Int}, Srt lo bs → bs[j]? = some x → i < j → bs[i]? = some y → y.1 + y.2 ≤ x.1
  | [], lo, j, i, x, y, _, h, _, _ => by simp at h
  | c :: r, lo, 0, i, x, y, _, _, hi, _ => by omega
  | c :: r, lo, j + 1, 0, x, y, hs, h, _, h2 => by
    simp at h2
    subst h2
    exact (hs.2.2.mem x (List.mem_of_getElem? (by simpa using h))).1
  | c :: r, lo, j + 1, i + 1, x, y, hs, h, hi, h2 => Srt.first hs.2.2 (j := j) (i := i) (by simpa using h) (by omega) (by simpa using h2)
theorem Srt.apart {bs : Bl} {lo : Int} {x y : Int × Int} (hs : Srt lo bs) (hx : x ∈ bs) (hy : y ∈ bs) (hne : x.1 ≠ y.1) : x.1 + x.2 ≤ y.1 ∨ y.1 + y.2 ≤ x.1 := by
  obtain ⟨i, hi⟩ := List.getElem?_of_mem hx
  obtain ⟨j, hj⟩ := List.getElem?_of_mem hy
  rcases Nat.lt_trichotomy i j with h | h | h
  · exact .inl (hs.first hj h hi)
  · subst h
    rw [hi] at hj
    cases hj
    exact absurd rfl hne
  · exact .inr (hs.first hi h hj)
def Cov (bs : Bl) (cf : Int → Option Int) : Prop := ∀ i, (cf i).isSome = true ↔ ∃ b ∈ bs, b.1 ≤ i ∧ i < b.1 + b.2
def cellsNo (cf : Int → Option Int) (a n : Int) : Int → Option Int := fun i => if a ≤ i ∧ i < a + n then none else cf i
theorem Cov.rel {bs : Bl} {cf : Int → Option Int} {lo : Int} {x : Int × Int} (h : Cov bs cf) (hs : Srt lo bs) (hx : x ∈ bs) : Cov (bs.filter fun b => decide (b.1 ≠ x.1)) (cellsNo cf x.1 x.2) := fun i => by
  unfold cellsNo
  constructor
  · intro hi
    by_cases hc : x.1 ≤ i ∧ i < x.1 + x.2
    · rw [if_pos hc] at hi; cases hi
    · rw [if_neg hc] at hi
      obtain ⟨b, hb, h1, h2⟩ := (h i).mp hi
      refine ⟨b, List.mem_filter.mpr ⟨hb, ?_⟩, h1, h2⟩
      simp only [decide_eq_true_eq]
      intro e
      rw [hs.inj b hb x hx e] at h1 h2
      exact hc ⟨h1, h2⟩
  · rintro ⟨b, hb, h1, h2⟩
    obtain ⟨hb, hne⟩ := List.mem_filter.mp hb
    simp only [decide_eq_true_eq] at hne
    have := hs.apart hb hx hne
    rw [if_neg (by omega)]
    exact (h i).mpr ⟨b, hb, h1, h2⟩
section
variable {P : Program} {w : World} {K : PySem.W.Frag} {mg : Str → Option Value} {base : Heap} {f : Addr} {fd : FuncData} {C : Addr}
theorem atB_rel {bs : Bl} {a : Int} (x : Int) : atB (bs.filter fun b => decide (b.1 ≠ a)) x = if x = a then none else atB bs x := by
  unfold atB
  rw [List.find?_filter]
  by_cases hx : x = a
  · subst hx
    rw [if_pos rfl, List.find?_eq_none]
    intro b _
    simp
  · rw [if_neg hx]
    congr 1
    funext b
    by_cases hb : b.1 = x
    · subst hb
      simp [hx]
    · simp [hb]
def spRel (C : Addr) : Sp3 := fun ds M Q => ∃ (m dx s z c : Addr) (bs : Bl) (zs cs : List (Key × D)) (cf : Int → Option Int) (x : Int × Int), ds = [.ref m, .int x.1] ∧ MA C M m dx s z c bs zs cs cf ∧ x ∈ bs ∧ x.1 + x.2 ≤ 1000000 ∧ (∀ i, x.1 ≤ i → i < x.1 + x.2 → (cf i).isSome = true) ∧
  ∀ M' zs' cs', MA C M' m dx s z c (bs.filter fun b => decide (b.1 ≠ x.1)) zs' cs' (cellsNo cf x.1 x.2) → zs'.length ≤ zs.length → cs'.length ≤ cs.length → Keep3 s z c M M' → Q .non M'
theorem ok_rel (T : MCls K C) (F : Fun K "release" "Memory.release" st_Memory_release f fd) (b : Binds K fd ["self", "address"] []) (Mm : Meth K C "release" f) (m_range : mg "range" = none) :
    CalleeM P w K mg base C "release" 1 ["self", "address"] (spRel C) := by
  refine ⟨f, fd, fn3 F scope_Memory_release (fun ds M Q ⟨_, _, _, _, _, _, _, _, _, _, e, _⟩ => by rw [e]; rfl) (fun cdv A outer sh H E hr ds M Q ⟨m, dx, s, z, c, bs, zs, cs, cf, x, e, R, hx, hB, hcf, q⟩ => ?_), Mm, b⟩
  subst e
  obtain ⟨n1, n2, n3⟩ := R.nms
  have hat : atB bs x.1 = some x := atB_of R.so hx
  have hx1 := (R.so.mem x hx).1
  have hx2 := (R.so.mem x hx).2
  refine ss_if (t_dnin ⟨_, hr⟩ (e_var 1 rfl (e_fld (e_var 0 rfl ⟨C, dx, _, _, R.ob, T.cl, T.n2, fl_sizes, zs, .inl x.1, R.sz, rfl, ?_⟩))))
  rw [if_pos rfl, R.zv, hat]
  refine ⟨fun h => absurd h (by simp), fun _ => ?_⟩
  refine ss_cons (s_for PassesOwn.never (i_rng2 m_range (a_cons (e_var 1 rfl (a_cons (e_add (e_var 1 rfl (e_dget ⟨_, hr⟩ (e_fld (e_var 0 rfl ⟨C, dx, _, _, R.ob, T.cl, T.n2, fl_sizes, e_var 1 rfl ⟨zs, .inl x.1, .int x.2, R.sz, rfl, by rw [R.zv, hat]; rfl, a_nil ⟨⟨by omega, by omega, by omega, by omega⟩, ?_⟩⟩⟩))))))))))
  have hcount : (x.1 + x.2 - x.1).toNat = x.2.toNat := by omega
  rw [hcount]
  refine ⟨fun j σ' M' => ∃ (cs' : List (Key × D)) (d4 : Option D), σ' = [some (.ref m), some (.int x.1), d4] ∧ M' c = some (.dK cs') ∧ (∀ y, valD cs' (.inl y) = (cellsNo cf x.1 (j : Int) y).map D.int) ∧ cs'.length ≤ cs.length ∧ Keep c M M', ⟨cs, none, rfl, R.ce, fun y => ?_, Nat.le_refl _, Keep.refl⟩, fun _ _ _ _ _ => trivial, ?_, ?_⟩
  · rw [R.cv]
    unfold cellsNo
    rw [if_neg (by omega)]
  · rintro j d σ' M4 hd ⟨cs', d4, rfl, ec, hv, hl', k4⟩
    obtain ⟨hj, rfl⟩ := rgD_get hd
    refine g_name 2 scope_Memory_release.nd ?_
    have o4 := k4.at n3 R.ob
    refine ss_one (s_ddel (e_fld (e_var 0 rfl ⟨C, dx, _, _, o4, T.cl, T.n3, fl_cells, e_var 2 rfl ⟨cs', .inl (x.1 + (j : Int)), ec, rfl, ?_, fun M5 e5 k5 => ?_⟩⟩)))
    · rw [hv]
      unfold cellsNo
      rw [if_neg (by omega), Option.isSome_map]
      exact hcf _ (by omega) (by omega)
    · refine ⟨_, _, rfl, e5, fun y => ?_, Nat.le_trans (List.length_filter_le _ _) hl', k4.trans k5⟩
      rw [valD_drop]
      unfold cellsNo
      by_cases hy : y = x.1 + (j : Int)
      · subst hy
        rw [if_pos rfl, if_pos (by omega)]
        rfl
      · rw [if_neg (by simpa using hy), hv]
        unfold cellsNo
        by_cases h : x.1 ≤ y ∧ y < x.1 + (j : Int)
        · rw [if_pos h, if_pos (by omega)]
        · rw [if_neg h, if_neg (by omega)]
  rintro σ' M4 ⟨cs', d4, rfl, ec, hv, hl', k4⟩
  rw [rgD_length] at hv
  have hnn : ((x.2.toNat : Nat) : Int) = x.2 := by omega
  rw [hnn] at hv
  have o4 := k4.at n3 R.ob
  have s4 := k4.at R.nsc R.st
  have z4 := k4.at R.nzc R.sz
  refine ss_cons (s_ddel (e_fld (e_var 0 rfl ⟨C, dx, _, _, o4, T.cl, T.n2, fl_sizes, e_var 1 rfl ⟨zs, .inl x.1, z4, rfl, by rw [R.zv, hat]; rfl, fun M5 e5 k5 => ?_⟩⟩)))
  have o5 := k5.at n2 o4
  have s5 := k5.at R.nsz s4
  have c5 := k5.at (Ne.symm R.nzc) ec
  obtain ⟨j, hj⟩ := List.getElem?_of_mem hx
  refine ss_one (s_expr (e_lm PySem.F.slot_list_remove PySem.F.type_list_remove mt_remove rd_rem (e_fld (e_var 0 rfl ⟨C, dx, _, _, o5, T.cl, T.n1, fl_starts, ⟨_, s5⟩, a_cons (e_var 1 rfl (a_nil ⟨bs.map (·.1), j, ?_, ?_, fun k hk => ?_, fun M6 e6 k6 => ?_⟩))⟩))))
  · rw [s5, List.map_map]; rfl
  · rw [List.getElem?_map, hj]; rfl
  · rw [List.getElem?_map]
    cases hy : bs[k]? with
    | none => simp
    | some y =>
      have := R.so.first hj hk hy
      have := (R.so.mem y (List.mem_of_getElem? hy)).2
      simp
      omega
  · rw [eraseIdx_map, erase_filter R.so hj, List.map_map] at e6
    refine Wk.here (q M6 _ cs' ⟨k6.at n1 o5, e6, k6.at (Ne.symm R.nsz) e5, k6.at (Ne.symm R.nsc) c5, R.nzc, fun y => ?_, hv, R.so.filter _⟩ (List.length_filter_le _ _) hl' (((Keep.k3c k4).trans (Keep.k3z k5)).trans (Keep.k3s k6)))
    rw [valD_drop, atB_rel, R.zv]
    by_cases hy : y = x.1
    · subst hy; rw [if_pos rfl, if_pos rfl]; rfl
    · rw [if_neg (by simpa using hy), if_neg hy]
end
end My
set_option maxHeartbeats 4000000
namespace My
open PySem L2 DL
/-- == of two numbers, in a suite too (where no Room is) -/
theorem rd_eqI {K : PySem.W.Frag} : RD K L2.rEq (RInt0 fun i j => .bl (i == j)) := by
  intro H0 H M vx vy x y Q Q' i R tx ty k q
  cases tx <;> cases ty <;> first | exact False.elim q | skip
  refine ⟨rfl, ?_⟩
  rw [L2.dec_int]
  exact k _ _ _ _ i R (.bl _) q
theorem e_eqI {X : Cx} {a b : Expr} {σ : Sd} {M : Mp} {Q : QD} {pos : Pos} (h : ES X a σ M fun x M1 => ES X b σ M1 fun y M2 => RInt0 (fun i j => .bl (i == j)) x y M2 Q) : ES X (.Compare a [.Eq] [b] pos) σ M Q := e_cmp op_eq rd_eqI (nomark _) h
section
variable {P : Program} {w : World} {K : PySem.W.Frag} {mg : Str → Option Value} {base : Heap} {f : Addr} {fd : FuncData} {C NA : Addr}
def spReadX (C NA : Addr) : Sp4 := fun ds M Q Ex => ∃ (m dx s z c : Addr) (bs : Bl) (zs cs : List (Key × D)) (cf : Int → Option Int) (i : Int), ds = [.ref m, .int i] ∧ MA C M m dx s z c bs zs cs cf ∧ cf i = none ∧ NewM M (.xd [("address", .int i)]) fun d M2 => Ex (.ref NA) (some d) M2
theorem ok_readX (T : MCls K C) (F : Fun K "read" "Memory.read" st_Memory_read f fd) (b : Binds K fd ["self", "address"] []) (Mm : Meth K C "read" f) (xc : XcI P w K mg base 1 "NotAllocated" NA ["address"]) :
    CalleeMX P w K mg base C "read" 3 ["self", "address"] (spReadX C NA) := by
  refine ⟨f, fd, fnX F scope_Memory_read (fun ds M Q Ex ⟨_, _, _, _, _, _, _, _, _, _, e, _⟩ => by rw [e]; rfl) (fun cdv A outer sh H E hr ds M Q Ex ⟨m, dx, s, z, c, bs, zs, cs, cf, i, e, R, hv, q⟩ tk => ?_), Mm, b⟩
  subst e
  refine ss_if (t_dnin ⟨_, hr⟩ (e_var 1 rfl (e_fld (e_var 0 rfl ⟨C, dx, _, _, R.ob, T.cl, T.n3, fl_cells, cs, .inl i, R.ce, rfl, ?_⟩))))
  rw [if_pos rfl, R.cv, hv]
  refine ⟨fun _ => ?_, fun h => absurd h (by simp)⟩
  exact ss_one (s_raiseI tk xc hr (a_cons (e_var 1 rfl (a_nil ⟨rfl, q⟩))))
def spWriteX (C NA : Addr) : Sp4 := fun ds M Q Ex => ∃ (m dx s z c : Addr) (bs : Bl) (zs cs : List (Key × D)) (cf : Int → Option Int) (i v : Int), ds = [.ref m, .int i, .int v] ∧ MA C M m dx s z c bs zs cs cf ∧ cf i = none ∧ NewM M (.xd [("address", .int i)]) fun d M2 => Ex (.ref NA) (some d) M2
theorem ok_writeX (T : MCls K C) (F : Fun K "write" "Memory.write" st_Memory_write f fd) (b : Binds K fd ["self", "address", "number"] []) (Mm : Meth K C "write" f) (xc : XcI P w K mg base 1 "NotAllocated" NA ["address"]) :
    CalleeMX P w K mg base C "write" 3 ["self", "address", "number"] (spWriteX C NA) := by
  refine ⟨f, fd, fnX F scope_Memory_write (fun ds M Q Ex ⟨_, _, _, _, _, _, _, _, _, _, _, e, _⟩ => by rw [e]; rfl) (fun cdv A outer sh H E hr ds M Q Ex ⟨m, dx, s, z, c, bs, zs, cs, cf, i, v, e, R, hv, q⟩ tk => ?_), Mm, b⟩
  subst e
  refine ss_if (t_dnin ⟨_, hr⟩ (e_var 1 rfl (e_fld (e_var 0 rfl ⟨C, dx, _, _, R.ob, T.cl, T.n3, fl_cells, cs, .inl i, R.ce, rfl, ?_⟩))))
  rw [if_pos rfl, R.cv, hv]
  refine ⟨fun _ => ?_, fun h => absurd h (by simp)⟩
  exact ss_one (s_raiseI tk xc hr (a_cons (e_var 1 rfl (a_nil ⟨rfl, q⟩))))
def spReleaseX (C NA : Addr) : Sp4 := fun ds M Q Ex => ∃ (m dx s z c : Addr) (bs : Bl) (zs cs : List (Key × D)) (cf : Int → Option Int) (i : Int), ds = [.ref m, .int i] ∧ MA C M m dx s z c bs zs cs cf ∧ atB bs i = none ∧ NewM M (.xd [("address", .int i)]) fun d M2 => Ex (.ref NA) (some d) M2
theorem ok_releaseX (T : MCls K C) (F : Fun K "release" "Memory.release" st_Memory_release f fd) (b : Binds K fd ["self", "address"] []) (Mm : Meth K C "release" f) (xc : XcI P w K mg base 1 "NotAllocated" NA ["address"]) :
    CalleeMX P w K mg base C "release" 3 ["self", "address"] (spReleaseX C NA) := by
  refine ⟨f, fd, fnX F scope_Memory_release (fun ds M Q Ex ⟨_, _, _, _, _, _, _, _, _, _, e, _⟩ => by rw [e]; rfl) (fun cdv A outer sh H E hr ds M Q Ex ⟨m, dx, s, z, c, bs, zs, cs, cf, i, e, R, hv, q⟩ tk => ?_), Mm, b⟩
  subst e
  refine ss_if (t_dnin ⟨_, hr⟩ (e_var 1 rfl (e_fld (e_var 0 rfl ⟨C, dx, _, _, R.ob, T.cl, T.n2, fl_sizes, zs, .inl i, R.sz, rfl, ?_⟩))))
  rw [if_pos rfl, R.zv, hv]
  refine ⟨fun _ => ?_, fun h => absurd h (by simp)⟩
  exact ss_one (s_raiseI tk xc hr (a_cons (e_var 1 rfl (a_nil ⟨rfl, q⟩))))
/-- _law_raises, asked where no block is: True, and nothing changes -/
def spRaises (C : Addr) : Sp3 := fun ds M Q => ∃ (m dx s z c : Addr) (bs : Bl) (zs cs : List (Key × D)) (cf : Int → Option Int) (wh i : Int), ds = [.ref m, .int wh, .int i] ∧ MA C M m dx s z c bs zs cs cf ∧ ((wh = 0 ∧ cf i = none) ∨ (wh = 1 ∧ cf i = none) ∨ (wh = 2 ∧ atB bs i = none)) ∧ ∀ M', Mle M M' → Q (.bl true) M'
theorem ok_raises {LE KP RF : Addr} (T : MCls K C) (F : Fun K "_law_raises" "_law_raises" st__law_raises f fd) (b : Binds K fd ["_law_memory", "_law_what", "_law_address"] []) (g : mg "_law_raises" = some (.ref f)) (m_isinstance : mg "isinstance" = none) (m_ve : mg "ValueError" = none)
    (gNA : mg "NotAllocated" = some (.ref NA)) (gKP : mg "KindProblem" = some (.ref KP)) (gRF : mg "Refused" = some (.ref RF)) (gLE : mg "LendError" = some (.ref LE))
    (te : PySem.W.exmOne K (.ref NA) (.ref LE) = some true) (ec : ExcC K NA) (xf : XfC K NA) (hno : PySem.W.findIn K (.ref NA) "address" = some none)
    (k1 : PySem.W.kitOne K (.ref NA) (.ref KP) = some false) (k2 : PySem.W.kitOne K (.ref NA) (.ref RF) = some false) (k3 : PySem.W.kitOne K (.ref NA) (.ref NA) = some true) (k4 : PySem.W.kitOne K (.ref NA) (.type "ValueError") = some true)
    (C_read : CalleeMX P w K mg base C "read" 3 ["self", "address"] (spReadX C NA)) (C_write : CalleeMX P w K mg base C "write" 3 ["self", "address", "number"] (spWriteX C NA)) (C_release : CalleeMX P w K mg base C "release" 3 ["self", "address"] (spReleaseX C NA)) :
    Callee P w K mg base "_law_raises" 4 ["_law_memory", "_law_what", "_law_address"] (spRaises C) := by
  refine callee F scope__law_raises g b (fun ds M Q ⟨_, _, _, _, _, _, _, _, _, _, _, e, _⟩ => by rw [e]; rfl) (fun cdv A outer sh H E hr ds M Q ⟨m, dx, s, z, c, bs, zs, cs, cf, wh, i, e, R, hw, q⟩ => ?_)
  subst e
  refine ss_cons (s_tryAs (c := .ref LE) 3 scope__law_raises.nd ⟨rfl, by decide, .inl gLE⟩ tkD0 fun N lN pn xe tk => ?_)
  have RN := R.le lN
  rcases hw with ⟨rfl, hv⟩ | ⟨rfl, hv⟩ | ⟨rfl, hv⟩
  · refine ss_one (s_if (t_eq ⟨_, hr⟩ (e_var 1 rfl (e_int ⟨trivial, fun _ => ?_, fun h => absurd h (by rw [eqv_int]; decide)⟩))))
    refine ss_one (s_expr (e_methX tk T.cl C_read (hr.mono (by omega)) (e_var 0 rfl ⟨m, dx, _, rfl, RN.ob, fl_no (by decide +kernel) (by decide +kernel) (by decide +kernel), a_cons (e_var 2 rfl (a_nil ?_))⟩)))
    refine fun N2 l2 => ⟨m, dx, s, z, c, bs, zs, cs, cf, i, rfl, RN.le l2, hv, fun d M3 fd3 ed l3 => ⟨l3.fix, true, te, (l2.trans l3).fix, fun _ a oe pn hM hz hf => ?_, fun h => nomatch h⟩⟩
    refine ss_if (t_w (w_or (t_truth (e_isD ec hz hf m_isinstance (a_cons (e_var 3 rfl (a_cons (e_cls gKP (a_nil ⟨rfl, .ref KP, false, _, ed, rfl, k1, ?_⟩)))))))))
    refine ⟨fun h => absurd h (by decide), fun _ => ?_⟩
    refine w_or (t_truth (e_isD ec hz hf m_isinstance (a_cons (e_var 3 rfl (a_cons (e_cls gRF (a_nil ⟨rfl, .ref RF, false, _, ed, rfl, k2, ?_⟩)))))))
    refine ⟨fun h => absurd h (by decide), fun _ => ?_⟩
    refine w_or1 (t_not (t_truth (e_isD ec hz hf m_isinstance (a_cons (e_var 3 rfl (a_cons (e_tyname (n := "ValueError") m_ve (by decide +kernel) (a_nil ⟨rfl, .type "ValueError", true, _, ed, rfl, k4, ?_⟩))))))))
    refine ⟨fun h => absurd h (by decide), fun _ => ?_⟩
    refine ss_one (s_ret (v_and (e_isD ec hz hf m_isinstance (a_cons (e_var 3 rfl (a_cons (e_cls gNA (a_nil ⟨rfl, .ref NA, true, _, ed, rfl, k3, ?_⟩))))))))
    refine ⟨fun _ => ?_, fun h => absurd h (by decide)⟩
    refine v_one (e_eqI (e_xf xf hno hz hf (e_var 3 rfl ⟨rfl, _, _, ed, List.lookup_cons_self, e_var 2 rfl ?_⟩)))
    show Wk _ (.bl (i == i)) _
    rw [beq_self_eq_true]
    exact Wk.here (q _ ((lN.trans l2).trans l3))
  · refine ss_one (s_if (t_eq ⟨_, hr⟩ (e_var 1 rfl (e_int ⟨trivial, fun h => absurd h (by rw [eqv_int]; decide), fun _ => ?_⟩))))
    refine ss_one (s_if (t_eq ⟨_, hr⟩ (e_var 1 rfl (e_int ⟨trivial, fun _ => ?_, fun h => absurd h (by rw [eqv_int]; decide)⟩))))
    refine ss_one (s_expr (e_methX tk T.cl C_write (hr.mono (by omega)) (e_var 0 rfl ⟨m, dx, _, rfl, RN.ob, fl_no (by decide +kernel) (by decide +kernel) (by decide +kernel), a_cons (e_var 2 rfl (a_cons (e_int (a_nil ?_))))⟩)))
    refine fun N2 l2 => ⟨m, dx, s, z, c, bs, zs, cs, cf, i, 7, rfl, RN.le l2, hv, fun d M3 fd3 ed l3 => ⟨l3.fix, true, te, (l2.trans l3).fix, fun _ a oe pn hM hz hf => ?_, fun h => nomatch h⟩⟩
    refine ss_if (t_w (w_or (t_truth (e_isD ec hz hf m_isinstance (a_cons (e_var 3 rfl (a_cons (e_cls gKP (a_nil ⟨rfl, .ref KP, false, _, ed, rfl, k1, ?_⟩)))))))))
    refine ⟨fun h => absurd h (by decide), fun _ => ?_⟩
    refine w_or (t_truth (e_isD ec hz hf m_isinstance (a_cons (e_var 3 rfl (a_cons (e_cls gRF (a_nil ⟨rfl, .ref RF, false, _, ed, rfl, k2, ?_⟩)))))))
    refine ⟨fun h => absurd h (by decide), fun _ => ?_⟩
    refine w_or1 (t_not (t_truth (e_isD ec hz hf m_isinstance (a_cons (e_var 3 rfl (a_cons (e_tyname (n := "ValueError") m_ve (by decide +kernel) (a_nil ⟨rfl, .type "ValueError", true, _, ed, rfl, k4, ?_⟩))))))))
    refine ⟨fun h => absurd h (by decide), fun _ => ?_⟩
    refine ss_one (s_ret (v_and (e_isD ec hz hf m_isinstance (a_cons (e_var 3 rfl (a_cons (e_cls gNA (a_nil ⟨rfl, .ref NA, true, _, ed, rfl, k3, ?_⟩))))))))
    refine ⟨fun _ => ?_, fun h => absurd h (by decide)⟩
    refine v_one (e_eqI (e_xf xf hno hz hf (e_var 3 rfl ⟨rfl, _, _, ed, List.lookup_cons_self, e_var 2 rfl ?_⟩)))
    show Wk _ (.bl (i == i)) _
    rw [beq_self_eq_true]
    exact Wk.here (q _ ((lN.trans l2).trans l3))
  · refine ss_one (s_if (t_eq ⟨_, hr⟩ (e_var 1 rfl (e_int ⟨trivial, fun h => absurd h (by rw [eqv_int]; decide), fun _ => ?_⟩))))
    refine ss_one (s_if (t_eq ⟨_, hr⟩ (e_var 1 rfl (e_int ⟨trivial, fun h => absurd h (by rw [eqv_int]; decide), fun _ => ?_⟩))))
    refine ss_one (s_expr (e_methX tk T.cl C_release (hr.mono (by omega)) (e_var 0 rfl ⟨m, dx, _, rfl, RN.ob, fl_no (by decide +kernel) (by decide +kernel) (by decide +kernel), a_cons (e_var 2 rfl (a_nil ?_))⟩)))
    refine fun N2 l2 => ⟨m, dx, s, z, c, bs, zs, cs, cf, i, rfl, RN.le l2, hv, fun d M3 fd3 ed l3 => ⟨l3.fix, true, te, (l2.trans l3).fix, fun _ a oe pn hM hz hf => ?_, fun h => nomatch h⟩⟩
    refine ss_if (t_w (w_or (t_truth (e_isD ec hz hf m_isinstance (a_cons (e_var 3 rfl (a_cons (e_cls gKP (a_nil ⟨rfl, .ref KP, false, _, ed, rfl, k1, ?_⟩)))))))))
    refine ⟨fun h => absurd h (by decide), fun _ => ?_⟩
    refine w_or (t_truth (e_isD ec hz hf m_isinstance (a_cons (e_var 3 rfl (a_cons (e_cls gRF (a_nil ⟨rfl, .ref RF, false, _, ed, rfl, k2, ?_⟩)))))))
    refine ⟨fun h => absurd h (by decide), fun _ => ?_⟩
    refine w_or1 (t_not (t_truth (e_isD ec hz hf m_isinstance (a_cons (e_var 3 rfl (a_cons (e_tyname (n := "ValueError") m_ve (by decide +kernel) (a_nil ⟨rfl, .type "ValueError", true, _, ed, rfl, k4, ?_⟩))))))))
    refine ⟨fun h => absurd h (by decide), fun _ => ?_⟩
    refine ss_one (s_ret (v_and (e_isD ec hz hf m_isinstance (a_cons (e_var 3 rfl (a_cons (e_cls gNA (a_nil ⟨rfl, .ref NA, true, _, ed, rfl, k3, ?_⟩))))))))
    refine ⟨fun _ => ?_, fun h => absurd h (by decide)⟩
    refine v_one (e_eqI (e_xf xf hno hz hf (e_var 3 rfl ⟨rfl, _, _, ed, List.lookup_cons_self, e_var 2 rfl ?_⟩)))
    show Wk _ (.bl (i == i)) _
    rw [beq_self_eq_true]
    exact Wk.here (q _ ((lN.trans l2).trans l3))
end
end My
set_option maxHeartbeats 4000000
namespace My
open PySem L2 DL
section
variable {P : Program} {w : World} {K : PySem.W.Frag} {mg : Str → Option Value} {base : Heap} {f : Addr} {fd : FuncData} {C : Addr}
/-- _law_agrees, asked of a dict that holds the memory's cells -/
def spAgrees (C : Addr) : Sp3 := fun ds M Q => ∃ (m dx s z c L : Addr) (bs : Bl) (zs cs kvs : List (Key × D)) (cf : Int → Option Int) (t : Int), ds = [.ref m, .ref L, .int t] ∧ MA C M m dx s z c bs zs cs cf ∧ M L = some (.dK kvs) ∧ (∀ a, valD kvs (.inl a) = (cf a).map D.int) ∧ 0 ≤ t ∧ t ≤ 1000000 ∧ ∀ M', Mle M M' → Q (.bl true) M'
theorem ok_agrees (T : MCls K C) (F : Fun K "_law_agrees" "_law_agrees" st__law_agrees f fd) (b : Binds K fd ["_law_memory", "_law_due", "_law_top"] []) (g : mg "_law_agrees" = some (.ref f)) (m_range : mg "range" = none)
    (C_read : CalleeM P w K mg base C "read" 1 ["self", "address"] (spRead C)) (C__law_raises : Callee P w K mg base "_law_raises" 4 ["_law_memory", "_law_what", "_law_address"] (spRaises C)) :
    Callee P w K mg base "_law_agrees" 5 ["_law_memory", "_law_due", "_law_top"] (spAgrees C) := by
  refine callee F scope__law_agrees g b (fun ds M Q ⟨_, _, _, _, _, _, _, _, _, _, _, _, e, _⟩ => by rw [e]; rfl) (fun cdv A outer sh H E hr ds M Q ⟨m, dx, s, z, c, L, bs, zs, cs, kvs, cf, t, e, R, eL, hv, t0, t1, q⟩ => ?_)
  subst e
  have nRd : (flds s z c).lookup ("read" : Str) = none := fl_no (by decide +kernel) (by decide +kernel) (by decide +kernel)
  refine ss_cons (s_for PassesOwn.never (i_rng1 m_range (e_add (e_var 2 rfl (e_int ⟨by omega, by omega, ?_⟩)))))
  refine ⟨fun i σ' M' => ∃ d3, σ' = [some (.ref m), some (.ref L), some (.int t), d3] ∧ Mle M M', ⟨none, rfl, Mle.refl _⟩, fun _ _ _ _ _ => trivial, ?_, ?_⟩
  · rintro i d σ' M' hd ⟨d3, rfl, lm⟩
    obtain ⟨hi, rfl⟩ := rgD_get hd
    rw [Int.zero_add]
    generalize ((i : Nat) : Int) = a
    refine g_name 3 scope__law_agrees.nd ?_
    have R' := R.le lm
    have eL' := lm.at eL
    refine ss_one (s_if (t_din ⟨_, hr⟩ (e_var 3 rfl (e_var 1 rfl ⟨kvs, .inl a, eL', rfl, ?_⟩))))
    rw [if_neg Bool.false_ne_true, hv]
    refine ⟨fun ht => ?_, fun ht => ?_⟩
    · cases hc : cf a with
      | none => rw [hc] at ht; cases ht
      | some v =>
        refine ss_one (s_if (t_ne ⟨_, hr⟩ (e_meth T.cl C_read (hr.mono (by omega)) (e_var 0 rfl ⟨m, dx, _, rfl, R'.ob, nRd, a_cons (e_var 3 rfl (a_nil ⟨m, dx, s, z, c, bs, zs, cs, cf, a, v, rfl, R', hc, e_dget ⟨_, hr⟩ (e_var 1 rfl (e_var 3 rfl ⟨kvs, .inl a, .int v, eL', rfl, by rw [hv, hc]; rfl, trivial, ?_⟩))⟩))⟩))))
        rw [eqv_refl]
        exact ⟨fun h => absurd h (by decide), fun _ => ss_nil ⟨_, rfl, lm⟩⟩
    · have hn : cf a = none := by
        cases hc : cf a with
        | none => rfl
        | some v => rw [hc] at ht; cases ht
      refine ss_one (s_if (t_w (w_or (t_not (t_truth (e_call C__law_raises (hr.mono (by omega)) (a_cons (e_var 0 rfl (a_cons (e_int (a_cons (e_var 3 rfl (a_nil ⟨m, dx, s, z, c, bs, zs, cs, cf, 0, a, rfl, R', .inl ⟨rfl, hn⟩, fun M1 l1 => ?_⟩)))))))))))))
      refine ⟨fun h => absurd h (by decide), fun _ => w_or1 (t_not (t_truth (e_call C__law_raises (hr.mono (by omega)) (a_cons (e_var 0 rfl (a_cons (e_int (a_cons (e_var 3 rfl (a_nil ⟨m, dx, s, z, c, bs, zs, cs, cf, 1, a, rfl, R'.le l1, .inr (.inl ⟨rfl, hn⟩), fun M2 l2 => ?_⟩))))))))))⟩
      exact ⟨fun h => absurd h (by decide), fun _ => ss_nil ⟨_, rfl, (lm.trans l1).trans l2⟩⟩
  · rintro σ' M' ⟨d3, rfl, lm⟩
    exact ss_one (s_ret (e_bl (Wk.here (q _ lm))))
end
end My
set_option maxHeartbeats 4000000
namespace My
open PySem L2 DL
theorem filter_take {α : Type} {p : α → Bool} {l : List α} {i : Nat} {x : α} (h : l[i]? = some x) : (l.take (i + 1)).filter p = (l.take i).filter p ++ if p x = true then [x] else [] := by
  rw [List.take_add_one, h, List.filter_append]
  by_cases hp : p x = true <;> simp [hp]
theorem bD_shp (b : Int × Int) : (bD b).shp = true := shp_tup (n := 0) (fun d hd => by
  simp only [List.mem_cons, List.not_mem_nil, or_false] at hd
  rcases hd with rfl | rfl <;> exact shn_int _ _) (by decide)
theorem cov_ins {bs : Bl} {cf : Int → Option Int} {a n : Int} (h : Cov bs cf) : Cov (insB bs (a, n)) (cellsOf cf a n) ∨ ∃ b ∈ bs, b.1 = a := by
  by_cases he : ∃ b ∈ bs, b.1 = a
  · exact .inr he
  refine .inl fun i => ?_
  have mem : ∀ b, b ∈ insB bs (a, n) ↔ b = (a, n) ∨ b ∈ bs := fun b => by
    unfold insB
    simp only [List.mem_append, List.mem_filter, List.mem_singleton, decide_eq_true_eq]
    constructor
    · rintro ((⟨h, _⟩ | h) | ⟨h, _⟩)
      · exact .inr h
      · exact .inl h
      · exact .inr h
    · rintro (h | h)
      · exact .inl (.inr h)
      · have hne : b.1 ≠ a := fun e => he ⟨b, h, e⟩
        rcases Int.lt_trichotomy b.1 a with h' | h' | h'
        · exact .inl (.inl ⟨h, h'⟩)
        · exact absurd h' hne
        · exact .inr ⟨h, h'⟩
  unfold cellsOf
  constructor
  · intro hi
    by_cases hc : a ≤ i ∧ i < a + n
    · exact ⟨(a, n), (mem _).mpr (.inl rfl), hc.1, hc.2⟩
    · rw [if_neg hc] at hi
      obtain ⟨b, hb, h1, h2⟩ := (h i).mp hi
      exact ⟨b, (mem _).mpr (.inr hb), h1, h2⟩
  · rintro ⟨b, hb, h1, h2⟩
    rcases (mem b).mp hb with rfl | hb
    · rw [if_pos ⟨h1, h2⟩]; rfl
    · split
      · rfl
      · exact (h i).mpr ⟨b, hb, h1, h2⟩
theorem low_ge : ∀ {bs : Bl} {a n : Int}, Srt a bs → a ≤ low a bs n
  | [], a, n, _ => Int.le_refl _
  | c :: r, a, n, hs => by
    simp only [low]
    have := low_ge (n := n) hs.2.2
    have := hs.1
    have := hs.2.1
    split <;> omega
theorem low_new : ∀ {bs : Bl} {a n : Int}, Srt a bs → 0 < n → ∀ b ∈ bs, b.1 ≠ low a bs n
  | [], a, n, _, _, b, h => absurd h List.not_mem_nil
  | c :: r, a, n, hs, hn, b, hb => by
    have h0 := hs.1
    have h1 := hs.2.1
    have h2 := low_ge (n := n) hs.2.2
    simp only [low]
    by_cases h : n ≤ c.1 - a
    · rw [if_pos h]
      rcases List.mem_cons.mp hb with e | hb'
      · subst e; omega
      · have := (hs.2.2.mem b hb').1
        omega
    · rw [if_neg h]
      rcases List.mem_cons.mp hb with e | hb'
      · subst e; omega
      · exact low_new hs.2.2 hn b hb'
/-- the addresses of the two memories, the two dicts and the starts -/
structure Ad where
  (m1 x1 s1 z1 c1 m2 x2 s2 z2 c2 S D1 D2 : Addr)
/-- two memories, what they should hold, and the starts of the first -/
structure LW (C : Addr) (A : Ad) (M : Mp) (b1 b2 : Bl) (y1 w1 y2 w2 k1 k2 : List (Key × D)) (f1 f2 : Int → Option Int) (st : List Int) : Prop where
  R1 : MA C M A.m1 A.x1 A.s1 A.z1 A.c1 b1 y1 w1 f1
  R2 : MA C M A.m2 A.x2 A.s2 A.z2 A.c2 b2 y2 w2 f2
  eS : M A.S = some (.lst (st.map D.int))
  e1 : M A.D1 = some (.dK k1)
  e2 : M A.D2 = some (.dK k2)
  dl : A.s1 ≠ A.s2 ∧ A.s1 ≠ A.S ∧ A.s2 ≠ A.S
  dz : A.z1 ≠ A.z2 ∧ A.z1 ≠ A.c2 ∧ A.z1 ≠ A.D1 ∧ A.z1 ≠ A.D2
  dc : A.c1 ≠ A.z2 ∧ A.c1 ≠ A.c2 ∧ A.c1 ≠ A.D1 ∧ A.c1 ≠ A.D2
  dw : A.z2 ≠ A.D1 ∧ A.z2 ≠ A.D2 ∧ A.c2 ≠ A.D1 ∧ A.c2 ≠ A.D2
  dd : A.D1 ≠ A.D2
theorem ne_ty {M : Mp} {a b : Addr} {m n : MO} (h1 : M a = some m) (h2 : M b = some n) (h : m ≠ n) : a ≠ b := by
  rintro rfl
  rw [h1] at h2
  cases h2
  exact h rfl
section
variable {C : Addr} {A : Ad} {M M' : Mp} {b1 b2 : Bl} {y1 w1 y2 w2 k1 k2 : List (Key × D)} {f1 f2 : Int → Option Int} {st : List Int}
theorem LW.le (h : LW C A M b1 b2 y1 w1 y2 w2 k1 k2 f1 f2 st) (l : Mle M M') : LW C A M' b1 b2 y1 w1 y2 w2 k1 k2 f1 f2 st := ⟨h.R1.le l, h.R2.le l, l.at h.eS, l.at h.e1, l.at h.e2, h.dl, h.dz, h.dc, h.dw, h.dd⟩
/-- the first memory changed -/
theorem LW.mem1 (h : LW C A M b1 b2 y1 w1 y2 w2 k1 k2 f1 f2 st) {b1' : Bl} {y1' w1' : List (Key × D)} {f1' : Int → Option Int} (k : Keep3 A.s1 A.z1 A.c1 M M') (R : MA C M' A.m1 A.x1 A.s1 A.z1 A.c1 b1' y1' w1' f1') : LW C A M' b1' b2 y1' w1' y2 w2 k1 k2 f1' f2 st := by
  have K : ∀ {p : Addr} {m : MO}, M p = some m → p ≠ A.s1 → p ≠ A.z1 → p ≠ A.c1 → M' p = some m := fun e a b c => k _ _ a b c e
  have LZ : ∀ {p q : Addr} {ds : List D} {kv : List (Key × D)}, M p = some (.lst ds) → M q = some (.dK kv) → p ≠ q := fun a b => ne_ty a b (fun z => nomatch z)
  have IL : ∀ {p q : Addr} {c x : Addr} {fs : List (Str × D)} {ds : List D}, M p = some (.ins c x fs) → M q = some (.lst ds) → p ≠ q := fun a b => ne_ty a b (fun z => nomatch z)
  have IZ : ∀ {p q : Addr} {c x : Addr} {fs : List (Str × D)} {kv : List (Key × D)}, M p = some (.ins c x fs) → M q = some (.dK kv) → p ≠ q := fun a b => ne_ty a b (fun z => nomatch z)
  refine ⟨R, ⟨K h.R2.ob (IL h.R2.ob h.R1.st) (IZ h.R2.ob h.R1.sz) (IZ h.R2.ob h.R1.ce), K h.R2.st (Ne.symm h.dl.1) (LZ h.R2.st h.R1.sz) (LZ h.R2.st h.R1.ce), K h.R2.sz (Ne.symm (LZ h.R1.st h.R2.sz)) (Ne.symm h.dz.1) (Ne.symm h.dc.1), K h.R2.ce (Ne.symm (LZ h.R1.st h.R2.ce)) (Ne.symm h.dz.2.1) (Ne.symm h.dc.2.1), h.R2.nzc, h.R2.zv, h.R2.cv, h.R2.so⟩,
    K h.eS (Ne.symm h.dl.2.1) (LZ h.eS h.R1.sz) (LZ h.eS h.R1.ce), K h.e1 (Ne.symm (LZ h.R1.st h.e1)) (Ne.symm h.dz.2.2.1) (Ne.symm h.dc.2.2.1), K h.e2 (Ne.symm (LZ h.R1.st h.e2)) (Ne.symm h.dz.2.2.2) (Ne.symm h.dc.2.2.2), h.dl, h.dz, h.dc, h.dw, h.dd⟩
theorem LW.mem2 (h : LW C A M b1 b2 y1 w1 y2 w2 k1 k2 f1 f2 st) {b2' : Bl} {y2' w2' : List (Key × D)} {f2' : Int → Option Int} (k : Keep3 A.s2 A.z2 A.c2 M M') (R : MA C M' A.m2 A.x2 A.s2 A.z2 A.c2 b2' y2' w2' f2') : LW C A M' b1 b2' y1 w1 y2' w2' k1 k2 f1 f2' st := by
  have K : ∀ {p : Addr} {m : MO}, M p = some m → p ≠ A.s2 → p ≠ A.z2 → p ≠ A.c2 → M' p = some m := fun e a b c => k _ _ a b c e
  have LZ : ∀ {p q : Addr} {ds : List D} {kv : List (Key × D)}, M p = some (.lst ds) → M q = some (.dK kv) → p ≠ q := fun a b => ne_ty a b (fun z => nomatch z)
  have IL : ∀ {p q : Addr} {c x : Addr} {fs : List (Str × D)} {ds : List D}, M p = some (.ins c x fs) → M q = some (.lst ds) → p ≠ q := fun a b => ne_ty a b (fun z => nomatch z)
  have IZ : ∀ {p q : Addr} {c x : Addr} {fs : List (Str × D)} {kv : List (Key × D)}, M p = some (.ins c x fs) → M q = some (.dK kv) → p ≠ q := fun a b => ne_ty a b (fun z => nomatch z)
  refine ⟨⟨K h.R1.ob (IL h.R1.ob h.R2.st) (IZ h.R1.ob h.R2.sz) (IZ h.R1.ob h.R2.ce), K h.R1.st h.dl.1 (LZ h.R1.st h.R2.sz) (LZ h.R1.st h.R2.ce), K h.R1.sz (Ne.symm (LZ h.R2.st h.R1.sz)) h.dz.1 h.dz.2.1, K h.R1.ce (Ne.symm (LZ h.R2.st h.R1.ce)) h.dc.1 h.dc.2.1, h.R1.nzc, h.R1.zv, h.R1.cv, h.R1.so⟩, R,
    K h.eS (Ne.symm h.dl.2.2) (LZ h.eS h.R2.sz) (LZ h.eS h.R2.ce), K h.e1 (Ne.symm (LZ h.R2.st h.e1)) (Ne.symm h.dw.1) (Ne.symm h.dw.2.2.1), K h.e2 (Ne.symm (LZ h.R2.st h.e2)) (Ne.symm h.dw.2.1) (Ne.symm h.dw.2.2.2), h.dl, h.dz, h.dc, h.dw, h.dd⟩
theorem LW.due1 (h : LW C A M b1 b2 y1 w1 y2 w2 k1 k2 f1 f2 st) {k1' : List (Key × D)} (k : Keep A.D1 M M') (e : M' A.D1 = some (.dK k1')) : LW C A M' b1 b2 y1 w1 y2 w2 k1' k2 f1 f2 st := by
  have LZ : ∀ {p q : Addr} {ds : List D} {kv : List (Key × D)}, M p = some (.lst ds) → M q = some (.dK kv) → p ≠ q := fun a b => ne_ty a b (fun z => nomatch z)
  have IZ : ∀ {p q : Addr} {c x : Addr} {fs : List (Str × D)} {kv : List (Key × D)}, M p = some (.ins c x fs) → M q = some (.dK kv) → p ≠ q := fun a b => ne_ty a b (fun z => nomatch z)
  exact ⟨⟨k.at (IZ h.R1.ob h.e1) h.R1.ob, k.at (LZ h.R1.st h.e1) h.R1.st, k.at h.dz.2.2.1 h.R1.sz, k.at h.dc.2.2.1 h.R1.ce, h.R1.nzc, h.R1.zv, h.R1.cv, h.R1.so⟩, ⟨k.at (IZ h.R2.ob h.e1) h.R2.ob, k.at (LZ h.R2.st h.e1) h.R2.st, k.at h.dw.1 h.R2.sz, k.at h.dw.2.2.1 h.R2.ce, h.R2.nzc, h.R2.zv, h.R2.cv, h.R2.so⟩, k.at (LZ h.eS h.e1) h.eS, e, k.at (Ne.symm h.dd) h.e2, h.dl, h.dz, h.dc, h.dw, h.dd⟩
theorem LW.due2 (h : LW C A M b1 b2 y1 w1 y2 w2 k1 k2 f1 f2 st) {k2' : List (Key × D)} (k : Keep A.D2 M M') (e : M' A.D2 = some (.dK k2')) : LW C A M' b1 b2 y1 w1 y2 w2 k1 k2' f1 f2 st := by
  have LZ : ∀ {p q : Addr} {ds : List D} {kv : List (Key × D)}, M p = some (.lst ds) → M q = some (.dK kv) → p ≠ q := fun a b => ne_ty a b (fun z => nomatch z)
  have IZ : ∀ {p q : Addr} {c x : Addr} {fs : List (Str × D)} {kv : List (Key × D)}, M p = some (.ins c x fs) → M q = some (.dK kv) → p ≠ q := fun a b => ne_ty a b (fun z => nomatch z)
  exact ⟨⟨k.at (IZ h.R1.ob h.e2) h.R1.ob, k.at (LZ h.R1.st h.e2) h.R1.st, k.at h.dz.2.2.2 h.R1.sz, k.at h.dc.2.2.2 h.R1.ce, h.R1.nzc, h.R1.zv, h.R1.cv, h.R1.so⟩, ⟨k.at (IZ h.R2.ob h.e2) h.R2.ob, k.at (LZ h.R2.st h.e2) h.R2.st, k.at h.dw.2.1 h.R2.sz, k.at h.dw.2.2.2 h.R2.ce, h.R2.nzc, h.R2.zv, h.R2.cv, h.R2.so⟩, k.at (LZ h.eS h.e2) h.eS, k.at h.dd h.e1, e, h.dl, h.dz, h.dc, h.dw, h.dd⟩
theorem LW.s (h : LW C A M b1 b2 y1 w1 y2 w2 k1 k2 f1 f2 st) {st' : List Int} (k : Keep A.S M M') (e : M' A.S = some (.lst (st'.map D.int))) : LW C A M' b1 b2 y1 w1 y2 w2 k1 k2 f1 f2 st' := by
  have ZL : ∀ {p q : Addr} {ds : List D} {kv : List (Key × D)}, M q = some (.dK kv) → M p = some (.lst ds) → q ≠ p := fun a b => ne_ty a b (fun z => nomatch z)
  have IL : ∀ {p q : Addr} {c x : Addr} {fs : List (Str × D)} {ds : List D}, M p = some (.ins c x fs) → M q = some (.lst ds) → p ≠ q := fun a b => ne_ty a b (fun z => nomatch z)
  exact ⟨⟨k.at (IL h.R1.ob h.eS) h.R1.ob, k.at h.dl.2.1 h.R1.st, k.at (ZL h.R1.sz h.eS) h.R1.sz, k.at (ZL h.R1.ce h.eS) h.R1.ce, h.R1.nzc, h.R1.zv, h.R1.cv, h.R1.so⟩, ⟨k.at (IL h.R2.ob h.eS) h.R2.ob, k.at h.dl.2.2 h.R2.st, k.at (ZL h.R2.sz h.eS) h.R2.sz, k.at (ZL h.R2.ce h.eS) h.R2.ce, h.R2.nzc, h.R2.zv, h.R2.cv, h.R2.so⟩, e, k.at (ZL h.e1 h.eS) h.e1, k.at (ZL h.e2 h.eS) h.e2, h.dl, h.dz, h.dc, h.dw, h.dd⟩
end
/-- a dict all of whose keys are numbers, holding what f says -/
structure Hol (k : List (Key × D)) (f : Int → Option Int) : Prop where
  ke : ∀ p ∈ k, ∃ a, p.1 = .inl a
  v : ∀ a, valD k (.inl a) = (f a).map D.int
theorem mem_putD {kvs : List (Key × D)} {k : Key} {v : D} {p : Key × D} (h : p ∈ putD kvs k v) : p.1 = k ∨ ∃ q ∈ kvs, q.1 = p.1 := by
  unfold putD at h
  split at h
  · obtain ⟨q, hq, rfl⟩ := List.mem_map.mp h
    right
    refine ⟨q, hq, ?_⟩
    split <;> rfl
  · rcases List.mem_append.mp h with h | h
    · exact .inr ⟨p, h, rfl⟩
    · rw [List.mem_singleton.mp h]; exact .inl rfl
theorem Hol.put {k : List (Key × D)} {f : Int → Option Int} (h : Hol k f) (a n : Int) : Hol (putD k (.inl a) (.int n)) (fun j => if j = a then some n else f j) := by
  refine ⟨fun p hp => ?_, fun j => ?_⟩
  · rcases mem_putD hp with e | ⟨q, hq, e⟩
    · exact ⟨a, e⟩
    · rw [← e]; exact h.ke q hq
  · rw [valD_put]
    by_cases hj : j = a
    · subst hj; rw [if_pos rfl, if_pos rfl]; rfl
    · rw [if_neg (by simpa using hj), if_neg hj, h.v]
theorem valD_mem : ∀ {k : List (Key × D)} {p : Key × D}, p ∈ k → (valD k p.1).isSome = true
  | [], p, h => absurd h List.not_mem_nil
  | q :: r, p, h => by
    by_cases e : q.1 = p.1
    · rw [valD_pos e]; rfl
    · rw [valD_neg e]
      rcases List.mem_cons.mp h with rfl | h
      · exact absurd rfl e
      · exact valD_mem h
/-- the numbers of its keys -/
theorem Hol.keys {k : List (Key × D)} {f : Int → Option Int} (h : Hol k f) : ∃ as : List Int, (k.map fun kv => kD kv.1) = as.map D.int ∧ as.length = k.length ∧ (∀ a, a ∈ as ↔ (f a).isSome = true) := by
  obtain ⟨ke, v⟩ := h
  have : ∃ as : List Int, k.map (·.1) = as.map Sum.inl := by
    clear v
    induction k with
    | nil => exact ⟨[], rfl⟩
    | cons p r ih =>
      obtain ⟨a, ha⟩ := ke p List.mem_cons_self
      obtain ⟨as, has⟩ := ih fun q hq => ke q (List.mem_cons_of_mem _ hq)
      exact ⟨a :: as, by rw [List.map_cons, List.map_cons, ha, has]⟩
  obtain ⟨as, has⟩ := this
  refine ⟨as, ?_, ?_, fun a => ?_⟩
  · have : (k.map fun kv => kD kv.1) = (k.map (·.1)).map kD := by rw [List.map_map]; rfl
    rw [this, has, List.map_map]
    rfl
  · have := congrArg List.length has
    simpa using this.symm
  · have e : (f a).isSome = (valD k (.inl a)).isSome := by rw [v, Option.isSome_map]
    rw [e]
    constructor
    · intro ha
      have : (Sum.inl a : Key) ∈ k.map (·.1) := by rw [has]; exact List.mem_map_of_mem ha
      obtain ⟨p, hp, e⟩ := List.mem_map.mp this
      have := valD_mem hp
      rw [e] at this
      exact this
    · intro hs
      obtain ⟨d, hd⟩ := Option.isSome_iff_exists.mp hs
      unfold valD at hd
      cases hf : k.find? fun kv => decide (kv.1 = .inl a) with
      | none => rw [hf] at hd; cases hd
      | some p =>
        have hm := List.mem_of_find?_eq_some hf
        have he := List.find?_some hf
        have he : p.1 = .inl a := by simpa using he
        have : (Sum.inl a : Key) ∈ k.map (·.1) := List.mem_map.mpr ⟨p, hm, he⟩
        rw [has] at this
        obtain ⟨b, hb, e⟩ := List.mem_map.mp this
        cases e
        exact hb
theorem mem_ins {b : Bl} {p x : Int × Int} (h : x ∈ insB b p) : x = p ∨ x ∈ b := by
  unfold insB at h
  simp only [List.mem_append, List.mem_filter, List.mem_singleton] at h
  rcases h with (⟨h, _⟩ | h) | ⟨h, _⟩
  · exact .inr h
  · exact .inl h
  · exact .inr h
theorem ins_mem {b : Bl} {p x : Int × Int} (hn : ∀ y ∈ b, y.1 ≠ p.1) (h : x = p ∨ x ∈ b) : x ∈ insB b p := by
  unfold insB
  simp only [List.mem_append, List.mem_filter, List.mem_singleton, decide_eq_true_eq]
  rcases h with h | h
  · exact .inl (.inr h)
  · have := hn x h
    rcases Int.lt_trichotomy x.1 p.1 with h' | h' | h'
    · exact .inl (.inl ⟨h, h'⟩)
    · exact absurd h' this
    · exact .inr ⟨h, h'⟩
/-- bounds of one memory and of its dict -/
structure Num (b : Bl) (y w k : List (Key × D)) (f : Int → Option Int) (i : Nat) : Prop where
  hb : b.length ≤ i
  hy : y.length ≤ i
  hw : w.length ≤ 8 * i
  hk : k.length ≤ 8 * i
  hB : ∀ x ∈ b, x.1 + x.2 ≤ 8 * (i : Int) + 1
  cov : Cov b f
  hol : Hol k f
theorem Num.alloc {b : Bl} {y w k y' w' k' : List (Key × D)} {f : Int → Option Int} {i : Nat} {a n : Int} (N : Num b y w k f i) (hn : ∀ x ∈ b, x.1 ≠ a) (h0 : 0 < n) (h8 : n ≤ 8) (ha : a ≤ 8 * (i : Int) + 1) (hil : (insB b (a, n)).length = b.length + 1) (hy : y'.length ≤ y.length + 1) (hw : w'.length ≤ w.length + n.toNat) (hk : k'.length ≤ k.length + n.toNat)
    (H : Hol k' (cellsOf f a n)) : Num (insB b (a, n)) y' w' k' (cellsOf f a n) (i + 1) := by
  have e1 := N.hb
  have e2 := N.hy
  have e3 := N.hw
  have e4 := N.hk
  refine ⟨by omega, by omega, by omega, by omega, fun x hx => ?_, ?_, H⟩
  · rcases mem_ins hx with rfl | hx
    · show a + n ≤ _
      omega
    · have := N.hB x hx
      omega
  · rcases cov_ins (a := a) (n := n) N.cov with h | ⟨x, hx, e⟩
    · exact h
    · exact absurd e (hn x hx)
/-- the starts: the blocks' in the order of their making -/
structure Sts (ns : List Int) (b : Bl) (st : List Int) (i : Nat) : Prop where
  len : st.length = i
  at_ : ∀ (j : Nat) x, st[j]? = some x → ∃ v, ns[j]? = some v ∧ (x, 1 + v % 8) ∈ b
  all : ∀ x ∈ b, x.1 ∈ st
theorem Sts.add {ns : List Int} {b : Bl} {st : List Int} {i : Nat} {v a : Int} (S : Sts ns b st i) (hv : ns[i]? = some v) (hn : ∀ x ∈ b, x.1 ≠ a) : Sts ns (insB b (a, 1 + v % 8)) (st ++ [a]) (i + 1) := by
  refine ⟨by rw [List.length_append, S.len]; rfl, fun j x h => ?_, fun x hx => ?_⟩
  · by_cases hj : j < st.length
    · rw [List.getElem?_append_left hj] at h
      obtain ⟨u, hu, hm⟩ := S.at_ j x h
      exact ⟨u, hu, ins_mem hn (.inr hm)⟩
    · rw [List.getElem?_append_right (by omega)] at h
      have hl := S.len
      have : j - st.length = 0 := by
        by_cases e : j - st.length = 0
        · exact e
        · rw [List.getElem?_eq_none (by show 1 ≤ _; omega)] at h
          cases h
      rw [this] at h
      cases h
      have : j = i := by omega
      subst this
      exact ⟨v, hv, ins_mem hn (.inl rfl)⟩
  · rcases mem_ins hx with rfl | hx
    · exact List.mem_append.mpr (.inr (List.mem_singleton.mpr rfl))
    · exact List.mem_append.mpr (.inl (S.all x hx))
theorem Hol.congr {k : List (Key × D)} {f g : Int → Option Int} (h : Hol k f) (e : ∀ a, f a = g a) : Hol k g := ⟨h.ke, fun a => by rw [h.v, e]⟩
theorem MA.upd {C : Addr} {M M' : Mp} {m dx s z c a : Addr} {bs : Bl} {zs cs : List (Key × D)} {cf : Int → Option Int} (h : MA C M m dx s z c bs zs cs cf) (k : Keep a M M') (hm : m ≠ a) (hs : s ≠ a) (hz : z ≠ a) (hc : c ≠ a) : MA C M' m dx s z c bs zs cs cf := ⟨k.at hm h.ob, k.at hs h.st, k.at hz h.sz, k.at hc h.ce, h.nzc, h.zv, h.cv, h.so⟩
end My
set_option maxHeartbeats 4000000
namespace My
open PySem L2 DL
section
variable {P : Program} {w : World} {K : PySem.W.Frag} {mg : Str → Option Value} {base : Heap} {f : Addr} {fd : FuncData} {C : Addr}
def spLaw : Sp3 := fun ds M Q => ∃ ns : List Int, ds = [.rol (ns.map D.int)] ∧ ∀ M', Q (.bl true) M'
theorem ok_law (T : MCls K C) (F : Fun K "law" "law" st_law f fd) (m_len : mg "len" = none) (m_int : mg "int" = none) (m_range : mg "range" = none)
    (C_Memory___init__ : CalleeI P w K mg base "Memory" C 1 ["self"] (spInit C)) (C_Memory_allocate : CalleeM P w K mg base C "allocate" 1 ["self", "size"] (spAlloc C)) (C_Memory_release : CalleeM P w K mg base C "release" 1 ["self", "address"] (spRel C))
    (C_Memory_write : CalleeM P w K mg base C "write" 1 ["self", "address", "number"] (spWrite C)) (C__law_raises : Callee P w K mg base "_law_raises" 4 ["_law_memory", "_law_what", "_law_address"] (spRaises C)) (C__law_agrees : Callee P w K mg base "_law_agrees" 5 ["_law_memory", "_law_due", "_law_top"] (spAgrees C)) :
    FnOk P w K mg base CX0 6 f fd ["_law_script"] (spD K spLaw) := by
  refine fn3 F scope_law (fun ds M Q ⟨ns, e, _⟩ => by rw [e]; rfl) (fun cdv A0 outer sh H E hr ds M Q ⟨ns, e, q⟩ => ?_)
  subst e
  have nA : ∀ {s z c : Addr}, (flds s z c).lookup ("allocate" : Str) = none := fl_no (by decide +kernel) (by decide +kernel) (by decide +kernel)
  have nR : ∀ {s z c : Addr}, (flds s z c).lookup ("release" : Str) = none := fl_no (by decide +kernel) (by decide +kernel) (by decide +kernel)
  have nW : ∀ {s z c : Addr}, (flds s z c).lookup ("write" : Str) = none := fl_no (by decide +kernel) (by decide +kernel) (by decide +kernel)
  refine ss_cons (s_asg 1 scope_law.nd (e_make0 C_Memory___init__ (hr.mono (by omega)) fun m1 x1 M1 fm1 fx1 hne1 em1 ex1 l1 => ⟨m1, x1, rfl, em1, fun s1 z1 c1 M2 fs1 fz1 fc1 Ra k2 => ⟨rfl, ?_⟩⟩))
  refine ss_cons (s_asg 2 scope_law.nd (e_make0 C_Memory___init__ (hr.mono (by omega)) fun m2 x2 M3 fm2 fx2 hne2 em2 ex2 l3 => ⟨m2, x2, rfl, em2, fun s2 z2 c2 M4 fs2 fz2 fc2 Rb k4 => ⟨rfl, ?_⟩⟩))
  have Ra3 := Ra.le l3
  have Ra4 := Ra3.upd k4 (mne Ra.ob fm2) (mne Ra.st fm2) (mne Ra.sz fm2) (mne Ra.ce fm2)
  refine ss_cons (s_asg 3 scope_law.nd (e_dict0 fun D1 M5 f5 e5 l5 => ?_))
  refine ss_cons (s_asg 4 scope_law.nd (e_dict0 fun D2 M6 f6 e6 l6 => ?_))
  refine ss_cons (s_asg 5 scope_law.nd (e_lst (a_nil ⟨by show 0 ≤ sizeLine; decide, fun S M7 f7 e7 l7 => ?_⟩)))
  have l57 := l6.trans l7
  have l47 := l5.trans l57
  have W0 : LW C ⟨m1, x1, s1, z1, c1, m2, x2, s2, z2, c2, S, D1, D2⟩ M7 [] [] [] [] [] [] [] [] (fun _ => none) (fun _ => none) [] := ⟨Ra4.le l47, Rb.le l47, e7, l57.at e5, l7.at e6,
    ⟨mne Ra3.st fs2, mne ((l5.trans l6).at Ra4.st) f7, mne ((l5.trans l6).at Rb.st) f7⟩,
    ⟨mne Ra3.sz fz2, mne Ra3.sz fc2, mne Ra4.sz f5, mne (l5.at Ra4.sz) f6⟩, ⟨mne Ra3.ce fz2, mne Ra3.ce fc2, mne Ra4.ce f5, mne (l5.at Ra4.ce) f6⟩,
    ⟨mne Rb.sz f5, mne (l5.at Rb.sz) f6, mne Rb.ce f5, mne (l5.at Rb.ce) f6⟩, mne e5 f6⟩
  generalize hA : (⟨m1, x1, s1, z1, c1, m2, x2, s2, z2, c2, S, D1, D2⟩ : Ad) = A at W0
  have hm1 : m1 = A.m1 := by rw [← hA]
  have hm2 : m2 = A.m2 := by rw [← hA]
  have hS : S = A.S := by rw [← hA]
  have hD1 : D1 = A.D1 := by rw [← hA]
  have hD2 : D2 = A.D2 := by rw [← hA]
  subst hm1 hm2 hS hD1 hD2
  refine ss_cut (fun σ' M' => ∃ (b1 b2 : Bl) (y1 w1 y2 w2 k1 k2 : List (Key × D)) (f1 f2 : Int → Option Int) (st : List Int) (d6 d7 d8 d9 : Option D), σ' = [some (.rol (ns.map D.int)), some (.ref A.m1), some (.ref A.m2), some (.ref A.D1), some (.ref A.D2), some (.ref A.S), d6, d7, d8, d9, none, none, none, none, none] ∧
      LW C A M' b1 b2 y1 w1 y2 w2 k1 k2 f1 f2 st ∧ Num b1 y1 w1 k1 f1 6 ∧ Num b2 y2 w2 k2 f2 6 ∧ ∃ i, Sts ns b1 st i ∧ i ≤ 6) ?_ ?_
  · refine s_for PassesOwn.never (i_list (e_sl (e_var 0 rfl ⟨rfl, rfl⟩) (o_none ⟨rfl, rfl⟩) (o_some (e_int ⟨rfl, rfl⟩)) (fun U M8 f8 e8 l8 => ⟨_, e8, ?_⟩)))
    have ec : cutD (ns.map D.int) none (some (6 : Int)) = (ns.take 6).map D.int := cutD_take ns 6
    rw [ec] at e8 ⊢
    have u1 := Ne.symm (mne W0.R1.st f8)
    have u2 := Ne.symm (mne W0.R1.sz f8)
    have u3 := Ne.symm (mne W0.R1.ce f8)
    have u4 := Ne.symm (mne W0.R2.st f8)
    have u5 := Ne.symm (mne W0.R2.sz f8)
    have u6 := Ne.symm (mne W0.R2.ce f8)
    have u7 := Ne.symm (mne W0.eS f8)
    have u8 := Ne.symm (mne W0.e1 f8)
    have u9 := Ne.symm (mne W0.e2 f8)
    refine ⟨fun i σ' M' => ∃ (b1 b2 : Bl) (y1 w1 y2 w2 k1 k2 : List (Key × D)) (f1 f2 : Int → Option Int) (st : List Int) (d6 d7 d8 d9 : Option D), σ' = [some (.rol (ns.map D.int)), some (.ref A.m1), some (.ref A.m2), some (.ref A.D1), some (.ref A.D2), some (.ref A.S), d6, d7, d8, d9, none, none, none, none, none] ∧
      LW C A M' b1 b2 y1 w1 y2 w2 k1 k2 f1 f2 st ∧ Num b1 y1 w1 k1 f1 i ∧ Num b2 y2 w2 k2 f2 i ∧ Sts ns b1 st i ∧ M' U = some (.lst ((ns.take 6).map D.int)),
      ⟨[], [], [], [], [], [], [], [], _, _, [], none, none, none, none, rfl, W0.le l8, ⟨Nat.le_refl _, Nat.le_refl _, Nat.le_refl _, Nat.le_refl _, fun _ h => absurd h List.not_mem_nil, fun i => by simp, ⟨fun _ h => absurd h List.not_mem_nil, fun _ => rfl⟩⟩, ⟨Nat.le_refl _, Nat.le_refl _, Nat.le_refl _, Nat.le_refl _, fun _ h => absurd h List.not_mem_nil, fun i => by simp, ⟨fun _ h => absurd h List.not_mem_nil, fun _ => rfl⟩⟩, ⟨rfl, fun _ _ h => by simp at h, fun _ h => absurd h List.not_mem_nil⟩, e8⟩,
      fun _ _ _ _ ⟨_, _, _, _, _, _, _, _, _, _, _, _, _, _, _, _, _, _, _, _, eU⟩ => eU, ?_, ?_⟩
    · rintro i d σ' M9 hd ⟨b1, b2, y1, w1, y2, w2, k1, k2, f1, f2, st, d6, d7, d8, d9, rfl, W, N1, N2, Sx, eU⟩
      obtain ⟨v, hv, rfl⟩ := get_map hd
      have hi : i < 6 := by have := (List.getElem?_eq_some_iff.mp hv).1; rw [List.length_take] at this; omega
      have hv' : ns[i]? = some v := by rw [List.getElem?_take_of_lt hi] at hv; exact hv
      refine g_name 6 scope_law.nd ?_
      obtain ⟨n, hn⟩ : ∃ n : Int, 1 + v % 8 = n := ⟨_, rfl⟩
      refine ss_cut (fun σ' M' => σ' = [some (.rol (ns.map D.int)), some (.ref A.m1), some (.ref A.m2), some (.ref A.D1), some (.ref A.D2), some (.ref A.S), some (.int v), some (.int n), d8, d9, none, none, none, none, none] ∧ M' = M9)
        (s_asg 7 scope_law.nd (e_add (e_int (e_mod (e_intc m_int (a_cons (e_var 6 rfl (a_nil (e_int ⟨by show (0 : Int) < _; decide, ⟨by rw [← hn]; rfl, rfl⟩⟩))))))))) ?_
      rintro σ' M' ⟨rfl, rfl⟩
      have hn0 : 0 < 1 + v % 8 := by omega
      have hn8 : 1 + v % 8 ≤ 8 := by omega
      have ab := N1.hb
      have ay := N1.hy
      have aw := N1.hw
      have ak := N1.hk
      have bb := N2.hb
      have by_ := N2.hy
      have bw := N2.hw
      have bk := N2.hk
      have hnew1 := low_new (n := 1 + v % 8) W.R1.so hn0
      have hnew2 := low_new (n := 9 - (1 + v % 8)) W.R2.so (by omega)
      have hadd := fun a => Sx.add (a := a) hv'
      rw [hn] at hn0 hn8 hnew1 hnew2
      simp only [hn] at hadd
      refine ss_cons (s_asg 8 scope_law.nd (e_meth T.cl C_Memory_allocate (hr.mono (by omega)) (e_var 1 rfl ⟨A.m1, A.x1, _, rfl, W.R1.ob, nA, a_cons (e_var 7 rfl (a_nil ⟨A.m1, A.x1, A.s1, A.z1, A.c1, b1, y1, w1, f1, n, 8 * (i : Int) + 1, rfl, W.R1, hn0, by omega, by omega, by omega, by omega, by omega, by omega, N1.hB, fun Ma y1' w1' hlo1 hloB Rx hil hyl hwl ka => ?_⟩))⟩)))
      generalize low 1 b1 n = a at hlo1 hloB Rx hil hnew1
      have Wa := W.mem1 ka Rx
      have eUa := ka _ _ u1 u2 u3 eU
      refine ss_cons (s_expr (e_lm PySem.F.slot_list_append PySem.F.type_list_append mt_append rd_app (e_var 5 rfl ⟨⟨_, Wa.eS⟩, a_cons (e_var 8 rfl (a_nil ⟨_, Wa.eS, szlt (by rw [List.length_map, Sx.len]; omega), fun Mb eb kb => ?_⟩))⟩)))
      have eb' : Mb A.S = some (.lst ((st ++ [a]).map D.int)) := by rw [eb, List.map_append]; rfl
      have Wb := Wa.s kb eb'
      have eUb := kb.at u7 eUa
      refine ss_cut (fun σ' M' => ∃ (k1' : List (Key × D)) (d9 : Option D), σ' = [some (.rol (ns.map D.int)), some (.ref A.m1), some (.ref A.m2), some (.ref A.D1), some (.ref A.D2), some (.ref A.S), some (.int v), some (.int n), some (.int a), d9, none, none, none, none, none] ∧ LW C A M' (insB b1 (a, n)) b2 y1' w1' y2 w2 k1' k2 (cellsOf f1 a n) f2 (st ++ [a]) ∧ Num (insB b1 (a, n)) y1' w1' k1' (cellsOf f1 a n) (i + 1) ∧ M' U = some (.lst ((ns.take 6).map D.int))) ?_ ?_
      · refine s_for PassesOwn.never (i_rng1 m_range (e_var 7 rfl ⟨by omega, by omega, ?_⟩))
        refine ⟨fun j σ' M' => ∃ (k1' : List (Key × D)) (d9 : Option D), σ' = [some (.rol (ns.map D.int)), some (.ref A.m1), some (.ref A.m2), some (.ref A.D1), some (.ref A.D2), some (.ref A.S), some (.int v), some (.int n), some (.int a), d9, none, none, none, none, none] ∧ LW C A M' (insB b1 (a, n)) b2 y1' w1' y2 w2 k1' k2 (cellsOf f1 a n) f2 (st ++ [a]) ∧ Hol k1' (cellsOf f1 a (j : Int)) ∧ k1'.length ≤ k1.length + j ∧ M' U = some (.lst ((ns.take 6).map D.int)),
          ⟨k1, d9, rfl, Wb, N1.hol.congr fun x => by unfold cellsOf; rw [if_neg (by omega)], Nat.le_refl _, eUb⟩, fun _ _ _ _ _ => trivial, ?_, ?_⟩
        · rintro j d σ' Mc hd ⟨k1', d9, rfl, Wc, Hc, lc, eUc⟩
          obtain ⟨hj, rfl⟩ := rgD_get hd
          rw [Int.zero_add]
          refine g_name 9 scope_law.nd ?_
          refine ss_one (s_dput ⟨_, hr⟩ (e_int (e_var 3 rfl (e_add (e_var 8 rfl (e_var 9 rfl ⟨k1', .inl (a + (j : Int)), Wc.e1, rfl, Nat.lt_of_le_of_lt (show k1'.length ≤ 1000 by omega) (by decide), fun Md ed kd => ?_⟩))))))
          refine ⟨_, _, rfl, Wc.due1 kd ed, (Hc.put (a + (j : Int)) 0).congr fun x => ?_, by have := length_putD k1' (.inl (a + (j : Int))) (.int 0); omega, kd.at u8 eUc⟩
          unfold cellsOf
          by_cases hx : x = a + (j : Int)
          · rw [if_pos hx, if_pos (by omega)]
          · rw [if_neg hx]
            by_cases h : a ≤ x ∧ x < a + (j : Int)
            · rw [if_pos h, if_pos (by omega)]
            · rw [if_neg h, if_neg (by omega)]
        · rintro σ' Mc ⟨k1', d9, rfl, Wc, Hc, lc, eUc⟩
          rw [rgD_length] at Hc lc
          have hnn : ((n.toNat : Nat) : Int) = n := by omega
          rw [hnn] at Hc
          exact ⟨k1', d9, rfl, Wc, N1.alloc hnew1 hn0 hn8 hloB hil hyl hwl lc Hc, eUc⟩
      rintro σ' Mc ⟨k1', d9, rfl, Wc, N1', eUc⟩
      refine ss_cons (s_asg 8 scope_law.nd (e_meth T.cl C_Memory_allocate (hr.mono (by omega)) (e_var 2 rfl ⟨A.m2, A.x2, _, rfl, Wc.R2.ob, nA, a_cons (e_sub (e_int (e_var 7 rfl (a_nil ⟨A.m2, A.x2, A.s2, A.z2, A.c2, b2, y2, w2, f2, 9 - n, 8 * (i : Int) + 1, rfl, Wc.R2, by omega, by omega, by omega, by omega, by omega, by omega, by omega, N2.hB, fun Md y2' w2' hlo1' hloB' Rx' hil' hyl' hwl' kd => ?_⟩))))⟩)))
      generalize low 1 b2 (9 - n) = a' at hlo1' hloB' Rx' hil' hnew2
      have Wd := Wc.mem2 kd Rx'
      have eUd := kd _ _ u4 u5 u6 eUc
      refine ss_one (s_for PassesOwn.never (i_rng1 m_range (e_sub (e_int (e_var 7 rfl ⟨by omega, by omega, ?_⟩)))))
      refine ⟨fun j σ' M' => ∃ (k2' : List (Key × D)) (d9 : Option D), σ' = [some (.rol (ns.map D.int)), some (.ref A.m1), some (.ref A.m2), some (.ref A.D1), some (.ref A.D2), some (.ref A.S), some (.int v), some (.int n), some (.int a'), d9, none, none, none, none, none] ∧ LW C A M' (insB b1 (a, n)) (insB b2 (a', 9 - n)) y1' w1' y2' w2' k1' k2' (cellsOf f1 a n) (cellsOf f2 a' (9 - n)) (st ++ [a]) ∧ Hol k2' (cellsOf f2 a' (j : Int)) ∧ k2'.length ≤ k2.length + j ∧ M' U = some (.lst ((ns.take 6).map D.int)),
          ⟨k2, d9, rfl, Wd, N2.hol.congr fun x => by unfold cellsOf; rw [if_neg (by omega)], Nat.le_refl _, eUd⟩, fun _ _ _ _ _ => trivial, ?_, ?_⟩
      · rintro j d σ' Me hd ⟨k2', d9, rfl, We, He, le, eUe⟩
        obtain ⟨hj, rfl⟩ := rgD_get hd
        rw [Int.zero_add]
        refine g_name 9 scope_law.nd ?_
        refine ss_one (s_dput ⟨_, hr⟩ (e_int (e_var 4 rfl (e_add (e_var 8 rfl (e_var 9 rfl ⟨k2', .inl (a' + (j : Int)), We.e2, rfl, Nat.lt_of_le_of_lt (show k2'.length ≤ 1000 by omega) (by decide), fun Mf ef kf => ?_⟩))))))
        refine ⟨_, _, rfl, We.due2 kf ef, (He.put (a' + (j : Int)) 0).congr fun x => ?_, by have := length_putD k2' (.inl (a' + (j : Int))) (.int 0); omega, kf.at u9 eUe⟩
        unfold cellsOf
        by_cases hx : x = a' + (j : Int)
        · rw [if_pos hx, if_pos (by omega)]
        · rw [if_neg hx]
          by_cases h : a' ≤ x ∧ x < a' + (j : Int)
          · rw [if_pos h, if_pos (by omega)]
          · rw [if_neg h, if_neg (by omega)]
      · rintro σ' Me ⟨k2', d9, rfl, We, He, le, eUe⟩
        rw [rgD_length] at He le
        have hnn : (((9 - n).toNat : Nat) : Int) = 9 - n := by omega
        rw [hnn] at He
        exact ⟨_, _, y1', w1', y2', w2', k1', k2', _, _, _, _, _, _, _, rfl, We, N1', N2.alloc hnew2 (by omega) (by omega) hloB' hil' hyl' hwl' le He, hadd a hnew1, eUe⟩
    · rintro σ' M9 ⟨b1, b2, y1, w1, y2, w2, k1, k2, f1, f2, st, d6, d7, d8, d9, rfl, W, N1, N2, Sx, eU⟩
      have hl : ((ns.take 6).map D.int).length ≤ 6 := by rw [List.length_map, List.length_take]; omega
      generalize ((ns.take 6).map D.int).length = L at hl N1 N2 Sx
      have up : ∀ {b : Bl} {y w k : List (Key × D)} {f : Int → Option Int}, Num b y w k f L → Num b y w k f 6 := fun N => ⟨Nat.le_trans N.hb hl, Nat.le_trans N.hy hl, Nat.le_trans N.hw (by omega), Nat.le_trans N.hk (by omega), fun x hx => by have := N.hB x hx; omega, N.cov, N.hol⟩
      exact ⟨b1, b2, y1, w1, y2, w2, k1, k2, f1, f2, st, d6, d7, d8, d9, rfl, W, up N1, up N2, L, Sx, hl⟩
  rintro σ1 Mx ⟨b1, b2, y1, w1, y2, w2, k1, k2, f1, f2, st, d6, d7, d8, d9, rfl, W, N1, N2, L, Sx, hL⟩
  refine ss_cut (fun σ' M' => ∃ t : Int, 0 ≤ t ∧ t ≤ 1000 ∧ σ' = [some (.rol (ns.map D.int)), some (.ref A.m1), some (.ref A.m2), some (.ref A.D1), some (.ref A.D2), some (.ref A.S), d6, d7, d8, d9, some (.int t), none, none, none, none] ∧ M' = Mx)
    (s_asg 10 scope_law.nd (e_add (e_add (e_lenD m_len (a_cons (e_var 3 rfl (a_nil ⟨_, W.e1, e_lenD m_len (a_cons (e_var 4 rfl (a_nil ⟨_, W.e2, e_int ?_⟩)))⟩)))))))  ?_
  · have := N1.hk
    have := N2.hk
    exact ⟨_, by omega, by omega, rfl, rfl⟩
  rintro σ' M' ⟨t, t0, t1, rfl, rfl⟩
  obtain ⟨as, eas, las, mas⟩ := N1.hol.keys
  have hk1 := N1.hk
  refine ss_cut (fun σ' M2 => ∃ pl : Addr, σ' = [some (.rol (ns.map D.int)), some (.ref A.m1), some (.ref A.m2), some (.ref A.D1), some (.ref A.D2), some (.ref A.S), d6, d7, d8, d9, some (.int t), some (.ref pl), none, none, none] ∧ M2 pl = some (.lst (as.map D.int)) ∧ LW C A M2 b1 b2 y1 w1 y2 w2 k1 k2 f1 f2 st ∧ pl ≠ A.s1 ∧ pl ≠ A.z1 ∧ pl ≠ A.c1 ∧ pl ≠ A.D1)
    (s_lockD W.e1 fun Ml od xs Hl lk kl => s_lc 11 12 scope_law.nd (blkOk_by (N := ["_law_script", "_law_first", "_law_second", "_law_due", "_law_other", "_law_starts", "_law_cell", "_law_size", "_law_start", "_law_k", "_law_top", "_law_places", "_law_address", "_law_number", "_law_kept"]) (sc := defScope st_law) (by decide +kernel)) (i_keys (e_var 3 rfl ⟨A.D1, k1, od, xs, Hl, rfl, lk, ?_⟩))) ?_
  · rw [eas]
    have LZ : ∀ {p q : Addr} {ds : List D} {kv : List (Key × D)}, M' p = some (.lst ds) → M' q = some (.dK kv) → p ≠ q := fun a b => ne_ty a b (fun z => nomatch z)
    refine fun p hp => ⟨fun i M2 => Mle Ml M2 ∧ M2 p = some (.lst ((as.take i).map D.int)), fun M2 e l => ⟨l, e⟩, fun i M2 _ h => lk.fix h.1.fix, fun i d M2 hd ⟨lm, ea⟩ s0 H0 C0 cl fp => ?_, fun M2 ⟨lm, ea⟩ => ?_⟩
    · obtain ⟨x, hx, rfl⟩ := get_map hd
      exact e_var 12 rfl ⟨_, ea, szlt (by rw [List.length_map, List.length_take]; omega), fun M3 e3 k3 => ⟨lm.other k3 hp, by rw [e3, take_succ_map hx]⟩⟩
    · rw [List.length_map, List.take_length] at ea
      refine ⟨lm.fix, fun M3 e3 k3 => ⟨p, rfl, ?_, W.due1 (fun b m hb e => k3 b m hb (lm b m (kl b m hb e))) e3, ?_, ?_, ?_, ?_⟩⟩
      · exact k3.at (Ne.symm (mne lk.at_ hp)) ea
      · exact Ne.symm (mne (kl.at (LZ W.R1.st W.e1) W.R1.st) hp)
      · exact Ne.symm (mne (kl.at W.dz.2.2.1 W.R1.sz) hp)
      · exact Ne.symm (mne (kl.at W.dc.2.2.1 W.R1.ce) hp)
      · exact Ne.symm (mne lk.at_ hp)
  rintro σ' M2 ⟨pl, rfl, ePl, W, p1, p2, p3, p4⟩
  refine ss_cut (fun σ' M3 => ∃ (w1' k1' : List (Key × D)) (f1' : Int → Option Int) (d6 d12 d13 : Option D), σ' = [some (.rol (ns.map D.int)), some (.ref A.m1), some (.ref A.m2), some (.ref A.D1), some (.ref A.D2), some (.ref A.S), d6, d7, d8, d9, some (.int t), some (.ref pl), d12, d13, none] ∧
      LW C A M3 b1 b2 y1 w1' y2 w2 k1' k2 f1' f2 st ∧ Hol k1' f1' ∧ (∀ x, (f1' x).isSome = (f1 x).isSome) ∧ w1'.length ≤ 100 ∧ k1'.length ≤ 100) ?_ ?_
  · refine s_for PassesOwn.never (i_list (e_sl (e_var 0 rfl ⟨rfl, rfl⟩) (o_none ⟨rfl, rfl⟩) (o_some (e_int ⟨rfl, rfl⟩)) (fun U M8 f8 e8 l8 => ⟨_, e8, ?_⟩)))
    have ec : cutD (ns.map D.int) none (some (50 : Int)) = (ns.take 50).map D.int := cutD_take ns 50
    rw [ec] at e8 ⊢
    have u1 := Ne.symm (mne W.R1.st f8)
    have u2 := Ne.symm (mne W.R1.sz f8)
    have u3 := Ne.symm (mne W.R1.ce f8)
    have u8 := Ne.symm (mne W.e1 f8)
    have hw1 := N1.hw
    refine ⟨fun i σ' M3 => ∃ (w1' k1' : List (Key × D)) (f1' : Int → Option Int) (d6 d12 d13 : Option D), σ' = [some (.rol (ns.map D.int)), some (.ref A.m1), some (.ref A.m2), some (.ref A.D1), some (.ref A.D2), some (.ref A.S), d6, d7, d8, d9, some (.int t), some (.ref pl), d12, d13, none] ∧
      LW C A M3 b1 b2 y1 w1' y2 w2 k1' k2 f1' f2 st ∧ Hol k1' f1' ∧ (∀ x, (f1' x).isSome = (f1 x).isSome) ∧ w1'.length ≤ 48 + i ∧ k1'.length ≤ 48 + i ∧ M3 U = some (.lst ((ns.take 50).map D.int)) ∧ M3 pl = some (.lst (as.map D.int)),
      ⟨w1, k1, f1, d6, none, none, rfl, W.le l8, N1.hol, fun _ => rfl, by omega, by omega, e8, l8.at ePl⟩, fun _ _ _ _ ⟨_, _, _, _, _, _, _, _, _, _, _, _, eU, _⟩ => eU, ?_, ?_⟩
    · rintro i d σ' M3 hd ⟨w1', k1', f1', d6, d12, d13, rfl, W3, H3, s3, lw, lk, eU, eP⟩
      obtain ⟨v, hv, rfl⟩ := get_map hd
      have hi : i < 50 := by have := (List.getElem?_eq_some_iff.mp hv).1; rw [List.length_take] at this; omega
      refine g_name 6 scope_law.nd ?_
      refine ss_one (s_if (t_gt (e_len m_len (a_cons (e_var 11 rfl (a_nil ⟨_, eP, e_int ⟨fun hc => ?_, fun hc => ?_⟩⟩))))))
      · rw [List.length_map] at hc
        have hpos : 0 < as.length := by have := of_decide_eq_true hc; omega
        refine ss_cons (s_asg 12 scope_law.nd (e_ix (e_var 11 rfl (e_mod (e_intc m_int (a_cons (e_var 6 rfl (a_nil (e_len m_len (a_cons (e_var 11 rfl (a_nil ⟨_, eP, by rw [List.length_map]; omega, ?_⟩))))))))))))
        obtain ⟨dv, hdv, _⟩ := atI_lt (xs := as.map D.int) (i := v % ((as.map D.int).length : Int)) (Int.emod_nonneg _ (by rw [List.length_map]; omega)) (Int.emod_lt_of_pos _ (by rw [List.length_map]; omega))
        obtain ⟨a, ha, rfl⟩ := atI_mapP hdv
        have ham := (mas a).mp (atI_mem ha)
        refine ⟨_, _, eP, hdv, ?_⟩
        refine ss_cut (fun σ' M4 => ∃ num : Int, σ' = [some (.rol (ns.map D.int)), some (.ref A.m1), some (.ref A.m2), some (.ref A.D1), some (.ref A.D2), some (.ref A.S), some (.int v), d7, d8, d9, some (.int t), some (.ref pl), some (.int a), some (.int num), none] ∧ M4 = M3)
          (s_asg 13 scope_law.nd (e_sub (e_mod (e_fdiv (e_intc m_int (a_cons (e_var 6 rfl (a_nil (e_int ⟨⟨by decide, by decide⟩, e_pow (e_int (e_int ⟨⟨by decide, by decide, by decide⟩, ⟨?_, e_mul (e_int (e_pow (e_int (e_int ⟨⟨by decide, by decide, by decide⟩, ⟨.inl ⟨by decide, by decide⟩, ⟨_, rfl, rfl⟩⟩⟩))))⟩⟩))⟩))))))))) ?_
        · show (0 : Int) < 10 ^ (Int.toNat 40)
          decide
        rintro σ' M4 ⟨num, rfl, rfl⟩
        refine ss_cons (s_expr (e_meth T.cl C_Memory_write (hr.mono (by omega)) (e_var 1 rfl ⟨A.m1, A.x1, _, rfl, W3.R1.ob, nW, a_cons (e_var 12 rfl (a_cons (e_var 13 rfl (a_nil ⟨A.m1, A.x1, A.s1, A.z1, A.c1, b1, y1, w1', f1', a, num, rfl, W3.R1, by omega, by rw [s3]; exact ham, fun Ma w1'' Ra hl ka => ?_⟩))))⟩)))
        have Wa := W3.mem1 ka Ra
        refine ss_cons (s_dput ⟨_, hr⟩ (e_var 13 rfl (e_var 3 rfl (e_var 12 rfl ⟨k1', .inl a, Wa.e1, rfl, Nat.lt_of_le_of_lt (show k1'.length ≤ 1000 by omega) (by decide), fun Mb eb kb => ?_⟩))))
        have Wb := Wa.due1 kb eb
        have Hb := H3.put a num
        have sb : ∀ x, ((fun j => if j = a then some num else f1' j) x).isSome = (f1 x).isSome := fun x => by
          show (if x = a then some num else f1' x).isSome = _
          by_cases hx : x = a
          · subst hx; rw [if_pos rfl, ham]; rfl
          · rw [if_neg hx, s3]
        have lb := length_putD k1' (.inl a) (.int num)
        have eUb := kb.at u8 (ka _ _ u1 u2 u3 eU)
        have ePb := kb.at p4 (ka _ _ p1 p2 p3 eP)
        refine ss_one (s_if (t_w (w_and (t_notIn (e_var 12 rfl (e_var 5 rfl ⟨_, Wb.eS, rfl, by rw [List.all_eq_true]; intro d hd; obtain ⟨n, _, rfl⟩ := List.mem_map.mp hd; rfl, ?_⟩))))))
        rw [if_pos rfl]
        refine ⟨fun hc2 => ?_, fun _ => BQ.f (ss_nil ⟨_, _, _, _, _, _, rfl, Wb, Hb, sb, by omega, by omega, eUb, ePb⟩)⟩
        have hno : atB b1 a = none := atB_none fun x hx e => by
          have hm := Sx.all x hx
          rw [e] at hm
          have : inD (.int a) (st.map D.int) = true := by
            unfold inD
            rw [List.any_eq_true]
            exact ⟨.int a, List.mem_map_of_mem hm, eqv_refl _⟩
          rw [this] at hc2
          cases hc2
        refine w_and1 (t_not (t_truth (e_call C__law_raises (hr.mono (by omega)) (a_cons (e_var 1 rfl (a_cons (e_int (a_cons (e_var 12 rfl (a_nil ⟨A.m1, A.x1, A.s1, A.z1, A.c1, b1, y1, w1'', _, 2, a, rfl, Wb.R1, .inr (.inr ⟨rfl, hno⟩), fun Mc lc => ?_⟩))))))))))
        exact ⟨fun h => absurd h (by decide), fun _ => ss_nil ⟨_, _, _, _, _, _, rfl, Wb.le lc, Hb, sb, by omega, by omega, lc.at eUb, lc.at ePb⟩⟩
      · exact ss_nil ⟨_, _, _, _, _, _, rfl, W3, H3, s3, by omega, by omega, eU, eP⟩
    · rintro σ' M3 ⟨w1', k1', f1', d6, d12, d13, rfl, W3, H3, s3, lw, lk, eU, eP⟩
      have hl : ((ns.take 50).map D.int).length ≤ 50 := by rw [List.length_map, List.length_take]; omega
      exact ⟨w1', k1', f1', d6, d12, d13, rfl, W3, H3, s3, by omega, by omega⟩
  rintro σ' M3 ⟨w1', k1', f1', d6, d12, d13, rfl, W3, H3, s3, lw, lk⟩
  refine ss_cut (fun σ' M4 => ∃ (Dn : Addr) (b1' : Bl) (y1' w1' kn : List (Key × D)) (fn : Int → Option Int) (d6 d7 d12 d13 d14 : Option D), σ' = [some (.rol (ns.map D.int)), some (.ref A.m1), some (.ref A.m2), some (.ref Dn), some (.ref A.D2), some (.ref A.S), d6, d7, d8, d9, some (.int t), some (.ref pl), d12, d13, d14] ∧
      MA C M4 A.m1 A.x1 A.s1 A.z1 A.c1 b1' y1' w1' fn ∧ M4 Dn = some (.dK kn) ∧ (∀ a, valD kn (.inl a) = (fn a).map D.int) ∧ MA C M4 A.m2 A.x2 A.s2 A.z2 A.c2 b2 y2 w2 f2 ∧ M4 A.D2 = some (.dK k2))
    (s_if (t_post (fun b M' => M' = M3 ∧ (b = true → 1 < ns.length ∧ 1 < st.length)) (t_w (w_and (t_gt (e_len m_len (a_cons (e_var 0 rfl (a_nil (e_int ⟨fun hc => ?_, fun _ => ⟨rfl, fun h => nomatch h⟩⟩)))))))) ?_)) ?_
  · refine w_and1 (t_gt (e_len m_len (a_cons (e_var 5 rfl (a_nil ⟨_, W3.eS, e_int ⟨rfl, fun hc2 => ?_⟩⟩)))))
    rw [List.length_map] at hc hc2
    have := of_decide_eq_true hc
    have := of_decide_eq_true hc2
    exact ⟨by omega, by omega⟩
  · rintro b M' ⟨rfl, hb⟩
    refine ⟨fun hbt => ?_, fun _ => ss_nil ⟨_, _, _, _, _, _, _, _, _, _, _, rfl, W3.R1, W3.e1, H3.v, W3.R2, W3.e2⟩⟩
    obtain ⟨hn1, hs1⟩ := hb hbt
    obtain ⟨x, hx⟩ : ∃ x, st[1]? = some x := ⟨_, List.getElem?_eq_getElem hs1⟩
    obtain ⟨v, hv, hm⟩ := Sx.at_ 1 x hx
    have hB := N1.hB _ hm
    have hcv : ∀ i, x ≤ i → i < x + (1 + v % 8) → (f1' i).isSome = true := fun i h1 h2 => by rw [s3]; exact (N1.cov i).mpr ⟨_, hm, h1, h2⟩
    have hat : atI (st.map D.int) 1 = some (.int x) := atI_map_nat (j := 1) hx
    have hatv : atI (ns.map D.int) 1 = some (.int v) := atI_map_nat (j := 1) hv
    refine ss_cons (s_expr (e_meth T.cl C_Memory_release (hr.mono (by omega)) (e_var 1 rfl ⟨A.m1, A.x1, _, rfl, W3.R1.ob, nR, a_cons (e_ix (e_var 5 rfl (e_int ⟨_, _, W3.eS, hat, a_nil ⟨A.m1, A.x1, A.s1, A.z1, A.c1, b1, y1, w1', f1', (x, 1 + v % 8), rfl, W3.R1, hm, by show x + (1 + v % 8) ≤ 1000000; dsimp only at hB; omega, hcv, fun Ma y1'' w1'' Ra hl1 hl2 ka => ?_⟩⟩)))⟩)))
    have Wa := W3.mem1 ka Ra
    dsimp only at Wa
    refine ss_cut (fun σ' M4 => σ' = [some (.rol (ns.map D.int)), some (.ref A.m1), some (.ref A.m2), some (.ref A.D1), some (.ref A.D2), some (.ref A.S), d6, some (.int (1 + v % 8)), d8, d9, some (.int t), some (.ref pl), d12, d13, none] ∧ M4 = Ma)
      (s_asg 7 scope_law.nd (e_add (e_int (e_mod (e_intc m_int (a_cons (e_ix (e_var 0 rfl (e_int ⟨_, hatv, a_nil (e_int ⟨by show (0 : Int) < _; decide, ⟨rfl, rfl⟩⟩)⟩))))))))) ?_
    rintro σ' M4 ⟨rfl, rfl⟩
    generalize 1 + v % 8 = n at *
    refine ss_cons (s_asg 14 scope_law.nd (e_dict0 fun KP M5 f5 e5 l5 => ?_))
    have W5 := Wa.le l5
    obtain ⟨as', eas', las', mas'⟩ := H3.keys
    have hK1 : A.D1 ≠ KP := mne Wa.e1 f5
    refine ss_cut (fun σ' M6 => ∃ (kn : List (Key × D)) (d12 : Option D), σ' = [some (.rol (ns.map D.int)), some (.ref A.m1), some (.ref A.m2), some (.ref A.D1), some (.ref A.D2), some (.ref A.S), d6, some (.int n), d8, d9, some (.int t), some (.ref pl), d12, d13, some (.ref KP)] ∧ LW C A M6 (b1.filter fun b => decide (b.1 ≠ x)) b2 y1'' w1'' y2 w2 k1' k2 (cellsNo f1' x n) f2 st ∧ M6 KP = some (.dK kn) ∧ ∀ a, valD kn (.inl a) = (cellsNo f1' x n a).map D.int)
      (s_lockD W5.e1 fun Ml od xs Hl lkk kl => s_for PassesOwn.never (i_keys (e_var 3 rfl ⟨A.D1, k1', od, xs, Hl, rfl, lkk, ?_⟩))) ?_
    · rw [eas']
      have LZ : ∀ {p q : Addr} {ds : List D} {kv : List (Key × D)}, M5 p = some (.lst ds) → M5 q = some (.dK kv) → p ≠ q := fun a b => ne_ty a b (fun z => nomatch z)
      have eSl := kl.at (LZ W5.eS W5.e1) W5.eS
      have hSK : A.S ≠ KP := mne Wa.eS f5
      have eKl := kl.at (Ne.symm hK1) e5
      refine ⟨fun i σ' M6 => ∃ (kn : List (Key × D)) (d12 : Option D), σ' = [some (.rol (ns.map D.int)), some (.ref A.m1), some (.ref A.m2), some (.ref A.D1), some (.ref A.D2), some (.ref A.S), d6, some (.int n), d8, d9, some (.int t), some (.ref pl), d12, d13, some (.ref KP)] ∧ Keep KP Ml M6 ∧ M6 KP = some (.dK kn) ∧ kn.length ≤ i ∧ ∀ a, valD kn (.inl a) = if a ∈ as'.take i then (cellsNo f1' x n a).map D.int else none,
        ⟨[], d12, rfl, Keep.refl, eKl, Nat.le_refl _, fun a => by simp; rfl⟩, fun i σ' M6 _ ⟨_, _, _, k6, _⟩ => lkk.fix (k6.fix eKl (fun _ z => nomatch z)), ?_, ?_⟩
      · rintro i d σ' M6 hd ⟨kn, d12, rfl, k6, e6, l6, v6⟩
        obtain ⟨a, ha, rfl⟩ := get_map hd
        have hi : i < as'.length := (List.getElem?_eq_some_iff.mp ha).1
        have eS6 := k6.at hSK eSl
        have lk6 := lkk.fix (k6.fix eKl (fun _ z => nomatch z))
        obtain ⟨va, hva⟩ := Option.isSome_iff_exists.mp ((mas' a).mp (List.mem_of_getElem? ha))
        have tk : ∀ y, y ∈ as'.take (i + 1) ↔ y ∈ as'.take i ∨ y = a := fun y => by rw [List.take_add_one, ha]; simp
        refine g_name 12 scope_law.nd ?_
        refine ss_one (s_if (t_post (fun b M' => M' = M6 ∧ b = decide (¬ (x ≤ a ∧ a < x + n))) (t_w (w_or (t_lt (e_var 12 rfl (e_ix (e_var 5 rfl (e_int ⟨_, _, eS6, hat, fun hc => ⟨rfl, ?_⟩, fun hc => ?_⟩))))))) ?_))
        · have := of_decide_eq_true hc
          exact (decide_eq_true (by omega)).symm
        · refine w_or1 (t_ge (e_var 12 rfl (e_add (e_ix (e_var 5 rfl (e_int ⟨_, _, eS6, hat, e_var 7 rfl ⟨rfl, ?_⟩⟩))))))
          have := of_decide_eq_false hc
          by_cases h : x + n ≤ a
          · rw [decide_eq_true (by omega), decide_eq_true (by omega)]
          · rw [decide_eq_false (by omega), decide_eq_false (by omega)]
        · rintro b M' ⟨rfl, hbb⟩
          refine ⟨fun hb => ?_, fun hb => ?_⟩
          · have hout : ¬ (x ≤ a ∧ a < x + n) := of_decide_eq_true (hbb.symm.trans hb)
            refine ss_one (s_dput ⟨_, hr⟩ (e_dgetL ⟨_, hr⟩ (e_var 3 rfl (e_var 12 rfl ⟨A.D1, k1', od, xs, Hl, .inl a, .int va, rfl, lk6, rfl, by rw [H3.v, hva]; rfl, e_var 14 rfl (e_var 12 rfl ⟨kn, .inl a, e6, rfl, Nat.lt_of_le_of_lt (show kn.length ≤ 1000 by omega) (by decide), fun M7 e7 k7 => ?_⟩)⟩))))
            refine ⟨_, _, rfl, k6.trans k7, e7, by have := length_putD kn (.inl a) (.int va); omega, fun y => ?_⟩
            rw [valD_put]
            by_cases hy : y = a
            · subst hy
              rw [if_pos rfl, if_pos ((tk y).mpr (.inr rfl))]
              unfold cellsNo
              rw [if_neg hout, hva]
              rfl
            · rw [if_neg (by simpa using hy), v6]
              by_cases h : y ∈ as'.take i
              · rw [if_pos h, if_pos ((tk y).mpr (.inl h))]
              · rw [if_neg h, if_neg (fun z => ((tk y).mp z).elim h hy)]
          · have hin : x ≤ a ∧ a < x + n := by
              have := of_decide_eq_false (hbb.symm.trans hb)
              omega
            refine ss_nil ⟨_, _, rfl, k6, e6, by omega, fun y => ?_⟩
            rw [v6]
            by_cases hy : y = a
            · subst hy
              rw [if_pos ((tk y).mpr (.inr rfl))]
              unfold cellsNo
              rw [if_pos hin]
              split <;> rfl
            · by_cases h : y ∈ as'.take i
              · rw [if_pos h, if_pos ((tk y).mpr (.inl h))]
              · rw [if_neg h, if_neg (fun z => ((tk y).mp z).elim h hy)]
      · rintro σ' M6 ⟨kn, d12, rfl, k6, e6, l6, v6⟩
        rw [List.length_map, List.take_length] at v6
        refine ⟨k6.fix eKl (fun _ z => nomatch z), fun M7 e7 k7 => ⟨kn, d12, rfl, ?_, k7.at (Ne.symm hK1) e6, fun a => ?_⟩⟩
        · have kk : ∀ b m, b ≠ A.D1 → b ≠ KP → M5 b = some m → M7 b = some m := fun b m h1 h2 e => k7 b m h1 (k6 b m h2 (kl b m h1 e))
          have o : ∀ {b m}, b ≠ A.D1 → Wa.R1.so = Wa.R1.so → M4 b = some m → M7 b = some m := fun {b m} h1 _ e => kk b m h1 (mne e f5) (l5.at e)
          exact Wa.due1 (fun b m hb e => o hb rfl e) e7
        · rw [v6]
          by_cases h : a ∈ as'
          · rw [if_pos h]
          · rw [if_neg h]
            have : f1' a = none := by
              cases e : f1' a with
              | none => rfl
              | some z => exact absurd ((mas' a).mpr (by rw [e]; rfl)) h
            unfold cellsNo
            rw [this]
            split <;> rfl
    rintro σ' M6 ⟨kn, d12, rfl, W6, e6, v6⟩
    exact ss_one (s_asg 3 scope_law.nd (e_var 14 rfl ⟨KP, _, _, _, kn, _, _, _, _, _, _, rfl, W6.R1, e6, v6, W6.R2, W6.e2⟩))
  rintro σ' M4 ⟨Dn, b1', y1', w1', kn, fn, d6, d7, d12, d13, d14, rfl, R1, eD, vD, R2, e2⟩
  refine ss_one (s_ret (v_and (e_call C__law_agrees (hr.mono (by omega)) (a_cons (e_var 1 rfl (a_cons (e_var 3 rfl (a_cons (e_var 10 rfl (a_nil ⟨A.m1, A.x1, A.s1, A.z1, A.c1, Dn, b1', y1', w1', kn, fn, t, rfl, R1, eD, vD, t0, by omega, fun M5 l5 => ⟨fun _ => ?_, fun h => absurd h (by decide)⟩⟩))))))))))
  exact v_one (e_call C__law_agrees (hr.mono (by omega)) (a_cons (e_var 2 rfl (a_cons (e_var 4 rfl (a_cons (e_var 10 rfl (a_nil ⟨A.m2, A.x2, A.s2, A.z2, A.c2, A.D2, b2, y2, w2, k2, f2, t, rfl, R2.le l5, l5.at e2, N2.hol.v, t0, by omega, fun M6 l6 => Wk.here (q _)⟩))))))))
end
end My
set_option maxHeartbeats 4000000
namespace My
open PySem L2 DL
theorem exm_of {K : PySem.W.Frag} {S T : Addr} {b : Bool} (h1 : PySem.W.subIn K (.ref T) (.type "BaseException") = some true) (h2 : PySem.W.isClsIn K T = true) (h3 : PySem.W.typeIn K (.ref T) = some (.type "type")) (h4 : PySem.W.subIn K (.ref S) (.ref T) = some b) :
    PySem.W.exmOne K (.ref S) (.ref T) = some b := by
  have e1 : (PySem.W.subIn K (.ref T) (.type "BaseException") == some true) = true := by rw [h1] <;> rfl
  have e2 : ((PySem.W.clsIn K T).isSome && PySem.W.typeIn K (.ref T) == some (.type "type")) = true := by
    have h2' : (PySem.W.clsIn K T).isSome = true := h2
    rw [h2', h3] <;> rfl
  show (if (PySem.W.subIn K (.ref T) (.type "BaseException") == some true) = true then (if ((PySem.W.clsIn K T).isSome && PySem.W.typeIn K (.ref T) == some (.type "type")) = true then PySem.W.subIn K (.ref S) (.ref T) else none) else none) = some b
  rw [if_pos e1, if_pos e2]
  exact h4
theorem kcl_of {K : PySem.W.Frag} {S T : Addr} {b : Bool} (h2 : PySem.W.isClsIn K T = true) (h3 : PySem.W.typeIn K (.ref T) = some (.type "type")) (h4 : PySem.W.subIn K (.ref S) (.ref T) = some b) : PySem.W.kitCls K (.ref S) (.ref T) = some b := by
  have e2 : ((PySem.W.clsIn K T).isSome && PySem.W.typeIn K (.ref T) == some (.type "type")) = true := by
    have h2' : (PySem.W.clsIn K T).isSome = true := h2
    rw [h2', h3] <;> rfl
  show (if ((PySem.W.clsIn K T).isSome && PySem.W.typeIn K (.ref T) == some (.type "type")) = true then PySem.W.subIn K (.ref S) (.ref T) else none) = some b
  rw [if_pos e2]
  exact h4
theorem kit_yes {K : PySem.W.Frag} {S T : Addr} (h2 : PySem.W.isClsIn K T = true) (h3 : PySem.W.typeIn K (.ref T) = some (.type "type")) (h4 : PySem.W.subIn K (.ref S) (.ref T) = some true) : PySem.W.kitOne K (.ref S) (.ref T) = some true := by
  unfold PySem.W.kitOne
  split
  · rfl
  · exact kcl_of h2 h3 h4
theorem kit_no {K : PySem.W.Frag} {S T : Addr} (h2 : PySem.W.isClsIn K T = true) (h3 : PySem.W.typeIn K (.ref T) = some (.type "type")) (hs : PySem.W.subIn K (.ref S) (.ref S) = some true) (h4 : PySem.W.subIn K (.ref S) (.ref T) = some false) : PySem.W.kitOne K (.ref S) (.ref T) = some false := by
  have hne : S ≠ T := by
    rintro rfl
    rw [hs] at h4
    cases h4
  unfold PySem.W.kitOne
  rw [if_neg (by simpa using hne)]
  exact kcl_of h2 h3 h4
theorem kit_val {K : PySem.W.Frag} {S : Addr} (h : PySem.W.subIn K (.ref S) (.type "ValueError") = some true) : PySem.W.kitOne K (.ref S) (.type "ValueError") = some true := by
  unfold PySem.W.kitOne
  rw [if_neg (by simp)]
  show (if PySem.W.kitMeta "ValueError" = true then PySem.W.subIn K (.ref S) (.type "ValueError") else none) = some true
  rw [if_pos (by decide +kernel)]
  exact h
theorem all_mk {l : PySem.W.OpenLaw} {w : World} {K : PySem.W.Frag} {h : Heap} {mg : Str → Option Value} {fa f1 f2 f3 f4 : Addr} (X : K.In h) (G : h.Ns mainGlobals mg) (hfa : mg "law" = some (.ref fa))
    {od1 an1 od2 an2 od3 an3 od4 an4 : Option Addr} {sl1 sl2 sl3 sl4 : Array (Option Value)} {oc1 kV1 dc1 pm1 cd1 ct1 oc2 kV2 dc2 pm2 cd2 ct2 oc3 kV3 dc3 pm3 cd3 ct3 oc4 kV4 dc4 pm4 cd4 ct4 : Value}
    {y_Memory : Addr} {f_Memory___init__ : Addr} {od_Memory___init__ an_Memory___init__ : Option Addr} {sl_Memory___init__ : Array (Option Value)} {oc_Memory___init__ kV_Memory___init__ dc_Memory___init__ pm_Memory___init__ cd_Memory___init__ ct_Memory___init__ : Value} {f_Memory_allocate : Addr} {od_Memory_allocate an_Memory_allocate : Option Addr} {sl_Memory_allocate : Array (Option Value)} {oc_Memory_allocate kV_Memory_allocate dc_Memory_allocate pm_Memory_allocate cd_Memory_allocate ct_Memory_allocate : Value} {f_Memory_release : Addr} {od_Memory_release an_Memory_release : Option Addr} {sl_Memory_release : Array (Option Value)} {oc_Memory_release kV_Memory_release dc_Memory_release pm_Memory_release cd_Memory_release ct_Memory_release : Value} {f_Memory_read : Addr} {od_Memory_read an_Memory_read : Option Addr} {sl_Memory_read : Array (Option Value)} {oc_Memory_read kV_Memory_read dc_Memory_read pm_Memory_read cd_Memory_read ct_Memory_read : Value} {f_Memory_write : Addr} {od_Memory_write an_Memory_write : Option Addr} {sl_Memory_write : Array (Option Value)} {oc_Memory_write kV_Memory_write dc_Memory_write pm_Memory_write cd_Memory_write ct_Memory_write : Value} {f_Memory_blocks : Addr} {od_Memory_blocks an_Memory_blocks : Option Addr} {sl_Memory_blocks : Array (Option Value)} {oc_Memory_blocks kV_Memory_blocks dc_Memory_blocks pm_Memory_blocks cd_Memory_blocks ct_Memory_blocks : Value} {x_LendError : Addr} {x_KindProblem : Addr} {x_NotAllocated : Addr} {xf_NotAllocated xcc_NotAllocated xcda_NotAllocated : Addr} {xod_NotAllocated xan_NotAllocated xcld_NotAllocated xcdd_NotAllocated : Option Addr} {xsl_NotAllocated xcsl_NotAllocated xccs_NotAllocated : Array (Option Value)} {xoc_NotAllocated xkV_NotAllocated xdc_NotAllocated xpm_NotAllocated xct_NotAllocated xcl0_NotAllocated xccl_NotAllocated : Value} {xvs0_NotAllocated : Array Value} {xfile_NotAllocated : Str} {xtf_NotAllocated : Nat} {x_Refused : Addr}
    (a1 : PySem.W.nsIn K mainGlobals "_wall" = some (some (.ref f1))) (l1 : K.lookup f1 = some ⟨oc1, od1, .func (PySem.W.fnOf "_wall" "_wall" (defArgs st__wall) (defBody st__wall) (defScope st__wall) .none kV1 dc1 pm1 an1 cd1 ct1), sl1⟩) (c1 : PySem.W.codeIn K cd1 "_wall" = true) (k1 : PySem.W.keepIn K (.ref f1) = true)
    (a2 : PySem.W.nsIn K mainGlobals "_law_raises" = some (some (.ref f2))) (l2 : K.lookup f2 = some ⟨oc2, od2, .func (PySem.W.fnOf "_law_raises" "_law_raises" (defArgs st__law_raises) (defBody st__law_raises) (defScope st__law_raises) .none kV2 dc2 pm2 an2 cd2 ct2), sl2⟩) (c2 : PySem.W.codeIn K cd2 "_law_raises" = true) (k2 : PySem.W.keepIn K (.ref f2) = true)
    (a3 : PySem.W.nsIn K mainGlobals "_law_agrees" = some (some (.ref f3))) (l3 : K.lookup f3 = some ⟨oc3, od3, .func (PySem.W.fnOf "_law_agrees" "_law_agrees" (defArgs st__law_agrees) (defBody st__law_agrees) (defScope st__law_agrees) .none kV3 dc3 pm3 an3 cd3 ct3), sl3⟩) (c3 : PySem.W.codeIn K cd3 "_law_agrees" = true) (k3 : PySem.W.keepIn K (.ref f3) = true)
    (a4 : PySem.W.nsIn K mainGlobals "law" = some (some (.ref f4))) (l4 : K.lookup f4 = some ⟨oc4, od4, .func (PySem.W.fnOf "law" "law" (defArgs st_law) (defBody st_law) (defScope st_law) .none kV4 dc4 pm4 an4 cd4 ct4), sl4⟩) (c4 : PySem.W.codeIn K cd4 "law" = true) (k4 : PySem.W.keepIn K (.ref f4) = true)
    (ya_Memory : PySem.W.nsIn K mainGlobals "Memory" = some (some (.ref y_Memory))) (yp_Memory : PySem.W.plainGet K y_Memory Str.empty = true) (yh_Memory : PySem.W.hasDictIn K y_Memory = true) (yo_Memory : PySem.W.plainOver K y_Memory = true) (ys_Memory : PySem.W.findIn K (.ref y_Memory) "__setattr__" = some (some (.builtin "object.__setattr__"))) (ym_Memory : PySem.W.makesIn K y_Memory = true) (yk_Memory : PySem.W.keepIn K (.ref y_Memory) = true)
    (yn_Memory_starts : PySem.W.findIn K (.ref y_Memory) "starts" = some none)
    (yn_Memory_sizes : PySem.W.findIn K (.ref y_Memory) "sizes" = some none)
    (yn_Memory_cells : PySem.W.findIn K (.ref y_Memory) "cells" = some none)
    (a_Memory___init__ : PySem.W.findIn K (.ref y_Memory) "__init__" = some (some (.ref f_Memory___init__))) (i_Memory___init__ : PySem.W.isFn K (.ref f_Memory___init__) = true) (l_Memory___init__ : K.lookup f_Memory___init__ = some ⟨oc_Memory___init__, od_Memory___init__, .func (PySem.W.fnOf "__init__" "Memory.__init__" (defArgs st_Memory___init__) (defBody st_Memory___init__) (defScope st_Memory___init__) .none kV_Memory___init__ dc_Memory___init__ pm_Memory___init__ an_Memory___init__ cd_Memory___init__ ct_Memory___init__), sl_Memory___init__⟩) (c_Memory___init__ : PySem.W.codeIn K cd_Memory___init__ "Memory.__init__" = true) (k_Memory___init__ : PySem.W.keepIn K (.ref f_Memory___init__) = true)
    (a_Memory_allocate : PySem.W.findIn K (.ref y_Memory) "allocate" = some (some (.ref f_Memory_allocate))) (i_Memory_allocate : PySem.W.isFn K (.ref f_Memory_allocate) = true) (l_Memory_allocate : K.lookup f_Memory_allocate = some ⟨oc_Memory_allocate, od_Memory_allocate, .func (PySem.W.fnOf "allocate" "Memory.allocate" (defArgs st_Memory_allocate) (defBody st_Memory_allocate) (defScope st_Memory_allocate) .none kV_Memory_allocate dc_Memory_allocate pm_Memory_allocate an_Memory_allocate cd_Memory_allocate ct_Memory_allocate), sl_Memory_allocate⟩) (c_Memory_allocate : PySem.W.codeIn K cd_Memory_allocate "Memory.allocate" = true) (k_Memory_allocate : PySem.W.keepIn K (.ref f_Memory_allocate) = true)
    (a_Memory_release : PySem.W.findIn K (.ref y_Memory) "release" = some (some (.ref f_Memory_release))) (i_Memory_release : PySem.W.isFn K (.ref f_Memory_release) = true) (l_Memory_release : K.lookup f_Memory_release = some ⟨oc_Memory_release, od_Memory_release, .func (PySem.W.fnOf "release" "Memory.release" (defArgs st_Memory_release) (defBody st_Memory_release) (defScope st_Memory_release) .none kV_Memory_release dc_Memory_release pm_Memory_release an_Memory_release cd_Memory_release ct_Memory_release), sl_Memory_release⟩) (c_Memory_release : PySem.W.codeIn K cd_Memory_release "Memory.release" = true) (k_Memory_release : PySem.W.keepIn K (.ref f_Memory_release) = true)
    (a_Memory_read : PySem.W.findIn K (.ref y_Memory) "read" = some (some (.ref f_Memory_read))) (i_Memory_read : PySem.W.isFn K (.ref f_Memory_read) = true) (l_Memory_read : K.lookup f_Memory_read = some ⟨oc_Memory_read, od_Memory_read, .func (PySem.W.fnOf "read" "Memory.read" (defArgs st_Memory_read) (defBody st_Memory_read) (defScope st_Memory_read) .none kV_Memory_read dc_Memory_read pm_Memory_read an_Memory_read cd_Memory_read ct_Memory_read), sl_Memory_read⟩) (c_Memory_read : PySem.W.codeIn K cd_Memory_read "Memory.read" = true) (k_Memory_read : PySem.W.keepIn K (.ref f_Memory_read) = true)
    (a_Memory_write : PySem.W.findIn K (.ref y_Memory) "write" = some (some (.ref f_Memory_write))) (i_Memory_write : PySem.W.isFn K (.ref f_Memory_write) = true) (l_Memory_write : K.lookup f_Memory_write = some ⟨oc_Memory_write, od_Memory_write, .func (PySem.W.fnOf "write" "Memory.write" (defArgs st_Memory_write) (defBody st_Memory_write) (defScope st_Memory_write) .none kV_Memory_write dc_Memory_write pm_Memory_write an_Memory_write cd_Memory_write ct_Memory_write), sl_Memory_write⟩) (c_Memory_write : PySem.W.codeIn K cd_Memory_write "Memory.write" = true) (k_Memory_write : PySem.W.keepIn K (.ref f_Memory_write) = true)
    (a_Memory_blocks : PySem.W.findIn K (.ref y_Memory) "blocks" = some (some (.ref f_Memory_blocks))) (i_Memory_blocks : PySem.W.isFn K (.ref f_Memory_blocks) = true) (l_Memory_blocks : K.lookup f_Memory_blocks = some ⟨oc_Memory_blocks, od_Memory_blocks, .func (PySem.W.fnOf "blocks" "Memory.blocks" (defArgs st_Memory_blocks) (defBody st_Memory_blocks) (defScope st_Memory_blocks) .none kV_Memory_blocks dc_Memory_blocks pm_Memory_blocks an_Memory_blocks cd_Memory_blocks ct_Memory_blocks), sl_Memory_blocks⟩) (c_Memory_blocks : PySem.W.codeIn K cd_Memory_blocks "Memory.blocks" = true) (k_Memory_blocks : PySem.W.keepIn K (.ref f_Memory_blocks) = true)
    (xa_LendError : PySem.W.nsIn K mainGlobals "LendError" = some (some (.ref x_LendError))) (xk_LendError : PySem.W.keepIn K (.ref x_LendError) = true) (xb_LendError : PySem.W.subIn K (.ref x_LendError) (.type "BaseException") = some true) (xt_LendError : PySem.W.typeIn K (.ref x_LendError) = some (.type "type")) (xi_LendError : PySem.W.isClsIn K x_LendError = true)
    (xa_KindProblem : PySem.W.nsIn K mainGlobals "KindProblem" = some (some (.ref x_KindProblem))) (xk_KindProblem : PySem.W.keepIn K (.ref x_KindProblem) = true) (xb_KindProblem : PySem.W.subIn K (.ref x_KindProblem) (.type "BaseException") = some true) (xt_KindProblem : PySem.W.typeIn K (.ref x_KindProblem) = some (.type "type")) (xi_KindProblem : PySem.W.isClsIn K x_KindProblem = true)
    (xa_NotAllocated : PySem.W.nsIn K mainGlobals "NotAllocated" = some (some (.ref x_NotAllocated))) (xk_NotAllocated : PySem.W.keepIn K (.ref x_NotAllocated) = true) (xb_NotAllocated : PySem.W.subIn K (.ref x_NotAllocated) (.type "BaseException") = some true) (xt_NotAllocated : PySem.W.typeIn K (.ref x_NotAllocated) = some (.type "type")) (xi_NotAllocated : PySem.W.isClsIn K x_NotAllocated = true) (xv_NotAllocated : PySem.W.subIn K (.ref x_NotAllocated) (.type "ValueError") = some true) (xg_NotAllocated : PySem.W.findIn K (.ref x_NotAllocated) "__getattribute__" = some (some (.builtin "BaseException.__getattribute__"))) (xh_NotAllocated : PySem.W.findIn K (.ref x_NotAllocated) "__getattr__" = some none) (xd_NotAllocated : PySem.W.hasDictIn K x_NotAllocated = true) (xc_NotAllocated : PySem.W.findIn K (.ref x_NotAllocated) "__class__" = some (some (.builtin "object.__class__"))) (xm_NotAllocated : PySem.W.mroIn K x_NotAllocated (.type "object") = some true) (xj_NotAllocated : PySem.W.excInitIn K x_NotAllocated [.type "ValueError", .type "Exception", .type "BaseException", .type "object"] "ValueError.__new__" = true) (xw_NotAllocated : PySem.W.findIn K (.ref x_NotAllocated) "__setattr__" = some (some (.builtin "object.__setattr__"))) (xo_NotAllocated : PySem.W.mroIn K x_NotAllocated (.ref x_NotAllocated) = some true) (xfa_NotAllocated : PySem.W.findIn K (.ref x_NotAllocated) "__init__" = some (some (.ref xf_NotAllocated))) (xft_NotAllocated : PySem.W.typeIn K (.ref xf_NotAllocated) = some (.type "function")) (xfl_NotAllocated : K.lookup xf_NotAllocated = some ⟨xoc_NotAllocated, xod_NotAllocated, .func (PySem.W.ksFn "__init__" "NotAllocated.__init__" (defArgs st_NotAllocated___init__) (defBody st_NotAllocated___init__) (defScope st_NotAllocated___init__) .none xkV_NotAllocated xdc_NotAllocated xpm_NotAllocated xan_NotAllocated (.ref xcda_NotAllocated) xct_NotAllocated xcc_NotAllocated), xsl_NotAllocated⟩) (xfc_NotAllocated : PySem.W.codeIn K (.ref xcda_NotAllocated) "NotAllocated.__init__" = true) (xcl_NotAllocated : K.lookup xcc_NotAllocated = some ⟨xcl0_NotAllocated, xcld_NotAllocated, .cell (some (.ref x_NotAllocated)), xcsl_NotAllocated⟩) (xcd_NotAllocated : K.lookup xcda_NotAllocated = some ⟨xccl_NotAllocated, xcdd_NotAllocated, .fields xvs0_NotAllocated, xccs_NotAllocated⟩) (xvs_NotAllocated : xvs0_NotAllocated[2]? = some (.str xfile_NotAllocated xtf_NotAllocated)) (xfi_NotAllocated : ((l.prog.main.file : Str) == xfile_NotAllocated) = true) (xq_NotAllocated : PySem.W.ks_superIn K x_NotAllocated x_NotAllocated "__init__" = some (some (.builtin "ValueError.__init__"))) (xn_NotAllocated_address : PySem.W.findIn K (.ref x_NotAllocated) "address" = some none)
    (xa_Refused : PySem.W.nsIn K mainGlobals "Refused" = some (some (.ref x_Refused))) (xk_Refused : PySem.W.keepIn K (.ref x_Refused) = true) (xb_Refused : PySem.W.subIn K (.ref x_Refused) (.type "BaseException") = some true) (xt_Refused : PySem.W.typeIn K (.ref x_Refused) = some (.type "type")) (xi_Refused : PySem.W.isClsIn K x_Refused = true)
    (x3_ : PySem.W.nsIn K PySem.cStatics "thirdparty.any" = some none) (z_super : PySem.W.nsIn K mainGlobals "super" = some none) (xtop_ : (l.prog.main.scope.names.lookup ("super" : Str)).isSome = false)
    (xn_ : PySem.W.specialIn K (.builtin "object.__class__") "__get__" = some (some (.builtin "getset_descriptor.__get__"))) (xy_ : PySem.W.takesIn K (.builtin "object.__class__") = some true)
    (xs_NotAllocated_LendError : PySem.W.subIn K (.ref x_NotAllocated) (.ref x_LendError) = some true)
    (xs_NotAllocated_KindProblem : PySem.W.subIn K (.ref x_NotAllocated) (.ref x_KindProblem) = some false)
    (xs_NotAllocated_NotAllocated : PySem.W.subIn K (.ref x_NotAllocated) (.ref x_NotAllocated) = some true)
    (xs_NotAllocated_Refused : PySem.W.subIn K (.ref x_NotAllocated) (.ref x_Refused) = some false)
    (z_ValueError : PySem.W.nsIn K mainGlobals "ValueError" = some none)
    (z_int : PySem.W.nsIn K mainGlobals "int" = some none)
    (z_isinstance : PySem.W.nsIn K mainGlobals "isinstance" = some none)
    (z_len : PySem.W.nsIn K mainGlobals "len" = some none)
    (z_range : PySem.W.nsIn K mainGlobals "range" = some none)
    : ∃ fd : FuncData, (∀ (s : Shared) (v : Value), BindsTo s fd ⟨[v], []⟩ [("_law_script", v)]) ∧ ∀ base : Heap, K.In base → base.Ns mainGlobals mg → FnOk l.prog w K mg base CX0 6 fa fd ["_law_script"] (spD K spLaw) := by
  have e := hfa.symm.trans (PySem.W.mg_of X G a4)
  cases e
  have F1 := fun_mk (st := st__wall) l1 c1 k1
  have b1 := F1.binds (ps := ["k"]) fun _ _ _ _ _ _ us hl => match us, hl with | [_], _ => rfl
  have F2 := fun_mk (st := st__law_raises) l2 c2 k2
  have b2 := F2.binds (ps := ["_law_memory", "_law_what", "_law_address"]) fun _ _ _ _ _ _ us hl => match us, hl with | [_, _, _], _ => rfl
  have F3 := fun_mk (st := st__law_agrees) l3 c3 k3
  have b3 := F3.binds (ps := ["_law_memory", "_law_due", "_law_top"]) fun _ _ _ _ _ _ us hl => match us, hl with | [_, _, _], _ => rfl
  have F4 := fun_mk (st := st_law) l4 c4 k4
  have b4 := F4.binds (ps := ["_law_script"]) fun _ _ _ _ _ _ us hl => match us, hl with | [_], _ => rfl
  have gY_Memory := PySem.W.mg_of X G ya_Memory
  have cY_Memory : Cls K y_Memory := ⟨yp_Memory, yh_Memory, yo_Memory, ys_Memory⟩
  have F_Memory___init__ := fun_mk (st := st_Memory___init__) l_Memory___init__ c_Memory___init__ k_Memory___init__
  have b_Memory___init__ := F_Memory___init__.binds (ps := ["self"]) fun _ _ _ _ _ _ us hl => match us, hl with | [_], _ => rfl
  have M_Memory___init__ : Mk K y_Memory f_Memory___init__ := ⟨ym_Memory, a_Memory___init__, i_Memory___init__, yk_Memory⟩
  have F_Memory_allocate := fun_mk (st := st_Memory_allocate) l_Memory_allocate c_Memory_allocate k_Memory_allocate
  have b_Memory_allocate := F_Memory_allocate.binds (ps := ["self", "size"]) fun _ _ _ _ _ _ us hl => match us, hl with | [_, _], _ => rfl
  have M_Memory_allocate : Meth K y_Memory "allocate" f_Memory_allocate := ⟨a_Memory_allocate, i_Memory_allocate, k_Memory_allocate⟩
  have F_Memory_release := fun_mk (st := st_Memory_release) l_Memory_release c_Memory_release k_Memory_release
  have b_Memory_release := F_Memory_release.binds (ps := ["self", "address"]) fun _ _ _ _ _ _ us hl => match us, hl with | [_, _], _ => rfl
  have M_Memory_release : Meth K y_Memory "release" f_Memory_release := ⟨a_Memory_release, i_Memory_release, k_Memory_release⟩
  have F_Memory_read := fun_mk (st := st_Memory_read) l_Memory_read c_Memory_read k_Memory_read
  have b_Memory_read := F_Memory_read.binds (ps := ["self", "address"]) fun _ _ _ _ _ _ us hl => match us, hl with | [_, _], _ => rfl
  have M_Memory_read : Meth K y_Memory "read" f_Memory_read := ⟨a_Memory_read, i_Memory_read, k_Memory_read⟩
  have F_Memory_write := fun_mk (st := st_Memory_write) l_Memory_write c_Memory_write k_Memory_write
  have b_Memory_write := F_Memory_write.binds (ps := ["self", "address", "number"]) fun _ _ _ _ _ _ us hl => match us, hl with | [_, _, _], _ => rfl
  have M_Memory_write : Meth K y_Memory "write" f_Memory_write := ⟨a_Memory_write, i_Memory_write, k_Memory_write⟩
  have F_Memory_blocks := fun_mk (st := st_Memory_blocks) l_Memory_blocks c_Memory_blocks k_Memory_blocks
  have b_Memory_blocks := F_Memory_blocks.binds (ps := ["self"]) fun _ _ _ _ _ _ us hl => match us, hl with | [_], _ => rfl
  have M_Memory_blocks : Meth K y_Memory "blocks" f_Memory_blocks := ⟨a_Memory_blocks, i_Memory_blocks, k_Memory_blocks⟩
  have gX_LendError := PySem.W.mg_of X G xa_LendError
  have gX_KindProblem := PySem.W.mg_of X G xa_KindProblem
  have gX_NotAllocated := PySem.W.mg_of X G xa_NotAllocated
  have oX_NotAllocated : OexC K x_NotAllocated := oexC_of xj_NotAllocated xd_NotAllocated xw_NotAllocated xb_NotAllocated xt_NotAllocated xk_NotAllocated
  have uX_NotAllocated : SupC l.prog K mg xcc_NotAllocated x_NotAllocated xcda_NotAllocated := ⟨⟨_, _, _, xcl_NotAllocated⟩, ⟨_, _, _, _, _, _, xcd_NotAllocated, xvs_NotAllocated, xfi_NotAllocated⟩, xo_NotAllocated, xq_NotAllocated, xv_NotAllocated, x3_, PySem.W.mg_none_of X G z_super, xtop_⟩
  have cX_NotAllocated : ∀ base, XcI l.prog w K mg base 1 "NotAllocated" x_NotAllocated ["address"] := fun base => xcI_of1 sscope_NotAllocated___init__ rfl xfl_NotAllocated xfc_NotAllocated uX_NotAllocated oX_NotAllocated ⟨fun _ => rfl, fun _ => rfl, fun _ => rfl, fun _ => ⟨_, rfl⟩⟩ rfl rfl xn_NotAllocated_address (fun _ => rfl) (by decide) (by decide) (by decide) (by decide) xfa_NotAllocated xft_NotAllocated (fun s us _ hl => match us, hl with | [_, _], _ => .of_eq rfl) gX_NotAllocated
  have eX_NotAllocated : ExcC K x_NotAllocated := ⟨xg_NotAllocated, xh_NotAllocated, xb_NotAllocated, xd_NotAllocated, xc_NotAllocated, xn_, xy_, xm_NotAllocated⟩
  have fX_NotAllocated : XfC K x_NotAllocated := ⟨xg_NotAllocated, xh_NotAllocated, xb_NotAllocated, xd_NotAllocated⟩
  have vX_NotAllocated := kit_val xv_NotAllocated
  have gX_Refused := PySem.W.mg_of X G xa_Refused
  have mX_NotAllocated_LendError := exm_of xb_LendError xi_LendError xt_LendError xs_NotAllocated_LendError
  have mX_NotAllocated_KindProblem := exm_of xb_KindProblem xi_KindProblem xt_KindProblem xs_NotAllocated_KindProblem
  have mX_NotAllocated_NotAllocated := exm_of xb_NotAllocated xi_NotAllocated xt_NotAllocated xs_NotAllocated_NotAllocated
  have mX_NotAllocated_Refused := exm_of xb_Refused xi_Refused xt_Refused xs_NotAllocated_Refused
  have tX_NotAllocated_KindProblem := kit_no xi_KindProblem xt_KindProblem xs_NotAllocated_NotAllocated xs_NotAllocated_KindProblem
  have tX_NotAllocated_NotAllocated := kit_yes xi_NotAllocated xt_NotAllocated xs_NotAllocated_NotAllocated
  have tX_NotAllocated_Refused := kit_no xi_Refused xt_Refused xs_NotAllocated_NotAllocated xs_NotAllocated_Refused
  have m_ValueError := PySem.W.mg_none_of X G z_ValueError
  have m_int := PySem.W.mg_none_of X G z_int
  have m_isinstance := PySem.W.mg_none_of X G z_isinstance
  have m_len := PySem.W.mg_none_of X G z_len
  have m_range := PySem.W.mg_none_of X G z_range
  refine ⟨PySem.W.fnOf "law" "law" (defArgs st_law) (defBody st_law) (defScope st_law) .none kV4 dc4 pm4 an4 cd4 ct4, fun s v => .of_eq rfl, fun base _ _ => ?_⟩
  have g1 := PySem.W.mg_of X G a1
  have g2 := PySem.W.mg_of X G a2
  have g3 := PySem.W.mg_of X G a3
  have g4 := PySem.W.mg_of X G a4
  have T_ : MCls K y_Memory := ⟨cY_Memory, yn_Memory_starts, yn_Memory_sizes, yn_Memory_cells⟩
  have C_Memory___init__ := ok_init (P := l.prog) (w := w) (mg := mg) (base := base) T_ F_Memory___init__ b_Memory___init__ M_Memory___init__ gY_Memory
  have C_Memory_read := ok_read (P := l.prog) (w := w) (mg := mg) (base := base) T_ F_Memory_read b_Memory_read M_Memory_read
  have C_Memory_write := ok_write (P := l.prog) (w := w) (mg := mg) (base := base) T_ F_Memory_write b_Memory_write M_Memory_write
  have C_Memory_allocate := ok_alloc (P := l.prog) (w := w) (mg := mg) (base := base) T_ F_Memory_allocate b_Memory_allocate M_Memory_allocate m_len m_range
  have C_Memory_release := ok_rel (P := l.prog) (w := w) (mg := mg) (base := base) T_ F_Memory_release b_Memory_release M_Memory_release m_range
  have X_read := ok_readX (P := l.prog) (w := w) (mg := mg) (base := base) T_ F_Memory_read b_Memory_read M_Memory_read (cX_NotAllocated base)
  have X_write := ok_writeX (P := l.prog) (w := w) (mg := mg) (base := base) T_ F_Memory_write b_Memory_write M_Memory_write (cX_NotAllocated base)
  have X_release := ok_releaseX (P := l.prog) (w := w) (mg := mg) (base := base) T_ F_Memory_release b_Memory_release M_Memory_release (cX_NotAllocated base)
  have C__law_raises := ok_raises (P := l.prog) (w := w) (mg := mg) (base := base) T_ F2 b2 g2 m_isinstance m_ValueError gX_NotAllocated gX_KindProblem gX_Refused gX_LendError mX_NotAllocated_LendError eX_NotAllocated fX_NotAllocated xn_NotAllocated_address tX_NotAllocated_KindProblem tX_NotAllocated_Refused tX_NotAllocated_NotAllocated vX_NotAllocated X_read X_write X_release
  have C__law_agrees := ok_agrees (P := l.prog) (w := w) (mg := mg) (base := base) T_ F3 b3 g3 m_range C_Memory_read C__law_raises
  exact ok_law T_ F4 m_len m_int m_range C_Memory___init__ C_Memory_allocate C_Memory_release C_Memory_write C__law_raises C__law_agrees
theorem walk {l : PySem.W.OpenLaw} {q : Program} {loose : List Str} {XP : (Str → Option Value) → Heap → Prop} {YP : World → Heap → Prop} {d : DefRec} {K : Params → PySem.W.Frag} (hn : l.most = some 63) (hdf : d.params.defaults = [])
    (hY : ∀ (w : World) (h : Heap), YP w h → (K w.params).In h)
    (F : ∀ (w : World) (mg : Str → Option Value) (fa : Addr) (h : Heap), (K w.params).In h → h.Ns mainGlobals mg → mg d.name = some (.ref fa) →
      ∃ fd : FuncData, (∀ (s : Shared) (u : Value), BindsTo s fd ⟨[u], []⟩ [("_law_script", u)]) ∧ ∀ base : Heap, (K w.params).In base → base.Ns mainGlobals mg → FnOk l.prog w (K w.params) mg base CX0 6 fa fd ["_law_script"] (spD (K w.params) spLaw)) :
    PySem.W.WalkO q loose XP YP l.row.toRowW d [] (fun f vs => PySem.call f vs) :=
  L2.walk_of (n := 63) (k := 6) (x := "_law_script") (CX := fun _ => CX0) (sp := fun w => spD (K w.params) spLaw) hn (by decide) hdf ⟨rfl, by decide, by decide⟩ hY F (fun _ H a ns hl hO hS => law_sp hl hO hS fun M Q q => ⟨ns, rfl, q⟩) fun _ _ _ _ _ z => z
end My
open PySem PySem.W PyProof.Rows
set_option maxRecDepth 100000 in
set_option maxHeartbeats 0 in
theorem PySem.Challenge.cw_lendback_k58_memory_cells_holds : PySem.Challenge.rw_lendback_k58_memory_cells.Holds := by
  w_on; o_law; k_head; (case hw => w_witness2)
  k_fill
  refine My.walk (l := PySem.Challenge.rw_lendback_k58_memory_cells) rfl rfl (fun w h Y => PySem.W.kIn_of Y) ?F
  case F =>
    intro w mg fa h KX G hmg
    refine' My.all_mk KX G hmg ?a1 ?l1 ?c1 ?k1 ?a2 ?l2 ?c2 ?k2 ?a3 ?l3 ?c3 ?k3 ?a4 ?l4 ?c4 ?k4 ?ya_Memory ?yp_Memory ?yh_Memory ?yo_Memory ?ys_Memory ?ym_Memory ?yk_Memory ?yn_Memory_starts ?yn_Memory_sizes ?yn_Memory_cells ?a_Memory___init__ ?i_Memory___init__ ?l_Memory___init__ ?c_Memory___init__ ?k_Memory___init__ ?a_Memory_allocate ?i_Memory_allocate ?l_Memory_allocate ?c_Memory_allocate ?k_Memory_allocate ?a_Memory_release ?i_Memory_release ?l_Memory_release ?c_Memory_release ?k_Memory_release ?a_Memory_read ?i_Memory_read ?l_Memory_read ?c_Memory_read ?k_Memory_read ?a_Memory_write ?i_Memory_write ?l_Memory_write ?c_Memory_write ?k_Memory_write ?a_Memory_blocks ?i_Memory_blocks ?l_Memory_blocks ?c_Memory_blocks ?k_Memory_blocks ?xa_LendError ?xk_LendError ?xb_LendError ?xt_LendError ?xi_LendError ?xa_KindProblem ?xk_KindProblem ?xb_KindProblem ?xt_KindProblem ?xi_KindProblem ?xa_NotAllocated ?xk_NotAllocated ?xb_NotAllocated ?xt_NotAllocated ?xi_NotAllocated ?xv_NotAllocated ?xg_NotAllocated ?xh_NotAllocated ?xd_NotAllocated ?xc_NotAllocated ?xm_NotAllocated ?xj_NotAllocated ?xw_NotAllocated ?xo_NotAllocated ?xfa_NotAllocated ?xft_NotAllocated ?xfl_NotAllocated ?xfc_NotAllocated ?xcl_NotAllocated ?xcd_NotAllocated ?xvs_NotAllocated ?xfi_NotAllocated ?xq_NotAllocated ?xn_NotAllocated_address ?xa_Refused ?xk_Refused ?xb_Refused ?xt_Refused ?xi_Refused ?x3_ ?z_super ?xtop_ ?xn_ ?xy_ ?xs_NotAllocated_LendError ?xs_NotAllocated_KindProblem ?xs_NotAllocated_NotAllocated ?xs_NotAllocated_Refused ?z_ValueError ?z_int ?z_isinstance ?z_len ?z_range
    (case a1 => k_is)
    (case l1 => k_is)
    (case c1 => k_is)
    (case k1 => k_is)
    (case a2 => k_is)
    (case l2 => k_is)
    (case c2 => k_is)
    (case k2 => k_is)
    (case a3 => k_is)
    (case l3 => k_is)
    (case c3 => k_is)
    (case k3 => k_is)
    (case a4 => k_is)
    (case l4 => k_is)
    (case c4 => k_is)
    (case k4 => k_is)
    (case ya_Memory => k_is)
    (case yp_Memory => k_is)
    (case yh_Memory => k_is)
    (case yo_Memory => k_is)
    (case ys_Memory => k_is)
    (case ym_Memory => k_is)
    (case yk_Memory => k_is)
    (case yn_Memory_starts => k_is)
    (case yn_Memory_sizes => k_is)
    (case yn_Memory_cells => k_is)
    (case a_Memory___init__ => k_is)
    (case i_Memory___init__ => k_is)
    (case l_Memory___init__ => k_is)
    (case c_Memory___init__ => k_is)
    (case k_Memory___init__ => k_is)
    (case a_Memory_allocate => k_is)
    (case i_Memory_allocate => k_is)
    (case l_Memory_allocate => k_is)
    (case c_Memory_allocate => k_is)
    (case k_Memory_allocate => k_is)
    (case a_Memory_release => k_is)
    (case i_Memory_release => k_is)
    (case l_Memory_release => k_is)
    (case c_Memory_release => k_is)
    (case k_Memory_release => k_is)
    (case a_Memory_read => k_is)
    (case i_Memory_read => k_is)
    (case l_Memory_read => k_is)
    (case c_Memory_read => k_is)
    (case k_Memory_read => k_is)
    (case a_Memory_write => k_is)
    (case i_Memory_write => k_is)
    (case l_Memory_write => k_is)
    (case c_Memory_write => k_is)
    (case k_Memory_write => k_is)
    (case a_Memory_blocks => k_is)
    (case i_Memory_blocks => k_is)
    (case l_Memory_blocks => k_is)
    (case c_Memory_blocks => k_is)
    (case k_Memory_blocks => k_is)
    (case xa_LendError => k_is)
    (case xk_LendError => k_is)
    (case xb_LendError => k_is)
    (case xt_LendError => k_is)
    (case xi_LendError => k_is)
    (case xa_KindProblem => k_is)
    (case xk_KindProblem => k_is)
    (case xb_KindProblem => k_is)
    (case xt_KindProblem => k_is)
    (case xi_KindProblem => k_is)
    (case xa_NotAllocated => k_is)
    (case xk_NotAllocated => k_is)
    (case xb_NotAllocated => k_is)
    (case xt_NotAllocated => k_is)
    (case xi_NotAllocated => k_is)
    (case xv_NotAllocated => k_is)
    (case xg_NotAllocated => k_is)
    (case xh_NotAllocated => k_is)
    (case xd_NotAllocated => k_is)
    (case xc_NotAllocated => k_is)
    (case xm_NotAllocated => k_is)
    (case xj_NotAllocated => kx_is)
    (case xw_NotAllocated => k_is)
    (case xo_NotAllocated => first | k_is | rfl)
    (case xfa_NotAllocated => k_is)
    (case xft_NotAllocated => k_is)
    (case xfl_NotAllocated => k_is)
    (case xfc_NotAllocated => k_is)
    (case xcl_NotAllocated => k_is)
    (case xcd_NotAllocated => k_is)
    (case xvs_NotAllocated => rfl)
    (case xfi_NotAllocated => first | rfl | decide +kernel)
    (case xq_NotAllocated => first | k_is | rfl)
    (case xn_NotAllocated_address => k_is)
    (case xa_Refused => k_is)
    (case xk_Refused => k_is)
    (case xb_Refused => k_is)
    (case xt_Refused => k_is)
    (case xi_Refused => k_is)
    (case x3_ => k_is)
    (case z_super => k_is)
    (case xtop_ => first | rfl | decide +kernel)
    (case xn_ => k_is)
    (case xy_ => k_is)
    (case xs_NotAllocated_LendError => first | rfl | k_is)
    (case xs_NotAllocated_KindProblem => first | rfl | k_is)
    (case xs_NotAllocated_NotAllocated => first | rfl | k_is)
    (case xs_NotAllocated_Refused => first | rfl | k_is)
    (case z_ValueError => k_is)
    (case z_int => k_is)
    (case z_isinstance => k_is)
    (case z_len => k_is)
    (case z_range => k_is)
#print axioms PySem.Challenge.cw_lendback_k58_memory_cells_holds
